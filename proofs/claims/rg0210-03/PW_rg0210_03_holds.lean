import PyProof.Rows.All
import Wide.All
import OpenK.AllK
import Wide.FinOn
import KE.KDictSum
import KE.KDictObj
import KE.KRevIter
import KE.LcSums
import KE.KDictOf
import Lean
import PySem.Challenge.RW_rg0210_03
set_option Elab.async false
set_option compiler.extract_closed false
set_option genSizeOf false
set_option genInjectivity false
set_option bootstrap.genMatcherCode false
set_option tactic.hygienic false
set_option maxRecDepth 100000
set_option maxHeartbeats 8000000
set_option linter.unusedVariables false
set_option linter.unusedSimpArgs false
open PySem PySem.W PyProof.Rows PySem.Calls PySem.SeqAt
namespace Mine
theorem Ja0 {n m k:Nat} (h:n<=m) (j:m<=k):n<=k:=Nat.le_trans h j
theorem Ja1 {n m k:Nat} (h:n<m) (j:m<=k):n<k:=Nat.lt_of_lt_of_le h j
theorem Ja2 {α:Type _} {a b:α}:a∈[b]↔a=b:=List.mem_singleton
theorem Ja3 {α:Type _} {a b:α} {l:List α}:a∈b::l↔a=b\/a∈l:=List.mem_cons
theorem Ja4 {α:Type _} {a:α} {l m:List α}:(a::l)++m=a::(l++m):=rfl
theorem Ja5 {α:Type _} (l:List α):[]++l=l:=rfl
theorem Ja6 {α:Type _} {a:α} (l:List α) {m:List α} (h:a∈m):a∈l++m:=List.mem_append_right l h
theorem Ja7 {α:Type _} {a:α} {l:List α} (m:List α) (h:a∈l):a∈l++m:=List.mem_append_left m h
theorem Ja8 {α:Type _} {β:Type _} {f:α->β} {a:α} {l:List α}:List.map f (a::l)=f a::List.map f l:=rfl
theorem Ja9 {α:Type _} {a:α} {s t:List α}:a∈s++t↔a∈s\/a∈t:=List.mem_append
theorem Jb0 {α:Type _} {a b:α} (h:some a=some b):a=b:=Option.some.inj h
theorem Jb1 {n m k:Nat} (h:n<=m) (j:m<k):n<k:=Nat.lt_of_le_of_lt h j
theorem Jb2 {α:Type _} {a:α}:¬a∈([]:List α):=List.not_mem_nil
theorem Jb3 {n m:Nat} (h:n<=m) (k:Nat):k+n<=k+m:=Nat.add_le_add_left h k
theorem Jb4 {n m:Nat} (h:n<=m) (k:Nat):n+k<=m+k:=Nat.add_le_add_right h k
theorem Jb5 (n k:Nat):n<=n+k:=Nat.le_add_right n k
theorem Jb6 {n m:Nat} (h:n<m):n<=m:=Nat.le_of_lt h
theorem Jb7 {n m:Nat} (h:n=m):n<=m:=Nat.le_of_eq h
theorem Jb8 {α:Type _} {β:Type _} {f:α->β} {l:List α} {b:β} (h:b∈l.map f):∃ a,a∈l/\f a=b:=List.mem_map.mp h
theorem Jb9 {α:Type _} {β:Type _} {f:α->β} {l:List α} {b:β} (h:∃ a,a∈l/\f a=b):b∈l.map f:=List.mem_map.mpr h
theorem Jc0 {α:Type _} {a:α} {i:Nat} {l:List α} (h:l[i]? = some a):∃ h:i<l.length,l[i]=a:=List.getElem?_eq_some_iff.mp h
theorem Jc1 {n m:Nat} (h:n<=m):n+1<=m+1:=Nat.succ_le_succ h
theorem Jc2 {m n:Nat} (k:Nat) (h:m<=n):k*m<=k*n:=Nat.mul_le_mul_left k h
theorem Jc3 {n m:Nat} (h:Nat.ble n m=true):n<=m:=Nat.le_of_ble_eq_true h
theorem Jc4 (n:Nat):n<=n:=Nat.le_refl n
theorem Jc5 {α:Type _} {l:List α}:l.toArray.size=l.length:=List.size_toArray
theorem Jc6 {α:Type _} {β:Type _} {l:List α} (f:α->β):(l.map f).length=l.length:=List.length_map f
theorem Jc7 (n m:Nat):n<=m+n:=Nat.le_add_left n m
theorem Jc8 {a b c:Prop} (h:a\/b) (f:a->c) (g:b->c):c:=h.elim f g
theorem Jc9 (p:Prop):p\/¬p:=Classical.em p
theorem Jd0 {α:Type _} (l:List α):l.Sublist l:=List.Sublist.refl l
theorem Jd1 {n m k:Nat} (h:n<m) (j:m<k):n<k:=Nat.lt_trans h j
theorem Jd2 {a b:Nat} (h:¬a<b):b<=a:=Nat.le_of_not_lt h
theorem Jd3 {α:Type _} {s t:List α}:(s++t).length=s.length+t.length:=List.length_append
theorem Jd4 {α:Type _} {β:Type _} {x:Option α} {f:α->β} {b:β} (h:x.map f=some b):∃ a,x=some a/\f a=b:=Option.map_eq_some_iff.mp h
theorem Jd5 (n:Nat):n<n+1:=Nat.lt_succ_self n
theorem Jd6 {p:Prop} [i:Decidable p] (h:p):decide p=true:=decide_eq_true h
theorem Jd8 {n m:Nat} (h:n<=m):n<=m+1:=Nat.le_succ_of_le h
theorem Jd9 {α:Type _} {a:α} {l:List α}:(a::l).Nodup↔a∉l/\l.Nodup:=List.nodup_cons
section
theorem jbi  {p q:Prop} {g:Prop} (h:p/\q) (k:p->q->g):g:=k h.1 h.2
theorem jbq  {p q r:Prop} {g:Prop} (h:p/\q/\r) (k:p->q->r->g):g:=k h.1 h.2.1 h.2.2
theorem jcV  {p q r s:Prop} {g:Prop} (h:p/\q/\r/\s) (k:p->q->r->s->g):g:=k h.1 h.2.1 h.2.2.1 h.2.2.2
theorem jg4  {p q r s t:Prop} {g:Prop} (h:p/\q/\r/\s/\t) (k:p->q->r->s->t->g):g:=k h.1 h.2.1 h.2.2.1 h.2.2.2.1 h.2.2.2.2
theorem jrk  {p q r s t u:Prop} {g:Prop} (h:p/\q/\r/\s/\t/\u) (k:p->q->r->s->t->u->g):g:=k h.1 h.2.1 h.2.2.1 h.2.2.2.1 h.2.2.2.2.1 h.2.2.2.2.2
theorem jrl  {p q r s t u v:Prop} {g:Prop} (h:p/\q/\r/\s/\t/\u/\v) (k:p->q->r->s->t->u->v->g):g:=k h.1 h.2.1 h.2.2.1 h.2.2.2.1 h.2.2.2.2.1 h.2.2.2.2.2.1 h.2.2.2.2.2.2
theorem jbh {Ax:Sort _} {p:Ax->Prop} {g:Prop} (h:∃ x,p x) (k:∀ x,p x->g):g:=h.elim λ x h1=>k x h1
theorem jam {Ax:Sort _} {p q:Ax->Prop} {g:Prop} (h:∃ x,p x/\q x) (k:∀ x,p x->q x->g):g:=h.elim λ x h1=>k x h1.1 h1.2
theorem jdI {Ax:Sort _} {p q r:Ax->Prop} {g:Prop} (h:∃ x,p x/\q x/\r x) (k:∀ x,p x->q x->r x->g):g:=h.elim λ x h1=>k x h1.1 h1.2.1 h1.2.2
theorem jjo {Ax:Sort _} {p q r s:Ax->Prop} {g:Prop} (h:∃ x,p x/\q x/\r x/\s x) (k:∀ x,p x->q x->r x->s x->g):g:=h.elim λ x h1=>k x h1.1 h1.2.1 h1.2.2.1 h1.2.2.2
theorem joW {Ax:Sort _} {p q r s t:Ax->Prop} {g:Prop} (h:∃ x,p x/\q x/\r x/\s x/\t x) (k:∀ x,p x->q x->r x->s x->t x->g):g:=h.elim λ x h1=>k x h1.1 h1.2.1 h1.2.2.1 h1.2.2.2.1 h1.2.2.2.2
theorem jqC {Ax:Sort _} {p q r s t u:Ax->Prop} {g:Prop} (h:∃ x,p x/\q x/\r x/\s x/\t x/\u x) (k:∀ x,p x->q x->r x->s x->t x->u x->g):g:=h.elim λ x h1=>k x h1.1 h1.2.1 h1.2.2.1 h1.2.2.2.1 h1.2.2.2.2.1 h1.2.2.2.2.2
theorem jqD {Ax:Sort _} {p q r s t u v:Ax->Prop} {g:Prop} (h:∃ x,p x/\q x/\r x/\s x/\t x/\u x/\v x) (k:∀ x,p x->q x->r x->s x->t x->u x->v x->g):g:=h.elim λ x h1=>k x h1.1 h1.2.1 h1.2.2.1 h1.2.2.2.1 h1.2.2.2.2.1 h1.2.2.2.2.2.1 h1.2.2.2.2.2.2
theorem jjx {Ax:Sort _} {Ay:Sort _} {p:Ax->Ay->Prop} {g:Prop} (h:∃ x y,p x y) (k:∀ x y,p x y->g):g:=h.elim λ x h1=>h1.elim λ y h2=>k x y h2
theorem jdR {Ax:Sort _} {Ay:Sort _} {p q:Ax->Ay->Prop} {g:Prop} (h:∃ x y,p x y/\q x y) (k:∀ x y,p x y->q x y->g):g:=h.elim λ x h1=>h1.elim λ y h2=>k x y h2.1 h2.2
theorem jci {Ax:Sort _} {Ay:Sort _} {p q r:Ax->Ay->Prop} {g:Prop} (h:∃ x y,p x y/\q x y/\r x y) (k:∀ x y,p x y->q x y->r x y->g):g:=h.elim λ x h1=>h1.elim λ y h2=>k x y h2.1 h2.2.1 h2.2.2
theorem jqE {Ax:Sort _} {Ay:Sort _} {p q r s t u:Ax->Ay->Prop} {g:Prop} (h:∃ x y,p x y/\q x y/\r x y/\s x y/\t x y/\u x y) (k:∀ x y,p x y->q x y->r x y->s x y->t x y->u x y->g):g:=h.elim λ x h1=>h1.elim λ y h2=>k x y h2.1 h2.2.1 h2.2.2.1 h2.2.2.2.1 h2.2.2.2.2.1 h2.2.2.2.2.2
theorem jrm {Ax:Sort _} {Ay:Sort _} {p q r s t u v w:Ax->Ay->Prop} {g:Prop} (h:∃ x y,p x y/\q x y/\r x y/\s x y/\t x y/\u x y/\v x y/\w x y) (k:∀ x y,p x y->q x y->r x y->s x y->t x y->u x y->v x y->w x y->g):g:=h.elim λ x h1=>h1.elim λ y h2=>k x y h2.1 h2.2.1 h2.2.2.1 h2.2.2.2.1 h2.2.2.2.2.1 h2.2.2.2.2.2.1 h2.2.2.2.2.2.2.1 h2.2.2.2.2.2.2.2
theorem jcR {Ax:Sort _} {Ay:Sort _} {Az:Sort _} {p:Ax->Ay->Az->Prop} {g:Prop} (h:∃ x y z,p x y z) (k:∀ x y z,p x y z->g):g:=h.elim λ x h1=>h1.elim λ y h2=>h2.elim λ z h3=>k x y z h3
theorem joX {Ax:Sort _} {Ay:Sort _} {Az:Sort _} {p q:Ax->Ay->Az->Prop} {g:Prop} (h:∃ x y z,p x y z/\q x y z) (k:∀ x y z,p x y z->q x y z->g):g:=h.elim λ x h1=>h1.elim λ y h2=>h2.elim λ z h3=>k x y z h3.1 h3.2
theorem jrn {Ax:Sort _} {Ay:Sort _} {Az:Sort _} {p q r:Ax->Ay->Az->Prop} {g:Prop} (h:∃ x y z,p x y z/\q x y z/\r x y z) (k:∀ x y z,p x y z->q x y z->r x y z->g):g:=h.elim λ x h1=>h1.elim λ y h2=>h2.elim λ z h3=>k x y z h3.1 h3.2.1 h3.2.2
theorem jro {Ax:Sort _} {Ay:Sort _} {Az:Sort _} {p q r s:Ax->Ay->Az->Prop} {g:Prop} (h:∃ x y z,p x y z/\q x y z/\r x y z/\s x y z) (k:∀ x y z,p x y z->q x y z->r x y z->s x y z->g):g:=h.elim λ x h1=>h1.elim λ y h2=>h2.elim λ z h3=>k x y z h3.1 h3.2.1 h3.2.2.1 h3.2.2.2
theorem jrp {Ax:Sort _} {Ay:Sort _} {Az:Sort _} {p q r s t:Ax->Ay->Az->Prop} {g:Prop} (h:∃ x y z,p x y z/\q x y z/\r x y z/\s x y z/\t x y z) (k:∀ x y z,p x y z->q x y z->r x y z->s x y z->t x y z->g):g:=h.elim λ x h1=>h1.elim λ y h2=>h2.elim λ z h3=>k x y z h3.1 h3.2.1 h3.2.2.1 h3.2.2.2.1 h3.2.2.2.2
theorem jrq {Ax:Sort _} {Ay:Sort _} {Az:Sort _} {Aa:Sort _} {p q:Ax->Ay->Az->Aa->Prop} {g:Prop} (h:∃ x y z a,p x y z a/\q x y z a) (k:∀ x y z a,p x y z a->q x y z a->g):g:=h.elim λ x h1=>h1.elim λ y h2=>h2.elim λ z h3=>h3.elim λ a h4=>k x y z a h4.1 h4.2
theorem joY {Ax:Sort _} {Ay:Sort _} {Az:Sort _} {Aa:Sort _} {p q r:Ax->Ay->Az->Aa->Prop} {g:Prop} (h:∃ x y z a,p x y z a/\q x y z a/\r x y z a) (k:∀ x y z a,p x y z a->q x y z a->r x y z a->g):g:=h.elim λ x h1=>h1.elim λ y h2=>h2.elim λ z h3=>h3.elim λ a h4=>k x y z a h4.1 h4.2.1 h4.2.2
theorem jrr {Ax:Sort _} {Ay:Sort _} {Az:Sort _} {Aa:Sort _} {Ab:Sort _} {p q r s:Ax->Ay->Az->Aa->Ab->Prop} {g:Prop} (h:∃ x y z a b,p x y z a b/\q x y z a b/\r x y z a b/\s x y z a b) (k:∀ x y z a b,p x y z a b->q x y z a b->r x y z a b->s x y z a b->g):g:=h.elim λ x h1=>h1.elim λ y h2=>h2.elim λ z h3=>h3.elim λ a h4=>h4.elim λ b h5=>k x y z a b h5.1 h5.2.1 h5.2.2.1 h5.2.2.2
theorem jqF {Ax:Sort _} {Ay:Sort _} {Az:Sort _} {Aa:Sort _} {Ab:Sort _} {p q r s t:Ax->Ay->Az->Aa->Ab->Prop} {g:Prop} (h:∃ x y z a b,p x y z a b/\q x y z a b/\r x y z a b/\s x y z a b/\t x y z a b) (k:∀ x y z a b,p x y z a b->q x y z a b->r x y z a b->s x y z a b->t x y z a b->g):g:=h.elim λ x h1=>h1.elim λ y h2=>h2.elim λ z h3=>h3.elim λ a h4=>h4.elim λ b h5=>k x y z a b h5.1 h5.2.1 h5.2.2.1 h5.2.2.2.1 h5.2.2.2.2
theorem ja2 {Ax:Sort _} {p q:Ax->Prop} (x:Ax) (h0:p x) (h1:q x):∃ x,p x/\q x:=⟨x,h0,h1⟩
theorem jfE {Ax:Sort _} {p q r:Ax->Prop} (x:Ax) (h0:p x) (h1:q x) (h2:r x):∃ x,p x/\q x/\r x:=⟨x,h0,h1,h2⟩
theorem joH {Ax:Sort _} {p q r s:Ax->Prop} (x:Ax) (h0:p x) (h1:q x) (h2:r x) (h3:s x):∃ x,p x/\q x/\r x/\s x:=⟨x,h0,h1,h2,h3⟩
theorem jrs {Ax:Sort _} {p q r s t u:Ax->Prop} (x:Ax) (h0:p x) (h1:q x) (h2:r x) (h3:s x) (h4:t x) (h5:u x):∃ x,p x/\q x/\r x/\s x/\t x/\u x:=⟨x,h0,h1,h2,h3,h4,h5⟩
theorem jrt {Ax:Sort _} {p q r s t u v:Ax->Prop} (x:Ax) (h0:p x) (h1:q x) (h2:r x) (h3:s x) (h4:t x) (h5:u x) (h6:v x):∃ x,p x/\q x/\r x/\s x/\t x/\u x/\v x:=⟨x,h0,h1,h2,h3,h4,h5,h6⟩
theorem jjy {Ax:Sort _} {Ay:Sort _} {p q:Ax->Ay->Prop} (x:Ax) (y:Ay) (h0:p x y) (h1:q x y):∃ x y,p x y/\q x y:=⟨x,y,h0,h1⟩
theorem jdS {Ax:Sort _} {Ay:Sort _} {p q r:Ax->Ay->Prop} (x:Ax) (y:Ay) (h0:p x y) (h1:q x y) (h2:r x y):∃ x y,p x y/\q x y/\r x y:=⟨x,y,h0,h1,h2⟩
theorem jqG {Ax:Sort _} {Ay:Sort _} {p q r s t u:Ax->Ay->Prop} (x:Ax) (y:Ay) (h0:p x y) (h1:q x y) (h2:r x y) (h3:s x y) (h4:t x y) (h5:u x y):∃ x y,p x y/\q x y/\r x y/\s x y/\t x y/\u x y:=⟨x,y,h0,h1,h2,h3,h4,h5⟩
theorem jru {Ax:Sort _} {Ay:Sort _} {Az:Sort _} {p q:Ax->Ay->Az->Prop} (x:Ax) (y:Ay) (z:Az) (h0:p x y z) (h1:q x y z):∃ x y z,p x y z/\q x y z:=⟨x,y,z,h0,h1⟩
theorem jqH {Ax:Sort _} {Ay:Sort _} {Az:Sort _} {p q r:Ax->Ay->Az->Prop} (x:Ax) (y:Ay) (z:Az) (h0:p x y z) (h1:q x y z) (h2:r x y z):∃ x y z,p x y z/\q x y z/\r x y z:=⟨x,y,z,h0,h1,h2⟩
theorem jrv {Ax:Sort _} {Ay:Sort _} {Az:Sort _} {p q r s:Ax->Ay->Az->Prop} (x:Ax) (y:Ay) (z:Az) (h0:p x y z) (h1:q x y z) (h2:r x y z) (h3:s x y z):∃ x y z,p x y z/\q x y z/\r x y z/\s x y z:=⟨x,y,z,h0,h1,h2,h3⟩
theorem joZ {Ax:Sort _} {Ay:Sort _} {Az:Sort _} {Aa:Sort _} {p q r:Ax->Ay->Az->Aa->Prop} (x:Ax) (y:Ay) (z:Az) (a:Aa) (h0:p x y z a) (h1:q x y z a) (h2:r x y z a):∃ x y z a,p x y z a/\q x y z a/\r x y z a:=⟨x,y,z,a,h0,h1,h2⟩
theorem jp8 {Ax:Sort _} {Ay:Sort _} {Az:Sort _} {Aa:Sort _} {p q r s t u:Ax->Ay->Az->Aa->Prop} (x:Ax) (y:Ay) (z:Az) (a:Aa) (h0:p x y z a) (h1:q x y z a) (h2:r x y z a) (h3:s x y z a) (h4:t x y z a) (h5:u x y z a):∃ x y z a,p x y z a/\q x y z a/\r x y z a/\s x y z a/\t x y z a/\u x y z a:=⟨x,y,z,a,h0,h1,h2,h3,h4,h5⟩
@[elab_as_elim] theorem rwr {α:Sort _} {a:α} {p:α->Prop} {b:α} (h:a=b) (k:p b):p a:=h▸k
@[elab_as_elim] theorem rwl {α:Sort _} {a:α} {p:α->Prop} {b:α} (h:b=a) (k:p b):p a:=h▸k
@[elab_as_elim] theorem itg {α:Sort _} {c:Prop} [Decidable c] {a b:α} {p:α->Prop} (h:c->p a) (k:¬c->p b):p (if c then a else b):=(Decidable.em c).elim (λ q=>(if_pos q).symm▸h q) λ q=>(if_neg q).symm▸k q
theorem ith {α:Sort _} {c:Prop} [Decidable c] {a b x:α} {g:Prop} (e:(if c then a else b)=x) (h:c->a=x->g) (k:¬c->b=x->g):g:=(Decidable.em c).elim (λ q=>h q ((if_pos q).symm.trans e)) λ q=>k q ((if_neg q).symm.trans e)
theorem jiu {a b c:Nat} (h:a<=b):max c a<=max c b:=Nat.max_le.mpr ⟨Nat.le_max_left _ _,Ja0 h (Nat.le_max_right _ _)⟩
theorem jmr {a b c d:Nat} (h:a<=b) (k:c<=d):max a c<=max b d:=Nat.max_le.mpr ⟨Ja0 h (Nat.le_max_left _ _),Ja0 k (Nat.le_max_right _ _)⟩
theorem jqf {i n:Nat} (h:i<n):n+1 - (i+1)<n+1 - i:=Nat.sub_lt_sub_left (Nat.lt_succ_of_lt h) (Jd5 i)
theorem jqe {a b c n:Nat} (e:c=a+b) (h1:1<=a) (h:c<n+1):b<n:=by
 subst e
 exact Ja1 (Nat.lt_add_of_pos_left h1) (Nat.le_of_lt_succ h)
theorem jcK {P:Nat->Prop} {a b s:Nat} (hs:s∈[a,b]) (ha:P a) (hb:P b):P s:=(Ja3.mp hs).elim (λ e=>e▸ha) λ h=>Ja2.mp h▸hb
theorem jox (a k c:Nat) (h:c<=8):a+c+8*k<=a+8*(k+1):=by
 rw [Nat.add_assoc,Nat.mul_succ,Nat.add_comm c]; exact Jb3 (Jb3 h _) _
theorem upN {a b c n m:Nat} (h:a<=b+n) (k:b<=c) (e:c+n<=m):a<=m:=Ja0 h (Ja0 (Jb4 k n) e)
theorem jmY {s c n M:Nat} (h:s+1+c*(n+1)<=M):s+c*n<=M:=Ja0 (Nat.add_le_add (Nat.le_succ s) (Jc2 c (Nat.le_succ n))) h
theorem jpZ {s c n M a:Nat} (h:s+1+c*(n+1)<=M) (ha:a<=c):s+1+a<=M:=Ja0 (Jb3 (Ja0 ha (Nat.le_mul_of_pos_right c (Nat.succ_pos n))) _) h
theorem jqv {x s c n M a:Nat} (h:s+1+c*(n+1)<=M) (hx:x<=s+1+a) (ha:a<=c):x+c*n<=M :=
 Ja0 (Jb4 (Ja0 hx (Jb3 ha _)) _) (Ja0 (Jb7 (by rw [Nat.mul_succ,Nat.add_assoc,Nat.add_comm c])) h)
theorem stp {s c n M a:Nat} (h:s+1+c*(n+1)<=M) (ha:a<=c):a+s+c*n<=M:=jqv h (by rw [Nat.add_comm a]; exact Jb4 (Nat.le_succ s) a) ha
theorem gr2 {b b1 b2 k s S:Nat} (h1:b1<=b+k) (h2:b2<=b1+k) (h3:s+k<=S):b2+2*s<=b+2*S:=by omega
theorem joJ {A S n s:Nat} (h1:1+A<=s) (h:s+S<n+1):A+S<n:=by omega
theorem joO {α:Type} {l:List α} (h:l.length=1):∃ a,l=[a]:=List.length_eq_one_iff.mp h
theorem jnV {α:Type} {l:List α} {n:Nat}:l.length=n+1->∃ a r,l=a::r/\r.length=n:=by
 cases l with
 | nil=>exact λ h=>nomatch h
 | cons a r=>exact λ h=>jjy a r rfl (Nat.succ.inj h)
end
section
structure Cx (b₀ h:Heap) (led:List (Addr×Obj)):Prop where
 stays:b₀.StaysIn h
 own:∀ p∈led,h.get? p.1=some p.2
 new:∀ p∈led,b₀.objs.size<=p.1
 nd:(led.map (·.1)).Nodup
structure Fx (b₀ h:Heap) (L:Addr) (m:Str->Option Value) (led:List (Addr×Obj)):Prop where
 F:Fr b₀ L h m
 C:Cx b₀ h led
 nL:∀ p∈led,p.1≠L
variable {b₀ h h':Heap} {L:Addr} {m:Str->Option Value} {led led' pre post:List (Addr×Obj)}
theorem jbc {b:Addr} (hb:b₀.objs.size<=b):b₀.get? b=none:=by
 cases q:b₀.get? b with
 | none=>rfl
 | some o=>exact absurd (Heap.lt_size q) (Nat.not_lt.mpr hb)
theorem Cx.fresh (C:Cx b₀ h led) {p:Addr×Obj} (hp:p∈led):b₀.get? p.1=none:=jbc (C.new p hp)
theorem Fx.N (W:Fx b₀ h L m led):News b₀ L h led:=λ p hp=>⟨W.C.own p hp,W.nL p hp,W.C.fresh hp⟩
theorem Cx.lt (C:Cx b₀ h led) {p:Addr×Obj} (hp:p∈led):p.1<h.objs.size:=Heap.lt_size (C.own p hp)
theorem Fx.ltL (W:Fx b₀ h L m led):L<h.objs.size:=W.F.ns.lt
noncomputable def Grow (h h':Heap):Prop:=∀ b o,h.get? b=some o->h'.get? b=some o
theorem Grow.push (h:Heap) (o:Obj):Grow h (h.push o):=λ U U e=>Heap.get?_push_of_some _ e
theorem Cx.grow (C:Cx b₀ h led) (g:Grow h h'):Cx b₀ h' led:=⟨λ b o e=>g b o (C.stays b o e),λ p hp=>g _ _ (C.own p hp),C.new,C.nd⟩
theorem Fx.grow (W:Fx b₀ h L m led) (g:Grow h h'):Fx b₀ h' L m led :=
 ⟨⟨W.F.ns.at' λ o e=>g _ o e,λ b o e=>g b o (W.F.keep b o e),W.F.above⟩,W.C.grow g,W.nL⟩
theorem Cx.more (C:Cx b₀ h led) {a:Addr} {o:Obj} (ha:h.get? a=some o) (hb:b₀.objs.size<=a) (hn:∀ p∈led,p.1≠a):Cx b₀ h ((a,o)::led) where
 stays:=C.stays
 own:=λ p hp=>by rcases Ja3.mp hp with rfl | hp; exact ha; exact C.own p hp
 new:=λ p hp=>by rcases Ja3.mp hp with rfl | hp; exact hb; exact C.new p hp
 nd:=by
  refine rwr Ja8 ?_
  rw [Jd9]
  refine ⟨λ q=>?_,C.nd⟩
  refine jam (Jb8 q) λ p hp e=>?_
  exact hn p hp e
theorem Fx.push (W:Fx b₀ h L m led) (o:Obj) (hf:o.isFreed=false:=by rfl):Fx b₀ (h.push o) L m ((h.objs.size,o)::led):=by
 have W':=W.grow (Grow.push h o)
 refine ⟨W'.F,W'.C.more (Heap.get?_push_size _ hf) (Jb6 (Jb1 W.F.above W.ltL)) λ p hp=>Nat.ne_of_lt (W.C.lt hp),λ p hp=>?_⟩
 rcases Ja3.mp hp with rfl | hp
 ·exact Nat.ne_of_gt W.ltL
 ·exact W.nL p hp
theorem Cx.sub (C:Cx b₀ h led) (hs:∀ p∈led',p∈led) (hn:(led'.map (·.1)).Nodup):Cx b₀ h led':=⟨C.stays,λ p hp=>C.own p (hs p hp),λ p hp=>C.new p (hs p hp),hn⟩
theorem Fx.sub (W:Fx b₀ h L m led) (hs:led'.Sublist led):Fx b₀ h L m led' :=
 ⟨W.F,W.C.sub (λ U hp=>hs.subset hp) ((hs.map _).nodup W.C.nd),λ p hp=>W.nL p (hs.subset hp)⟩
theorem Fx.perm (W:Fx b₀ h L m led) (hs:led'.Perm led):Fx b₀ h L m led' :=
 ⟨W.F,W.C.sub (λ U hp=>hs.subset hp) ((hs.map _).nodup_iff.mpr W.C.nd),λ p hp=>W.nL p (hs.subset hp)⟩
theorem Fx.out (W:Fx b₀ h L m led):∃ oL,Cx b₀ h ((L,oL)::led)/\∀ h' led',Cx b₀ h' ((L,oL)::led')->Fx b₀ h' L m led':=by
 refine joX W.F.ns λ oL es ep hL r=>?_
 refine ja2 oL (W.C.more hL W.F.above W.nL) (λ h' led' C=>⟨⟨⟨oL,es,ep,C.own _ (.head _),r⟩,C.stays,W.F.above⟩,C.sub (λ U hp=>.tail _ hp) (Jd9.mp C.nd).2,λ p hp e=>?_⟩)
 have:=(Jd9.mp (by exact C.nd:(L::led'.map (·.1)).Nodup)).1
 exact this (Jb9 ⟨p,hp,e⟩)
theorem jfk {a:Addr} {o:Obj} (hn:((pre++(a,o)::post).map (·.1)).Nodup):(∀ p∈pre,p.1≠a)/\(∀ p∈post,p.1≠a):=by
 simp only [List.map_append,Ja8] at hn
 rw [List.nodup_append] at hn
 refine jbq hn λ h1 h2 h3=>?_
 exact ⟨λ p hp e=>h3 _ (List.mem_map_of_mem hp) a (.head _) e,λ p hp e=>(Jd9.mp h2).1 (Jb9 ⟨p,hp,e⟩)⟩
theorem jd2 {a:Addr} {o o':Obj} (hn:((pre++(a,o)::post).map (·.1)).Nodup):((pre++(a,o')::post).map (·.1)).Nodup:=by
 simpa using hn
theorem Cx.set {a:Addr} {o o':Obj} (C:Cx b₀ h (pre++(a,o)::post)) (hs:Heap.SameBut a h h') (ho:h'.get? a=some o'):Cx b₀ h' (pre++(a,o')::post):=by
 have ⟨n1,n2⟩:=jfk C.nd
 have hm:(a,o)∈pre++(a,o)::post:=Ja6 _ (.head _)
 refine ⟨λ b x e=>(hs.2 b λ q=>?_).trans (C.stays b x e),λ p hp=>?_,λ p hp=>?_,jd2 C.nd⟩
 ·subst q; have:=C.fresh hm; rw [e] at this; exact nomatch this
 ·refine Jc8 (Ja9.mp hp) (λ q=>?_) λ q=>?_
  ·exact (hs.2 _ (n1 p q)).trans (C.own p (Ja7 _ q))
  ·refine Jc8 (Ja3.mp q) (λ e_4=>?_) λ q=>?_
   ·subst e_4; exact ho
   ·exact (hs.2 _ (n2 p q)).trans (C.own p (Ja6 _ (.tail _ q)))
 ·refine Jc8 (Ja9.mp hp) (λ q=>?_) λ q=>?_
  ·exact C.new p (Ja7 _ q)
  ·refine Jc8 (Ja3.mp q) (λ e_5=>?_) λ q=>?_
   ·subst e_5; exact C.new (a,o) hm
   ·exact C.new p (Ja6 _ (.tail _ q))
theorem Fx.set {a:Addr} {o o':Obj} (W:Fx b₀ h L m (pre++(a,o)::post)) (hs:Heap.SameBut a h h') (ho:h'.get? a=some o'):Fx b₀ h' L m (pre++(a,o')::post):=by
 have hm:(a,o)∈pre++(a,o)::post:=Ja6 _ (.head _)
 have C':=W.C.set hs ho
 refine ⟨⟨W.F.ns.at' λ o e=>(hs.2 L (λ e=>W.nL _ hm e.symm)).trans e,C'.stays,W.F.above⟩,C',λ p hp=>?_⟩
 rcases Ja9.mp hp with q | q
 ·exact W.nL p (Ja7 _ q)
 ·rcases Ja3.mp q with rfl | q
  ·exact W.nL (a,o) hm
  ·exact W.nL p (Ja6 _ (.tail _ q))
theorem Fx.names {m':Str->Option Value} (W:Fx b₀ h L m led) (hn:h'.Ns L m') (hs:Heap.SameBut L h h'):Fx b₀ h' L m' led :=
 ⟨W.F.set hn hs,⟨(W.F.set hn hs).keep,λ p hp=>(hs.2 _ (W.nL p hp)).trans (W.C.own p hp),W.C.new,W.C.nd⟩,W.nL⟩
noncomputable def jnb (b₀:Heap) (L L':Addr) (m:Str->Option Value) (oL:Obj) (gs:Array GenState) (dr:Drawn) (os:OsState) (Q:Value->Shared->Prop) (v:Value) (s:Shared):Prop :=
 ∃ h tk led m',s=⟨h,gs,dr,tk,os⟩/\Fx b₀ h L' m' ((L,oL)::led)/\(Fx b₀ h L m led->Q v ⟨h,gs,dr,tk,os⟩)
section
variable {prog:Program} {w:World} {A:Around} {E:Value->Shared->Prop} {K:Frag} {gs:Array GenState} {dr:Drawn} {os:OsState} {tk:Tok}
theorem jhd {Q:Value->Shared->Prop} {f:Addr} {args:Args} {binds:List (Str×Value)} {name qual:Str} {params:Arguments} {body:List Stmt} {scope:Scope} {dV kV doc pm cdv ct oc:Value} {an od:Option Addr} {osl:Array (Option Value)}
  (X:K.In b₀) (hlim:b₀.NoLimit) (W:Fx b₀ h L m led)
  (ho:K.lookup f=some ⟨oc,od,.func (fnOf name qual params body scope dV kV doc pm an cdv ct),osl⟩) (hcd:codeIn K cdv qual=true) (hroom:A.depth<recursionLimit)
  (hbind:BindsTo ⟨h,gs,dr,tk,os⟩ (fnOf name qual params body scope dV kV doc pm an cdv ct) args ((params.args.map (·.arg)).zip args.pos)) (hbl:(params.args.map (·.arg)).zip args.pos=binds)
  (hloc:∀ y∈binds,scope.names.lookup y.1=some .local)
  (hb:∀ oL L' h₁ tk₁,Fx b₀ h₁ L' (λ y=>binds.reverse.lookup y) ((L,oL)::led) ->
   let env:Env:=envX qual scope L' f cdv []; let A':Around:=A.deeper env; wpAny (model prog w) A' (execs body env)
    (λ fl s'=>jnb b₀ L L' m oL gs dr os Q (match fl with | .ret v=>v | _=>.none) s') (λ U U=>False) ⟨h₁,gs,dr,tk₁,os⟩)
  (hco:scope.isCoroutine=false:=by rfl) (hgen:scope.isGenerator=false:=by rfl) (hk:scope.kind=.function:=by rfl)
  (hcell:∀ x∈scope.names,x.2≠.cell:=by decide) :
  wpAny (model prog w) A (call (.ref f) args.pos args.kw) Q E ⟨h,gs,dr,tk,os⟩:=by
 rw [hbl] at hbind
 refine jam W.out λ oL C back=>?_
 refine wpAny_call (codeAny_call_def (fd:=fnOf name qual params body scope dV kV doc pm an cdv ct) (body:=body) (binds:=binds) hroom (C.stays _ _ (X _ _ ho)) rfl (hlim.keeps C.stays) (codeRec_of (X.keeps C.stays) hcd) rfl hbind hcell hloc (λ h₁ hns hk₁=>?_) hco hgen hk)
 have C₁:Cx b₀ h₁ ((L,oL)::led):=C.grow hk₁
 refine wpAny_mono (hb oL _ h₁ _ (⟨⟨hns,C₁.stays,Jb6 (Jb1 W.F.above W.ltL)⟩,C₁,λ p hp=>Nat.ne_of_lt (C.lt hp)⟩)) (λ fl s' hB=>?_) λ U U e=>e.elim
 refine joY hB λ h₂ tk₂ led₂ m₂ e_7 W₂ k=>?_
 subst e_7
 exact k (back h₂ led₂ W₂.C)
theorem jg7 {Q:Value->Shared->Prop} {v:Value} {oL:Obj} {L':Addr} {m':Str->Option Value} (W:Fx b₀ h L' m' ((L,oL)::led)) (k:Fx b₀ h L m led->Q v ⟨h,gs,dr,tk,os⟩) :
  jnb b₀ L L' m oL gs dr os Q v ⟨h,gs,dr,tk,os⟩:=⟨h,tk,led,m',rfl,W,k⟩
theorem jjF {Q:Value->Shared->Prop} {v:Value} {oL:Obj} {L':Addr} {m':Str->Option Value} (new:List (Addr×Obj)) (W:Fx b₀ h L' m' (new++(L,oL)::led)) (k:Fx b₀ h L m led->Q v ⟨h,gs,dr,tk,os⟩) :
  jnb b₀ L L' m oL gs dr os Q v ⟨h,gs,dr,tk,os⟩:=⟨h,tk,led,m',rfl,W.sub (List.sublist_append_right _ _),k⟩
end
end
section
structure Tp (mg mb:Str->Option Value) (h:Heap):Prop where
 g:h.Ns mainGlobals mg
 b:h.Ns builtinsNs mb
 nolimit:h.NoLimit
 builtins:∀ x:Str,x ≠ "__name__" -> mb x=bootBuiltins x
structure Rm (A:Around) (k:Nat):Prop where
 hh:A.handled=none
 dp:A.depth+k<1000
 un:A.units+8*k<9900
theorem Rm.deeper {A:Around} {k:Nat} {env:Env} (r:Rm A (k+1)):Rm (A.deeper env) k:=⟨r.hh,Jb1 (Jb7 (Nat.add_right_comm A.depth 1 k)) r.dp,Jb1 (jox A.units k 3 (by decide)) r.un⟩
theorem Rm.le {A:Around} {k j:Nat} (r:Rm A k) (h:j<=k):Rm A j:=⟨r.hh,Jb1 (Jb3 h _) r.dp,Jb1 (Jb3 (Jc2 8 h) _) r.un⟩
theorem Rm.room {A:Around} {k:Nat} (r:Rm A (k+1)):A.depth<recursionLimit:=Jb1 (Jb5 _ _) r.dp
theorem Rm.units {A:Around} {k:Nat} (r:Rm A (k+1)):A.units<cLine:=Jb1 (Jb5 _ _) r.un
section
variable {prog:Program} {w:World} {M:Model} {A:Around} {E:Value->Shared->Prop} {K:Frag} {gs:Array GenState} {dr:Drawn} {os:OsState} {tk:Tok}
 {b₀ h:Heap} {L a:Addr} {m mg mb:Str->Option Value} {led pre post:List (Addr×Obj)} {cn:Str} {cs:Scope} {ccd:Value} {cl:List (Str×Addr)} {x:Str} {pos:Pos} {v:Value}
 {Q:Value->Shared->Prop}
theorem jfr {env:Env} (W:Fx b₀ h L m led) (hv:m x=some v) (k:Q v ⟨h,gs,dr,tk,os⟩) (hL:env.locals=L)
  (hk:env.scope.kind=.function:=by rfl) (hx:env.kindOf x=some .local:=by rfl) (hd:(x == ("__debug__" : Str))=false:=by decide) :
  wpAny M A (eval (.Name x pos) env) Q E ⟨h,gs,dr,tk,os⟩:=wpAny_Name (wpAny_loadName_local hk hx (hL▸W.F.ns) hv k) hd
theorem jf1 {env:Env} (W:Fx b₀ h L m led) (X:K.In b₀) (T:Tp mg mb b₀) (e:nsIn K mainGlobals x=some (some v)) (k:Q v ⟨h,gs,dr,tk,os⟩) (hG:env.globals=mainGlobals)
  (hk:env.scope.kind=.function:=by rfl) (hx:env.kindOf x=some .globalImplicit:=by rfl) (hd:(x == ("__debug__" : Str))=false:=by decide) :
  wpAny M A (eval (.Name x pos) env) Q E ⟨h,gs,dr,tk,os⟩:=Name_function_global hk hx (loadGlobal_global (env:=env) (by refine rwr hG ?_; exact T.g.keeps W.F.keep) (mg_of X T.g e) k) hd
theorem jhz {env:Env} (W:Fx b₀ h L m led) (X:K.In b₀) (T:Tp mg mb b₀) (e:nsIn K mainGlobals x=some none) (hv:bootBuiltins x=some v) (hn:x ≠ "__name__") (k:Q v ⟨h,gs,dr,tk,os⟩) (hG:env.globals=mainGlobals) (hB:env.builtins=builtinsNs)
  (hk:env.scope.kind=.function:=by rfl) (hx:env.kindOf x=some .globalImplicit:=by rfl) (hd:(x == ("__debug__" : Str))=false:=by decide) :
  wpAny M A (eval (.Name x pos) env) Q E ⟨h,gs,dr,tk,os⟩ :=
 Name_function_global hk hx (loadGlobal_builtin (env:=env) (by refine rwr hG ?_; exact T.g.keeps W.F.keep) (mg_none_of X T.g e) (by refine rwr hB ?_; exact T.b.keeps W.F.keep) ((T.builtins x hn).trans hv) k) hd
theorem jpM {env:Env} {c:Addr} {o:Obj} (W:Fx b₀ h L m led) (hc:env.cells.lookup x=some c) (hm:(c,o)∈led) (hd:o.data=.cell (some v)) (k:Q v ⟨h,gs,dr,tk,os⟩)
  (hk:env.scope.kind=.function:=by rfl) (hx:env.kindOf x=some .cell:=by rfl) (hb:(x == ("__debug__" : Str))=false:=by decide) :
  wpAny M A (eval (.Name x pos) env) Q E ⟨h,gs,dr,tk,os⟩:=wpAny_Name (wpAny_loadName_cell hk hx hc ⟨o,W.C.own _ hm,hd⟩ k) hb
theorem jfq {env:Env} {i:Int} {kk:Nat} (k:∀ t tk',Q (.int i t) ⟨h,gs,dr,tk',os⟩):wpAny M A (eval (.Constant (.int i) kk pos) env) Q E ⟨h,gs,dr,tk,os⟩:=wpAny_Constant_int (k _ _)
theorem jlg {env:Env} {y:Str} {kk:Nat} (k:∀ t tk',Q (.str y t) ⟨h,gs,dr,tk',os⟩):wpAny M A (eval (.Constant (.str y) kk pos) env) Q E ⟨h,gs,dr,tk,os⟩:=Calls.Constant_str (k _ _)
theorem rSt {env:Env} {Q:Unit->Shared->Prop} (W:Fx b₀ h L m led) (k:∀ h' tk',Fx b₀ h' L (λ y=>if y=x then some v else m y) led->Q () ⟨h',gs,dr,tk',os⟩) (hL:env.locals=L)
  (hx:env.kindOf x=some .local) (hp:(env.scope.kind == .class || (env.scope.kind == .module && env.locals != env.globals))=false):wpAny M A (storeName env x v) Q E ⟨h,gs,dr,tk,os⟩:=by
 subst hL
 exact wpAny_storeName_local hx W.F.ns (λ h' hn hs=>k h' _ (W.names hn hs)) hp
end
section
variable {prog:Program} {w:World} {A:Around} {E:Value->Shared->Prop} {K:Frag} {gs:Array GenState} {dr:Drawn} {os:OsState} {tk:Tok}
 {b₀ h:Heap} {L x C dx:Addr} {m:Str->Option Value} {led pre post:List (Addr×Obj)} {v:Value} {name:Str} {Q:Value->Shared->Prop}
theorem joQ {es:List DictEntry} {n:Nat} {expr:Bool} {attr:Option Value} (W:Fx b₀ h L m led) (X:K.In b₀) (hi:(x,instObj C dx)∈led) (hd:(dx,dictOf es n)∈led)
  (hg:plainGet K C name=true) (hh:hasDictIn K C=true) (ha:findIn K (.ref C) name=some attr) (hn:noGet K attr=true) (hl:getL name es=some (some v)) (hv:handedIn v=true) (k:∀ tk',Q v ⟨h,gs,dr,tk',os⟩) :
  wpAny (model prog w) A (getAttr (.ref x) name expr) Q E ⟨h,gs,dr,tk,os⟩:=get_own W.F X (_root_.PySem.W.InstAt.of_news W.N hi hd) hg hh ha hn hl hv (k _)
theorem jf3 {es:List DictEntry} {n:Nat} {pl:Sem Bool} {f:Addr} {Q:Value×List Value->Shared->Prop} (W:Fx b₀ h L m led) (X:K.In b₀) (hi:(x,instObj C dx)∈led) (hd:(dx,dictOf es n)∈led)
  (hg:plainGet K C name=true) (hf:findIn K (.ref C) name=some (some (.ref f))) (ht:isFn K (.ref f)=true) (hl:getL name es=some none) (k:Q (.ref f,[.ref x]) ⟨h,gs,dr,tk,os⟩) :
  wpAny (model prog w) A (getMethod (.ref x) name pl) Q E ⟨h,gs,dr,tk,os⟩:=method_inst W.F X (_root_.PySem.W.InstAt.of_news W.N hi hd) hg hf ht hl k
theorem jaq {l:Addr} {vs:Array Value} {n:Nat} (C:Cx b₀ h led) (hm:(l,listOf vs n)∈led):h.IsList l vs:=⟨_,C.own _ hm,rfl,n,rfl⟩
noncomputable abbrev ja1 (vs:List Value):Obj:={ cls:=.type "tuple",data:=.seq vs.toArray }
theorem ja3 {l:Addr} {vs:List Value} (C:Cx b₀ h led) (hm:(l,ja1 vs)∈led):IsTup h l vs.toArray:=⟨_,C.own _ hm,rfl,0,rfl⟩
theorem jdx {value slice:Expr} {l:Addr} {vs:Array Value} {n i:Nat} {u:Tok} (W:Fx b₀ h L m led) (hm:(l,listOf vs n)∈led) (hi:vs[i]? = some v) (hb:(i:Int)<2 ^ 63) (k:Q v ⟨h,gs,dr,tk,os⟩)
  (hs:subscripted slice false (.ref l) (.int i u)=operate [.ref l,.int i u] (getItem (.ref l) (.int i u)):=by with_unfolding_all rfl) :
  wpAny (model prog w) A (subscriptTail value slice (.ref l) (.int i u)) Q E ⟨h,gs,dr,tk,os⟩ :=
 have hL:=jaq W.C hm
 tail_any hL.typeIs slot_list_getitem.lookup (wpAny_getItem_list hL (Int.natCast_nonneg i) hb (hi) k) hs
theorem jkC {vs:List Value} (W:Fx b₀ h L m led) (k:∀ x h',Fx b₀ h' L m ((x,ja1 vs)::led)->Q (.ref x) ⟨h',gs,dr,tk,os⟩) (hsz:vs.length<=16777216:=by exact Jc3 rfl) :
  wpAny (model prog w) A (newTuple vs) Q E ⟨h,gs,dr,tk,os⟩ :=
 wpAny_newObj_type (k _ _ (W.push _)) (by show vs.toArray.size<=sizeLine; refine rwr Jc5 ?_; exact hsz)
theorem jdy {vs:List Value} (W:Fx b₀ h L m led) (k:∀ x h',Fx b₀ h' L m ((x,listOf vs.toArray 0)::led)->Q (.ref x) ⟨h',gs,dr,tk,os⟩) (hsz:vs.length<=16777216:=by exact Jc3 rfl) :
  wpAny (model prog w) A (newList vs) Q E ⟨h,gs,dr,tk,os⟩ :=
 wpAny_newObj_type (k _ _ (W.push _)) (by show vs.toArray.size<=sizeLine; refine rwr Jc5 ?_; exact hsz)
end
end
section
set_option genInjectivity true in
structure KT where
 op:Str
 args:List Int
 sort:Int
 data:Int
 deriving DecidableEq
section
variable {prog:Program} {w:World}
inductive IsKT (prog:Program) (w:World) (h:Heap) (k:KT) (a:Addr):Prop
 | mk (o:Obj) (n:Nat) (t1:Tok) (aa:Addr) (t2 t3:Tok) (ho:h.get? a=some o) (hc:o.cls=.type "tuple") (hd:o.data=.seq #[.str k.op t1,.ref aa,.int k.sort t2,.int k.data t3] n) (hi:IsTupleKey (PySem.intKind prog w) h k.args aa)
theorem IsKT.inj {h:Heap} {a:Addr} {x y:KT} (hx:IsKT prog w h x a) (hy:IsKT prog w h y a):x=y:=by
 obtain ⟨o,n,t1,aa,t2,t3,ho,_,hd,hi⟩:=hx
 obtain ⟨o',n',t1',aa',t2',t3',ho',_,hd',hi'⟩:=hy
 obtain rfl:o=o':=Jb0 (ho.symm.trans ho')
 have e0:=Data.seq.inj (hd.symm.trans hd')
 have e1:=(List.cons.inj (Array.mk.inj e0.1)).1
 have r1:=List.cons.inj (List.cons.inj (Array.mk.inj e0.1)).2
 have r2:=List.cons.inj r1.2
 have r3:=List.cons.inj r2.2
 obtain rfl:=Value.ref.inj r1.1
 have e5:=hi.inj hi'
 obtain ⟨a1,a2,a3,a4⟩:=x
 obtain ⟨b1,b2,b3,b4⟩:=y
 have h1:a1=b1:=(Value.str.inj e1).1
 have h2:a2=b2:=e5
 have h3:a3=b3:=(Value.int.inj r2.1).1
 have h4:a4=b4:=(Value.int.inj r3.1).1
 rw [h1,h2,h3,h4]
theorem IsKT.keeps {h h':Heap} {k:KT} {a d:Addr} {o:Obj} {es ep} (x:IsKT prog w h k a) (ho:h.get? d=some o) (hd:o.data=.dict es ep) (hs:Heap.SameBut d h h'):IsKT prog w h' k a:=by
 obtain ⟨o',n,t1,aa,t2,t3,ho',hc,hd',hi⟩:=x
 have hne:a≠d:=by
  rintro rfl
  obtain rfl:o'=o:=Jb0 (ho'.symm.trans ho)
  rw [hd] at hd'; exact nomatch hd'
 exact ⟨o',n,t1,aa,t2,t3,(hs.2 a hne).trans ho',hc,hd',hi.keeps ho hd hs⟩
theorem IsKT.typeIs {s:Shared} {k:KT} {a:Addr} (x:IsKT prog w s.heap k a):s.TypeIs (.ref a) "tuple" := x.rec λ o U U U U U ho hc U U=>⟨o,ho,hc⟩
noncomputable def jin (prog:Program) (w:World) (k:KT):Int:=reduceHash (Builtin.Tuple.tupleHashOf [hashStr w k.op,tupleKeyHash (PySem.intKind prog w) k.args,hashInt k.sort,hashInt k.data])
variable {A:Around} {E:Value->Shared->Prop} {s:Shared}
theorem jdG {k:KT} {a:Addr} {Q:Int->Shared->Prop} (hu:A.units<cLine/\A.in1.units<cLine) (hk:IsKT prog w s.heap k a) (h:Q (jin prog w k) { s with toks:=s.toks+(k.args.length+5) }) :
  wpAny (model prog w) A (pyHash (.ref a)) Q E s:=by
 have hT:=hk.typeIs
 obtain ⟨o,n,t1,aa,t2,t3,ho,_,hd,hi⟩:=hk
 unfold pyHash
 first | unfold pyHashByItsType | skip
 first | refine wpAny_bind (wpAny_cRoomFor_or (.inr hu.1) ?_) | skip
 refine wpAny_bind (wpAny_specialOf hT F.slot_tuple_hash.lookup ?_)
 show wpAny _ _ (if (some (Value.builtin "tuple.__hash__") == some Value.none)=true then _ else _) Q E s
 refine rwr (if_neg (by rw [beq_builtin_none]; exact Bool.false_ne_true)) ?_
 refine wpAny_bind (wpAny_specialOf hT F.slot_tuple_hash.lookup ?_)
 show wpAny _ _ (callSpecialIfBoundUnlessNone? (.ref a) "__hash__" _ >>= _) Q E s
 refine wpAny_bind (wpAny_callSpecialIfBoundUnlessNone?_slot hT F.slot_tuple_hash (wpAny_call_entry F.slot_tuple_hash hT F.entry_tuple_hash ?_ (F.args_tuple_hash_1 _)))
 show wpAny _ _ (Builtin.Tuple.tupleItemsOf (.ref a) >>= _) _ _ s
 refine wpAny_bind (wpAny_tupleItemsOf ho hd ?_)
 refine wpAny_bind ?_
 refine rwl Array.forIn_toList ?_
 simp only [List.forIn_cons,List.forIn_nil]
 refine wpAny_bind (wpAny_bind (PySem.wpAny_pyHash_str ?_))
 refine wpAny_pure ?_
 dsimp only
 refine wpAny_bind (wpAny_bind (PySem.wpAny_pyHash_tuple hu.2 hi ?_))
 refine wpAny_pure ?_
 dsimp only
 refine wpAny_bind (wpAny_bind (wpAny_pyHash_int ?_))
 refine wpAny_pure ?_
 dsimp only
 refine wpAny_bind (wpAny_bind (wpAny_pyHash_int ?_))
 refine wpAny_pure ?_
 dsimp only
 refine wpAny_pure ?_
 show wpAny _ _ (retInt (Builtin.Tuple.tupleHashOf [hashStr w k.op,tupleKeyHash (PySem.intKind prog w) k.args,hashInt k.sort,hashInt k.data])) _ _ _
 refine wpAny_ret_mkInt ?_
 unfold jin reduceHash at h
 generalize Builtin.Tuple.tupleHashOf [hashStr w k.op,tupleKeyHash (PySem.intKind prog w) k.args,hashInt k.sort,hashInt k.data]=H at h ⊢
 show wpAny _ _ (if (decide (-(2:Int) ^ 63<=H) && decide (H<2 ^ 63))=true then _ else _) Q E _
 rw [(show s.toks+(k.args.length+5)=s.toks+1+(k.args.length+1)+1+1+1 from by lia)] at h
 refine Jc8 (Jc9 ((decide (-(2:Int) ^ 63<=H) && decide (H<2 ^ 63))=true)) (λ hr=>?_) λ hr=>?_
 ·refine rwr (if_pos hr) ?_
  rw [if_pos hr] at h
  exact wpAny_pure h
 ·refine rwr (if_neg hr) ?_
  rw [if_neg hr] at h
  exact wpAny_bind (wpAny_rule (wpAny_pure h))
theorem jho {x y:KT} {a b:Addr} {P:Fin->Shared->Prop} (hu:A.units<cLine) (hx:IsKT prog w s.heap x a) (hy:IsKT prog w s.heap y b) (h:P (.done (.ret (.bool (decide (x=y))))) s) :
  wpAny (model prog w) A (Builtin.«tuple.__eq__» ⟨[.ref a,.ref b],[]⟩) P E s:=by
 have hTb:=hy.typeIs
 obtain ⟨oa,na,t1,aa,t2,t3,hoa,_,hda,hia⟩:=hx
 obtain ⟨ob,nb,u1,ab,u2,u3,hob,_,hdb,hib⟩:=hy
 obtain ⟨o1,a1,s1,d1⟩:=x
 obtain ⟨o2,a2,s2,d2⟩:=y
 have no:¬ ((⟨o1,a1,s1,d1⟩:KT)=⟨o2,a2,s2,d2⟩)->P (.done (.ret (.bool false))) s:=λ q=>(decide_eq_false q)▸h
 show wpAny _ _ (isInstance (.ref b) (.type "tuple") >>= _) _ _ s
 refine wpAny_bind (wpAny_isInstance hTb isSubtype_tuple_tuple ?_)
 dsimp only [Bool.not_true,Bool.false_eq_true,if_false]
 refine wpAny_bind (wpAny_tupleItemsOf hoa hda ?_)
 refine wpAny_bind (wpAny_tupleItemsOf hob hdb ?_)
 refine wpAny_bind ?_
 simp only [List.zip_cons_cons,List.zip_nil_right,List.forIn_cons,List.forIn_nil]
 refine wpAny_bind (wpAny_bind (PySem.wpAny_eqBool_str ?_))
 by_cases e1:o1=o2
 ·rw [Jd6 e1]
  refine wpAny_pure ?_
  dsimp only
  refine wpAny_bind (wpAny_bind (PySem.wpAny_eqBool_tuple hu hia hib ?_))
  by_cases e2:a1=a2
  ·rw [Jd6 e2]
   refine wpAny_pure ?_
   dsimp only
   refine wpAny_bind (wpAny_bind (wpAny_eqBool_int ?_))
   by_cases e3:s1=s2
   ·rw [beq_iff_eq.mpr e3]
    refine wpAny_pure ?_
    dsimp only
    refine wpAny_bind (wpAny_bind (wpAny_eqBool_int ?_))
    by_cases e4:d1=d2
    ·rw [beq_iff_eq.mpr e4]
     refine wpAny_pure ?_
     dsimp only
     refine wpAny_pure (wpAny_pure ?_)
     subst e1 e2 e3 e4
     have h':P (.done (.ret (.bool true))) s:=(Jd6 rfl:decide ((⟨o1,a1,s1,d1⟩:KT)=⟨o1,a1,s1,d1⟩)=true)▸h
     exact h'
    ·rw [beq_eq_false_iff_ne.mpr e4]
     refine wpAny_bind (wpAny_pure (wpAny_pure (wpAny_pure (wpAny_pure ?_))))
     exact no λ e=>e4 (KT.mk.inj e).2.2.2
   ·rw [beq_eq_false_iff_ne.mpr e3]
    refine wpAny_bind (wpAny_pure (wpAny_pure (wpAny_pure (wpAny_pure ?_))))
    exact no λ e=>e3 (KT.mk.inj e).2.2.1
  ·rw [decide_eq_false e2]
   refine wpAny_bind (wpAny_pure (wpAny_pure (wpAny_pure (wpAny_pure ?_))))
   exact no λ e=>e2 (KT.mk.inj e).2.1
 ·rw [decide_eq_false e1]
  refine wpAny_bind (wpAny_pure (wpAny_pure (wpAny_pure (wpAny_pure ?_))))
  exact no λ e=>e1 (KT.mk.inj e).1
theorem jdF {x y:KT} {a b:Addr} {Q:Bool->Shared->Prop} (hu:A.units<cLine/\A.in1.units<cLine) (hx:IsKT prog w s.heap x a) (hy:IsKT prog w s.heap y b) (h:Q (decide (x=y)) s) :
  wpAny (model prog w) A (eqBool (.ref a) (.ref b)) Q E s:=by
 unfold eqBool
 try with_reducible refine wpAny_holding ?_
 show wpAny _ _ (if (Value.ref a == Value.ref b)=true then _ else _) Q E s
 by_cases hab:(Value.ref a == Value.ref b)=true
 ·refine rwr (if_pos hab) ?_
  have e:a=b:=by have:=eq_of_beq hab; injection this
  subst e
  obtain rfl:=hx.inj hy
  exact wpAny_bind (wpAny_rule (wpAny_pure (by simpa using h)))
 ·refine rwr (if_neg hab) ?_
  exact wpAny_bind (wpAny_richCompare_same_room (op:=.Eq) hx.typeIs hy.typeIs F.slot_tuple_eq
   (wpAny_call_entry F.slot_tuple_eq hx.typeIs F.entry_tuple_eq (jho hu.2 hx hy ⟨_,rfl,(λ e=>nomatch e),wpAny_truthy_bool h⟩) (F.args_tuple_eq_2 _ _)) hu.1)
theorem jiT {ks:List Int} {a:Addr} {d:Nat} {Q:Bool->Shared->Prop} (hk:IsTupleKey (PySem.intKind prog w) s.heap ks a) (h:Q true s):wpAny (model prog w) A (eqIsQuiet (d+1) (.ref a)) Q E s:=by
 have hT:=hk.typeIs
 refine jro hk λ o items n ho U hd hi=>?_
 unfold eqIsQuiet
 refine wpAny_bind (wpAny_specialOf hT F.slot_tuple_eq.lookup ?_)
 show wpAny _ _ (isInstance (.ref a) (.type "tuple") >>= _) _ _ s
 refine wpAny_bind (wpAny_isInstance hT isSubtype_tuple_tuple ?_)
 dsimp only [Bool.not_true,Bool.false_eq_true,if_false]
 refine wpAny_bind (wpAny_seqItems ho hd ?_)
 refine wpAny_bind ?_
 show wpAny _ _ (forIn items _ _) _ _ s
 refine rwl Array.forIn_toList ?_
 refine wpAny_forIn_list _ (λ rest r s'=>r.1=none/\s'=s/\∀ v∈rest,carriedByValue v=true) _ ?_ ?_ _ _ ⟨rfl,rfl,hi.byValue⟩
 ·rintro v rest r s' ⟨hr,rfl,hall⟩
  refine rwr (eqIsQuiet_byValue _ (hall v List.mem_cons_self)) ?_
  refine wpAny_bind (wpAny_pure ?_)
  simp only [Bool.not_true,Bool.false_eq_true,if_false]
  exact wpAny_pure ⟨rfl,rfl,λ u hu'=>hall u (List.mem_cons_of_mem _ hu')⟩
 ·rintro ⟨r1,r2⟩ s' ⟨hr,rfl,_⟩
  simp only at hr
  subst hr
  exact wpAny_pure h
theorem jdQ {k:KT} {a:Addr} {Q:Bool->Shared->Prop} (hk:IsKT prog w s.heap k a) (h:Q true s):wpAny (model prog w) A (eqIsQuiet 8 (.ref a)) Q E s:=by
 have hT:=hk.typeIs
 obtain ⟨o,n,t1,aa,t2,t3,ho,_,hd,hi⟩:=hk
 unfold eqIsQuiet
 refine wpAny_bind (wpAny_specialOf hT F.slot_tuple_eq.lookup ?_)
 show wpAny _ _ (isInstance (.ref a) (.type "tuple") >>= _) _ _ s
 refine wpAny_bind (wpAny_isInstance hT isSubtype_tuple_tuple ?_)
 dsimp only [Bool.not_true,Bool.false_eq_true,if_false]
 refine wpAny_bind (wpAny_seqItems ho hd ?_)
 refine wpAny_bind ?_
 show wpAny _ _ (forIn (#[_,_,_,_]:Array Value) _ _) _ _ s
 refine rwl Array.forIn_toList ?_
 simp only [List.forIn_cons,List.forIn_nil]
 refine rwr (eqIsQuiet_byValue 7 (v:=.str k.op t1) rfl) ?_
 refine rwr (eqIsQuiet_byValue 7 (v:=.int k.sort t2) rfl) ?_
 refine rwr (eqIsQuiet_byValue 7 (v:=.int k.data t3) rfl) ?_
 refine wpAny_bind (wpAny_bind (wpAny_pure ?_))
 simp only [Bool.not_true,Bool.false_eq_true,if_false]
 refine wpAny_pure ?_
 dsimp only
 refine wpAny_bind (wpAny_bind (jiT hi ?_))
 simp only [Bool.not_true,Bool.false_eq_true,if_false]
 refine wpAny_pure ?_
 dsimp only
 refine wpAny_bind (wpAny_bind (wpAny_pure ?_))
 simp only [Bool.not_true,Bool.false_eq_true,if_false]
 refine wpAny_pure ?_
 dsimp only
 refine wpAny_bind (wpAny_bind (wpAny_pure ?_))
 simp only [Bool.not_true,Bool.false_eq_true,if_false]
 exact wpAny_pure (wpAny_pure (wpAny_pure h))
end
noncomputable def jbe (prog:Program) (w:World):HeapKind prog w KT where
 is:=IsKT prog w
 hash:=jin prog w
 draws:=λ k=>k.args.length+5
 room:=λ A=>A.units<cLine/\A.in1.units<cLine
 inj:=λ hx hy=>hx.inj hy
 keeps:=λ x ho hd hs=>x.keeps ho hd hs
 pyHash:=λ hu hk h=>jdG hu hk h
 eqBool:=λ hu hx hy h=>jdF hu hx hy h
 quiet:=λ hk h=>jdQ hk h
end
section
inductive Op | nil | tru | fls | app | neg | con | dis | xr | imp | eq | ite
 deriving DecidableEq
noncomputable def Op.s:Op->String
 | nil => "" | tru => "true" | fls => "false" | app => "app" | neg => "not" | con => "and" | dis => "or" | xr => "xor" | imp => "=>" | eq => "=" | ite => "ite"
noncomputable def Op.str (o:Op):Str:=Str.ofString o.s
noncomputable def ofS (s:Str):Op:=([Op.tru,.fls,.app,.neg,.con,.dis,.xr,.imp,.eq,.ite].find? λ o=>o.str == s).getD .nil
theorem jiF (o:Op):ofS o.str=o:=by cases o <;> rfl
theorem Op.str_inj {a b:Op} (h:a.str=b.str):a=b:=(jiF a).symm.trans ((congrArg ofS h).trans (jiF b))
set_option genInjectivity true in
structure Tm where
 op:Op
 args:List Nat
 data:Nat
 deriving DecidableEq
theorem jit:∀ {a b:List Nat},(a.map λ n:Nat=>(n:Int))=b.map (λ n:Nat=>(n:Int))->a=b
 | [],[],_=>rfl
 | x::r,y::r',h=>by
  simp only [Ja8,List.cons.injEq] at h
  refine rwr (Int.ofNat.inj h.1) ?_
  refine rwr (jit h.2) ?_
  rfl
noncomputable def Tm.key (t:Tm):KT:=⟨t.op.str,t.args.map λ n:Nat=>(n:Int),0,(t.data:Int)⟩
theorem Tm.key_inj {a b:Tm} (h:a.key=b.key):a=b:=by
 obtain ⟨o,as,d⟩:=a
 obtain ⟨o',as',d'⟩:=b
 simp only [Tm.key,KT.mk.injEq] at h
 refine jcV h λ h1 h2 U h3=>?_
 simp [Op.str_inj h1,(jit h2),Int.ofNat.inj h3]
structure BA where
 self:Addr
 d:Addr
 fn:Addr
 fa:Addr
 fr:Addr
 op:Addr
 ar:Addr
 so:Addr
 da:Addr
 nu:Addr
 sn:Addr
 sw:Addr
 t:Nat->Tok
 n:Nat
structure BC where
 fnV:Array Value
 faV:Array Value
 frV:Array Value
 opV:Array Value
 arV:Array Value
 soV:Array Value
 daV:Array Value
 nuV:List DictEntry
 k:Nat->Nat
 tups:List (Addr×Obj)
section
variable (P:Params) (C:Addr)
noncomputable def ent (x:Str) (t:Tok) (v:Value):DictEntry:=⟨PyData.keyHash P x,.str x t,v⟩
noncomputable abbrev jgl (α:BA):List DictEntry:=[
 ent P "sort_names" (α.t 0) (.ref α.sn),ent P "sort_widths" (α.t 1) (.ref α.sw),ent P "fun_names" (α.t 2) (.ref α.fn),ent P "fun_args" (α.t 3) (.ref α.fa),ent P "fun_results" (α.t 4) (.ref α.fr),
 ent P "fresh_count" (α.t 5) (.int 0 (α.t 6)),ent P "term_ops" (α.t 7) (.ref α.op),ent P "term_args" (α.t 8) (.ref α.ar),ent P "term_sorts" (α.t 9) (.ref α.so),ent P "term_datas" (α.t 10) (.ref α.da),
 ent P "numbers" (α.t 11) (.ref α.nu),ent P "true_number" (α.t 12) (.int 1 (α.t 13)),ent P "false_number" (α.t 14) (.int 2 (α.t 15))]
noncomputable abbrev jak (α:BA) (σ:BC):List (Addr×Obj) :=
 (α.self,instObj C α.d)::(α.d,dictOf (jgl P α) α.n)::(α.fn,listOf σ.fnV (σ.k 0))::(α.fa,listOf σ.faV (σ.k 1))::(α.fr,listOf σ.frV (σ.k 2)) ::
 (α.op,listOf σ.opV (σ.k 3))::(α.ar,listOf σ.arV (σ.k 4))::(α.so,listOf σ.soV (σ.k 5))::(α.da,listOf σ.daV (σ.k 6))::(α.nu,dictOf σ.nuV (σ.k 7))::σ.tups
end
noncomputable def IsArgs (tups:List (Addr×Obj)) (a:Addr) (l:List Nat):Prop:=∃ vs,(a,ja1 vs)∈tups/\IntsAre vs (l.map λ n:Nat=>(n:Int))
noncomputable def IsKey (tups:List (Addr×Obj)) (k:Tm) (a:Addr):Prop:=∃ t1 aa t2 t3,(a,ja1 [.str k.op.str t1,.ref aa,.int 0 t2,.int k.data t3])∈tups/\IsArgs tups aa k.args
theorem IsArgs.mono {t t':List (Addr×Obj)} {a:Addr} {l:List Nat} (x:IsArgs t a l) (h:∀ p∈t,p∈t'):IsArgs t' a l:=let ⟨vs,h1,h2⟩:=x; ⟨vs,h _ h1,h2⟩
theorem IsKey.mono {t t':List (Addr×Obj)} {a:Addr} {k:Tm} (x:IsKey t k a) (h:∀ p∈t,p∈t'):IsKey t' k a:=let ⟨t1,aa,t2,t3,h1,h2⟩:=x; ⟨t1,aa,t2,t3,h _ h1,h2.mono h⟩
theorem jev {prog:Program} {w:World} {vs:List Value} {ns:List Int} (x:IntsAre vs ns):ItemsAre (PySem.intKind prog w) ns vs:=by
 induction x with
 | nil=>exact .nil
 | cons n t _ ih=>exact .cons (by simp [PySem.intKind,Value.isInt]) ih
section
variable {prog:Program} {w:World} {b₀ h:Heap} {led:List (Addr×Obj)}
theorem IsArgs.key {tups:List (Addr×Obj)} {a:Addr} {l:List Nat} (x:IsArgs tups a l) (C:Cx b₀ h led) (hs:∀ p∈tups,p∈led):IsTupleKey (PySem.intKind prog w) h (l.map λ n:Nat=>(n:Int)) a:=by
 refine jam x λ vs h1 h2=>?_
 exact jrv _ _ _ (C.own _ (hs _ h1)) rfl rfl (jev h2)
theorem IsKey.key {tups:List (Addr×Obj)} {a:Addr} {k:Tm} (x:IsKey tups k a) (C:Cx b₀ h led) (hs:∀ p∈tups,p∈led):IsKT prog w h k.key a:=by
 refine jrq x λ t1 aa t2 t3 h1 h2=>?_
 exact ⟨_,_,t1,aa,t2,t3,C.own _ (hs _ h1),rfl,rfl,h2.key C hs⟩
end
structure Ok (prog:Program) (w:World) (σ:BC) (B:List Tm):Prop where
 nop:σ.opV.size=B.length
 nar:σ.arV.size=B.length
 nso:σ.soV.size=B.length
 nda:σ.daV.size=B.length
 op:∀ (i:Nat) (t:Tm),B[i]? = some t->∃ tk,σ.opV[i]? = some (.str t.op.str tk)
 ar:∀ (i:Nat) (t:Tm),B[i]? = some t->∃ a,σ.arV[i]? = some (.ref a)/\IsArgs σ.tups a t.args
 so:∀ (i:Nat) (t:Tm),B[i]? = some t->∃ tk,σ.soV[i]? = some (.int 0 tk)
 hd:B.head? = some ⟨.nil,[],0⟩
 tl:∀ t∈B.tail,t.op≠.nil
 nd:B.tail.Nodup
 nu:∃ xs:List (KT×Addr×Value),σ.nuV=xs.map (entryOfKey (jbe prog w))/\xs.map (·.1)=B.tail.map Tm.key /\
  (∀ (j:Nat) (x:KT×Addr×Value),xs[j]? = some x->∃ tk,x.2.2=.int ((j:Int)+1) tk)/\∀ x∈xs,∃ t,x.1=Tm.key t/\IsKey σ.tups t x.2.1
noncomputable def mk (B:List Tm) (t:Tm):Nat×List Tm:=if t∈B then (B.idxOf t,B) else (B.length,B++[t])
end
section
inductive Pt (d:Addr) (o o':Obj):List (Addr×Obj)->List (Addr×Obj)->Prop
 | head {r}:Pt d o o' ((d,o)::r) ((d,o')::r)
 | tail {p r r'}:Pt d o o' r r'->Pt d o o' (p::r) (p::r')
theorem Pt.app {d:Addr} {o o':Obj} {r r':List (Addr×Obj)}:∀ {l:List (Addr×Obj)},Pt d o o' r r'->Pt d o o' (l++r) (l++r')
 | [],h=>h
 | _::_,h=>.tail (Pt.app h)
theorem Pt.split {d:Addr} {o o':Obj} {l l':List (Addr×Obj)} (x:Pt d o o' l l'):∃ pre post,l=pre++(d,o)::post/\l'=pre++(d,o')::post:=by
 induction x with
 | head=>exact jjy ([]) _ rfl rfl
 | tail _ ih=>refine jdR ih λ pre post e_1 e_2=>?_; subst e_1; subst e_2; exact jjy (_::pre) post rfl rfl
theorem Pt.mem {d:Addr} {o o':Obj} {l l':List (Addr×Obj)} (x:Pt d o o' l l'):(d,o)∈l:=by refine jdR x.split λ pre post e_3 e_4=>?_; subst e_3; subst e_4; simp
section
variable {prog:Program} {w:World} {A:Around} {E:Value->Shared->Prop} {gs:Array GenState} {dr:Drawn} {os:OsState} {tk:Tok}
 {b₀ h h':Heap} {L d l:Addr} {m:Str->Option Value} {led led':List (Addr×Obj)} {v x:Value} {Q:Value->Shared->Prop} {o o':Obj}
theorem Fx.put (W:Fx b₀ h L m led) (p:Pt d o o' led led') (hs:Heap.SameBut d h h') (ho:h'.get? d=some o'):Fx b₀ h' L m led':=by
 refine jdR p.split λ pre post e_5 e_6=>?_
 subst e_5
 subst e_6
 exact W.set hs ho
theorem jeG {vs:Array Value} {n:Nat} (W:Fx b₀ h L m led) (p:Pt l (listOf vs n) (listOf (vs.push x) (n+1)) led led') (hsz:vs.size<=16777216) (k:∀ h',Fx b₀ h' L m led'->Q .none ⟨h',gs,dr,tk,os⟩) :
  wpAny (model prog w) A (call (.builtin "list.append") [.ref l,x]) Q E ⟨h,gs,dr,tk,os⟩:=by
 have ho:=W.C.own _ p.mem
 refine wpAny_call_entry slot_list_append (jaq W.C p.mem).typeIs entry_list_append ?_ (args_list_append _ _)
 show wpAny _ _ (updateSeq l (·.push x) >>= λ U=>ret .none) _ _ _
 refine wpAny_bind (wpAny_updateSeq ho rfl (wpAny_pure ⟨.none,rfl,k _ (W.put p (Heap.SameBut.update ..) ?_)⟩))
 have e:Obj.mapSeq (·.push x) (listOf vs n)=listOf (vs.push x) (n+1):=by
  simp [Obj.mapSeq]
 exact e▸Heap.get?_update_self _ ho (by refine rwr e ?_; rfl)
theorem jch {vs:Array Value} {n:Nat} {pl:Sem Bool} {Q:Value×List Value->Shared->Prop} (W:Fx b₀ h L m led) (hm:(l,listOf vs n)∈led) (k:Q (.builtin "list.append",[.ref l]) ⟨h,gs,dr,tk,os⟩) :
  wpAny (model prog w) A (getMethod (.ref l) "append" pl) Q E ⟨h,gs,dr,tk,os⟩:=Calls.getMethod_list_append (W.C.own _ hm) rfl rfl k
theorem jgR {es:List DictEntry} {n:Nat} {pl:Sem Bool} {Q:Value×List Value->Shared->Prop} (W:Fx b₀ h L m led) (hm:(l,dictOf es n)∈led) (k:Q (.builtin "dict.get",[.ref l]) ⟨h,gs,dr,tk,os⟩) :
  wpAny (model prog w) A (getMethod (.ref l) "get" pl) Q E ⟨h,gs,dr,tk,os⟩ :=
 getMethod_builtin ⟨_,W.C.own _ hm,rfl⟩ PySem.F.plainAttrs_dict PySem.F.slot_dict_get PySem.F.type_dict_get (λ a e=>by cases e; exact ja2 _ (W.C.own _ hm) rfl) k
theorem jhA {vs:Array Value} {n:Nat} (W:Fx b₀ h L m led) (hm:(l,listOf vs n)∈led) (hb:vs.size<2 ^ 63) (k:∀ t tk',Q (.int vs.size t) ⟨h,gs,dr,tk',os⟩) :
  wpAny (model prog w) A (call (.builtin "len") [.ref l]) Q E ⟨h,gs,dr,tk,os⟩:=Calls.call_len_list (jaq W.C hm) (Int.ofNat_lt.mpr ‹_›) (k _ _)
theorem jh0 {xs:List (KT×Addr×Value)} {n:Nat} (W:Fx b₀ h L m led) (hm:(d,dictOf (xs.map (entryOfKey (jbe prog w))) n)∈led) (hk:∀ x∈xs,IsKT prog w h x.1 x.2.1) (hn:(xs.map (·.1)).Nodup):h.DictOfH (jbe prog w) d xs :=
 ⟨_,_,n,W.C.own _ hm,⟨rfl,rfl,rfl⟩,rfl,by simp,hk,hn⟩
theorem jfl (hlim:b₀.NoLimit) (C:Cx b₀ h led) {a:Addr} {o:Obj} (hm:(a,o)∈led):(a == sysModules)=false:=by
 exact beq_eq_false_iff_ne.mpr (Nat.ne_of_gt (Ja1 (modules_low hlim) (C.new _ hm)))
theorem jle {xs:List (KT×Addr×Value)} {n:Nat} {k:KT} {a:Addr} {dv:Value} (r:A.units+2<cLine) (hlim:b₀.NoLimit) (W:Fx b₀ h L m led) (hm:(d,dictOf (xs.map (entryOfKey (jbe prog w))) n)∈led)
  (hk:∀ x∈xs,IsKT prog w h x.1 x.2.1) (hn:(xs.map (·.1)).Nodup) (ha:IsKT prog w h k a) (kk:∀ tk',Q (((atKey xs k).map (·.2)).getD dv) ⟨h,gs,dr,tk',os⟩) :
  wpAny (model prog w) A (call (.builtin "dict.get") [.ref d,.ref a,dv]) Q E ⟨h,gs,dr,tk,os⟩ :=
 have hD:=jh0 W hm hk hn
 call_meetsIn PySem.F.slot_dict_get hD.typeIs PySem.F.entry_dict_get (PySem.F.args_dict_get_3 _ _ _) (meetsH_dict_get_default (jbe prog w) d a (jfl hlim W.C hm) dv)
  ⟨⟨Nat.lt_of_succ_lt r,r⟩,k,xs,ha,hD,kk _⟩
theorem jof {Q:Unit->Shared->Prop} {xs:List (KT×Addr×Value)} {n:Nat} {k:KT} {a:Addr} {led':Nat->List (Addr×Obj)} (r:A.units+2<cLine) (W:Fx b₀ h L m led)
  (p:∀ n',Pt d (dictOf (xs.map (entryOfKey (jbe prog w))) n) (dictOf ((storedH xs k a v).map (entryOfKey (jbe prog w))) n') led (led' n'))
  (hk:∀ x∈xs,IsKT prog w h x.1 x.2.1) (hn:(xs.map (·.1)).Nodup) (ha:IsKT prog w h k a) (hsz:xs.length<=16777216) (kk:∀ h' n' tk',Fx b₀ h' L m (led' n')->Q () ⟨h',gs,dr,tk',os⟩) :
  wpAny (model prog w) A (setItem (.ref d) (.ref a) v) Q E ⟨h,gs,dr,tk,os⟩:=by
 refine wpAny_setItem_heap (knd:=jbe prog w) ⟨Nat.lt_of_succ_lt r,r⟩ ha (jh0 W (p 0).mem hk hn) (λ h' hD' hs=>?_) (by show xs.length<=sizeLine; exact hsz)
 refine jrp hD' λ n_7 es ep ho n_8 e4 e5 U=>?_
 obtain ⟨c,dd,dt,sl⟩:=n_7
 obtain ⟨e1,e2,e3⟩:=n_8
 dsimp only at e1 e2 e3 e4
 subst e1 e2 e3 e4
 have e6:es=((storedH xs k a v).map (entryOfKey (jbe prog w))).toArray:=by refine rwl e5 ?_; rfl
 subst e6
 exact kk h' ep _ (W.put (p ep) hs ho)
end
end
section
section
variable {prog:Program} {w:World} {σ:BC} {B:List Tm}
theorem Ok.cons (O:Ok prog w σ B):∃ R,B=⟨.nil,[],0⟩::R:=by
 cases B with
 | nil=>have:=O.hd; simp at this
 | cons x R=>have:=O.hd; simp at this; exact ⟨R,by refine rwr this ?_; rfl⟩
theorem Ok.pos (O:Ok prog w σ B):0<B.length:=by obtain ⟨R,rfl⟩:=O.cons; simp
theorem Ok.idx {t:Tm} (O:Ok prog w σ B) (ht:t∈B) (hn:t.op≠.nil):∃ j,B.tail[j]? = some t/\B.idxOf t=j+1/\B[j+1]? = some t:=by
 refine jbh O.cons λ R e_2=>?_
 subst e_2
 have hne:(⟨.nil,[],0⟩:Tm)≠t:=λ e=>hn (by refine rwl e ?_; rfl)
 have hR:t∈R:=by
  rcases Ja3.mp ht with e | e
  ·exact absurd e.symm hne
  ·exact e
 refine jfE (R.idxOf t) ?_ ?_ ?_
 ·show R[R.idxOf t]? = some t
  rw [List.getElem?_eq_getElem (List.idxOf_lt_length_iff.mpr hR),List.getElem_idxOf]
 ·refine rwr List.idxOf_cons ?_; refine rwr (show ((⟨.nil,[],0⟩:Tm) == t)=false from beq_eq_false_iff_ne.mpr hne) ?_; rfl
 ·show R[R.idxOf t]? = some t
  rw [List.getElem?_eq_getElem (List.idxOf_lt_length_iff.mpr hR),List.getElem_idxOf]
theorem Ok.keys {led:List (Addr×Obj)} {b₀ h:Heap} (O:Ok prog w σ B) (C:Cx b₀ h led) (hs:∀ p∈σ.tups,p∈led) :
  ∃ xs:List (KT×Addr×Value),σ.nuV=xs.map (entryOfKey (jbe prog w))/\(∀ x∈xs,IsKT prog w h x.1 x.2.1)/\(xs.map (·.1)).Nodup/\xs.length+1=B.length /\
   xs.map (·.1)=B.tail.map Tm.key/\(∀ (j:Nat) (x:KT×Addr×Value),xs[j]? = some x->∃ tk,x.2.2=.int ((j:Int)+1) tk)/\(∀ x∈xs,∃ t,x.1=Tm.key t/\IsKey σ.tups t x.2.1):=by
 refine jjo O.nu λ xs h1 h2 h3 h4=>?_
 refine jrt xs h1 (λ x hx=>?_) ?_ ?_ h2 h3 h4
 ·refine jam (h4 x hx) λ t e hk=>?_
  refine rwr e ?_; exact hk.key C hs
 ·refine rwr h2 ?_
  have hnd:=O.nd
  rw [List.nodup_iff_pairwise_ne] at hnd ⊢
  exact List.Pairwise.map _ (λ a b hab e=>hab (Tm.key_inj e)) hnd
 ·have:=congrArg List.length h2
  simp only [Jc6,List.length_tail] at this
  rw [this]; exact Nat.succ_pred_eq_of_pos O.pos
theorem jgk {xs:List (KT×Addr×Value)} (h2:xs.map (·.1)=B.tail.map Tm.key) (hn:(xs.map (·.1)).Nodup)
  (h3:∀ (j:Nat) (x:KT×Addr×Value),xs[j]? = some x->∃ tk,x.2.2=.int ((j:Int)+1) tk) {t:Tm} {j:Nat} (hj:B.tail[j]? = some t):∃ tk,(atKey xs t.key).map (·.2)=some (.int ((j:Int)+1) tk):=by
 have e1:(xs.map (·.1))[j]? = some t.key:=by refine rwr h2 ?_; refine rwr (List.getElem?_map) ?_; refine rwr hj ?_; rfl
 rw [List.getElem?_map] at e1
 replace e1:=e1
 cases hx:xs[j]? with
 | none=>rw [hx] at e1; simp at e1
 | some x =>
  rw [hx] at e1
  obtain ⟨tk,e⟩:=h3 j x hx
  obtain ⟨k,a,v⟩:=x
  simp only [Option.map_some,Option.some.injEq] at e1
  subst e1
  refine ⟨tk,?_⟩
  refine rwr (atKey_of_get hn hx) ?_
  simp only at e
  refine rwl e ?_; rfl
theorem jc9 {xs:List (KT×Addr×Value)} (h2:xs.map (·.1)=B.tail.map Tm.key) {t:Tm} (hj:t∉B.tail):atKey xs t.key=none:=by
 refine atKey_none_of_get λ j p e=>hj ?_
 have e1:(xs.map (·.1))[j]? = some t.key:=by refine rwr (List.getElem?_map) ?_; refine rwr e ?_; rfl
 rw [h2,List.getElem?_map] at e1
 replace e1:=e1
 cases hx:B.tail[j]? with
 | none=>rw [hx] at e1; simp at e1
 | some y =>
  rw [hx] at e1
  simp only [Option.map_some,Option.some.injEq] at e1
  refine rwl (Tm.key_inj e1) ?_
  exact List.mem_of_getElem? hx
theorem getElem?_push_of {α:Type} {vs:Array α} {x:α} {n i:Nat} (hn:vs.size=n):(vs.push x)[i]? = if i=n then some x else vs[i]?:=by
 refine rwr (Array.getElem?_push) ?_
 refine rwr hn ?_
 rfl
theorem jaM {α:Type} {B:List α} {t u:α} {i:Nat} (h:(B++[t])[i]? = some u):B[i]? = some u\/(i=B.length/\u=t):=by
 rcases Nat.lt_trichotomy i B.length with hi | hi | hi
 ·left; rwa [List.getElem?_append_left hi] at h
 ·right
  subst hi
  simp at h
  exact ⟨rfl,h.symm⟩
 ·rw [List.getElem?_eq_none (by simp; assumption)] at h; exact nomatch h
theorem Ok.push {t:Tm} {σ':BC} {a ka:Addr} {to tn:Tok} {xs:List (KT×Addr×Value)} {x2:Value} {tz:Tok} (O:Ok prog w σ B) (ht:t∉B) (hop:t.op≠.nil)
  (e1:σ'.opV=σ.opV.push (.str t.op.str to)) (e2:σ'.arV=σ.arV.push (.ref a)) (e3:σ'.soV=σ.soV.push (.int 0 tz)) (e4:σ'.daV=σ.daV.push x2) (e5:∀ p∈σ.tups,p∈σ'.tups)
  (ha:IsArgs σ'.tups a t.args) (hk:IsKey σ'.tups t ka) (h1:σ.nuV=xs.map (entryOfKey (jbe prog w))) (hl:xs.length+1=B.length) (h2:xs.map (·.1)=B.tail.map Tm.key)
  (h3:∀ (j:Nat) (x:KT×Addr×Value),xs[j]? = some x->∃ tk,x.2.2=.int ((j:Int)+1) tk) (h4:∀ x∈xs,∃ t,x.1=Tm.key t/\IsKey σ.tups t x.2.1)
  (e6:σ'.nuV=(storedH xs t.key ka (.int (B.length:Int) tn)).map (entryOfKey (jbe prog w))):Ok prog w σ' (B++[t]):=by
 refine jbh O.cons λ R e_3=>?_
 subst e_3
 have htl:t∉R:=λ h=>ht (.tail _ h)
 rw [storedH_new (jc9 (B:=⟨.nil,[],0⟩::R) h2 htl)] at e6
 replace e6:=e6
 refine ⟨?_,?_,?_,?_,λ i u hu=>?_,λ i u hu=>?_,λ i u hu=>?_,rfl,λ u hu=>?_,?_,?_⟩
 ·refine rwr e1 ?_; rw [Array.size_push,O.nop,Jd3]; rfl
 ·refine rwr e2 ?_; rw [Array.size_push,O.nar,Jd3]; rfl
 ·refine rwr e3 ?_; rw [Array.size_push,O.nso,Jd3]; rfl
 ·refine rwr e4 ?_; rw [Array.size_push,O.nda,Jd3]; rfl
 ·refine rwr e1 ?_
  refine rwr (getElem?_push_of O.nop) ?_
  rcases jaM hu with h | ⟨rfl,rfl⟩
  ·refine rwr (if_neg (Nat.ne_of_lt (Jc0 h).1)) ?_; exact O.op i u h
  ·refine rwr (if_pos rfl) ?_; exact ⟨to,rfl⟩
 ·refine rwr e2 ?_
  refine rwr (getElem?_push_of O.nar) ?_
  rcases jaM hu with h | ⟨rfl,rfl⟩
  ·refine rwr (if_neg (Nat.ne_of_lt (Jc0 h).1)) ?_
   refine jam (O.ar i u h) λ a' ha' hx=>?_
   exact ja2 a' ha' (hx.mono e5)
  ·refine rwr (if_pos rfl) ?_; exact ja2 a rfl ha
 ·refine rwr e3 ?_
  refine rwr (getElem?_push_of O.nso) ?_
  rcases jaM hu with h | ⟨rfl,rfl⟩
  ·refine rwr (if_neg (Nat.ne_of_lt (Jc0 h).1)) ?_; exact O.so i u h
  ·refine rwr (if_pos rfl) ?_; exact ⟨tz,rfl⟩
 ·rcases Ja9.mp (show u∈R++[t] from hu) with h | h
  ·exact O.tl u h
  ·refine rwr (Ja2.mp h) ?_; exact hop
 ·show (R++[t]).Nodup
  rw [List.nodup_append]
  exact ⟨O.nd,by simp,λ x hx y hy e=>htl (by refine rwl (Ja2.mp hy) ?_; refine rwl e ?_; exact hx)⟩
 ·refine joH (xs++[(t.key,ka,.int ((⟨.nil,[],0⟩::R:List Tm).length:Int) tn)]) e6 ?_ (λ j x hx=>?_) (λ x hx=>?_)
  ·refine rwr List.map_append ?_
   refine rwr h2 ?_
   show R.map Tm.key++[t.key]=(R++[t]).map Tm.key
   simp
  ·rcases jaM hx with h | ⟨rfl,rfl⟩
   ·exact h3 j x h
   ·refine ⟨tn,?_⟩
    show Value.int _ tn=_
    refine rwl hl ?_; rfl
  ·rcases Ja9.mp hx with h | h
   ·refine jam (h4 x h) λ u e hu=>?_
    exact ja2 u e (hu.mono e5)
   ·refine rwr (Ja2.mp h) ?_; exact ja2 t rfl hk
end
end
section
section
variable {prog:Program} {w:World} {A:Around} {E:Value->Shared->Prop} {gs:Array GenState} {dr:Drawn} {os:OsState} {tk:Tok}
 {b₀ h:Heap} {L:Addr} {m:Str->Option Value} {led:List (Addr×Obj)} {env:Env} {target:Expr} {body:List Stmt}
noncomputable def jdn (h:Heap) (wr:List Addr):List (Addr×Obj):=wr.filterMap λ b=>(h.get? b).map λ o=>(b,o)
theorem jcr {h:Heap}:∀ {wr:List Addr},(∀ b∈wr,∃ o,h.get? b=some o)->(jdn h wr).map (·.1)=wr
 | [],_=>rfl
 | b::r,he=>by
  refine jbh (he b (.head _)) λ o ho=>?_
  have ih:=jcr (h:=h) (wr:=r) λ b hb=>he b (.tail _ hb)
  dsimp only [jdn] at ih ⊢
  refine rwr List.filterMap_cons ?_
  refine rwr ho ?_
  simp only [Option.map_some,Ja8,ih]
theorem jdo {h:Heap} {wr:List Addr} {p:Addr×Obj} (hp:p∈jdn h wr):h.get? p.1=some p.2/\p.1∈wr:=by
 refine jam (List.mem_filterMap.mp hp) λ b hb e=>?_
 cases ho:h.get? b with
 | none=>rw [ho] at e; replace e:=e; cases e
 | some o=>rw [ho] at e; obtain rfl:=Jb0 e; exact ⟨ho,hb⟩
theorem jfg {h:Heap} {wr:List Addr} {b:Addr} {o:Obj} (hb:b∈wr) (ho:h.get? b=some o):(b,o)∈jdn h wr :=
 List.mem_filterMap.mpr ⟨b,hb,by refine rwr ho ?_; rfl⟩
theorem Cx.off {its:List (Addr×Obj)} {wr:List Addr} (C:Cx b₀ h (its++led)) (hm:its.map (·.1)=wr):(∀ p∈led,p.1∉wr)/\wr.Nodup/\∀ b∈wr,b₀.objs.size<=b:=by
 have hn:=C.nd
 rw [List.map_append,hm,List.nodup_append] at hn
 replace hn:=hn
 refine ⟨λ p hp hb=>hn.2.2 _ hb _ (List.mem_map_of_mem hp) rfl,hn.1,λ b hb=>?_⟩
 rw [<- hm] at hb
 replace hb:=hb
 refine jam (Jb8 hb) λ p hp e_1=>?_
 subst e_1
 exact C.new p (Ja7 _ hp)
theorem Fx.its {its:List (Addr×Obj)} {wr:List Addr} {h':Heap} (W:Fx b₀ h L m (its++led)) (hm:its.map (·.1)=wr) (hk:∀ b o,b∉wr->h.get? b=some o->h'.get? b=some o)
  (he:∀ b∈wr,∃ o,h'.get? b=some o):Fx b₀ h' L m (jdn h' wr++led):=by
 refine jbq (W.C.off hm) λ h1 h2 h3=>?_
 have hL:L∉wr:=λ q=>by
  rw [<- hm] at q
  refine jam (Jb8 q) λ p hp e=>?_
  exact W.nL p (Ja7 _ hp) e
 have hst:b₀.StaysIn h':=λ b o e=>hk b o (λ q=>by have:=jbc (h3 b q); rw [e] at this; exact nomatch this) (W.C.stays b o e)
 refine ⟨⟨W.F.ns.at' λ o e=>hk _ o hL e,hst,W.F.above⟩,⟨hst,λ p hp=>?_,λ p hp=>?_,?_⟩,λ p hp=>?_⟩
 ·refine Jc8 (Ja9.mp hp) (λ q=>?_) λ q=>?_
  ·exact (jdo q).1
  ·exact hk _ _ (h1 p q) (W.C.own p (Ja6 _ q))
 ·refine Jc8 (Ja9.mp hp) (λ q=>?_) λ q=>?_
  ·exact h3 _ (jdo q).2
  ·exact W.C.new p (Ja6 _ q)
 ·refine rwr List.map_append ?_; refine rwr (jcr he) ?_; refine rwl hm ?_; refine rwl List.map_append ?_; exact W.C.nd
 ·refine Jc8 (Ja9.mp hp) (λ q=>?_) λ q=>?_
  ·exact λ e=>hL (e▸(jdo q).2)
  ·exact W.nL p (Ja6 _ q)
noncomputable def jdK (b₀:Heap) (L:Addr) (gs:Array GenState) (dr:Drawn) (os:OsState) (its:List (Addr×Obj)) (J:(Str->Option Value)->List (Addr×Obj)->Prop) (s:Shared):Prop :=
 ∃ h tk m led,s=⟨h,gs,dr,tk,os⟩/\Fx b₀ h L m (its++led)/\J m led
inductive FSt (b₀:Heap) (L:Addr) (wr:List Addr) (gs:Array GenState) (dr:Drawn) (os:OsState) (J:Nat->(Str->Option Value)->List (Addr×Obj)->Prop) (S:Nat->Heap->Prop) (n k:Nat):Shared->Prop
 | mk (h':Heap) (tk':Tok) (m':Str->Option Value) (led' its':List (Addr×Obj)) (i:Nat) (hs:S i h') (hm:its'.map (·.1)=wr) (W:Fx b₀ h' L m' (its'++led')) (j:J i m' led') (hi:i<=n) (hk:k=n+1 - i):FSt b₀ L wr gs dr os J S n k ⟨h',gs,dr,tk',os⟩
theorem jl7 {R:Result->Shared->Prop} {I:Addr} {fp wr:List Addr} {n:Nat} {P Md:Nat->Value->Heap->Prop} {St:Nat->Heap->Prop} (KT:KTurns prog w A target I fp wr n P Md St)
  (hex:∀ i h,St i h->∀ b∈wr,∃ o,h.get? b=some o) (its src:List (Addr×Obj)) (hm:its.map (·.1)=wr) (hsrc:∀ b∈fp,b∉wr->∃ o,(b,o)∈src)
  (J:Nat->(Str->Option Value)->List (Addr×Obj)->Prop) (hJs:∀ i m led,J i m led->∀ p∈src,p∈led) (hL:env.locals=L)
  (W:Fx b₀ h L m (its++led)) (hst:St 0 h) (h0:J 0 m led)
  (step:∀ i v m₁ led₁ h₁ tk₁ its₁,i<n->P i v h₁->J i m₁ led₁->its₁.map (·.1)=wr->Fx b₀ h₁ L m₁ (its₁++led₁) ->
   wpAny (model prog w) A (assign target env v) (λ U s₂=>wpAny (model prog w) A (execs body env) (λ f s₃=>match f with
     | .ret v=>R (.ok (.ret v)) s₃
     | .brk=>R (.ok .next) s₃
     | _=>jdK b₀ L gs dr os its₁ (J (i+1)) s₃) (notedBy (model prog w) A env λ e s'=>R (.error e) s') s₂) (notedBy (model prog w) A env λ e s'=>R (.error e) s') ⟨h₁,gs,dr,tk₁,os⟩)
  (hR:∀ h' tk' m' led',Fx b₀ h' L m' led'->J n m' led'->R (.ok .next) ⟨h',gs,dr,tk',os⟩) :
  codeAny (model prog w) A (.forLoop target (.ref I) body [] env) R ⟨h,gs,dr,tk,os⟩:=by
 refine codeAny_forLoop_any
  (FSt b₀ L wr gs dr os J St n) ?_ (n+1) (.mk h tk m led its 0 hst hm W h0 (Nat.zero_le _) rfl)
 intro k s' hs'
 refine hs'.rec λ h' tk' m' led' its' i hst' hm' W' hJ hi hk=>?_
 clear hs'
 subst hk
 refine Jc8 (Jc9 (i<n)) (λ hlt=>?_) λ hlt=>?_
 ·refine KT.item i _ _ _ hlt hst' λ v h₁ tk₁ hMd hk₁=>?_
  refine KT.go i v _ _ _ hMd λ h₂ hP hst₂ hk₂=>?_
  have W₂:=W'.its hm' (λ b o hb e=>hk₂ b o hb (hk₁ b o hb e)) (hex _ _ hst₂)
  have hm₂:=jcr (hex _ _ hst₂)
  refine wpAny_mono (step i v m' led' h₂ tk₁ _ hlt hP hJ hm₂ W₂) (λ U s₂ x=>wpAny_mono x (λ f s₃ y=>?_) λ U U e=>e) λ U U e=>e
  have fin:jdK b₀ L gs dr os (jdn h₂ wr) (J (i+1)) s₃->∃ k',k' < n+1 - i/\FSt b₀ L wr gs dr os J St n k' s₃:=by
   intro hh_6
   refine joY hh_6 λ h₃ tk₃ m₃ led₃ e_5 W₃ hJ₃=>?_
   subst e_5
   refine ⟨n+1 - (i+1),jqf hlt,.mk h₃ tk₃ m₃ led₃ (jdn h₂ wr) (i+1) ?_ hm₂ W₃ hJ₃ hlt rfl⟩
   refine KT.frame _ _ _ hst₂ λ b hb o e=>?_
   refine Jc8 (Jc9 (b∈wr)) (λ hbw=>?_) λ hbw=>?_
   ·exact W₃.C.own _ (Ja7 _ (jfg hbw e))
   ·refine jbh (hsrc b hb hbw) λ o' ho'=>?_
    have e2:=W₂.C.own _ (Ja6 _ (hJs _ _ _ hJ _ ho'))
    rw [e] at e2
    obtain rfl:=Jb0 e2
    exact W₃.C.own _ (Ja6 _ (hJs _ _ _ hJ₃ _ ho'))
  cases f with
  | ret v=>exact y
  | brk=>exact y
  | cont=>exact fin y
  | next=>exact fin y
 ·have hin:i=n:=Nat.le_antisymm ‹_› (Jd2 ‹_›)
  subst hin
  refine KT.done _ _ _ hst' λ h₁ tk₁ hk₁=>wpAny_execs_nil ?_
  refine jbq (W'.C.off hm') λ h1 h2 h3=>?_
  have hLw:L∉wr:=λ q=>by
   rw [<- hm'] at q
   refine jam (Jb8 q) λ p hp e=>?_
   exact W'.nL p (Ja7 _ hp) e
  have hs:b₀.StaysIn h₁:=λ b o e=>hk₁ b o (λ q=>by have:=jbc (h3 b q); rw [e] at this; replace this:=this; replace this:=this; exact nomatch this) (W'.C.stays b o e)
  have hn:=W'.C.nd
  rw [List.map_append,List.nodup_append] at hn
  exact hR h₁ tk₁ m' led' ⟨⟨W'.F.ns.at' λ o e=>hk₁ _ o hLw e,hs,W'.F.above⟩,⟨hs,λ p hp=>hk₁ _ _ (h1 p hp) (W'.C.own p (Ja6 _ hp)),λ p hp=>W'.C.new p (Ja6 _ hp),hn.2.1⟩,λ p hp=>W'.nL p (Ja6 _ hp)⟩ hJ
inductive ItrEx (prog:Program) (w:World) (A:Around) (target:Expr) (src:List (Addr×Obj)) (P:Nat->Value->Heap->Prop) (n:Nat) (h:Heap) (its:List (Addr×Obj)) (it:Value):Prop
 | mk (I:Addr) (fp wr:List Addr) (Md:Nat->Value->Heap->Prop) (St:Nat->Heap->Prop) (e:it=.ref I) (KT:KTurns prog w A target I fp wr n P Md St) (hex:∀ i h,St i h->∀ b∈wr,∃ o,h.get? b=some o) (hm:its.map (·.1)=wr) (hsrc:∀ b∈fp,b∉wr->∃ o,(b,o)∈src) (h0:St 0 h)
  (hself:∀ (s:Shared) (Q:Value->Shared->Prop) (E:Value->Shared->Prop),St 0 s.heap->Q (.ref I) s->wpAny (model prog w) A (pyIter (.ref I)) Q E s) (hfr:∀ h',(∀ b∈fp,∀ o,h.get? b=some o->h'.get? b=some o)->St 0 h'):ItrEx prog w A target src P n h its it
structure Itr (prog:Program) (w:World) (A:Around) (target:Expr) (b₀:Heap) (L:Addr) (src:List (Addr×Obj)) (P:Nat->Value->Heap->Prop) (n:Nat) (h:Heap) (m:Str->Option Value) (its led:List (Addr×Obj)) (it:Value):Prop where
 ex:ItrEx prog w A target src P n h its it
 W:Fx b₀ h L m (its++led)
theorem jew {R:Result->Shared->Prop} {src its:List (Addr×Obj)} {P:Nat->Value->Heap->Prop} {n:Nat} {it:Value} (T:Itr prog w A target b₀ env.locals src P n h m its led it)
  (J:Nat->(Str->Option Value)->List (Addr×Obj)->Prop) (h0:J 0 m led) (hJs:∀ i m led,J i m led->∀ p∈src,p∈led)
  (step:∀ i v m₁ led₁ h₁ tk₁ its₁ (E':Value->Shared->Prop),i<n->P i v h₁->J i m₁ led₁->its₁.map (·.1)=its.map (·.1)->Fx b₀ h₁ env.locals m₁ (its₁++led₁) ->
   wpAny (model prog w) A (assign target env v) (λ U s₂=>wpAny (model prog w) A (execs body env) (λ f s₃=>match f with
     | .ret v=>R (.ok (.ret v)) s₃
     | .brk=>R (.ok .next) s₃
     | _=>jdK b₀ env.locals gs dr os its₁ (J (i+1)) s₃) E' s₂) E' ⟨h₁,gs,dr,tk₁,os⟩)
  (hR:∀ h' tk' m' led',Fx b₀ h' env.locals m' led'->J n m' led'->R (.ok .next) ⟨h',gs,dr,tk',os⟩) :
  codeAny (model prog w) A (.forLoop target it body [] env) R ⟨h,gs,dr,tk,os⟩:=by
 obtain ⟨⟨I,fp,wr,Md,St,rfl,KT,hex,hm,hsrc,hst,_,_⟩,W⟩:=T
 exact jl7 KT hex its src hm hsrc J hJs rfl W hst h0 (λ i v m₁ led₁ h₁ tk₁ its₁ a b c d e=>step i v m₁ led₁ h₁ tk₁ its₁ _ a b c (d.trans hm.symm) e) hR
theorem jfb {M:Model} {x:Str} {xp:Pos} {it v:Value} {s:Shared} {Q:Unit->Shared->Prop} (h:Q () s):wpAny M A (letOwnedTupleGo (.Name x xp) it v) Q E s:=wpAny_of_eq (a:=()) rfl h
theorem jij {t:Addr} {vs:List Value} {x:Str} {xp:Pos} {Q:Value->Shared->Prop} (hh:A.handled=none) (W:Fx b₀ h L m led) (hm:(t,ja1 vs)∈led)
  (k:∀ h' i0 it,Itr prog w A (.Name x xp) b₀ L [(t,ja1 vs)] (λ i v U=>vs[i]? = some v) vs.length h' m [i0] led it->Q it ⟨h',gs,dr,tk,os⟩) :
  wpAny (model prog w) A (pyIter (.ref t)) Q E ⟨h,gs,dr,tk,os⟩:=by
 have ht:h.IsTuple t vs.toArray:=⟨_,W.C.own _ hm,rfl,0,rfl⟩
 refine wpAny_pyIter_tuple ht ?_
 refine k _ (h.objs.size,_) _ (Itr.mk ?_ (W.push _))
 have Wk:=Walks.tuple (prog:=prog) (w:=w) hh h.objs.size t (Nat.ne_of_lt (W.C.lt hm)) vs.toArray
 have K:=KTurns.ofWalks (target:=.Name x xp) Wk λ i v s Q E U q=>jfb q
 have hP:(λ (i:Nat) (v:Value) (U:Heap)=>vs.toArray[i]? = some v)=λ i v U=>vs[i]? = some v:=by funext i v _; refine rwr (List.getElem?_toArray) ?_; rfl
 rw [Jc5,hP] at K
 refine ⟨_,_,_,_,_,rfl,K,λ i h' st b hb=>?_,rfl,λ b hb hn=>?_,⟨⟨_,Heap.get?_push_size _ rfl,rfl,rfl⟩,ht.at λ o e=>Heap.get?_push_of_some _ e⟩,λ s Q E st q=>Wk.self 0 s Q E st q,λ h' hk=>Wk.frame 0 _ h' ⟨⟨_,Heap.get?_push_size _ rfl,rfl,rfl⟩,ht.at λ o e=>Heap.get?_push_of_some _ e⟩ hk⟩
 ·refine rwr (Ja2.mp hb) ?_
  refine jbi st λ n_8 U=>?_
  refine jam n_8 λ o ho U=>?_
  exact ⟨o,ho⟩
 ·rcases Ja3.mp hb with rfl | hb
  ·exact absurd (Ja2.mpr rfl) hn
  ·refine rwr (Ja2.mp hb) ?_; exact ⟨_,.head _⟩
theorem jgC {t:Addr} {vs:Array Value} {e:Nat} {x:Str} {xp:Pos} {Q:Value->Shared->Prop} (hh:A.handled=none) (W:Fx b₀ h L m led) (hm:(t,listOf vs e)∈led)
  (k:∀ h' i0 it,Itr prog w A (.Name x xp) b₀ L [(t,listOf vs e)] (λ i v U=>vs[i]? = some v) vs.size h' m [i0] led it->Q it ⟨h',gs,dr,tk,os⟩) :
  wpAny (model prog w) A (pyIter (.ref t)) Q E ⟨h,gs,dr,tk,os⟩:=by
 have ht:h.IsList t vs:=jaq W.C hm
 refine wpAny_pyIter_list ht ?_
 refine k _ (h.objs.size,_) _ (Itr.mk ?_ (W.push _))
 have Wk:=Walks.list (prog:=prog) (w:=w) hh h.objs.size t (Nat.ne_of_lt (W.C.lt hm)) vs
 refine ⟨_,_,_,_,_,rfl,(KTurns.ofWalks (target:=.Name x xp) Wk λ i v s Q E U q=>jfb q),λ i h' st b hb=>?_,rfl,λ b hb hn=>?_,⟨⟨_,Heap.get?_push_size _ rfl,rfl,rfl⟩,ht.at λ o e=>Heap.get?_push_of_some _ e⟩,λ s Q E st q=>Wk.self 0 s Q E st q,λ h' hk=>Wk.frame 0 _ h' ⟨⟨_,Heap.get?_push_size _ rfl,rfl,rfl⟩,ht.at λ o e=>Heap.get?_push_of_some _ e⟩ hk⟩
 ·refine rwr (Ja2.mp hb) ?_
  refine jbi st λ n_10 U=>?_
  refine jam n_10 λ o ho U=>?_
  exact ⟨o,ho⟩
 ·rcases Ja3.mp hb with rfl | hb
  ·exact absurd (Ja2.mpr rfl) hn
  ·refine rwr (Ja2.mp hb) ?_; exact ⟨_,.head _⟩
end
section
variable {prog:Program} {w:World} {A:Around} {E:Value->Shared->Prop} {gs:Array GenState} {dr:Drawn} {os:OsState} {tk:Tok}
 {b₀ h:Heap} {m:Str->Option Value} {led:List (Addr×Obj)} {env:Env} {body:List Stmt} {R:Result->Shared->Prop} {x:Str} {xp:Pos}
noncomputable def jne (prog:Program) (w:World) (A:Around) (b₀:Heap) (env:Env) (x:Str) (body:List Stmt) (gs:Array GenState) (dr:Drawn) (os:OsState) (R:Result->Shared->Prop) (J:(Str->Option Value)->List (Addr×Obj)->Prop) (v:Value) (m₁:Str->Option Value) (led₁:List (Addr×Obj)):Prop :=
 ∀ it h₁ tk₁ (E':Value->Shared->Prop),Fx b₀ h₁ env.locals (λ y=>if y=x then some v else m₁ y) (it::led₁) ->
  wpAny (model prog w) A (execs body env) (λ f s₃=>match f with
     | .ret v=>R (.ok (.ret v)) s₃
     | .brk=>R (.ok .next) s₃
     | _=>jdK b₀ env.locals gs dr os [it] J s₃) E' ⟨h₁,gs,dr,tk₁,os⟩
theorem jdC {its:List (Addr×Obj)} {I:Addr} {J:(Str->Option Value)->List (Addr×Obj)->Prop} {v:Value} {m₁:Str->Option Value} {led₁:List (Addr×Obj)}
  (hx:env.kindOf x=some .local) (hp:(env.scope.kind == .class || (env.scope.kind == .module && env.locals != env.globals))=false)
  (t:jne prog w A b₀ env x body gs dr os R J v m₁ led₁) (hits:its.map (·.1)=[I]) (W:Fx b₀ h env.locals m₁ (its++led₁)) :
  wpAny (model prog w) A (assign (.Name x xp) env v) (λ U s₂=>wpAny (model prog w) A (execs body env) (λ f s₃=>match f with
     | .ret v=>R (.ok (.ret v)) s₃
     | .brk=>R (.ok .next) s₃
     | _=>jdK b₀ env.locals gs dr os its J s₃) E s₂) E ⟨h,gs,dr,tk,os⟩:=by
 obtain ⟨it,rfl⟩:∃ it,its=[it]:=by
  cases its with
  | nil=>simp at hits
  | cons a r=>cases r with
   | nil=>exact ⟨a,rfl⟩
   | cons b r=>simp at hits
 refine wpAny_assign_Name (wpAny_storeName_local hx W.F.ns (λ h' hn hs=>?_) hp)
 exact t it h' _ _ (W.names hn hs)
theorem jl4 {t:Addr} {vs:List Value} (hh:A.handled=none) (W:Fx b₀ h env.locals m led) (hm:(t,ja1 vs)∈led)
  (J:Nat->(Str->Option Value)->List (Addr×Obj)->Prop) (h0:J 0 m led) (hJs:∀ i m led,J i m led->(t,ja1 vs)∈led)
  (step:∀ i v m₁ led₁,vs[i]? = some v->J i m₁ led₁->jne prog w A b₀ env x body gs dr os R (J (i+1)) v m₁ led₁)
  (hR:∀ h' tk' m' led',Fx b₀ h' env.locals m' led'->J vs.length m' led'->R (.ok .next) ⟨h',gs,dr,tk',os⟩)
  (hx:env.kindOf x=some .local:=by rfl) (hp:(env.scope.kind == .class || (env.scope.kind == .module && env.locals != env.globals))=false:=by rfl) :
  wpAny (model prog w) A (pyIter (.ref t)) (λ it s₂=>codeAny (model prog w) A (.forLoop (.Name x xp) it body [] env) R s₂) E ⟨h,gs,dr,tk,os⟩:=by
 refine jij (x:=x) (xp:=xp) hh W hm λ h₂ its it T=>?_
 exact jew T J h0 (λ i m led j p hp=>by refine rwr (Ja2.mp hp) ?_; exact hJs i m led j) (λ i v m₁ led₁ h₁ tk₁ its₁ E' U hv j e W'=>jdC hx hp (step i v m₁ led₁ hv j) e W') hR
theorem jjU {t:Addr} {vs:Array Value} {e:Nat} (hh:A.handled=none) (W:Fx b₀ h env.locals m led) (hm:(t,listOf vs e)∈led)
  (J:Nat->(Str->Option Value)->List (Addr×Obj)->Prop) (h0:J 0 m led) (hJs:∀ i m led,J i m led->(t,listOf vs e)∈led)
  (step:∀ i v m₁ led₁,vs[i]? = some v->J i m₁ led₁->jne prog w A b₀ env x body gs dr os R (J (i+1)) v m₁ led₁)
  (hR:∀ h' tk' m' led',Fx b₀ h' env.locals m' led'->J vs.size m' led'->R (.ok .next) ⟨h',gs,dr,tk',os⟩)
  (hx:env.kindOf x=some .local:=by rfl) (hp:(env.scope.kind == .class || (env.scope.kind == .module && env.locals != env.globals))=false:=by rfl) :
  wpAny (model prog w) A (pyIter (.ref t)) (λ it s₂=>codeAny (model prog w) A (.forLoop (.Name x xp) it body [] env) R s₂) E ⟨h,gs,dr,tk,os⟩:=by
 refine jgC (x:=x) (xp:=xp) hh W hm λ h₂ its it T=>?_
 exact jew T J h0 (λ i m led j p hp=>by refine rwr (Ja2.mp hp) ?_; exact hJs i m led j) (λ i v m₁ led₁ h₁ tk₁ its₁ E' U hv j e W'=>jdC hx hp (step i v m₁ led₁ hv j) e W') hR
end
theorem jbU {vs:List Value} {ns:List Int} (h:IntsAre vs ns):∀ {i:Nat} {v:Value},vs[i]? = some v->∃ n t,v=.int n t/\ns[i]? = some n:=by
 induction h with
 | nil=>intro i v e; simp at e
 | cons n t _ ih =>
  intro i v e
  cases i with
  | zero=>simp at e; exact jjy n t e.symm (by rfl)
  | succ j=>simp at e; simpa using ih e
theorem jcq {vs:List Value} {ns:List Int} (h:IntsAre vs ns):vs.length=ns.length:=by
 induction h with
 | nil=>rfl
 | cons _ _ _ ih=>simp [ih]
end
section
section
variable {prog:Program} {w:World} {A:Around} {E:Value->Shared->Prop} {gs:Array GenState} {dr:Drawn} {os:OsState} {tk:Tok}
 {b₀ h h':Heap} {L d l:Addr} {m:Str->Option Value} {led led':List (Addr×Obj)} {v x:Value} {Q:Value->Shared->Prop} {o o':Obj}
theorem jpS {a b:Int} {t u:Tok} (hh:A.handled=none) (W:Fx b₀ h L m led) (k:∀ h' tk' t',Fx b₀ h' L m led->Q (.int (min a b) t') ⟨h',gs,dr,tk',os⟩) :
  wpAny (model prog w) A (call (.builtin "min") [.int a t,.int b u]) Q E ⟨h,gs,dr,tk,os⟩:=by
 refine min_two_ints hh λ h' tk' hk=>?_
 have:=k h' tk'
 refine Jc8 (Jc9 (b<a)) (λ hc=>?_) λ hc=>?_
 ·refine rwr (if_pos hc) ?_; have e:min a b=b:=Int.min_eq_right (Int.le_of_lt hc)
  rw [e] at this; replace this:=this; exact this u (W.grow hk)
 ·refine rwr (if_neg hc) ?_; have e:min a b=a:=Int.min_eq_left (Int.not_lt.mp hc)
  rw [e] at this; replace this:=this; exact this t (W.grow hk)
theorem jpR {a b:Int} {t u:Tok} (hh:A.handled=none) (W:Fx b₀ h L m led) (k:∀ h' tk' t',Fx b₀ h' L m led->Q (.int (max a b) t') ⟨h',gs,dr,tk',os⟩) :
  wpAny (model prog w) A (call (.builtin "max") [.int a t,.int b u]) Q E ⟨h,gs,dr,tk,os⟩:=by
 refine max_two_ints hh λ h' tk' hk=>?_
 have:=k h' tk'
 refine Jc8 (Jc9 (b > a)) (λ hc=>?_) λ hc=>?_
 ·refine rwr (if_pos hc) ?_; have e:max a b=b:=Int.max_eq_right (Int.le_of_lt hc)
  rw [e] at this; replace this:=this; exact this u (W.grow hk)
 ·refine rwr (if_neg hc) ?_; have e:max a b=a:=Int.max_eq_left (Int.not_lt.mp hc)
  rw [e] at this; replace this:=this; exact this t (W.grow hk)
theorem jpQ {vs:List Value} (W:Fx b₀ h L m led) (hm:(l,ja1 vs)∈led) (hb:vs.length<2 ^ 63) (k:∀ t tk',Q (.int vs.length t) ⟨h,gs,dr,tk',os⟩) :
  wpAny (model prog w) A (call (.builtin "len") [.ref l]) Q E ⟨h,gs,dr,tk,os⟩:=by
 refine len_tuple (ja3 W.C hm) (by simp; exact Int.ofNat_lt.mpr ‹_›) ?_
 have:=k (tk+1) (tk+1+1)
 simpa using this
theorem jlf {value slice:Expr} {vs:List Value} {i:Int} {j:Nat} {u:Tok} (W:Fx b₀ h L m led) (hm:(l,ja1 vs)∈led) (hlo:-(2 ^ 63)<=i) (hb:i<2 ^ 63) (hj:seqIndex? i vs.length=some j) (hi:vs[j]? = some v) (k:Q v ⟨h,gs,dr,tk,os⟩)
  (hs:subscripted slice false (.ref l) (.int i u)=operate [.ref l,.int i u] (getItem (.ref l) (.int i u)):=by with_unfolding_all rfl) :
  wpAny (model prog w) A (subscriptTail value slice (.ref l) (.int i u)) Q E ⟨h,gs,dr,tk,os⟩:=item_tupleT (ja3 W.C hm) hlo hb hj hi k hs
end
theorem ji3 {j n:Nat} (h:j<n):seqIndex? (j:Int) n=some j:=by
 unfold seqIndex?
 rw [if_neg (Int.not_lt.mpr (Int.natCast_nonneg j))]
 show (if (decide (0<=(j:Int)) && decide ((j:Int)<n))=true then some (j:Int).toNat else none)=_
 rw [Jd6 (Int.natCast_nonneg j),Jd6 (Int.ofNat_lt.mpr h)]; rfl
theorem jce (pre H T:List (Addr×Obj)) (x:Addr×Obj):(pre++(H++(x::T))).Perm (x::(pre++(H++T))):=by
 rw [<- List.append_assoc,<- List.append_assoc]; exact List.perm_middle
noncomputable def BC.add (σ:BC) (x:Addr×Obj):BC:={ σ with tups:=x::σ.tups }
theorem Fx.absorb {b₀ h:Heap} {L:Addr} {m:Str->Option Value} {pre:List (Addr×Obj)} {P:Params} {C:Addr} {α:BA} {σ:BC} {x:Addr×Obj} (W:Fx b₀ h L m (x::(pre++jak P C α σ))) :
  Fx b₀ h L m (pre++jak P C α (σ.add x)):=W.perm (jce pre [_,_,_,_,_,_,_,_,_,_] σ.tups x)
theorem Ok.add {prog:Program} {w:World} {σ:BC} {B:List Tm} (O:Ok prog w σ B) (x:Addr×Obj):Ok prog w (σ.add x) B where
 nop:=O.nop
 nar:=O.nar
 nso:=O.nso
 nda:=O.nda
 op:=O.op
 ar:=λ i t ht=>let ⟨a,h1,h2⟩:=O.ar i t ht; ⟨a,h1,h2.mono λ U hp=>.tail _ hp⟩
 so:=O.so
 hd:=O.hd
 tl:=O.tl
 nd:=O.nd
 nu:=let ⟨xs,h1,h2,h3,h4⟩:=O.nu; ⟨xs,h1,h2,h3,λ x hx=>let ⟨t,e,hk⟩:=h4 x hx; ⟨t,e,hk.mono λ U hp=>.tail _ hp⟩⟩
noncomputable def jad (B:List Tm) (t:Nat):Op:=match B[t]? with | some x=>x.op | none=>.nil
noncomputable def jaa (B:List Tm) (t:Nat):List Nat:=match B[t]? with | some x=>x.args | none=>[]
theorem jan {B:List Tm} {t:Nat} {x:Tm} (h:B[t]? = some x):jad B t=x.op:=by unfold jad; refine rwr h ?_; rfl
theorem jai {B:List Tm} {t:Nat} {x:Tm} (h:B[t]? = some x):jaa B t=x.args:=by unfold jaa; refine rwr h ?_; rfl
noncomputable def jab (B:List Tm) (t:Nat):Nat×List Tm:=if jad B t=.neg then ((jaa B t).headD 0,B) else if t=1 then (2,B) else if t=2 then (1,B) else mk B ⟨.neg,[t],0⟩
noncomputable def jfF (B:List Tm) (l:List Nat):Nat×List Tm:=match l with | []=>(1,B) | [x]=>(x,B) | l=>mk B ⟨.con,l,0⟩
noncomputable def jmy (B:List Tm) (l:List Nat):Nat×List Tm:=match l with | []=>(2,B) | [x]=>(x,B) | l=>mk B ⟨.dis,l,0⟩
noncomputable def jcP (B:List Tm) (a b:Nat):Nat×List Tm:=if a=b then (1,B) else mk B ⟨.eq,[min a b,max a b],0⟩
end
section
section
variable {prog:Program} {w:World} {A:Around} {E:Value->Shared->Prop} {gs:Array GenState} {dr:Drawn} {os:OsState} {tk:Tok}
 {b₀ h h':Heap} {L d l:Addr} {m:Str->Option Value} {led led':List (Addr×Obj)} {v x:Value} {o o':Obj} {env:Env}
theorem jgt {h h':Heap} (he:Heap.ExtBut h.objs.size h h'):Grow h h':=λ b o e=>he b o (Nat.ne_of_lt (Heap.lt_size e)) e
theorem jdT {M:Model} {s:Shared} {elts k tpos value pos} {n1 n2:Str} {Q:Flow->Shared->Prop}
  (h:wpAny M A (eval value env) (λ v s₁=>wpAny M A (unpackItems v 2 none) (λ items s₂ =>
   wpAny M A (assignInOrder [bindName env n2,bindName env n1] items.reverse) (λ U=>Q .next) E s₂) E s₁) E s)
  (hs:swapsWithSole [.Tuple elts k tpos] value pos.line env=pure false:=by rfl)
  (hw:swappedStores [.Tuple elts k tpos] value env=pure (some [n1,n2]):=by rfl) :
  wpAny M A (exec (.Assign [.Tuple elts k tpos] value pos) env) Q E s:=Assign_Tuple_swapped (names:=[n1,n2]) h hs hw
theorem jmO {vs:List Value} {n:Nat} {Q:List Value->Shared->Prop} (hh:A.handled=none) (W:Fx b₀ h L m led) (hm:(l,ja1 vs)∈led) (k:∀ h',Fx b₀ h' L m led->Q vs ⟨h',gs,dr,tk,os⟩) (hn:n=vs.length:=by rfl) :
  wpAny (model prog w) A (unpackItems (.ref l) n none) Q E ⟨h,gs,dr,tk,os⟩:=by
 subst hn
 have:=unpackItems_tuple (prog:=prog) (w:=w) (A:=A) (E:=E) (s:=⟨h,gs,dr,tk,os⟩) (items:=vs.toArray) (Q:=Q) hh (ja3 W.C hm) λ h' he=>k h' (W.grow (jgt he))
 simpa using this
theorem jgh {M:Model} {s:Shared} {t:Value->Sem Unit} {ts:List (Value->Sem Unit)} {y:Value} {ys:List Value} {Q:Unit->Shared->Prop} (h:wpAny M A (t y) (λ U s'=>wpAny M A (assignInOrder ts ys) Q E s') E s) :
  wpAny M A (assignInOrder (t::ts) (y::ys)) Q E s:=by
 show wpAny M A (do holding ys (t y); assignInOrder ts ys) Q E s
 exact wpAny_bind (wpAny_holding h)
theorem jd9 {M:Model} {s:Shared} {ys:List Value} {Q:Unit->Shared->Prop} (h:Q () s):wpAny M A (assignInOrder [] ys) Q E s:=wpAny_pure h
theorem jcj {M:Model} {s:Shared} {n:Str} {ts:List (Value->Sem Unit)} {y:Value} {ys:List Value} {Q:Unit->Shared->Prop} (h:wpAny M A (storeName env n y) (λ U s'=>wpAny M A (assignInOrder ts ys) Q E s') E s) :
  wpAny M A (assignInOrder (bindName env n::ts) (y::ys)) Q E s:=jgh (bindName_ h)
end
theorem jrh {t n m k:Nat} (h:t<n) (hn:n<=m) (hk:3*m+4<=k):3*t+4<=k:=Ja0 (Jb4 (Jc2 3 (Ja0 (Jb6 h) hn)) 4) hk
structure RA where
 self:Addr
 d:Addr
 kd:Addr
 t:Nat->Tok
 n:Nat
noncomputable abbrev jgX (P:Params) (α:BA) (ρ:RA):List DictEntry:=[ent P "bank" (ρ.t 0) (.ref α.self),ent P "yes" (ρ.t 1) (.int 1 (ρ.t 2)),ent P "no" (ρ.t 3) (.int 2 (ρ.t 4)),ent P "known" (ρ.t 5) (.ref ρ.kd)]
structure HR (P:Params) (C:Addr) (α:BA) (ρ:RA) (led:List (Addr×Obj)):Prop where
 i:(ρ.self,instObj C ρ.d)∈led
 d:(ρ.d,dictOf (jgX P α ρ) ρ.n)∈led
structure Wf (B:List Tm):Prop where
 lt:∀ (i:Nat) (t:Tm),B[i]? = some t->∀ s∈t.args,s<i
 ng:∀ (i:Nat) (t:Tm),B[i]? = some t->t.op=.neg->∃ s,t.args=[s]/\jad B s≠.neg/\s≠1/\s≠2/\t.data=0
 t1:B[1]? = some ⟨.tru,[],0⟩
 t2:B[2]? = some ⟨.fls,[],0⟩
theorem Wf.len {B:List Tm} (w:Wf B):2<B.length:=(Jc0 w.t2).1
theorem jcf {B R:List Tm} {i:Nat} (h:i<B.length):jad (B++R) i=jad B i:=by
 unfold jad; refine rwr (List.getElem?_append_left h) ?_; rfl
theorem jec {B R:List Tm} {i:Nat} (h:i<B.length):jaa (B++R) i=jaa B i:=by
 unfold jaa; refine rwr (List.getElem?_append_left h) ?_; rfl
theorem jkr {B:List Tm} {i:Nat} (h:¬ i<B.length):jad B i=.nil:=by
 unfold jad; refine rwr (List.getElem?_eq_none (Jd2 ‹_›)) ?_; rfl
theorem jaN {B:List Tm} {i:Nat} (h:jad B i≠.nil):i<B.length:=by
 by_cases hi:i<B.length
 ·exact hi
 ·exact absurd (jkr hi) h
noncomputable def Ext (B B':List Tm):Prop:=∃ R,B'=B++R
theorem Ext.refl (B:List Tm):Ext B B:=⟨[],by simp⟩
theorem Ext.trans {a b c:List Tm} (x:Ext a b) (y:Ext b c):Ext a c:=by
 obtain ⟨r,rfl⟩:=x; obtain ⟨r',rfl⟩:=y; exact ⟨r++r',by simp⟩
theorem Ext.len {B B':List Tm} (x:Ext B B'):B.length<=B'.length:=by obtain ⟨r,rfl⟩:=x; simp
theorem Ext.get {B B':List Tm} (x:Ext B B') {i:Nat} {t:Tm} (h:B[i]? = some t):B'[i]? = some t:=by
 obtain ⟨r,rfl⟩:=x; refine rwr (List.getElem?_append_left (Jc0 h).1) ?_; exact h
theorem Ext.op {B B':List Tm} (x:Ext B B') {i:Nat} (h:i<B.length):jad B' i=jad B i:=by obtain ⟨r,rfl⟩:=x; exact jcf h
theorem Ext.args {B B':List Tm} (x:Ext B B') {i:Nat} (h:i<B.length):jaa B' i=jaa B i:=by obtain ⟨r,rfl⟩:=x; exact jec h
theorem ja9 (B:List Tm) (t:Tm):Ext B (mk B t).2:=by
 unfold mk; split
 ·exact Ext.refl B
 ·exact ⟨[t],rfl⟩
theorem jba (B:List Tm) (t:Tm):(mk B t).2[(mk B t).1]? = some t:=by
 unfold mk; split
 ·rename_i h
  show B[B.idxOf t]? = some t
  refine rwr (List.getElem?_eq_getElem (List.idxOf_lt_length_iff.mpr h)) ?_
  rw [List.getElem_idxOf]
 ·simp
theorem jcT (B:List Tm) (t:Tm):(mk B t).1<(mk B t).2.length:=(Jc0 (jba B t)).1
theorem jix (B:List Tm) (t:Tm):(mk B t).2.length<=B.length+1:=by
 unfold mk; split <;> simp
theorem jht {B:List Tm} {t:Tm} (w:Wf B) (ha:∀ s∈t.args,s<B.length) (hn:t.op=.neg->∃ s,t.args=[s]/\jad B s≠.neg/\s≠1/\s≠2/\t.data=0):Wf (mk B t).2:=by
 unfold mk; split
 ·exact w
 ·show Wf (B++[t])
  have hl:=w.len
  refine ⟨λ i u hu s hs=>?_,λ i u hu hop=>?_,?_,?_⟩
  ·rcases jaM hu with h | ⟨rfl,rfl⟩
   ·exact w.lt i u h s hs
   ·exact ha s hs
  ·rcases jaM hu with h | ⟨rfl,rfl⟩
   ·refine jdI (w.ng i u h hop) λ s e1 e2 e3=>?_
    have hs:s<i:=w.lt i u h s (by refine rwr e1 ?_; exact .head _)
    have hi:=(Jc0 h).1
    exact jfE s e1 (by refine rwr (jcf (Jd1 ‹_› ‹_›)) ?_; exact e2) e3
   ·refine jdI (hn hop) λ s e1 e2 e3=>?_
    exact jfE s e1 (by refine rwr (jcf (ha s (by refine rwr e1 ?_; exact .head _))) ?_; exact e2) e3
  ·refine rwr (List.getElem?_append_left (Jb6 ‹_›)) ?_; exact w.t1
  ·refine rwr (List.getElem?_append_left ‹_›) ?_; exact w.t2
noncomputable def jac (B:List Tm) (t:Nat):Nat:=if jad B t=.neg then (jaa B t).headD 0 else t
theorem ja5 {B:List Tm} {t:Nat} (w:Wf B) (h:jad B t=.neg):∃ s,B[t]? = some ⟨.neg,[s],0⟩/\jaa B t=[s]/\s<t/\jad B s≠.neg/\s≠1/\s≠2:=by
 have ht:t<B.length:=jaN (by refine rwr h ?_; exact λ e=>nomatch e)
 have hg:=List.getElem?_eq_getElem ht
 generalize B[t]=x at hg
 rw [jan hg] at h
 refine joW (w.ng t x hg h) λ s e1 e2 e3 e4 e5=>?_
 obtain ⟨o,as,d⟩:=x
 dsimp only at h e1 e5
 subst h e1 e5
 exact jrs s hg (jai hg) (w.lt t _ hg s (.head _)) e2 e3 e4
theorem op1 {B:List Tm} (w:Wf B):jad B 1=.tru:=jan w.t1
theorem op2 {B:List Tm} (w:Wf B):jad B 2=.fls:=jan w.t2
theorem jag (B:List Tm) (t:Nat):Ext B (jab B t).2:=by
 unfold jab; repeat' split
 all_goals first | exact Ext.refl B | exact ja9 B _
theorem jaK (B:List Tm) (t:Nat):(jab B t).2.length<=B.length+1:=by
 unfold jab; repeat' split
 all_goals first | exact Nat.le_succ _ | exact jix B _
theorem jbt {B:List Tm} {t:Nat} (w:Wf B) (ht:t<B.length):Wf (jab B t).2/\(jab B t).1<(jab B t).2.length:=by
 have hl:=w.len
 unfold jab; split
 ·rename_i h
  refine jjo (ja5 w h) λ s U e hs U=>?_
  refine rwr e ?_; exact ⟨w,Jd1 hs ht⟩
 ·rename_i h; split
  ·exact ⟨w,by show 2<B.length; assumption⟩
  ·split
   ·exact ⟨w,by show 1<B.length; exact Jb6 ‹_›⟩
   ·rename_i h1 h2
    exact ⟨jht w (by simpa using ht) λ U=>⟨t,rfl,h,h1,h2,rfl⟩,jcT B _⟩
theorem jjP (B:List Tm) (a b:Nat):Ext B (jcP B a b).2:=by
 unfold jcP; split
 ·exact Ext.refl B
 ·exact ja9 B _
theorem jlY {B:List Tm} {a b:Nat} (w:Wf B) (ha:a<B.length) (hb:b<B.length):Wf (jcP B a b).2/\(jcP B a b).1<(jcP B a b).2.length:=by
 have hl:=w.len
 unfold jcP; split
 ·exact ⟨w,by show 1<B.length; exact Jb6 ‹_›⟩
 ·exact ⟨jht w (λ s hs=>jcK (P:=(· < B.length)) hs (Jb1 (Nat.min_le_left a b) ha) (Nat.max_lt.mpr ⟨ha,hb⟩)) (λ e=>nomatch e),jcT B _⟩
theorem jbM {B:List Tm} {t:Nat} (w:Wf B) (ht:t<B.length):jac B t<B.length:=by
 unfold jac; split
 ·rename_i h
  refine jjo (ja5 w h) λ s U e hs U=>?_
  refine rwr e ?_; exact Jd1 hs ht
 ·exact ht
theorem jbB {B:List Tm} {t:Nat} (h:jad B t=.neg):jab B t=(jac B t,B):=by unfold jab jac; refine rwr (if_pos h) ?_; refine rwr (if_pos h) ?_; rfl
noncomputable def jap (B:List Tm) (a b:Nat):Nat×List Tm :=
 if a=1\/a=2 then (if a=1 then (b,B) else jab B b) else if b=1 then (a,B) else if b=2 then jab B a else jcP B a b
noncomputable def jaG (B:List Tm) (a b:Nat):Nat×List Tm :=
 let p:=jap B (jac B a) (jac B b)
 if decide (jad B a=.neg) != decide (jad B b=.neg) then jab p.2 p.1 else p
theorem jcI {B:List Tm} {a b:Nat} (w:Wf B) (ha:a<B.length) (hb:b<B.length):Wf (jap B a b).2/\(jap B a b).1<(jap B a b).2.length:=by
 unfold jap; repeat' split
 all_goals first | exact ⟨w,ha⟩ | exact ⟨w,hb⟩ | exact jbt w ha | exact jbt w hb | exact jlY w ha hb
theorem jf6 (B:List Tm) (a b:Nat):Ext B (jap B a b).2:=by
 unfold jap; repeat' split
 all_goals first | exact Ext.refl B | exact jag B _ | exact jjP B _ _
theorem jaX (B:List Tm) (a b:Nat):Ext B (jaG B a b).2:=by
 have h:=jf6 B (jac B a) (jac B b)
 unfold jaG; dsimp only; split
 ·exact h.trans (jag _ _)
 ·exact h
end
section
section
variable {prog:Program} {w:World} {A:Around} {E:Value->Shared->Prop} {gs:Array GenState} {dr:Drawn} {os:OsState} {tk:Tok}
 {b₀ h:Heap} {L:Addr} {m:Str->Option Value} {led:List (Addr×Obj)} {env:Env} {target elt iter:Expr} {ifs:List Expr} {scope:Scope} {pos:Pos} {cl:List (Str×Addr)}
noncomputable abbrev jnv (v:Option Value):Obj:={ cls:=.type "cell",data:=.cell v }
noncomputable def jaS (n:Nat):List (Str×NameKind)->List (Addr×Obj)->List (Addr×Obj)
 | [],acc=>acc
 | (_,k)::r,acc=>if k == .cell then jaS (n+1) r ((n,jnv none)::acc) else jaS n r acc
theorem jbl:∀ (names:List (Str×NameKind)) (n:Nat) (acc:List (Addr×Obj)),jaS n names acc=jaS n names []++acc
 | [],_,_=>rfl
 | (_,k)::r,n,acc=>by
  unfold jaS
  split
  ·rw [jbl r]; refine rwr (jbl r (n+1) [_]) ?_; simp
  ·exact jbl r n acc
theorem Fx.cells:∀ (names:List (Str×NameKind)) {h:Heap} {led:List (Addr×Obj)},Fx b₀ h L m led->Fx b₀ (pushCells h names) L m (jaS h.objs.size names led)
 | [],_,_,W=>W
 | (_,k)::r,h,led,W=>by
  unfold jaS pushCells
  split
  ·have:=Fx.cells r (W.push (jnv none))
   rw [Heap.size_push] at this
   exact this
  ·exact Fx.cells r W
noncomputable def jcC (scope:Scope) (cl:List (Str×Addr)) (C:Addr) (env:Env):Env :=
 { scope:=relabel scope env,locals:=C,globals:=env.globals,cells:=cellsFrom (C+1) scope.names cl,qual:=env.qual,func:=none,code:=env.code,frame:=env.frame,builtins:=env.builtins }
theorem nfe {M:Model} {s:Shared} {globals:Addr} {qual:Str} {Q:Env->Shared->Prop}
  (hQ:Q (newEnv scope s.heap.objs.size globals (cellsFrom (s.heap.objs.size+1) scope.names cl) qual none .none (some env) builtinsNs) { s with heap:=pushCells (s.heap.push { cls:=.type "dict",data:=.dict #[] }) scope.names }) :
  wpAny M A (newFunctionEnv scope globals cl [] qual none .none (some env)) Q E s:=by
 dsimp only [newFunctionEnv,Option.isSome_some,if_true]
 refine wpAny_bind (wpAny_alloc ?_)
 refine wpAny_bind (wpAny_layCells _ (λ name kind cells=>by cases hkc:kind == NameKind.cell <;> simp [hkc]) _ _ _ _ ?_)
 rw [Heap.size_push]
 dsimp only [List.forIn_nil]
 exact wpAny_bind (wpAny_pure (wpAny_pure hQ))
theorem jb3 {R:Result->Shared->Prop} {s:Shared} {it acc:Value} {env:Env} (I:Nat->Shared->Prop)
  (turn:∀ n s,I n s->wpAny (model prog w) A (pyNext it) (λ r s₁=>match r with
   | none=>R (.ok .next) s₁
   | some v=>wpAny (model prog w) A (letOwnedTupleGo target it v) (λ U s₁'=>wpAny (model prog w) A (assign target env v) (λ _ s₂ =>
     wpAny (model prog w) A (forIn ifs true λ c r=>if r=true then do let ok <- isTrue c env (eval c env); pure (ForInStep.yield ok) else pure (ForInStep.yield r)) (λ ok s₃ =>
      if ok=true then wpAny (model prog w) A (eval elt env) (λ x s₄ =>
       wpAny (model prog w) A (call (.builtin "list.append") [acc,x]) (λ U s₅=>∃ m,m<n/\I m s₅) (notedBy (model prog w) A env λ e s'=>R (.error e) s') s₄) (notedBy (model prog w) A env λ e s'=>R (.error e) s') s₃
      else ∃ m,m<n/\I m s₃) (notedBy (model prog w) A env λ e s'=>R (.error e) s') s₂) (notedBy (model prog w) A env λ e s'=>R (.error e) s') s₁') (notedBy (model prog w) A env λ e s'=>R (.error e) s') s₁) (notedBy (model prog w) A env λ e s'=>R (.error e) s') s)
  (n:Nat) (h:I n s) :
  codeAny (model prog w) A (.compLoop (.ListComp elt [⟨target,iter,ifs,0⟩] scope pos) 0 it acc env) R s:=by
 refine codeAny_loop rfl I (λ n s hI=>?_) n h
 show wpAny _ A ((compTurn (.ListComp elt [⟨target,iter,ifs,0⟩] scope pos) 0 it acc env).onRaise (λ x=>do noteFrame x env; theTreesLotGoes x)) _ _ s
 refine wpAny_noted ?_
 rw [compTurn_list]
 refine wpAny_bind (wpAny_standAt (wpAny_bind (wpAny_mono (turn n s hI) (λ r s₁ h₁=>?_) λ U U h'=>h')))
 cases r with
 | none=>exact wpAny_pure h₁
 | some v =>
  refine wpAny_bind (wpAny_mono h₁ (λ U s₁' h₁'=>?_) λ U U h'=>h')
  refine wpAny_bind (wpAny_mono h₁' (λ U s₂ h₂=>wpAny_bind (wpAny_mono h₂ (λ ok s₃ h₃=>?_) λ U U h'=>h')) λ U U h'=>h')
  cases ok with
  | false=>exact wpAny_pure ⟨rfl,h₃⟩
  | true =>
   exact wpAny_bind (wpAny_bind (wpAny_mono h₃ (λ x s₄ h₄=>wpAny_bind (wpAny_mono h₄ (λ U s₅ h₅=>wpAny_pure (wpAny_pure ⟨rfl,h₅⟩)) λ U U h'=>h')) λ U U h'=>h'))
noncomputable def CEnd (b₀:Heap) (L C D:Addr) (oL:Obj) (e:Nat) (ys:Array Value) (cadr:List Addr) (gs:Array GenState) (dr:Drawn) (os:OsState) (its:List (Addr×Obj)) (J:List (Addr×Obj)->Prop) (s:Shared):Prop :=
 ∃ h tk m led cells,s=⟨h,gs,dr,tk,os⟩/\Fx b₀ h C m (cells++(D,listOf ys e)::(L,oL)::(its++led))/\cells.map (·.1)=cadr/\(∀ p∈cells,∃ v,p.2.data=.cell v)/\J led
theorem CEnd.intro {C D:Addr} {oL:Obj} {e:Nat} {ys:Array Value} {cadr:List Addr} {its:List (Addr×Obj)} {J:List (Addr×Obj)->Prop} (cells:List (Addr×Obj)) (W:Fx b₀ h C m (cells++(D,listOf ys e)::(L,oL)::(its++led))) (hc:cells.map (·.1)=cadr) (hd:∀ p∈cells,∃ v,p.2.data=.cell v) (j:J led) :
  CEnd b₀ L C D oL e ys cadr gs dr os its J ⟨h,gs,dr,tk,os⟩:=⟨h,tk,m,led,cells,rfl,W,hc,hd,j⟩
theorem jbG:∀ (names:List (Str×NameKind)) (n:Nat),∀ p∈jaS n names [],∃ v,p.2.data=.cell v
 | [],_,p,hp=>(absurd hp Jb2)
 | (_,k)::r,n,p,hp=>by
  dsimp only [jaS] at hp
  split at hp
  ·rw [jbl] at hp
   refine Jc8 (Ja9.mp hp) (λ q=>?_) λ q=>?_
   ·exact jbG r _ p q
   ·refine rwr (Ja2.mp q) ?_; exact ⟨none,rfl⟩
  ·exact jbG r n p hp
theorem Fx.drop {its:List (Addr×Obj)} {wr:List Addr} {h':Heap} (W:Fx b₀ h L m (its++led)) (hm:its.map (·.1)=wr) (hk:∀ b o,b∉wr->h.get? b=some o->h'.get? b=some o):Fx b₀ h' L m led:=by
 refine jbq (W.C.off hm) λ h1 h2 h3=>?_
 have hLw:L∉wr:=λ q=>by
  rw [<- hm] at q
  refine jam (Jb8 q) λ p hp e=>?_
  exact W.nL p (Ja7 _ hp) e
 have hs:b₀.StaysIn h':=λ b o e=>hk b o (λ q=>by have:=jbc (h3 b q); rw [e] at this; exact nomatch this) (W.C.stays b o e)
 have hn:=W.C.nd
 rw [List.map_append,List.nodup_append] at hn
 exact ⟨⟨W.F.ns.at' λ o e=>hk _ o hLw e,hs,W.F.above⟩,⟨hs,λ p hp=>hk _ _ (h1 p hp) (W.C.own p (Ja6 _ hp)),λ p hp=>W.C.new p (Ja6 _ hp),hn.2.1⟩,λ p hp=>W.nL p (Ja6 _ hp)⟩
theorem Fx.block {oL:Obj} (W:Fx b₀ h L m led) (hoL:h.get? L=some oL):Fx b₀ (h.push { cls:=.type "dict",data:=.dict #[] }) h.objs.size (λ U=>none) ((L,oL)::led):=by
 have C:=(W.C.more hoL W.F.above W.nL).grow (Grow.push h { cls:=.type "dict",data:=.dict #[] })
 refine ⟨⟨⟨_,#[],0,Heap.get?_push_size _ rfl,rfl,⟨by simp [StrKeys],λ U=>rfl⟩⟩,C.stays,Jb6 (Jb1 W.F.above W.ltL)⟩,C,λ p hp=>?_⟩
 rcases Ja3.mp hp with rfl | hp
 ·exact Nat.ne_of_lt W.ltL
 ·exact Nat.ne_of_lt (W.C.lt hp)
inductive CSt (b₀:Heap) (L C D:Addr) (wr cs:List Addr) (oL:Obj) (gs:Array GenState) (dr:Drawn) (os:OsState) (J:Nat->Array Value->List (Addr×Obj)->Prop) (S:Nat->Heap->Prop) (n k:Nat):Shared->Prop
 | mk (h':Heap) (tk':Tok) (mC:Str->Option Value) (led' its' cells':List (Addr×Obj)) (ys:Array Value) (e i:Nat) (hs:S i h') (hm:its'.map (·.1)=wr) (hc:cells'.map (·.1)=cs) (hd:∀ p∈cells',∃ v,p.2.data=.cell v)
  (W:Fx b₀ h' C mC (cells'++(D,listOf ys e)::(L,oL)::(its'++led'))) (j:J i ys led') (hi:i<=n) (hk:k=n+1 - i):CSt b₀ L C D wr cs oL gs dr os J S n k ⟨h',gs,dr,tk',os⟩
theorem jpX (cells':List (Addr×Obj)) (x y:Addr×Obj) (a b:List (Addr×Obj)):(a++(cells'++x::y::b)).Perm (cells'++x::y::(a++b)):=by
 have:=List.perm_append_comm_assoc a (cells'++[x,y]) b
 simpa using this
theorem je0 {RR:Value->Addr->Result->Shared->Prop} {src its:List (Addr×Obj)} {P:Nat->Value->Heap->Prop} {n:Nat} {it:Value} (T:Itr prog w A target b₀ L src P n h m its led it) {oL:Obj}
  (hoL:h.get? L=some oL) (hn:n<=16000000)
  (J:Nat->Array Value->List (Addr×Obj)->Prop) (h0:J 0 #[] led) (hJs:∀ i ys led,J i ys led->ys.size<=i/\∀ p∈src,p∈led)
  (turn:∀ C i v ys e D m₁ led₁ its₁ cells₁ h₁ tk₁ (E':Value->Shared->Prop),i<n->P i v h₁->J i ys led₁->its₁.map (·.1)=its.map (·.1)->cells₁.map (·.1)=(jaS (C+1) scope.names []).map (·.1)->(∀ p∈cells₁,∃ v,p.2.data=.cell v) ->
   Fx b₀ h₁ C m₁ (cells₁++(D,listOf ys e)::(L,oL)::(its₁++led₁)) ->
   wpAny (model prog w) A (assign target (jcC scope cl C env) v) (λ _ s₂ =>
     wpAny (model prog w) A (forIn ifs true λ c r=>if r=true then do let ok <- isTrue c (jcC scope cl C env) (eval c (jcC scope cl C env)); pure (ForInStep.yield ok) else pure (ForInStep.yield r)) (λ ok s₃ =>
      if ok=true then wpAny (model prog w) A (eval elt (jcC scope cl C env)) (λ x s₄=>CEnd b₀ L C D oL e ys (cells₁.map (·.1)) gs dr os its₁ (J (i+1) (ys.push x)) s₄) E' s₃
      else CEnd b₀ L C D oL e ys (cells₁.map (·.1)) gs dr os its₁ (J (i+1) ys) s₃) E' s₂) E' ⟨h₁,gs,dr,tk₁,os⟩)
  (fin:∀ C D h' tk' ys e led' mC,Fx b₀ h' C mC ((D,listOf ys e)::(L,oL)::led')->J n ys led'->RR (.ref D) C (.ok .next) ⟨h',gs,dr,tk',os⟩) :
  wpAny (model prog w) A (newList []) (λ acc s₃=>wpAny (model prog w) A (newFunctionEnv scope env.globals cl [] env.qual none .none (some env)) (λ cenv s₄ =>
   codeAny (model prog w) A (.compStart (.ListComp elt [⟨target,iter,ifs,0⟩] scope pos) 0 it acc { cenv with scope:=relabel scope env }) (RR acc cenv.locals) s₄) E s₃) E ⟨h,gs,dr,tk,os⟩:=by
 obtain ⟨⟨I,fp,wr,Md,St,rfl,KT,hex,hm,hsrc,hst,hself,hst'⟩,W⟩:=T
 refine wpAny_newObj_type ?_ (by show ([]:List Value).toArray.size<=sizeLine; exact Nat.zero_le _)
 have W₁:=W.push (listOf ([]:List Value).toArray 0)
 have hoL₁:(h.push (listOf ([]:List Value).toArray 0)).get? L=some oL:=Heap.get?_push_of_some _ hoL
 have g₁:Grow h (h.push (listOf ([]:List Value).toArray 0)):=Grow.push _ _
 have hst₁:St 0 (h.push (listOf ([]:List Value).toArray 0)):=hst' _ λ b U o e=>g₁ b o e
 dsimp only
 have hD:(Value.ref h.objs.size)=.ref h.objs.size:=rfl
 generalize h.objs.size=D at W₁ ⊢
 generalize hH:h.push { cls:=.type "list",data:=.seq ([]:List Value).toArray }=h₁ at W₁ hoL₁ g₁ hst₁ ⊢
 have W₂:=W₁.block hoL₁
 refine nfe ?_
 dsimp only
 have W₃:=Fx.cells scope.names (W₂.perm (List.Perm.swap (L,oL) (D,listOf ([]:List Value).toArray 0) (its++led)))
 rw [Heap.size_push,jbl] at W₃
 replace W₃:=W₃
 have hst₃:St 0 (pushCells (h₁.push { cls:=.type "dict",data:=.dict #[] }) scope.names) :=
  KT.frame _ _ _ hst₁ λ b U o e=>pushCells_keeps scope.names _ b o (Heap.get?_push_of_some _ e)
 generalize hH2:pushCells (h₁.push { cls:=.type "dict",data:=.dict #[] }) scope.names=h₃ at W₃ hst₃ ⊢
 generalize hC:h₁.objs.size=C at W₃ ⊢
 clear hH hH2 hC W₂ W₁ hst₁ g₁ hoL₁
 have loop:∀ s:Shared,s=⟨h₃,gs,dr,tk,os⟩->codeAny (model prog w) A (.compLoop (.ListComp elt [⟨target,iter,ifs,0⟩] scope pos) 0 (.ref I) (.ref D) (jcC scope cl C env)) (RR (.ref D) C) s:=by
  rintro s rfl
  refine jb3
   (CSt b₀ L C D wr ((jaS (C+1) scope.names []).map (·.1)) oL gs dr os J St n) ?_ (n+1)
   (.mk h₃ tk _ led its _ #[] 0 0 hst₃ hm rfl (jbG _ _) W₃ h0 (Nat.zero_le _) rfl)
  intro k s' hs'
  refine hs'.rec λ h' tk' mC led' its' cells' ys e i hst' hm' hc' hd' W' hJ hi hk=>?_
  clear hs'
  subst hk
  have reorder:∀ (a b:List (Addr×Obj)),(a++(cells'++(D,listOf ys e)::(L,oL)::b)).Perm (cells'++(D,listOf ys e)::(L,oL)::(a++b)):=jpX cells' _ _
  refine Jc8 (Jc9 (i<n)) (λ hlt=>?_) λ hlt=>?_
  ·refine KT.item i _ _ _ hlt hst' λ v h₁ tk₁ hMd hk₁=>?_
   refine KT.go i v _ _ _ hMd λ h₂ hP hst₂ hk₂=>?_
   have hm₂:=jcr (hex _ _ hst₂)
   have W₂':=((W'.perm (reorder its' led')).its hm' (λ b o hb e=>hk₂ b o hb (hk₁ b o hb e)) (hex _ _ hst₂)).perm (reorder (jdn h₂ wr) led').symm
   have endst:∀ (h₃:Heap) (tk₃:Nat) (m₃:Str->Option Value) (led₃ cells₃:List (Addr×Obj)) (ys₃:Array Value) (e₃:Nat),Fx b₀ h₃ C m₃ (cells₃++(D,listOf ys₃ e₃)::(L,oL)::(jdn h₂ wr++led₃)) ->
     cells₃.map (·.1)=cells'.map (·.1)->(∀ p∈cells₃,∃ v,p.2.data=.cell v)->J (i+1) ys₃ led₃ ->
     ∃ k',k' < n+1 - i/\CSt b₀ L C D wr ((jaS (C+1) scope.names []).map (·.1)) oL gs dr os J St n k' ⟨h₃,gs,dr,tk₃,os⟩:=by
    intro h₃ tk₃ m₃ led₃ cells₃ ys₃ e₃ W₃ hc₃ hd₃ hJ₃
    refine ⟨n+1 - (i+1),jqf hlt,.mk h₃ tk₃ m₃ led₃ (jdn h₂ wr) cells₃ ys₃ e₃ (i+1) ?_ hm₂ (hc₃.trans hc') hd₃ W₃ hJ₃ hlt rfl⟩
    refine KT.frame _ _ _ hst₂ λ b hb o eo=>?_
    refine Jc8 (Jc9 (b∈wr)) (λ hbw=>?_) λ hbw=>?_
    ·exact W₃.C.own _ (Ja6 _ (.tail _ (.tail _ (Ja7 _ (jfg hbw eo)))))
    ·refine jbh (hsrc b hb hbw) λ o' ho'=>?_
     have e2:=W₂'.C.own _ (Ja6 _ (.tail _ (.tail _ (Ja6 _ ((hJs _ _ _ hJ).2 _ ho')))))
     rw [eo] at e2
     replace e2:=e2
     obtain rfl:=Jb0 e2
     exact W₃.C.own _ (Ja6 _ (.tail _ (.tail _ (Ja6 _ ((hJs _ _ _ hJ₃).2 _ ho')))))
   refine wpAny_mono (turn C i v ys e D mC led' (jdn h₂ wr) cells' h₂ tk₁ _ hlt hP hJ (hm₂.trans hm.symm) hc' hd' W₂') (λ U s₂ x=>wpAny_mono x (λ ok s₃ y=>?_) λ U U e=>e) λ U U e=>e
   cases ok with
   | false =>
    simp only [Bool.false_eq_true,if_false] at y ⊢
    replace y:=y
    refine jqF y λ h₃ tk₃ m₃ led₃ cells₃ e_3 W₃ hc₃ hd₃ hJ₃=>?_
    subst e_3
    exact endst h₃ tk₃ m₃ led₃ cells₃ ys e W₃ hc₃ hd₃ hJ₃
   | true =>
    simp only [if_true] at y ⊢
    refine wpAny_mono y (λ x s₄ z=>?_) λ U U e=>e
    refine jqF z λ h₃ tk₃ m₃ led₃ cells₃ e_4 W₃ hc₃ hd₃ hJ₃=>?_
    subst e_4
    refine jeG W₃ (Pt.app .head) (by have:=(hJs _ _ _ hJ).1; lia) λ h₄ W₄=>?_
    exact endst h₄ tk₃ m₃ led₃ cells₃ (ys.push x) (e+1) W₄ hc₃ hd₃ hJ₃
  ·have hin:i=n:=Nat.le_antisymm ‹_› (Jd2 ‹_›)
   subst hin
   refine KT.done _ _ _ hst' λ h₁ tk₁ hk₁=>?_
   exact fin C D h₁ tk₁ ys e led' mC (((W'.perm (reorder its' led')).drop hm' hk₁).sub (List.sublist_append_right _ _)) hJ
 exact codeAny_compStart_list (loop _ rfl) (hself _ _ _ hst₃ (loop _ rfl))
noncomputable def jkX (o:Obj) (m:Str->Option Value):Prop:=∃ es ep,o.data=.dict es ep/\StrKeys es/\∀ name,nsFind es name=m name
theorem Fx.objMap (W:Fx b₀ h L m led):∃ oL,h.get? L=some oL/\jkX oL m:=let ⟨o,es,ep,ho,hd,hk,hf⟩:=W.F.ns; ⟨o,ho,es,ep,hd,hk,hf⟩
theorem Fx.unblock {C:Addr} {mC:Str->Option Value} {oL:Obj} {h':Heap} {x:Addr×Obj} (W:Fx b₀ h C mC (x::(L,oL)::led)) (hL:b₀.objs.size<=L) (ho:jkX oL m) (hs:Heap.SameBut C h h'):Fx b₀ h' L m (x::led):=by
 refine jci ho λ es ep hd hk hf=>?_
 have keep:∀ p∈x::(L,oL)::led,h'.get? p.1=some p.2:=λ p hp=>(hs.2 _ (W.nL p hp)).trans (W.C.own p hp)
 have st:b₀.StaysIn h':=λ b o e=>(hs.2 b λ q=>by rw [q,(jbc W.F.above)] at e; replace e:=e; replace e:=e; replace e:=e; exact nomatch e).trans (W.C.stays b o e)
 have nd:=W.C.nd
 have hsub:List.Sublist (x::led) (x::(L,oL)::led):=.cons_cons _ (.cons _ (Jd0 _))
 refine ⟨⟨⟨oL,es,ep,keep (L,oL) (.tail _ (.head _)),hd,hk,hf⟩,st,hL⟩,⟨st,λ p hp=>keep p (hsub.subset hp),λ p hp=>W.C.new p (hsub.subset hp),(hsub.map _).nodup nd⟩,λ p hp e=>?_⟩
 simp only [Ja8,Jd9,Ja3,List.mem_map,not_or] at nd
 refine Jc8 (Ja3.mp hp) (λ e_8=>?_) λ hp=>?_
 ·subst e_8; exact nd.1.1 e
 ·exact nd.2.1 ⟨p,hp,e⟩
noncomputable def CAt (prog:Program) (w:World) (A:Around) (E:Value->Shared->Prop) (env:Env) (scope:Scope) (cl:List (Str×Addr)) (elt target iter:Expr) (ifs:List Expr) (pos:Pos) (use:Option (Value->Sem Unit)) (Q:Value->Shared->Prop) (it:Value) (s:Shared):Prop :=
 wpAny (model prog w) A (newList []) (λ acc s₃=>wpAny (model prog w) A (newFunctionEnv scope env.globals cl [] env.qual none .none (some env)) (λ cenv s₄ =>
   codeAny (model prog w) A (.compStart (.ListComp elt [⟨target,iter,ifs,0⟩] scope pos) 0 it acc { cenv with scope:=relabel scope env }) (compPost (model prog w) A E use Q acc cenv.locals) s₄) E s₃) E s
theorem joc {Q:Value->Shared->Prop} {s:Shared} (h:wpAny (model prog w) A (eval iter env) (λ x s₁=>wpAny (model prog w) A (pyIter x) (CAt prog w A E env scope cl elt target iter ifs pos none Q) E s₁) E s)
  (hclos:closureFor scope env=pure cl) (hkind:scope.kind=.function) (hnames:∀ x∈scope.names,x.2=.local->scope.names.lookup x.1=some .local)
  (hs:∀ x,foldedSetIterable iter env x=pure x) :
  wpAny (model prog w) A (eval (.ListComp elt [⟨target,iter,ifs,0⟩] scope pos) env) Q E s:=by
 rw [eval_ListComp]
 exact wpAny_comprehension_free (use:=none) rfl hs hclos hkind hnames h
theorem jhW {src its:List (Addr×Obj)} {P:Nat->Value->Heap->Prop} {n:Nat} {it:Value} {Q:Value->Shared->Prop} (T:Itr prog w A target b₀ L src P n h m its led it) (hn:n<=16000000)
  (J:Nat->Array Value->List (Addr×Obj)->Prop) (h0:J 0 #[] led) (hJs:∀ i ys led,J i ys led->ys.size<=i/\∀ p∈src,p∈led)
  (turn:∀ C i v ys e D oL m₁ led₁ its₁ cells₁ h₁ tk₁ (E':Value->Shared->Prop),i<n->P i v h₁->J i ys led₁->its₁.map (·.1)=its.map (·.1)->cells₁.map (·.1)=(jaS (C+1) scope.names []).map (·.1)->(∀ p∈cells₁,∃ v,p.2.data=.cell v) ->
   Fx b₀ h₁ C m₁ (cells₁++(D,listOf ys e)::(L,oL)::(its₁++led₁)) ->
   wpAny (model prog w) A (assign target (jcC scope cl C env) v) (λ _ s₂ =>
     wpAny (model prog w) A (forIn ifs true λ c r=>if r=true then do let ok <- isTrue c (jcC scope cl C env) (eval c (jcC scope cl C env)); pure (ForInStep.yield ok) else pure (ForInStep.yield r)) (λ ok s₃ =>
      if ok=true then wpAny (model prog w) A (eval elt (jcC scope cl C env)) (λ x s₄=>CEnd b₀ L C D oL e ys (cells₁.map (·.1)) gs dr os its₁ (J (i+1) (ys.push x)) s₄) E' s₃
      else CEnd b₀ L C D oL e ys (cells₁.map (·.1)) gs dr os its₁ (J (i+1) ys) s₃) E' s₂) E' ⟨h₁,gs,dr,tk₁,os⟩)
  (fin:∀ D h' tk' ys e led',Fx b₀ h' L m ((D,listOf ys e)::led')->J n ys led'->Q (.ref D) ⟨h',gs,dr,tk',os⟩) :
  CAt prog w A E env scope cl elt target iter ifs pos none Q it ⟨h,gs,dr,tk,os⟩:=by
 refine jam T.W.objMap λ oL hoL hom=>?_
 refine je0 (RR:=λ acc C=>compPost (model prog w) A E none Q acc C) T hoL hn J h0 hJs (λ C i v ys e D=>turn C i v ys e D oL) ?_
 intro C D h' tk' ys e led' mC W' hJ
 exact ja2 mC W'.F.ns (λ h'' hs''=>fin D h'' tk' ys e led' (W'.unblock T.W.F.above hom hs'') hJ)
theorem jf0 {y:Str} {py spos:Pos} {Q:Flow->Shared->Prop} {s:Shared}
  (h:wpAny (model prog w) A (eval iter env) (λ x s₁=>wpAny (model prog w) A (pyIter x) (CAt prog w A E env scope cl elt target iter ifs pos (some (assign (.Name y py) env)) (λ U s'=>Q .next s')) E s₁) E s)
  (hsw:swapsWith (.ListComp elt [⟨target,iter,ifs,0⟩] scope pos) (some (.Name y py)) spos.line env=pure true)
  (hclos:closureFor scope env=pure cl) (hkind:scope.kind=.function) (hnames:∀ x∈scope.names,x.2=.local->scope.names.lookup x.1=some .local)
  (hs:∀ x,foldedSetIterable iter env x=pure x) :
  wpAny (model prog w) A (exec (.Assign [.Name y py] (.ListComp elt [⟨target,iter,ifs,0⟩] scope pos) spos) env) Q E s:=by
 refine rwr (exec_Assign_Name_used _ _ _ _ hsw) ?_
 refine wpAny_bind (wpAny_standAt (wpAny_bind ?_))
 show wpAny _ A (do let _ <- comprehension (.ListComp elt [⟨target,iter,ifs,0⟩] scope pos) scope env _ (newList []) false (eval iter env) (some (assign (.Name y py) env))) _ _ s
 exact wpAny_bind (wpAny_mono (wpAny_comprehension_free (use:=some (assign (.Name y py) env)) (Q:=λ U s'=>Q .next s') rfl hs hclos hkind hnames h) (λ U s' hq=>wpAny_pure (wpAny_pure hq)) λ U U e=>e)
theorem jfM {src its:List (Addr×Obj)} {P:Nat->Value->Heap->Prop} {n:Nat} {it:Value} {Q:Flow->Shared->Prop} {y:Str} {py:Pos} (T:Itr prog w A target b₀ L src P n h m its led it) (hn:n<=16000000)
  (hL:env.locals=L) (hy:env.kindOf y=some .local) (hp:(env.scope.kind == .class || (env.scope.kind == .module && env.locals != env.globals))=false)
  (J:Nat->Array Value->List (Addr×Obj)->Prop) (h0:J 0 #[] led) (hJs:∀ i ys led,J i ys led->ys.size<=i/\∀ p∈src,p∈led)
  (turn:∀ C i v ys e D oL m₁ led₁ its₁ cells₁ h₁ tk₁ (E':Value->Shared->Prop),i<n->P i v h₁->J i ys led₁->its₁.map (·.1)=its.map (·.1)->cells₁.map (·.1)=(jaS (C+1) scope.names []).map (·.1)->(∀ p∈cells₁,∃ v,p.2.data=.cell v) ->
   Fx b₀ h₁ C m₁ (cells₁++(D,listOf ys e)::(L,oL)::(its₁++led₁)) ->
   wpAny (model prog w) A (assign target (jcC scope cl C env) v) (λ _ s₂ =>
     wpAny (model prog w) A (forIn ifs true λ c r=>if r=true then do let ok <- isTrue c (jcC scope cl C env) (eval c (jcC scope cl C env)); pure (ForInStep.yield ok) else pure (ForInStep.yield r)) (λ ok s₃ =>
      if ok=true then wpAny (model prog w) A (eval elt (jcC scope cl C env)) (λ x s₄=>CEnd b₀ L C D oL e ys (cells₁.map (·.1)) gs dr os its₁ (J (i+1) (ys.push x)) s₄) E' s₃
      else CEnd b₀ L C D oL e ys (cells₁.map (·.1)) gs dr os its₁ (J (i+1) ys) s₃) E' s₂) E' ⟨h₁,gs,dr,tk₁,os⟩)
  (fin:∀ D h' tk' ys e led',Fx b₀ h' L (λ z=>if z=y then some (.ref D) else m z) ((D,listOf ys e)::led')->J n ys led'->Q .next ⟨h',gs,dr,tk',os⟩) :
  CAt prog w A E env scope cl elt target iter ifs pos (some (assign (.Name y py) env)) (λ U s'=>Q .next s') it ⟨h,gs,dr,tk,os⟩:=by
 refine jam T.W.objMap λ oL hoL hom=>?_
 refine je0 (RR:=λ acc C=>compPost (model prog w) A E (some (assign (.Name y py) env)) (λ U s'=>Q .next s') acc C) T hoL hn J h0 hJs (λ C i v ys e D=>turn C i v ys e D oL) ?_
 intro C D h' tk' ys e led' mC W' hJ
 show wpAny _ A (assign (.Name y py) env (.ref D)) _ _ _
 refine jam W'.objMap λ oC hoC hmC=>?_
 refine jam W'.out λ oC' CxC U=>?_
 have:oC'=oC:=by have:=CxC.own _ (.head _); rw [hoC] at this; exact (Jb0 this).symm
 subst this
 have nd:=CxC.nd
 simp only [Ja8,Jd9,Ja3,List.mem_map,not_or] at nd
 replace nd:=nd
 have hsub:List.Sublist ((C,oC')::(D,listOf ys e)::led') ((C,oC')::(D,listOf ys e)::(L,oL)::led'):=.cons_cons _ (.cons_cons _ (.cons _ (Jd0 _)))
 refine jci hom λ es ep hd hk hf=>?_
 have WL:Fx b₀ h' L m ((C,oC')::(D,listOf ys e)::led'):=by
  refine ⟨⟨⟨oL,es,ep,CxC.own (L,oL) (.tail _ (.tail _ (.head _))),hd,hk,hf⟩,CxC.stays,T.W.F.above⟩,CxC.sub (λ U hp=>hsub.subset hp) ((hsub.map _).nodup CxC.nd),λ p hp q=>?_⟩
  rcases Ja3.mp hp with rfl | hp
  ·exact nd.1.2.1 q
  ·rcases Ja3.mp hp with rfl | hp
   ·exact nd.2.1.1 q
   ·exact nd.2.2.1 ⟨p,hp,q⟩
 subst hL
 refine wpAny_assign_Name (wpAny_storeName_local hy WL.F.ns (λ h₂ hn₂ hs₂=>?_) hp)
 have W₂:=WL.names hn₂ hs₂
 refine jci hmC λ es2 ep2 hd2 hk2 hf2=>?_
 have hCL:C≠env.locals:=nd.1.2.1
 refine ja2 mC ⟨oC',es2,ep2,W₂.C.own _ (.head _),hd2,hk2,hf2⟩ (λ h₃ hs₃=>?_)
 refine fin D h₃ _ ys e led' ?_ hJ
 have hCnot:∀ p∈(D,listOf ys e)::led',p.1≠C:=λ p hp q=>by
  rcases Ja3.mp hp with rfl | hp
  ·exact nd.1.1 q.symm
  ·exact nd.1.2.2 ⟨p,hp,q⟩
 have st:b₀.StaysIn h₃:=λ b o x=>(hs₃.2 b λ q=>by rw [q,(W₂.C.fresh (.head _))] at x; exact nomatch x).trans (W₂.C.stays b o x)
 exact ⟨⟨W₂.F.ns.at' λ o x=>(hs₃.2 _ hCL.symm).trans x,st,W₂.F.above⟩,⟨st,λ p hp=>(hs₃.2 _ (hCnot p hp)).trans (W₂.C.own p (.tail _ hp)),λ p hp=>W₂.C.new p (.tail _ hp),((Jd9.mp W₂.C.nd).2)⟩,λ p hp=>W₂.nL p (.tail _ hp)⟩
end
end
section
section
variable {prog:Program} {w:World} {A:Around} {E:Value->Shared->Prop} {K:Frag} {gs:Array GenState} {dr:Drawn} {os:OsState} {tk:Tok}
 {b₀ h:Heap} {L:Addr} {m:Str->Option Value} {led:List (Addr×Obj)}
theorem jeX {cm:Str->Option Value} {cs:List (Str×Addr)} {cells:List (Addr×Obj)} (Y:CellsAre cm cs cells):cells.map (·.1)=cs.map (·.2):=by
 induction Y with
 | nil=>rfl
 | cons _ _ ih=>simp [ih]
theorem jnB {Q:Value->Shared->Prop} {f:Addr} {args:Args} {binds:List (Str×Value)} {name qual:Str} {params:Arguments} {body:List Stmt} {scope:Scope} {dV kV doc pm cdv ct oc:Value} {an od:Option Addr} {osl:Array (Option Value)}
  (X:K.In b₀) (hlim:b₀.NoLimit) (W:Fx b₀ h L m led)
  (ho:K.lookup f=some ⟨oc,od,.func (fnOf name qual params body scope dV kV doc pm an cdv ct),osl⟩) (hcd:codeIn K cdv qual=true) (hroom:A.depth<recursionLimit)
  (hbind:BindsTo ⟨h,gs,dr,tk,os⟩ (fnOf name qual params body scope dV kV doc pm an cdv ct) args ((params.args.map (·.arg)).zip args.pos)) (hbl:(params.args.map (·.arg)).zip args.pos=binds)
  (hkind:(binds.all λ y=>scope.names.lookup y.1 == some .local || scope.names.lookup y.1 == some .cell)=true)
  (hnd:((cellsFrom 0 scope.names []).map (·.1)).Nodup)
  (hb:∀ oL L' h₁ tk₁ cells,Fx b₀ h₁ L' (bindL (envOfC qual scope L' f cdv).kindOf binds λ U=>none) (cells++(L,oL)::led) ->
   CellsAre (bindC (envOfC qual scope L' f cdv).kindOf binds λ U=>none) (cellsFrom (L' + 1) scope.names []) cells ->
   let env:Env:=envX qual scope L' f cdv (cellsFrom (L' + 1) scope.names []); let A':Around:=A.deeper env; wpAny (model prog w) A' (execs body env)
    (λ fl s'=>jnb b₀ L L' m oL gs dr os Q (match fl with | .ret v=>v | _=>.none) s') (λ U U=>False) ⟨h₁,gs,dr,tk₁,os⟩)
  (hco:scope.isCoroutine=false:=by rfl) (hgen:scope.isGenerator=false:=by rfl) (hk:scope.kind=.function:=by rfl) :
  wpAny (model prog w) A (call (.ref f) args.pos args.kw) Q E ⟨h,gs,dr,tk,os⟩:=by
 rw [hbl] at hbind
 refine jam W.out λ oL C back=>?_
 refine wpAny_call (codeAny_call_function (fd:=fnOf name qual params body scope dV kV doc pm an cdv ct) hroom (C.stays _ _ (X _ _ ho)) rfl hco hgen rfl (codeRec_of (X.keeps C.stays) hcd) (hbind _ _ _ _ ?_))
 refine wpAny_newFunctionEnv_cells hk (kindsX hkind _) λ env' he s' x=>?_
 subst he
 refine ⟨(hlim.keeps C.stays).keeps x.toInCall.keep,codeAny_func ?_⟩
 refine jdR x.done λ h₁ tk₁ e_1 U=>?_
 subst e_1
 refine jam (Cl.news (h₀:=h) (Jc4 _) λ n c hm=>⟨x.cell n c (lookup_of_mem_nodup (cellsFrom_names scope.names 0 (h.objs.size+1) [] [] rfl▸hnd) hm),x.above n c hm⟩) λ cells NC Y=>?_
 have C₁:Cx b₀ h₁ ((L,oL)::led):=C.grow (x.toInCall.keep)
 have hbs:b₀.objs.size<=h.objs.size:=Jb6 (Jb1 W.F.above W.ltL)
 have hmap:=jeX Y
 have hab:∀ p∈cells,h.objs.size<p.1:=λ p hp=>by
  have:p.1∈cells.map (·.1):=List.mem_map_of_mem hp
  rw [hmap] at this
  refine jam (Jb8 this) λ q hq e=>?_
  refine rwl e ?_; exact x.above q.1 q.2 hq
 have hndc:(cells.map (·.1)).Nodup:=by
  refine rwr hmap ?_
  rw [List.nodup_iff_pairwise_ne]
  exact List.Pairwise.map _ (λ U U e=>e) x.apart
 have W₁:Fx b₀ h₁ h.objs.size (bindL (envOfC qual scope h.objs.size f cdv).kindOf binds λ U=>none) (cells++(L,oL)::led):=by
  refine ⟨⟨x.toInCall.ns,C₁.stays,hbs⟩,⟨C₁.stays,λ p hp=>?_,λ p hp=>?_,?_⟩,λ p hp=>?_⟩
  ·rcases Ja9.mp hp with q | q
   ·exact (NC p q).1
   ·exact C₁.own p q
  ·refine Jc8 (Ja9.mp hp) (λ q=>?_) λ q=>?_
   ·exact Jb6 (Jb1 hbs (hab p q))
   ·exact C₁.new p q
  ·refine rwr List.map_append ?_
   rw [List.nodup_append]
   refine ⟨hndc,C.nd,λ a ha b hb e=>?_⟩
   refine jam (Jb8 ha) λ p hp e_1=>?_
   subst e_1
   refine jam (Jb8 hb) λ q hq e_3=>?_
   subst e_3
   exact Nat.lt_irrefl _ (Jd1 (e▸hab p hp) (C.lt hq))
  ·rcases Ja9.mp hp with q | q
   ·exact Nat.ne_of_gt (hab p q)
   ·exact Nat.ne_of_lt (C.lt q)
 refine wpAny_mono (hb oL _ h₁ _ cells W₁ Y) (λ fl s' hB=>?_) λ U U e=>e.elim
 refine joY hB λ h₂ tk₂ led₂ m₂ e_4 W₂ k=>?_
 subst e_4
 exact k (back h₂ led₂ W₂.C)
theorem jmI {env:Env} {x:Str} {c:Addr} {o:Obj} {v₀:Option Value} {v:Value} {led':Obj->List (Addr×Obj)} {Q:Unit->Shared->Prop} (W:Fx b₀ h L m led) (hc:env.cells.lookup x=some c) (hm:(c,o)∈led) (hd:o.data=.cell v₀) (p:∀ o',Pt c o o' led (led' o'))
  (k:∀ h' o',Fx b₀ h' L m (led' o')->o'.data=.cell (some v)->Q () ⟨h',gs,dr,tk,os⟩) (hk:env.scope.kind=.function:=by rfl) (hx:env.kindOf x=some .cell:=by rfl) :
  wpAny (model prog w) A (storeName env x v) Q E ⟨h,gs,dr,tk,os⟩:=by
 refine wpAny_storeName_cell hk hx hc ⟨o,W.C.own _ hm,hd⟩ λ h' hv hs=>?_
 refine jam hv λ o' ho' hd'=>?_
 exact k h' o' (W.put (p o') hs ho') hd'
end
end
section
section
variable {prog:Program} {w:World} {A:Around} {E:Value->Shared->Prop} {gs:Array GenState} {dr:Drawn} {os:OsState} {tk:Tok}
 {b₀ h h':Heap} {L d l:Addr} {m:Str->Option Value} {led:List (Addr×Obj)} {v x key:Value} {Q:Value->Shared->Prop} {o o':Obj}
 {K:Type} [DecidableEq K] {knd:KeyKind prog w K} {kvs:List (K×Value)} {k:K}
theorem dictAt (C:Cx b₀ h led) (hm:(d,o)∈led) (hd:o.IsDictOf knd kvs):h.DictOf knd d kvs:=Heap.dictOf_iff.mpr ⟨o,C.own _ hm,hd⟩
theorem jiU {value slice:Expr} (W:Fx b₀ h L m led) (hm:(d,o)∈led) (hd:o.IsDictOf knd kvs) (hkey:knd.is k key=true) (hv:valueAt kvs k=some v) (kk:∀ tk',Q v ⟨h,gs,dr,tk',os⟩)
  (hs:subscripted slice false (.ref d) key=operate [.ref d,key] (getItem (.ref d) key):=by with_unfolding_all rfl) :
  wpAny (model prog w) A (subscriptTail value slice (.ref d) key) Q E ⟨h,gs,dr,tk,os⟩ :=
 have hD:=dictAt W.C hm hd
 tail_any (Heap.DictOf.typeIs (s:=⟨h,gs,dr,tk,os⟩) hD) slot_dict_getitem.lookup (wpAny_getItem_of (s:=⟨h,gs,dr,tk,os⟩) hkey hD.mapOf hv (kk _)) hs
theorem jpP (hlim:b₀.NoLimit) (W:Fx b₀ h L m led) (hm:(d,o)∈led) (hd:o.IsDictOf knd kvs) (hkey:knd.is k key=true) (kk:∀ tk',Q (.bool (valueAt kvs k).isSome) ⟨h,gs,dr,tk',os⟩) :
  wpAny (model prog w) A (compareOp .In key (.ref d)) Q E ⟨h,gs,dr,tk,os⟩ :=
 wpAny_in_of (s:=⟨h,gs,dr,tk,os⟩) hkey (jfl hlim W.C hm) (dictAt W.C hm hd).mapOf (kk _)
theorem jiV (hlim:b₀.NoLimit) (W:Fx b₀ h L m led) (hm:(d,o)∈led) (hd:o.IsDictOf knd kvs) (hkey:knd.is k key=true) (kk:∀ tk',Q (.bool (!(valueAt kvs k).isSome)) ⟨h,gs,dr,tk',os⟩) :
  wpAny (model prog w) A (compareOp .NotIn key (.ref d)) Q E ⟨h,gs,dr,tk,os⟩ :=
 wpAny_notIn_of (s:=⟨h,gs,dr,tk,os⟩) hkey (jfl hlim W.C hm) (dictAt W.C hm hd).mapOf (kk _)
theorem jmN {Q:Unit->Shared->Prop} {led':Obj->List (Addr×Obj)} (W:Fx b₀ h L m led) (p:∀ o',Pt d o o' led (led' o')) (hd:o.IsDictOf knd kvs) (hkey:knd.is k key=true) (hsz:kvs.length<=16777216)
  (kk:∀ h' o' tk',Fx b₀ h' L m (led' o')->o'.IsDictOf knd (stored kvs k v)->Q () ⟨h',gs,dr,tk',os⟩) :
  wpAny (model prog w) A (setItem (.ref d) key v) Q E ⟨h,gs,dr,tk,os⟩:=by
 refine wpAny_setItem_pairs (s:=⟨h,gs,dr,tk,os⟩) hkey (dictAt W.C (p o).mem hd) (λ h' hD hs=>?_) hsz
 refine jam (Heap.dictOf_iff.mp hD) λ o' ho' hd'=>?_
 exact kk h' o' _ (W.put (p o') hs ho') hd'
theorem jfS (knd:KeyKind prog w K):(dictOf [] 0).IsDictOf knd []:=⟨#[],0,⟨rfl,rfl,rfl⟩,rfl,by intro e he; simp at he,.nil,.nil⟩
theorem jld {env:Env} {pos:Pos} (W:Fx b₀ h L m led) (k:∀ x h',Fx b₀ h' L m ((x,dictOf [] 0)::led)->Q (.ref x) ⟨h',gs,dr,tk,os⟩) :
  wpAny (model prog w) A (eval (.Dict [] [] pos) env) Q E ⟨h,gs,dr,tk,os⟩:=wpAny_Dict_empty (k _ _ (W.push _))
end
section
variable {prog:Program} {w:World} {A:Around} {E:Value->Shared->Prop} {gs:Array GenState} {dr:Drawn} {os:OsState} {tk:Tok}
 {b₀ h h':Heap} {L d l:Addr} {m:Str->Option Value} {led:List (Addr×Obj)} {v x key:Value} {Q:Value->Shared->Prop} {o o':Obj}
theorem Fx.more (W:Fx b₀ h L m led) {a:Addr} {o:Obj} (g:Grow h h') (ha:h'.get? a=some o) (hs:h.objs.size<=a):Fx b₀ h' L m ((a,o)::led):=by
 have W':=W.grow g
 refine ⟨W'.F,W'.C.more ha (Ja0 (Jb6 (Jb1 W.F.above W.ltL)) hs) λ p hp=>Nat.ne_of_lt (Ja1 (W.C.lt hp) hs),λ p hp=>?_⟩
 rcases Ja3.mp hp with rfl | hp
 ·exact Nat.ne_of_gt (Ja1 W.ltL hs)
 ·exact W.nL p hp
theorem jmL {vs:List Value} {n:Nat} (e:Value->Bool) (W:Fx b₀ h L m led) (hm:(l,listOf vs.toArray n)∈led) (he:∀ y∈vs,∀ A s,EqAt A s y x (e y)) (k:Q (.bool (!vs.any e)) ⟨h,gs,dr,tk,os⟩) :
  wpAny (model prog w) A (compareOp .NotIn x (.ref l)) Q E ⟨h,gs,dr,tk,os⟩ :=
 notIn_listAt e (jaq W.C hm) (λ y hy=>he y (by simpa using hy) _ _) (by simpa using k)
theorem jqt {vs:List Value} (e:Value->Bool) (W:Fx b₀ h L m led) (hm:(l,ja1 vs)∈led) (he:∀ y∈vs,∀ A s,EqAt A s y x (e y)) (k:Q (.bool (vs.any e)) ⟨h,gs,dr,tk,os⟩) :
  wpAny (model prog w) A (compareOp .In x (.ref l)) Q E ⟨h,gs,dr,tk,os⟩ :=
 in_tupleAt e (ja3 W.C hm) (λ y hy=>he y (by simpa using hy) _ _) (by simpa using k)
end
end
section
section
variable {prog:Program} {w:World} {A:Around} {E:Value->Shared->Prop} {gs:Array GenState} {dr:Drawn} {os:OsState} {tk:Tok}
 {b₀ h h':Heap} {L d l:Addr} {m:Str->Option Value} {led:List (Addr×Obj)} {v x key:Value} {Q:Value->Shared->Prop} {o o':Obj}
noncomputable abbrev jgU (n:Int) (t u v:Tok):Obj:={ cls:=.type "range",data:=.fields #[.int 0 u,.int n t,.int 1 v] }
theorem joe {n:Int} {t:Tok} (W:Fx b₀ h L m led) (k:∀ x h' u v tk',Fx b₀ h' L m ((x,jgU n t u v)::led)->Q (.ref x) ⟨h',gs,dr,tk',os⟩) :
  wpAny (model prog w) A (call (.type "range") [.int n t]) Q E ⟨h,gs,dr,tk,os⟩:=call_range_1 (k _ _ _ _ _ (W.push _))
theorem jii {r:Addr} {n:Nat} {t u v:Tok} {x:Str} {xp:Pos} (hh:A.handled=none) (W:Fx b₀ h L m led) (hm:(r,jgU n t u v)∈led) (hn:(n:Int)<2 ^ 62)
  (k:∀ h' i0 it,Itr prog w A (.Name x xp) b₀ L [] (λ i v U=>i<n/\∃ t,v=.int i t) n h' m [i0] led it->Q it ⟨h',gs,dr,tk,os⟩) :
  wpAny (model prog w) A (pyIter (.ref r)) Q E ⟨h,gs,dr,tk,os⟩:=by
 refine wpAny_pyIter_range (s:=⟨h,gs,dr,tk,os⟩) (W.C.own _ hm) (small_one (by decide) (by decide) (by lia) hn) ?_
 have e:Builtin.Range.rangeSize 0 (n:Int) 1=n:=by rw [rangeSize_one]; split <;> lia
 refine rwr e ?_
 refine k _ (h.objs.size,_) _ (Itr.mk ?_ (W.push _))
 have Wk:=(Walks.range (prog:=prog) (w:=w) hh h.objs.size 0 1 n)
 have Kt0:=KTurns.ofWalks (target:=.Name x xp) Wk λ i v s Q E U q=>jfb q
 have Kt:KTurns prog w A (.Name x xp) h.objs.size [h.objs.size] [h.objs.size] n (λ i v U=>i<n/\∃ t,v=.int i t) (λ i v hp=>i<n/\(∃ t,v=.int (0+i*1) t)/\IsRangeIter hp h.objs.size (0+((i+1:Nat):Int)*1) ((n:Int) - ((i+1:Nat):Int)) 1)
   (λ i h'=>IsRangeIter h' h.objs.size (0+(i:Nat)*1) ((n:Int) - (i:Nat)) 1) :=
  ⟨Kt0.sub,Kt0.frame,λ i s Q E hi st hQ=>Kt0.item i s Q E hi st λ v h' tk md hk=>hQ v h' tk ⟨hi,md⟩ hk,
   λ i v s Q E md hQ=>Kt0.go i v s Q E md.2 λ h' p st hk=>hQ h' ⟨md.1,by refine jbh p λ t e=>?_; exact ⟨t,by refine rwr e ?_; congr 1; lia⟩⟩ st hk,Kt0.done⟩
 have st0:IsRangeIter (h.push { cls:=.type "range_iterator",data:=.fields #[rawInt 0,rawInt (n:Int),rawInt 1] }) h.objs.size (0+((0:Nat):Int)*1) ((n:Int) - ((0:Nat):Int)) 1:=by
  refine rwr (show (0+((0:Nat):Int)*1)=0 from by decide) ?_
  refine rwr (show ((n:Int) - ((0:Nat):Int))=n from by lia) ?_
  exact Heap.get?_push_size _ rfl
 refine ⟨_,_,_,_,_,rfl,Kt,λ i h' st b hb=>?_,rfl,λ b hb hn=>absurd hb hn,st0,λ s Q E st q=>Wk.self 0 s Q E st q,λ h' hk=>Wk.frame 0 _ h' st0 hk⟩
 refine rwr (Ja2.mp hb) ?_
 exact ⟨_,st⟩
theorem Itr.self {src its:List (Addr×Obj)} {P:Nat->Value->Heap->Prop} {n:Nat} {it:Value} {target:Expr} (T:Itr prog w A target b₀ L src P n h m its led it) (k:Q it ⟨h,gs,dr,tk,os⟩):wpAny (model prog w) A (pyIter it) Q E ⟨h,gs,dr,tk,os⟩:=by
 obtain ⟨⟨I,fp,wr,Md,St,rfl,KT,hex,hm,hsrc,hst,hself,_⟩,W⟩:=T
 exact hself ⟨h,gs,dr,tk,os⟩ Q E hst k
theorem jrc {M:Model} {env:Env} {x:Str} {pos:Pos} {Q:Unit->Shared->Prop} (W:Fx b₀ h L m led) (k:∀ h' tk',Fx b₀ h' L (λ y=>if y=x then some v else m y) led->Q () ⟨h',gs,dr,tk',os⟩) (hL:env.locals=L)
  (hx:env.kindOf x=some .local) (hp:(env.scope.kind == .class || (env.scope.kind == .module && env.locals != env.globals))=false):wpAny M A (assign (.Name x pos) env v) Q E ⟨h,gs,dr,tk,os⟩:=wpAny_assign_Name (rSt W k hL hx hp)
theorem jlb {M:Model} {s:Shared} {f:Expr->Bool->Sem (ForInStep Bool)} {Q:Bool->Shared->Prop} (h:Q true s):wpAny M A (forIn ([]:List Expr) true f) Q E s:=wpAny_pure h
end
set_option tactic.hygienic true in
theorem jdw:∀ (n:Nat) {l:List Int},l.Nodup->(∀ x∈l,∃ i:Nat,x=(i:Int)/\i<n)->l.length<=n:=by
 intro n
 induction n with
 | zero =>
  intro l _ h
  cases l with
  | nil=>exact Jc4 _
  | cons a r=>exact jam (h a (.head _)) λ i U hi=>absurd hi (Nat.not_lt_zero i)
 | succ n ih =>
  intro l hn h
  have h1:(l.erase (n:Int)).length<=n:=ih (hn.erase _) λ x hx=>by
   have ⟨ne,hm⟩:=(hn.mem_erase_iff).mp hx
   refine jam (h x hm) λ i e_2 hi=>?_
   subst e_2
   refine ja2 i rfl ?_
   exact Nat.lt_of_le_of_ne (Nat.le_of_lt_succ hi) λ e=>ne (by refine rwr e ?_; rfl)
  refine Jc8 (Jc9 ((n:Int)∈l)) (λ hm=>?_) λ hm=>?_
  ·rw [List.length_erase_of_mem hm] at h1; exact Nat.le_add_of_sub_le h1
  ·rw [List.erase_of_not_mem hm] at h1; exact Jd8 h1
theorem jdP {K:Type} [DecidableEq K] {kvs:List (K×Value)} {k:K} (h:k∈kvs.map (·.1)):∃ v,valueAt kvs k=some v:=by
 refine jam (Jb8 h) λ p hp e_3=>?_
 subst e_3
 unfold valueAt
 cases e:kvs.find? (λ kv=>kv.1=p.1) with
 | some q=>exact ⟨_,rfl⟩
 | none=>exact absurd (Jd6 rfl) (List.find?_eq_none.mp e p hp)
end
section
section
variable {prog:Program} {w:World} {A:Around} {E:Value->Shared->Prop} {gs:Array GenState} {dr:Drawn} {os:OsState} {tk:Tok}
 {b₀ h:Heap} {L:Addr} {m:Str->Option Value} {led:List (Addr×Obj)} {env:Env} {elt iter:Expr} {scope:Scope} {pos:Pos} {cl:List (Str×Addr)} {x:Str} {xp:Pos}
noncomputable def jlx (prog:Program) (w:World) (A:Around) (b₀:Heap) (L:Addr) (env:Env) (scope:Scope) (cl:List (Str×Addr)) (x:Str) (xp:Pos) (elt:Expr) (gs:Array GenState) (dr:Drawn) (os:OsState) (P:Nat->Value->Prop) (n:Nat) (J:Nat->Array Value->List (Addr×Obj)->Prop):Prop :=
 ∀ C i v ys e D oL m₁ led₁ it₁ cells₁ h₁ tk₁ (E':Value->Shared->Prop),i<n->P i v->J i ys led₁->cells₁.map (·.1)=(jaS (C+1) scope.names []).map (·.1)->(∀ p∈cells₁,∃ v,p.2.data=.cell v) ->
   Fx b₀ h₁ C m₁ (cells₁++(D,listOf ys e)::(L,oL)::it₁::led₁) ->
   wpAny (model prog w) A (assign (.Name x xp) (jcC scope cl C env) v) (λ _ s₂ =>
     wpAny (model prog w) A (eval elt (jcC scope cl C env)) (λ x s₄=>CEnd b₀ L C D oL e ys (cells₁.map (·.1)) gs dr os [it₁] (J (i+1) (ys.push x)) s₄) E' s₂) E' ⟨h₁,gs,dr,tk₁,os⟩
theorem jhx {its:List (Addr×Obj)} {a:Addr×Obj} (e:its.map (·.1)=[a].map (·.1)):∃ i,its=[i]:=by
 cases its with
 | nil=>simp at e
 | cons b r=>cases r with
  | nil=>exact ⟨b,rfl⟩
  | cons c r=>simp at e
theorem jpc {src:List (Addr×Obj)} {i0:Addr×Obj} {P:Nat->Value->Prop} {n:Nat} {it:Value} {Q:Value->Shared->Prop} (T:Itr prog w A (.Name x xp) b₀ L src (λ i v U=>P i v) n h m [i0] led it) (hn:n<=16000000)
  (J:Nat->Array Value->List (Addr×Obj)->Prop) (h0:J 0 #[] led) (hJs:∀ i ys led,J i ys led->ys.size<=i/\∀ p∈src,p∈led)
  (turn:jlx prog w A b₀ L env scope cl x xp elt gs dr os P n J)
  (fin:∀ D h' tk' ys e led',Fx b₀ h' L m ((D,listOf ys e)::led')->J n ys led'->Q (.ref D) ⟨h',gs,dr,tk',os⟩) :
  CAt prog w A E env scope cl elt (.Name x xp) iter [] pos none Q it ⟨h,gs,dr,tk,os⟩:=by
 refine jhW T hn J h0 hJs (λ C i v ys e D oL m₁ led₁ its₁ cells₁ h₁ tk₁ E' hi hP hJ hits hc hd W=>?_) fin
 obtain ⟨i1,rfl⟩:=jhx hits
 refine wpAny_mono (turn C i v ys e D oL m₁ led₁ i1 cells₁ h₁ tk₁ E' hi hP hJ hc hd (by simpa using W)) (λ U s₂ y=>?_) λ U U e=>e
 refine jlb ?_
 refine rwr (if_pos rfl) ?_
 exact y
theorem jhX {t:Addr} {vs:Array Value} {e:Nat} {Q:Value->Shared->Prop} (hh:A.handled=none) (W:Fx b₀ h L m led) (hm:(t,listOf vs e)∈led) (hn:vs.size<=16000000)
  (J:Nat->Array Value->List (Addr×Obj)->Prop) (h0:J 0 #[] led) (hJs:∀ i ys led,J i ys led->ys.size<=i/\(t,listOf vs e)∈led)
  (turn:jlx prog w A b₀ L env scope cl x xp elt gs dr os (λ i v=>vs[i]? = some v) vs.size J)
  (fin:∀ D h' tk' ys e led',Fx b₀ h' L m ((D,listOf ys e)::led')->J vs.size ys led'->Q (.ref D) ⟨h',gs,dr,tk',os⟩) :
  wpAny (model prog w) A (pyIter (.ref t)) (CAt prog w A E env scope cl elt (.Name x xp) iter [] pos none Q) E ⟨h,gs,dr,tk,os⟩ :=
 jgC (x:=x) (xp:=xp) hh W hm λ U U U T=>jpc T hn J h0 (λ i ys led j=>⟨(hJs i ys led j).1,λ p hp=>by refine rwr (Ja2.mp hp) ?_; exact (hJs i ys led j).2⟩) turn fin
noncomputable def FixJ (led:List (Addr×Obj)) (R:Nat->Value->Prop) (i:Nat) (ys:Array Value) (led':List (Addr×Obj)):Prop:=led'=led/\ys.size=i/\∀ j,j<i->∃ y,ys[j]? = some y/\R j y
theorem FixJ.push {R:Nat->Value->Prop} {i:Nat} {ys:Array Value} {led':List (Addr×Obj)} {y:Value} (x:FixJ led R i ys led') (h:R i y):FixJ led R (i+1) (ys.push y) led':=by
 refine ⟨x.1,by simp [x.2.1],λ j hj=>?_⟩
 by_cases e:j=i
 ·subst e; exact ⟨y,by rw [Array.getElem?_push,if_pos x.2.1.symm],h⟩
 ·refine jam (x.2.2 j (Nat.lt_of_le_of_ne (Nat.le_of_lt_succ ‹_›) ‹_›)) λ z h1 h2=>?_
  exact ⟨z,by refine rwr (Array.getElem?_push) ?_; refine rwr (if_neg (by refine rwr x.2.1 ?_; exact e)) ?_; exact h1,h2⟩
theorem FixJ.zero {R:Nat->Value->Prop}:FixJ led R 0 #[] led:=⟨rfl,rfl,λ j hj=>absurd hj (Nat.not_lt_zero _)⟩
theorem jek {t:Addr} {vs:Array Value} {e:Nat} {Q:Value->Shared->Prop} (R:Nat->Value->Prop) (hh:A.handled=none) (W:Fx b₀ h L m led) (hm:(t,listOf vs e)∈led) (hn:vs.size<=16000000)
  (turn:jlx prog w A b₀ L env scope cl x xp elt gs dr os (λ i v=>vs[i]? = some v) vs.size (FixJ led R))
  (fin:∀ D h' tk' ys e,Fx b₀ h' L m ((D,listOf ys e)::led)->FixJ led R vs.size ys led->Q (.ref D) ⟨h',gs,dr,tk',os⟩) :
  wpAny (model prog w) A (pyIter (.ref t)) (CAt prog w A E env scope cl elt (.Name x xp) iter [] pos none Q) E ⟨h,gs,dr,tk,os⟩ :=
 jhX hh W hm hn (FixJ led R) .zero (λ i ys led' j=>⟨Jb7 j.2.1,j.1▸hm⟩) turn λ D h' tk' ys e led' W' j=>by
  have:=j.1; subst this; exact fin D h' tk' ys e W' j
end
end
section
noncomputable def Carry {α:Type} (V:α->Value->Prop) (xs:List α) (vs:List Value):Prop:=vs.length=xs.length/\∀ (i:Nat) (x:α) (v:Value),xs[i]? = some x->vs[i]? = some v->V x v
noncomputable def jp9 (x:Nat) (v:Value):Prop:=∃ t,v=.int (x:Int) t
noncomputable def jd8 {α:Type} [DecidableEq α] (V:α->Value->Prop):Prop:=∀ x y a b,V x a->V y b->∀ A s,EqAt A s a b (decide (x=y))
theorem jiA:jd8 jp9:=by
 rintro x y _ _ ⟨t,rfl⟩ ⟨u,rfl⟩ A s
 have:=EqAt.int_int (A:=A) (s:=s) (x:Int) t (y:Int) u
 have e:((x:Int) == (y:Int))=decide (x=y):=by
  by_cases h:x=y
  ·subst h; simp
  ·have h2:¬ ((x:Int)=y):=λ e=>h (Int.ofNat.inj e)
   refine rwr (beq_eq_false_iff_ne.mpr h2) ?_; simp [h]
 rwa [e] at this
theorem Carry.nats {vs:List Value} {l:List Nat} (h:IntsAre vs (l.map λ n:Nat=>(n:Int))):Carry jp9 l vs:=by
 refine ⟨by rw [jcq h,Jc6],λ i x v h1 h2=>?_⟩
 refine jdR (jbU h h2) λ n t e_1 h3=>?_
 subst e_1
 rw [List.getElem?_map,h1] at h3
 exact ⟨t,by refine rwl (Jb0 h3) ?_; rfl⟩
theorem jkY {α:Type} [DecidableEq α] {xs ys:List α} (h:xs.length=ys.length):(List.range xs.length).all (λ j=>decide (xs[j]? = ys[j]?))=decide (xs=ys):=by
 refine Jc8 (Jc9 (xs=ys)) (λ e=>?_) λ e=>?_
 ·subst e; simp
 ·refine rwr (decide_eq_false e) ?_
  rw [Bool.eq_false_iff]
  intro hall
  apply e
  apply List.ext_getElem?
  intro i
  refine Jc8 (Jc9 (i<xs.length)) (λ hi=>?_) λ hi=>?_
  ·have:=List.all_eq_true.mp hall i (List.mem_range.mpr hi)
   exact of_decide_eq_true this
  ·refine rwr (List.getElem?_eq_none (Jd2 ‹_›)) ?_
   refine rwr (List.getElem?_eq_none (by lia)) ?_
   rfl
section
variable {prog:Program} {w:World} {A:Around} {E:Value->Shared->Prop} {gs:Array GenState} {dr:Drawn} {os:OsState} {tk:Tok}
 {b₀ h:Heap} {L a b:Addr} {m:Str->Option Value} {led:List (Addr×Obj)} {Q:Value->Shared->Prop} {α:Type} [DecidableEq α] {V:α->Value->Prop} {xs ys:List α} {vs us:List Value} {n1 n2:Nat}
theorem jk1 (hV:jd8 V) (hx:Carry V xs vs) (hy:Carry V ys us) (hl:xs.length=ys.length) {A:Around} {s:Shared} (j:Nat) (h1:j<vs.toArray.size) (h2:j<us.toArray.size):EqAt A s vs.toArray[j] us.toArray[j] (decide (xs[j]? = ys[j]?)):=by
 simp only [Jc5] at h1 h2
 have l1:j<xs.length:=by refine rwl hx.1 ?_; exact h1
 have l2:j<ys.length:=by refine rwl hy.1 ?_; exact h2
 have:=hV xs[j] ys[j] vs[j] us[j] (hx.2 j _ _ (List.getElem?_eq_getElem l1) (List.getElem?_eq_getElem h1)) (hy.2 j _ _ (List.getElem?_eq_getElem l2) (List.getElem?_eq_getElem h2)) A s
 refine rwr (List.getElem?_eq_getElem l1) ?_
 refine rwr (List.getElem?_eq_getElem l2) ?_
 refine rwr (show decide (some xs[j]=some ys[j])=decide (xs[j]=ys[j]) from by simp) ?_
 simpa using this
theorem jrd (hV:jd8 V) (W:Fx b₀ h L m led) (ha:(a,listOf vs.toArray n1)∈led) (hb:(b,listOf us.toArray n2)∈led) (hx:Carry V xs vs) (hy:Carry V ys us) (hu:A.units<cLine) (k:Q (.bool (decide (xs=ys))) ⟨h,gs,dr,tk,os⟩) :
  wpAny (model prog w) A (compareOp .Eq (.ref a) (.ref b)) Q E ⟨h,gs,dr,tk,os⟩:=by
 by_cases hl:xs.length=ys.length
 ·refine eq_listAt (e:=λ j=>decide (xs[j]? = ys[j]?)) (jaq W.C ha) (jaq W.C hb) (by simp [hx.1,hy.1,hl]) hu (λ j h1 h2=>jk1 hV hx hy hl j h1 h2) ?_
  refine rwr Jc5 ?_; refine rwr hx.1 ?_; refine rwr (jkY hl) ?_; exact k
 ·refine eq_list_lengthsAt (jaq W.C ha) (jaq W.C hb) (by simp [hx.1,hy.1,hl]) hu ?_
  rw [decide_eq_false λ e=>hl (by refine rwr e ?_; rfl)] at k; exact k
theorem jre (hV:jd8 V) (W:Fx b₀ h L m led) (ha:(a,listOf vs.toArray n1)∈led) (hb:(b,listOf us.toArray n2)∈led) (hx:Carry V xs vs) (hy:Carry V ys us) (hu:A.units<cLine) (k:Q (.bool (decide (xs≠ys))) ⟨h,gs,dr,tk,os⟩) :
  wpAny (model prog w) A (compareOp .NotEq (.ref a) (.ref b)) Q E ⟨h,gs,dr,tk,os⟩:=by
 by_cases hl:xs.length=ys.length
 ·refine RcNeAt.lists (e:=λ j=>decide (xs[j]? = ys[j]?)) (jaq W.C ha) (jaq W.C hb) (by simp [hx.1,hy.1,hl]) hu (λ j h1 h2=>jk1 hV hx hy hl j h1 h2) prog w E Q ?_
  refine rwr Jc5 ?_
  refine rwr hx.1 ?_
  refine rwr (jkY hl) ?_
  by_cases e:xs=ys
  ·simpa [e] using k
  ·simpa [e] using k
 ·refine RcNeAt.lists_lengths (jaq W.C ha) (jaq W.C hb) (by simp [hx.1,hy.1,hl]) hu prog w E Q ?_
  have e:¬ xs=ys:=λ e=>hl (by refine rwr e ?_; rfl)
  simpa [e] using k
end
end
section
section
variable {prog:Program} {w:World} {A:Around} {E:Value->Shared->Prop} {gs:Array GenState} {dr:Drawn} {os:OsState} {tk:Tok}
 {b₀ h:Heap} {L:Addr} {m:Str->Option Value} {led:List (Addr×Obj)} {env:Env} {elt iter target:Expr} {scope:Scope} {pos:Pos} {cl:List (Str×Addr)}
theorem job {elts:List Expr} {kk:Nat} {tpos:Pos} {T:Addr} {items:Array Value} {Q:Unit->Shared->Prop} (hh:A.handled=none) (W:Fx b₀ h L m led) (ht:h.IsTuple T items)
  (k:∀ h',Fx b₀ h' L m led->wpAny (model prog w) A (assignInOrder ((assignEach elts env).map (·.2)) items.toList) Q E ⟨h',gs,dr,tk,os⟩)
  (hn:(assignEach elts env).length=items.size) (hstar:(assignEach elts env).findIdx? (·.1)=none) :
  wpAny (model prog w) A (assign (.Tuple elts kk tpos) env (.ref T)) Q E ⟨h,gs,dr,tk,os⟩ :=
 assign_Tuple_tuple hh ht hn hstar λ h' he=>k h' (W.grow (jgt he))
end
end
section
noncomputable def jeK (o:Op) (some:List Bool):Bool :=
 match o with
 | .tru=>true
 | .neg=>!some.getD 0 false
 | .con=>!some.any (· == false)
 | .dis=>some.any (· == true)
 | .xr=>some.getD 0 false != some.getD 1 false
 | .eq=>some.getD 0 false == some.getD 1 false
 | .imp=>some.getD 1 false || !some.getD 0 false
 | .ite=>if some.getD 0 false then some.getD 1 false else some.getD 2 false
 | _=>false
noncomputable def jbL (o:Op) (n:Nat):Bool :=
 match o with
 | .neg=>n == 1
 | .xr | .eq | .imp=>n == 2
 | .ite=>n == 3
 | .con | .dis=>2<=n
 | _=>n == 0
theorem jlc (a:Op) (b:Op) (x:Str) (e:x=b.str):(a.str == x)=decide (a=b):=by
 subst e
 by_cases h:a=b
 ·subst h; simp
 ·refine rwr (beq_eq_false_iff_ne.mpr (λ e=>h (Op.str_inj e))) ?_; simp [h]
noncomputable def jnh (u:Nat) (acc:List Bool) (t:Tm):Bool:=if t.op=.app then u / 2 ^ t.data % 2 == 1 else jeK t.op (t.args.map λ s=>acc.getD s false)
noncomputable def jjf (B:List Tm) (u:Nat):List Bool:=B.foldl (λ acc t=>acc++[jnh u acc t]) []
noncomputable def jae (B:List Tm) (u i:Nat):Bool:=(jjf B u).getD i false
theorem jgb (B:List Tm) (t:Tm) (u:Nat):jjf (B++[t]) u=jjf B u++[jnh u (jjf B u) t]:=by simp [jjf]
theorem jfA (u:Nat):∀ (R:List Tm) (acc:List Bool),∃ r,R.foldl (λ acc t=>acc++[jnh u acc t]) acc=acc++r/\r.length=R.length:=by
 intro R
 induction R with
 | nil =>
  intro acc
  exact ⟨[],by simp,rfl⟩
 | cons t R ih =>
  intro acc
  refine jam (ih (acc++[jnh u acc t])) λ r e hl=>?_
  exact ⟨jnh u acc t::r,by refine rwr List.foldl_cons ?_; refine rwr e ?_; simp,by simp [hl]⟩
theorem jeM (B:List Tm) (u:Nat):(jjf B u).length=B.length:=by
 refine jam (jfA u B []) λ r e hl=>?_
 unfold jjf; refine rwr e ?_; simpa using hl
theorem jkQ (B R:List Tm) (u:Nat):∃ r,jjf (B++R) u=jjf B u++r:=by
 refine jam (jfA u R (jjf B u)) λ r e U=>?_
 exact ⟨r,by unfold jjf at e ⊢; refine rwr List.foldl_append ?_; exact e⟩
theorem jbo {B B':List Tm} (x:Ext B B') {i:Nat} (h:i<B.length) (u:Nat):jae B' u i=jae B u i:=by
 obtain ⟨R,rfl⟩:=x
 obtain ⟨r,e⟩:=jkQ B R u
 unfold jae
 refine rwr e ?_
 refine rwr (List.getD_eq_getElem?_getD) ?_
 refine rwr (List.getD_eq_getElem?_getD) ?_
 refine rwr (List.getElem?_append_left (by rw [jeM]; exact h)) ?_
 rfl
theorem jbS {B:List Tm} (w:Wf B) {i:Nat} {t:Tm} (h:B[i]? = some t) (u:Nat):jae B u i=if t.op=.app then u / 2 ^ t.data % 2 == 1 else jeK t.op (t.args.map λ s=>jae B u s):=by
 refine jbh (Jc0 h) λ hi e=>?_
 have e1:B=B.take i++t::B.drop (i+1):=by refine rwl e ?_; simp
 have e2:B=(B.take i++[t])++B.drop (i+1):=by rw [List.append_assoc]; exact e1
 have hl:(B.take i).length=i:=by simp; lia
 have x0:Ext (B.take i) B:=⟨_,e1⟩
 rw [jbo (⟨_,e2⟩) (by refine rwr Jd3 ?_; refine rwr hl ?_; exact Jd5 i)]
 unfold jae
 rw [jgb]
 refine rwr (List.getD_eq_getElem?_getD) ?_
 refine rwr (List.getElem?_append_right (by rw [jeM]; refine rwr hl ?_; exact Jc4 _)) ?_
 rw [jeM]
 refine rwr hl ?_
 simp only [Nat.sub_self,List.getElem?_cons_zero,Option.getD_some,jnh]
 split
 ·rfl
 ·congr 1
  refine List.map_congr_left λ s hs=>?_
  have:s<i:=w.lt i t h s hs
  exact (jbo x0 (by refine rwr hl ?_; exact this) u).symm
theorem jbj {B:List Tm} (w:Wf B) {i:Nat} (h:i<B.length) (ha:jad B i≠.app) (u:Nat):jae B u i=jeK (jad B i) ((jaa B i).map λ s=>jae B u s):=by
 have hx:=List.getElem?_eq_getElem h
 rw [jan hx] at ha ⊢
 refine rwr (jai hx) ?_
 refine rwr (jbS w hx u) ?_
 refine rwr (if_neg ha) ?_
 rfl
theorem jaL {B:List Tm} (w:Wf B) {i s:Nat} (hs:s∈jaa B i):s<i:=by
 refine Jc8 (Jc9 (i<B.length)) (λ h=>?_) λ h=>?_
 ·have hx:=List.getElem?_eq_getElem h
  rw [jai hx] at hs
  exact w.lt i _ hx s hs
 ·dsimp only [jaa] at hs; rw [List.getElem?_eq_none (Jd2 ‹_›)] at hs; simp at hs
end
section
structure Wn (B:List Tm):Prop where
 wf:Wf B
 nd:B.Nodup
theorem jc3 {B:List Tm} (h:B.Nodup) {i j:Nat} {t:Tm} (hi:B[i]? = some t) (hj:B[j]? = some t):i=j :=
 (List.getElem?_inj (Jc0 hi).1 h).mp (hi.trans hj.symm)
noncomputable def Neg (B:List Tm) (x y:Nat):Prop:=(x=1/\y=2)\/(x=2/\y=1)\/B[y]? = some ⟨.neg,[x],0⟩\/B[x]? = some ⟨.neg,[y],0⟩
theorem Neg.symm {B:List Tm} {x y:Nat} (h:Neg B x y):Neg B y x:=by
 rcases h with ⟨a,b⟩ | ⟨a,b⟩ | h | h
 ·exact .inr (.inl ⟨b,a⟩)
 ·exact .inl ⟨b,a⟩
 ·exact .inr (.inr (.inr h))
 ·exact .inr (.inr (.inl h))
theorem jaI {B:List Tm} (w:Wf B) {i s:Nat} (h:B[i]? = some ⟨.neg,[s],0⟩):s<i/\jad B s≠.neg/\s≠1/\s≠2/\i≠1/\i≠2/\jad B i=.neg:=by
 refine joW (w.ng i _ h rfl) λ s' e1 e2 e3 e4 U=>?_
 have e1':s'=s:=by have:=e1; simp only [List.cons.injEq,and_true] at this; replace this:=this; exact this.symm
 subst e1'
 refine ⟨w.lt i _ h s' (.head _),e2,e3,e4,?_,?_,jan h⟩
 ·rintro rfl; rw [w.t1] at h; exact nomatch h
 ·rintro rfl; rw [w.t2] at h; replace h:=h; exact nomatch h
theorem Neg.fun {B:List Tm} (w:Wn B) {x y z:Nat} (h:Neg B x y) (g:Neg B x z):y=z:=by
 rcases h with ⟨a,b⟩ | ⟨a,b⟩ | h | h <;> rcases g with ⟨c,d⟩ | ⟨c,d⟩ | g | g
 ·lia
 ·lia
 ·exact absurd a (jaI w.wf g).2.2.1
 ·exact absurd a (jaI w.wf g).2.2.2.2.1
 ·lia
 ·lia
 ·exact absurd a (jaI w.wf g).2.2.2.1
 ·exact absurd a (jaI w.wf g).2.2.2.2.2.1
 ·exact absurd c (jaI w.wf h).2.2.1
 ·exact absurd c (jaI w.wf h).2.2.2.1
 ·exact jc3 w.nd h g
 ·exact absurd (jaI w.wf g).2.2.2.2.2.2 (jaI w.wf h).2.1
 ·exact absurd c (jaI w.wf h).2.2.2.2.1
 ·exact absurd c (jaI w.wf h).2.2.2.2.2.1
 ·exact absurd (jaI w.wf h).2.2.2.2.2.2 (jaI w.wf g).2.1
 ·rw [h] at g; simpa using g
theorem jaW {B Bf:List Tm} (w:Wf B) {t:Nat} (ht:t<B.length) (x:Ext (jab B t).2 Bf):Neg Bf t (jab B t).1:=by
 unfold jab at x ⊢
 split at x
 ·rename_i h
  rw [if_pos h]
  refine jdI (ja5 w h) λ s e1 e2 U=>?_
  refine rwr e2 ?_
  exact .inr (.inr (.inr (x.get e1)))
 ·rename_i h
  rw [if_neg h]
  split at x
  ·rename_i h1; rw [if_pos h1]; exact .inl ⟨h1,rfl⟩
  ·rename_i h1
   rw [if_neg h1]
   split at x
   ·rename_i h2; rw [if_pos h2]; exact .inr (.inl ⟨h2,rfl⟩)
   ·rename_i h2; rw [if_neg h2]; exact .inr (.inr (.inl (x.get (jba B _))))
noncomputable def gnd (B:List Tm) (t:Nat):Nat:=if t=2 then 1 else jac B t
noncomputable def sgn (B:List Tm) (t:Nat):Bool:=decide (t=2) || decide (jad B t=.neg)
theorem jib {B:List Tm} (w:Wf B) (t:Nat):if sgn B t then Neg B (gnd B t) t else gnd B t=t:=by
 unfold sgn gnd
 by_cases h2:t=2
 ·subst h2; simp only [decide_true,Bool.true_or,if_true]; exact .inl ⟨rfl,rfl⟩
 ·by_cases hn:jad B t=.neg
  ·refine jdI (ja5 w hn) λ s e1 e2 U=>?_
   simp only [h2,hn,decide_true,Bool.or_true,if_true,if_false]
   have:jac B t=s:=by unfold jac; refine rwr (if_pos hn) ?_; refine rwr e2 ?_; rfl
   refine rwr this ?_; exact .inr (.inr (.inl e1))
  ·simp only [h2,hn,decide_false,Bool.or_false,Bool.false_eq_true,if_false]
   unfold jac; refine rwr (if_neg hn) ?_; rfl
theorem jhf {B:List Tm} (w:Wf B) {x y:Nat} (h:Neg B x y):gnd B y=gnd B x/\sgn B y=!sgn B x:=by
 have t1:=op1 w
 have t2:=op2 w
 have hb:∀ {i s:Nat},B[i]? = some ⟨.neg,[s],0⟩->jac B i=s:=λ {i s} hi=>by unfold jac; refine rwr (if_pos (jan hi)) ?_; refine rwr (jai hi) ?_; rfl
 have hp:∀ {i s:Nat},B[i]? = some ⟨.neg,[s],0⟩->gnd B i=s/\gnd B s=s/\sgn B i=true/\sgn B s=false:=λ {i s} hi=>by
  refine jrl (jaI w hi) λ a1 a2 a3 a4 a5 a6 a7=>?_
  refine ⟨?_,?_,?_,?_⟩
  ·unfold gnd; refine rwr (if_neg a6) ?_; refine rwr (hb hi) ?_; rfl
  ·unfold gnd jac; refine rwr (if_neg a4) ?_; refine rwr (if_neg a2) ?_; rfl
  ·unfold sgn; refine rwr a7 ?_; simp
  ·unfold sgn; simp [a4,a2]
 rcases h with ⟨rfl,rfl⟩ | ⟨rfl,rfl⟩ | h | h
 ·unfold gnd sgn jac; simp [t1,t2]
 ·unfold gnd sgn jac; simp [t1,t2]
 ·refine jcV (hp h) λ a b c d=>?_; exact ⟨by rw [a,b],by refine rwr c ?_; refine rwr d ?_; rfl⟩
 ·refine jcV (hp h) λ a b c d=>?_; exact ⟨by rw [a,b],by refine rwr c ?_; refine rwr d ?_; rfl⟩
noncomputable def Mid (B:List Tm) (x y m:Nat):Prop :=
 if x=1 then m=y else if y=1 then m=x else if x=y then m=1 else B[m]? = some ⟨.eq,[min x y,max x y],0⟩
theorem Mid.fun {B:List Tm} (w:Wn B) {x y m n:Nat} (h:Mid B x y m) (g:Mid B x y n):m=n:=by
 dsimp only [Mid] at h g
 split at h
 ·rename_i q; rw [if_pos q] at g; replace g:=g; replace g:=g; lia
 ·rename_i q; rw [if_neg q] at g; replace g:=g
  split at h
  ·rename_i q; rw [if_pos q] at g; replace g:=g; replace g:=g; lia
  ·rename_i q; rw [if_neg q] at g; replace g:=g
   split at h
   ·rename_i q; rw [if_pos q] at g; lia
   ·rename_i q; rw [if_neg q] at g; exact jc3 w.nd h g
theorem Mid.symm {B:List Tm} {x y m:Nat} (h:Mid B x y m):Mid B y x m:=by
 dsimp only [Mid] at h ⊢
 refine Jc8 (Jc9 (x=1)) (λ h1=>?_) λ h1=>?_
 ·rw [if_pos h1] at h; subst h1
  refine Jc8 (Jc9 (y=1)) (λ h2=>?_) λ h2=>?_
  ·refine rwr (if_pos h2) ?_; lia
  ·refine rwr (if_neg h2) ?_; refine rwr (if_pos rfl) ?_; exact h
 ·rw [if_neg h1] at h
  by_cases h2:y=1
  ·rw [if_pos h2] at h ⊢; replace h:=h; exact h
  ·rw [if_neg h2] at h ⊢
   refine rwr (if_neg h1) ?_
   by_cases h3:x=y
   ·rw [if_pos h3] at h; refine rwr (if_pos h3.symm) ?_; exact h
   ·rw [if_neg h3] at h; refine rwr (if_neg λ e=>h3 e.symm) ?_; rw [Nat.min_comm,Nat.max_comm]; exact h
noncomputable def Same (B:List Tm) (a b r:Nat):Prop:=∃ m,Mid B (gnd B a) (gnd B b) m/\if sgn B a != sgn B b then Neg B m r else m=r
theorem Same.symm {B:List Tm} {a b r:Nat} (h:Same B a b r):Same B b a r:=by
 refine jam h λ m h1 h2=>?_
 refine ja2 m h1.symm ?_
 have e:(sgn B b != sgn B a)=(sgn B a != sgn B b):=by cases sgn B a <;> cases sgn B b <;> rfl
 refine rwr e ?_; exact h2
theorem Same.neg1 {B:List Tm} (w:Wn B) {a a' b r q:Nat} (n:Neg B a a') (h:Same B a b r) (g:Same B a' b q):Neg B r q:=by
 obtain ⟨m,h1,h2⟩:=h
 obtain ⟨k,g1,g2⟩:=g
 obtain ⟨e1,e2⟩:=jhf w.wf n
 rw [e1] at g1
 replace g1:=g1
 have e:=h1.fun w g1
 subst e
 rw [e2] at g2
 cases hs:(sgn B a != sgn B b) with
 | true =>
  rw [hs] at h2
  have:((!sgn B a) != sgn B b)=false:=by revert hs; cases sgn B a <;> cases sgn B b <;> decide
  rw [this] at g2
  simp only [if_true,Bool.false_eq_true,if_false] at h2 g2
  subst g2; exact h2.symm
 | false =>
  rw [hs] at h2
  have:((!sgn B a) != sgn B b)=true:=by revert hs; cases sgn B a <;> cases sgn B b <;> decide
  rw [this] at g2
  simp only [if_true,Bool.false_eq_true,if_false] at h2 g2
  subst h2; exact g2
theorem jkl (B:List Tm):Neg B 1 2:=.inl ⟨rfl,rfl⟩
theorem jh6 {B Bf:List Tm} (x:Ext B Bf) {t:Nat} (h:t<B.length):gnd Bf t=gnd B t/\sgn Bf t=sgn B t:=by
 unfold gnd sgn jac; refine rwr (x.op h) ?_; refine rwr (x.args h) ?_; exact ⟨rfl,rfl⟩
theorem jgm {B:List Tm} (w:Wf B) (t:Nat):(jac B t=1->t=1)/\(jac B t=2->t=2):=by
 unfold jac
 by_cases h:jad B t=.neg
 ·refine jqC (ja5 w h) λ s e1 e2 U U e5 e6=>?_
  refine rwr (if_pos h) ?_
  refine rwr e2 ?_
  exact ⟨λ e=>absurd e e5,λ e=>absurd e e6⟩
 ·refine rwr (if_neg h) ?_; exact ⟨id,id⟩
theorem jbn {B Bf:List Tm} (w:Wf B) (wn:Wn Bf) {a b:Nat} (ha:a<B.length) (hb:b<B.length) (x:Ext (jaG B a b).2 Bf):Same Bf a b (jaG B a b).1:=by
 have x0:Ext B Bf:=(jaX B a b).trans x
 obtain ⟨ga,sa⟩:=jh6 x0 ha
 obtain ⟨gb,sb⟩:=jh6 x0 hb
 have la:=jbM w ha
 have lb:=jbM w hb
 obtain ⟨oa1,oa2⟩:=jgm w a
 obtain ⟨ob1,ob2⟩:=jgm w b
 have t1:=op1 w
 have t2:=op2 w
 obtain ⟨wp,hp⟩:=jcI w la lb
 have fin:∀ m,Mid Bf (gnd Bf a) (gnd Bf b) m->∀ (z:Bool),(sgn Bf a != sgn Bf b)=(z != (decide (jad B a=.neg) != decide (jad B b=.neg))) ->
   (if z then Neg Bf m (jap B (jac B a) (jac B b)).1 else m=(jap B (jac B a) (jac B b)).1)->Same Bf a b (jaG B a b).1:=by
  intro m hm z hz hq
  refine ja2 m hm ?_
  refine rwr hz ?_
  unfold jaG at x ⊢
  dsimp only at x ⊢
  cases hr:(decide (jad B a=.neg) != decide (jad B b=.neg)) with
  | true =>
   rw [if_pos hr] at x
   refine rwr (if_pos rfl) ?_
   have hn:=jaW wp hp x
   cases z with
   | true =>
    simp only [if_true,bne_self_eq_false,Bool.false_eq_true,if_false] at hq ⊢
    exact (hq.symm.fun wn hn)
   | false =>
    simp only [Bool.false_eq_true,if_false,Bool.false_bne,if_true] at hq ⊢
    refine rwr hq ?_; exact hn
  | false =>
   rw [if_neg (by refine rwr hr ?_; exact Bool.false_ne_true)] at x
   replace x:=x
   rw [if_neg Bool.false_ne_true]
   cases z with
   | true =>
    simp only [if_true,Bool.true_bne,Bool.not_false] at hq ⊢
    exact hq
   | false =>
    simp only [Bool.false_eq_true,if_false,bne_self_eq_false] at hq ⊢
    exact hq
 have xm:Ext (jap B (jac B a) (jac B b)).2 Bf:=by
  refine Ext.trans ?_ x
  unfold jaG; dsimp only
  refine itg (λ q_10=>?_) λ q_11=>?_
  ·exact jag _ _
  ·exact Ext.refl _
 have sgnB:∀ t,t≠2->sgn B t=decide (jad B t=.neg):=λ t h=>by unfold sgn; simp [h]
 have gndB:∀ t,t≠2->gnd B t=jac B t:=λ t h=>by unfold gnd; refine rwr (if_neg h) ?_; rfl
 have s2:sgn B 2=true:=by unfold sgn; rfl
 have g2:gnd B 2=1:=by unfold gnd; rfl
 have b2:jac B 2=2:=by unfold jac; simp [t2]
 by_cases a2:a=2
 ·subst a2
  rw [b2] at fin xm
  have e1:jap B 2 (jac B b)=jab B (jac B b):=by unfold jap; refine rwr (if_pos (.inr rfl)) ?_; refine rwr (if_neg (by decide)) ?_; rfl
  rw [e1] at fin xm
  replace fin:=fin
  replace xm:=xm
  have hn:=jaW w lb xm
  by_cases b2':b=2
  ·subst b2'
   rw [b2] at fin hn
   refine fin 1 ?_ false ?_ ?_
   ·refine rwr ga ?_; refine rwr g2 ?_; unfold Mid; refine rwr (if_pos rfl) ?_; rfl
   ·simp
   ·simp only [Bool.false_eq_true,if_false]
    exact (hn.fun wn (jkl Bf).symm).symm
  ·refine fin (jac B b) ?_ true ?_ ?_
   ·refine rwr ga ?_; refine rwr gb ?_; refine rwr g2 ?_; refine rwr (gndB b b2') ?_; unfold Mid; refine rwr (if_pos rfl) ?_; rfl
   ·refine rwr sa ?_; refine rwr sb ?_; refine rwr s2 ?_; refine rwr (sgnB b b2') ?_; refine rwr t2 ?_; simp
   ·simpa using hn
 ·by_cases b2':b=2
  ·subst b2'
   rw [b2] at fin xm
   by_cases a1:jac B a=1
   ·have e1:jap B (jac B a) 2=(2,B):=by unfold jap; refine rwr (if_pos (.inl a1)) ?_; refine rwr (if_pos a1) ?_; rfl
    rw [e1] at fin
    replace fin:=fin
    refine fin 1 ?_ true ?_ ?_
    ·refine rwr ga ?_; refine rwr gb ?_; refine rwr g2 ?_; refine rwr (gndB a a2) ?_; refine rwr a1 ?_; unfold Mid; refine rwr (if_pos rfl) ?_; rfl
    ·refine rwr sa ?_; refine rwr sb ?_; refine rwr s2 ?_; refine rwr (sgnB a a2) ?_; refine rwr t2 ?_; cases decide (jad B a=.neg) <;> rfl
    ·simpa using jkl Bf
   ·have e1:jap B (jac B a) 2=jab B (jac B a):=by
     unfold jap; refine rwr (if_neg (by rintro (h | h); exact a1 h; exact a2 (oa2 h))) ?_; refine rwr (if_neg (by decide)) ?_; refine rwr (if_pos rfl) ?_; rfl
    rw [e1] at fin xm
    replace fin:=fin
    replace xm:=xm
    refine fin (jac B a) ?_ true ?_ ?_
    ·refine rwr ga ?_; refine rwr gb ?_; refine rwr g2 ?_; refine rwr (gndB a a2) ?_; unfold Mid; refine rwr (if_neg a1) ?_; refine rwr (if_pos rfl) ?_; rfl
    ·refine rwr sa ?_; refine rwr sb ?_; refine rwr s2 ?_; refine rwr (sgnB a a2) ?_; refine rwr t2 ?_; cases decide (jad B a=.neg) <;> rfl
    ·simpa using (jaW w la xm)
  ·have hs:(sgn Bf a != sgn Bf b)=(false != (decide (jad B a=.neg) != decide (jad B b=.neg))):=by refine rwr sa ?_; refine rwr sb ?_; refine rwr (sgnB a a2) ?_; refine rwr (sgnB b b2') ?_; simp
   by_cases a1:jac B a=1
   ·have e1:jap B (jac B a) (jac B b)=(jac B b,B):=by unfold jap; refine rwr (if_pos (.inl a1)) ?_; refine rwr (if_pos a1) ?_; rfl
    rw [e1] at fin
    replace fin:=fin
    refine fin (jac B b) ?_ false hs (by rfl)
    refine rwr ga ?_; refine rwr gb ?_; refine rwr (gndB a a2) ?_; refine rwr (gndB b b2') ?_; unfold Mid; refine rwr (if_pos a1) ?_; rfl
   ·by_cases b1:jac B b=1
    ·have e1:jap B (jac B a) (jac B b)=(jac B a,B):=by
      unfold jap; refine rwr (if_neg (by rintro (h | h); exact a1 h; exact a2 (oa2 h))) ?_; refine rwr (if_pos b1) ?_; rfl
     rw [e1] at fin
     refine fin (jac B a) ?_ false hs (by rfl)
     refine rwr ga ?_; refine rwr gb ?_; refine rwr (gndB a a2) ?_; refine rwr (gndB b b2') ?_; unfold Mid; refine rwr (if_neg a1) ?_; refine rwr (if_pos b1) ?_; rfl
    ·have e1:jap B (jac B a) (jac B b)=jcP B (jac B a) (jac B b):=by
      unfold jap; refine rwr (if_neg (by rintro (h | h); exact a1 h; exact a2 (oa2 h))) ?_; refine rwr (if_neg b1) ?_; refine rwr (if_neg λ h=>b2' (ob2 h)) ?_; rfl
     rw [e1] at fin xm
     refine fin (jcP B (jac B a) (jac B b)).1 ?_ false hs (rfl)
     refine rwr ga ?_; refine rwr gb ?_; refine rwr (gndB a a2) ?_; refine rwr (gndB b b2') ?_; unfold Mid; refine rwr (if_neg a1) ?_; refine rwr (if_neg b1) ?_
     unfold jcP at xm ⊢
     by_cases hab:jac B a=jac B b
     ·refine rwr (if_pos hab) ?_
      refine rwr (if_pos hab) ?_
      rfl
     ·rw [if_neg hab] at xm ⊢
      refine rwr (if_neg hab) ?_
      exact xm.get (jba B _)
end
section
theorem jpD {B:List Tm} {t:Tm} (h:B.Nodup):(mk B t).2.Nodup:=by
 unfold mk; split
 ·exact h
 ·rename_i hn
  show (B++[t]).Nodup
  rw [List.nodup_append]
  exact ⟨h,by simp,λ a ha b hb e=>hn (by rw [Ja2] at hb; refine rwl hb ?_; refine rwl e ?_; exact ha)⟩
theorem jkP {B:List Tm} (w:Wf B) (u:Nat):jae B u 1=true/\jae B u 2=false:=by
 have h:=w.len
 rw [jbj w (Jb6 ‹_›) (by refine rwr (op1 w) ?_; exact λ e=>nomatch e),jbj w ‹_› (by refine rwr (op2 w) ?_; exact λ e=>nomatch e)]
 refine rwr (op1 w) ?_
 refine rwr (op2 w) ?_
 exact ⟨rfl,rfl⟩
theorem jd5 {B:List Tm} (w:Wf B) (u:Nat) {y x:Nat} (h:B[y]? = some ⟨.neg,[x],0⟩):jae B u y=!jae B u x:=by
 refine rwr (jbS w h u) ?_; rfl
theorem Neg.val {B:List Tm} (w:Wf B) (u:Nat) {x y:Nat} (h:Neg B x y):jae B u y=!jae B u x:=by
 refine jbi (jkP w u) λ v1 v2=>?_
 rcases h with ⟨rfl,rfl⟩ | ⟨rfl,rfl⟩ | h | h
 ·refine rwr v1 ?_; refine rwr v2 ?_; rfl
 ·refine rwr v1 ?_; refine rwr v2 ?_; rfl
 ·exact jd5 w u h
 ·refine rwr (jd5 w u h) ?_; simp
theorem Mid.val {B:List Tm} (w:Wf B) (u:Nat) {x y m:Nat} (h:Mid B x y m):jae B u m=(jae B u x == jae B u y):=by
 refine jbi (jkP w u) λ v1 v2=>?_
 unfold Mid at h
 split at h
 ·rename_i q; subst q h; refine rwr v1 ?_; simp
 ·split at h
  ·rename_i q; subst q h; refine rwr v1 ?_; simp
  ·split at h
   ·rename_i q; subst q h; refine rwr v1 ?_; simp
   ·refine rwr (jbS w h u) ?_
    dsimp only [reduceCtorEq,if_false,jeK,Ja8,List.map_nil,List.getD_cons_zero,List.getD_cons_succ]
    refine Jc8 (Nat.le_total x y) (λ g=>?_) λ g=>?_
    ·refine rwr (Nat.min_eq_left g) ?_
     refine rwr (Nat.max_eq_right g) ?_
     rfl
    ·refine rwr (Nat.min_eq_right g) ?_; refine rwr (Nat.max_eq_left g) ?_; exact Bool.beq_comm
theorem jic {B:List Tm} (w:Wf B) (u t:Nat):jae B u t=(jae B u (gnd B t) != sgn B t):=by
 have h:=jib w t
 cases hs:sgn B t with
 | true=>rw [hs] at h; simp only [if_true] at h; refine rwr (Neg.val w u h) ?_; cases jae B u (gnd B t) <;> rfl
 | false=>rw [hs] at h; simp only [Bool.false_eq_true,if_false] at h; refine rwr h ?_; cases jae B u t <;> rfl
theorem Same.val {B:List Tm} (w:Wf B) (u:Nat) {a b r:Nat} (h:Same B a b r):jae B u r=(jae B u a == jae B u b):=by
 refine jam h λ m h1 h2=>?_
 have hm:=h1.val w u
 refine rwr (jic w u a) ?_
 refine rwr (jic w u b) ?_
 generalize jae B u (gnd B a)=p at hm ⊢
 generalize jae B u (gnd B b)=q at hm ⊢
 cases sa:sgn B a <;> cases sb:sgn B b <;> rw [sa,sb] at h2 ; replace h2:=h2<;> simp at h2
 ·refine rwl h2 ?_; refine rwr hm ?_; cases p <;> cases q <;> rfl
 ·refine rwr (Neg.val w u h2) ?_; refine rwr hm ?_; cases p <;> cases q <;> rfl
 ·refine rwr (Neg.val w u h2) ?_; refine rwr hm ?_; cases p <;> cases q <;> rfl
 ·refine rwl h2 ?_; refine rwr hm ?_; cases p <;> cases q <;> rfl
end
section
theorem Rm.under {A:Around} {k:Nat} {C:Addr} {pos:List Value} {kw:List (Str×Value)} (r:Rm A (k+1)):Rm (A.under (.builtin "type.__call__" ⟨.ref C::pos,kw⟩)) k :=
 ⟨r.hh,by have:=r.dp; show A.depth+_+k<1000; refine rwr (show (Code.builtin "type.__call__" ⟨.ref C::pos,kw⟩).weight=1 from by kernel_rfl) ?_; exact Jb1 (Jb7 (Nat.add_right_comm A.depth 1 k)) this,by have:=r.un; show A.units+_+8*k<9900; refine rwr (show (Code.builtin "type.__call__" ⟨.ref C::pos,kw⟩).cUnits=1 from by kernel_rfl) ?_; exact Jb1 (jox A.units k 1 (by decide)) this⟩
section
variable {prog:Program} {w:World} {A:Around} {E:Value->Shared->Prop} {K:Frag} {gs:Array GenState} {dr:Drawn} {os:OsState} {tk:Tok}
 {b₀ h:Heap} {L:Addr} {m:Str->Option Value} {led led':List (Addr×Obj)}
theorem jk0 {R:Result->Shared->Prop} {f:Addr} {args:Args} {binds:List (Str×Value)} {name qual:Str} {params:Arguments} {body:List Stmt} {scope:Scope} {dV kV doc pm cdv ct oc:Value} {an od:Option Addr} {osl:Array (Option Value)}
  (X:K.In b₀) (hlim:b₀.NoLimit) (W:Fx b₀ h L m led)
  (ho:K.lookup f=some ⟨oc,od,.func (fnOf name qual params body scope dV kV doc pm an cdv ct),osl⟩) (hcd:codeIn K cdv qual=true) (hroom:A.depth<recursionLimit)
  (hbind:BindsTo ⟨h,gs,dr,tk,os⟩ (fnOf name qual params body scope dV kV doc pm an cdv ct) args ((params.args.map (·.arg)).zip args.pos)) (hbl:(params.args.map (·.arg)).zip args.pos=binds)
  (hloc:∀ y∈binds,scope.names.lookup y.1=some .local)
  (hb:∀ oL L' h₁ tk₁,Fx b₀ h₁ L' (λ y=>binds.reverse.lookup y) ((L,oL)::led) ->
   let env:Env:=envX qual scope L' f cdv []; let A':Around:=A.deeper env; wpAny (model prog w) A' (execs body env)
    (λ fl s'=>jnb b₀ L L' m oL gs dr os (λ v s=>R (.ok (.ret v)) s) (match fl with | .ret v=>v | _=>.none) s') (λ U U=>False) ⟨h₁,gs,dr,tk₁,os⟩)
  (hco:scope.isCoroutine=false:=by rfl) (hgen:scope.isGenerator=false:=by rfl) (hk:scope.kind=.function:=by rfl)
  (hcell:∀ x∈scope.names,x.2≠.cell:=by decide) :
  codeAny (model prog w) A (.call (.ref f) args) R ⟨h,gs,dr,tk,os⟩:=by
 rw [hbl] at hbind
 refine jam W.out λ oL C back=>?_
 refine codeAny_call_def (fd:=fnOf name qual params body scope dV kV doc pm an cdv ct) (body:=body) (binds:=binds) hroom (C.stays _ _ (X _ _ ho)) rfl (hlim.keeps C.stays) (codeRec_of (X.keeps C.stays) hcd) rfl hbind hcell hloc (λ h₁ hns hk₁=>?_) hco hgen hk
 have C₁:Cx b₀ h₁ ((L,oL)::led):=C.grow hk₁
 refine wpAny_mono (hb oL _ h₁ _ (⟨⟨hns,C₁.stays,Jb6 (Jb1 W.F.above W.ltL)⟩,C₁,λ p hp=>Nat.ne_of_lt (C.lt hp)⟩)) (λ fl s' hB=>?_) λ U U e=>e.elim
 refine joY hB λ h₂ tk₂ led₂ m₂ e_1 W₂ k=>?_
 subst e_1
 exact k (back h₂ led₂ W₂.C)
theorem jqu {C fI:Addr} {pos:List Value} {Q:Value->Shared->Prop} (W:Fx b₀ h L m led) (X:K.In b₀) (hne:led≠[]) (hm:makesIn K C=true) (hi:findIn K (.ref C) "__init__" = some (some (.ref fI))) (hf:isFn K (.ref fI)=true)
  (k:∀ x dx h',Fx b₀ h' L m ((x,instObj C dx)::(dx,dictOf [] 0)::led) ->
   codeAny (model prog w) (A.under (.builtin "type.__call__" ⟨.ref C::pos,[]⟩)) (.call (.ref fI) ⟨.ref x::pos,[]⟩) (InitBack x λ r s'=>match r with | .ok (.ret v)=>Q v s' | .ok _=>False | .error e=>E e s') ⟨h',gs,dr,tk,os⟩) :
  wpAny (model prog w) A (call (.ref C) pos []) Q E ⟨h,gs,dr,tk,os⟩:=by
 refine call_cls (s:=⟨h,gs,dr,tk,os⟩) W.F X W.N hm hi hf λ x dx h' F' N' hlt hdx=>k x dx h' ?_
 refine jbh (List.exists_mem_of_ne_nil led hne) λ p₀ hp₀=>?_
 have hb:b₀.objs.size<=dx:=Jb6 (Jb1 (W.C.new _ hp₀) (hlt _ hp₀))
 refine ⟨F',⟨F'.keep,λ p hp=>(N' p hp).1,λ p hp=>?_,?_⟩,λ p hp=>(N' p hp).2.1⟩
 ·rcases Ja3.mp hp with rfl | hp
  ·exact Jb6 (Jb1 hb hdx)
  ·refine Jc8 (Ja3.mp hp) (λ e_3=>?_) λ hp=>?_
   ·subst e_3; exact hb
   ·exact W.C.new p hp
 ·simp only [Ja8,Jd9,Ja3,List.mem_map,not_or,not_exists,not_and]
  exact ⟨⟨Nat.ne_of_gt hdx,λ p hp e=>Nat.lt_irrefl _ (Jd1 hdx (e▸hlt p hp))⟩,λ p hp e=>Nat.lt_irrefl _ (e▸hlt p hp),W.C.nd⟩
theorem jje {d:Addr} {o o':Obj} {l l':List (Addr×Obj)} (x:Pt d o o' l l') (hn:(l.map (·.1)).Nodup):Upd d o o' l l':=by
 induction x with
 | head =>
  refine .head λ p hp e=>?_
  exact (Jd9.mp hn).1 (Jb9 ⟨p,hp,e⟩)
 | tail x ih =>
  refine .tail (λ e=>?_) (ih (Jd9.mp hn).2)
  exact (Jd9.mp hn).1 (Jb9 ⟨_,x.mem,e.symm⟩)
theorem jn9 {d:Addr} {o o':Obj} {l l':List (Addr×Obj)} (x:Pt d o o' l l'):l'.map (·.1)=l.map (·.1):=by
 induction x with
 | head=>rfl
 | tail _ ih=>simp [ih]
theorem jmM {x C dx:Addr} {name:Str} {v:Value} {es es':List DictEntry} {n n':Nat} {Q:Unit->Shared->Prop} (W:Fx b₀ h L m led) (X:K.In b₀) (hi:(x,instObj C dx)∈led) (hd:(dx,dictOf es n)∈led)
  (hs:findIn K (.ref C) "__setattr__" = some (some (.builtin "object.__setattr__"))) (hp:plainOver K C=true) (ht:takerIn K C name=some none) (hh:hasDictIn K C=true) (hl:(getL name es).isSome=true)
  (e:(putL name (PyData.keyHash w.params name) (.str name (tk+1)) v es,putN name es n)=(es',n')) (p:Pt dx (dictOf es n) (dictOf es' n') led led') (hz:es'.length<=1000)
  (k:∀ h',Fx b₀ h' L m led'->Q () ⟨h',gs,dr,tk+2,os⟩) :
  wpAny (model prog w) A (setAttr (.ref x) name v) Q E ⟨h,gs,dr,tk,os⟩:=by
 refine set_dict (s:=⟨h,gs,dr,tk,os⟩) W.F X W.N (_root_.PySem.W.InstAt.of_news W.N hi hd) rfl hs hp ht hh hl e (jje p W.C.nd) hz λ h' F' N'=>k h' ?_
 have em:=jn9 p
 refine ⟨F',⟨F'.keep,λ q hq=>(N' q hq).1,λ q hq=>?_,by refine rwr em ?_; exact W.C.nd⟩,λ q hq=>(N' q hq).2.1⟩
 have:q.1∈led.map (·.1):=by refine rwl em ?_; exact List.mem_map_of_mem hq
 refine jam (Jb8 this) λ q' hq' e'=>?_
 refine rwl e' ?_; exact W.C.new q' hq'
end
end
section
theorem jdO:typeLookup (.type "list") "keys" = pure none:=by rw [typeLookup_type]; refine rwr builtinLookup_eq_fast ?_; kernel_rfl
theorem je3:entryFor table "dict.update.loop" = some Builtin.«dict.update.loop»:=entryFor_of_tree (by kernel_rfl)
theorem jj6 {prog:Program} {w:World} {A:Around} {E:Value->Shared->Prop} {s:Shared} {a:Addr} {xs:Array Value} {k:Nat} {sl:Array (Option Value)} {Q:Option Value->Shared->Prop}
  (hx:s.heap.get? a=some { cls:=.type "list",dict:=none,data:=.seq xs k,slots:=sl }) (hA:A.handled=none)
  (h:∀ h' tk,Grow s.heap h'->Q none { s with heap:=h',toks:=tk }):wpAny (model prog w) A (getAttr? (.ref a) "keys") Q E s:=by
 obtain ⟨hp,g,d,tk,os⟩:=s
 have hT:∀ tk',(⟨hp,g,d,tk',os⟩:Shared).TypeIs (.ref a) "list" := λ U=>⟨_,hx,rfl⟩
 have f1:=sub_AttributeError
 have f3:=PySem.F.slot_list_getattribute.lookup
 have f4:=PySem.F.slot_list_getattribute.bind (.ref a)
 have f5:=am_list_getattr_none
 unfold getAttr? getAttrBy? getAttrBy
 repeat (any_goals (first | assumption | exact hT _ | ((with_reducible show wpAny _ _ (call (Value.builtin "list.__getattribute__") _ _) _ _ _); refine call_meets PySem.F.slot_list_getattribute (hT _) am_entry_list_getattribute (PySem.F.args_list_getattribute_2 _ _) (meets_getattribute_miss_list a xs k sl "keys" _ jdO (by decide +kernel)) ⟨hx,hA,λ h' tk' e hx'=>?_⟩) | wp_step))
 refine jjx hx'.there λ t' u' he=>?_
 show wpAny _ _ (getattributeRaised _ _ _ _ _ _ _) _ _ _
 unfold getattributeRaised
 repeat (any_goals (first | assumption | wp_step))
 exact h _ _ hx'.keeps
section
variable {prog:Program} {w:World} {A:Around} {E:Value->Shared->Prop} {gs:Array GenState} {dr:Drawn} {os:OsState} {tk:Tok}
 {b₀ h h':Heap} {L d l:Addr} {m:Str->Option Value} {led:List (Addr×Obj)}
theorem Fx.extBut {it:Addr} {oit:Obj} (W:Fx b₀ h L m ((it,oit)::led)) (hs:Heap.ExtBut it h h'):Fx b₀ h' L m led:=by
 have hn:=(Jd9.mp W.C.nd)
 have hst:b₀.StaysIn h':=λ b o e=>hs b o (λ q=>by subst q; have:=jbc (W.C.new _ (.head _)); rw [e] at this; replace this:=this; cases this) (W.C.stays b o e)
 exact ⟨⟨W.F.ns.at' λ o e=>hs _ o (W.nL _ (.head _)).symm e,hst,W.F.above⟩,⟨hst,λ p hp=>hs _ _ ((λ p hp e=>hn.1 (Jb9 ⟨p,hp,e⟩)) p hp) (W.C.own p (.tail _ hp)),λ p hp=>W.C.new p (.tail _ hp),hn.2⟩,λ p hp=>W.nL p (.tail _ hp)⟩
noncomputable def jiR (kvs:List (Int×Value)) (ps:List (Int×Value)):List (Int×Value):=ps.foldl (λ kvs p=>stored kvs p.1 p.2) kvs
theorem jhF (kvs:List (Int×Value)) (k:Int) (v:Value):(stored kvs k v).length<=kvs.length+1:=by
 unfold stored; split <;> simp
theorem jm7 {R:Result->Shared->Prop} {it:Addr} {vs:List Value} {n:Nat} (hh:A.handled=none) (hm:(l,listOf vs.toArray n)∈led):∀ (ps:List (Int×Value)) {tk:Tok} {h:Heap} {o oit:Obj} {i:Nat} {kvs:List (Int×Value)},
  (W:Fx b₀ h L m ((it,oit)::(d,o)::led))->o.IsDictOf (PySem.intKind prog w) kvs->oit.cls=.type "list_iterator" -> oit.data=.fields #[.ref l,.int i 0] ->
  (∀ j (p:Int×Value),ps[j]? = some p->∃ a t,vs[i+j]? = some (Value.ref a)/\(a,ja1 [Value.int p.1 t,p.2])∈led)->vs.length=i+ps.length->kvs.length+ps.length<=10000 ->
  (∀ h' o' tk',Fx b₀ h' L m ((d,o')::led)->o'.IsDictOf (PySem.intKind prog w) (jiR kvs ps)->R (.ok (.ret .none)) ⟨h',gs,dr,tk',os⟩) ->
  codeAny (model prog w) A (.builtin "dict.update.loop" ⟨[.ref d,.ref it,.int i 0,.none],[]⟩) R ⟨h,gs,dr,tk,os⟩:=by
 intro ps
 induction ps with
 | nil =>
  intro tk h o oit i kvs W hd hc hdat hp hlen hsz k
  refine codeAny_builtin je3 ?_
  unfold Builtin.«dict.update.loop»
  refine wpAny_bind (wpAny_pyNext_list_end (l:=l) (i:=i) (items:=vs.toArray) hh ⟨oit,W.C.own _ (.head _),hc,hdat⟩ (jaq W.C (.tail _ (.tail _ hm))) (by refine rwr (List.getElem?_toArray) ?_; refine rwr (List.getElem?_eq_none (by refine rwr hlen ?_; simp)) ?_; rfl) λ h' hs=>?_)
  exact wpAny_bind (wpAny_pure (wpAny_pure (k h' o _ (W.extBut hs) hd)))
 | cons p ps ih =>
  intro tk h o oit i kvs W hd hc hdat hp hlen hsz k
  refine codeAny_builtin je3 ?_
  unfold Builtin.«dict.update.loop»
  refine jdR (hp 0 p rfl) λ a t hv ha=>?_
  refine wpAny_bind (wpAny_pyNext_list_item (l:=l) (i:=i) (items:=vs.toArray) ⟨oit,W.C.own _ (.head _),hc,hdat⟩ (jaq W.C (.tail _ (.tail _ hm))) (by refine rwr (List.getElem?_toArray) ?_; exact hv) λ h' hit hs=>?_)
  refine jdI hit λ oit' ho' hc' hdat'=>?_
  have W':=W.put .head hs ho'
  refine wpAny_bind (wpAny_holding (wpAny_bind (wpAny_tryCatch ?_)))
  unfold Builtin.Dict.pairItems
  refine wpAny_bind (wpAny_typeOf (⟨_,W'.C.own _ (.tail _ (.tail _ ha)),rfl⟩) ?_)
  refine rwr (if_pos (by decide)) ?_
  refine wpAny_bind (wpAny_seqItems (W'.C.own _ (.tail _ (.tail _ ha))) rfl (wpAny_pure ?_))
  show wpAny _ _ (holding [Value.int p.1 t,p.2] (dictSet d (Value.int p.1 t) p.2)) _ _ _
  refine wpAny_holding ?_
  refine wpAny_dictSet_pairs (knd:=PySem.intKind prog w) (k:=p.1) (kvs:=kvs) (by simp [PySem.intKind,Value.isInt]) (dictAt W'.C (.tail _ (.head _)) hd) (λ h₂ hD hs₂=>?_) (by show kvs.length<=16777216; simp at hsz; lia)
  refine jam (Heap.dictOf_iff.mp hD) λ o₂ ho₂ hd₂=>?_
  refine wpAny_pure ⟨?_,?_⟩
  ·exact Code.quiet_builtin _ (by decide +kernel)
  ·have:=ih (i:=i+1) (tk:=tk+1) (W'.put (.tail .head) hs₂ ho₂) hd₂ hc' hdat' (λ j q hq=>?_) (by refine rwr hlen ?_; simp; lia) (by have:=jhF kvs p.1 p.2; simp at hsz; replace hsz:=hsz; lia) k
   ·exact this
   ·have:=hp (j+1) q hq
    rwa [show i+(j+1)=i+1+j by lia] at this
theorem jfp {vs:List Value} {n:Nat} {ps:List (Int×Value)} {Q:Value->Shared->Prop} (hh:A.handled=none) (W:Fx b₀ h L m led) (hm:(l,listOf vs.toArray n)∈led)
  (hp:∀ (j:Nat) (p:Int×Value),ps[j]? = some p->∃ (a:Addr) (t:Tok),vs[j]? = some (Value.ref a)/\(a,ja1 [Value.int p.1 t,p.2])∈led) (hlen:vs.length=ps.length) (hsz:ps.length<=10000)
  (k:∀ x h' o' tk',Fx b₀ h' L m ((x,o')::led)->o'.IsDictOf (PySem.intKind prog w) (jiR [] ps)->Q (.ref x) ⟨h',gs,dr,tk',os⟩) :
  wpAny (model prog w) A (call (.type "dict") [.ref l]) Q E ⟨h,gs,dr,tk,os⟩:=by
 refine callType_codes (Q₁:=λ obj s₁=>obj=Value.ref h.objs.size/\s₁=(⟨h.push { cls:=.type "dict",data:=.dict #[] },gs,dr,tk,os⟩:Shared)) PySem.F.kt_called_dict (PySem.F.kt_typeCall_dict_1 _) PySem.F.entry_dict_init (kt_code_dict_new _ ⟨rfl,rfl⟩) ?_
 rintro obj s₁ ⟨rfl,rfl⟩
 have W₁:=W.push { cls:=.type "dict",data:=.dict #[] }
 have hnew:(h.push { cls:=.type "dict",data:=.dict #[] }).DictOf (PySem.intKind prog w) h.objs.size []:=Heap.DictOf.new h
 refine ⟨Heap.DictOf.typeIs (s:=⟨_,gs,dr,tk,os⟩) hnew,PySem.F.args_dict_init_2 _ _,?_⟩
 unfold Builtin.«dict.__init__»
 refine wpAny_bind ?_
 unfold Builtin.Dict.selfAndRest
 refine wpAny_bind (wpAny_notOrdered_dict (Heap.DictOf.typeIs (s:=⟨_,gs,dr,tk,os⟩) hnew) ?_)
 show wpAny _ _ (pure (h.objs.size,[Value.ref l])) _ _ _
 refine wpAny_pure ?_
 show wpAny _ _ (Builtin.Dict.updateFrom "dict.__init__" h.objs.size (.ref l) [] .none) _ _ _
 unfold Builtin.Dict.updateFrom
 refine wpAny_bind (wpAny_typeOf (Heap.IsList.typeIs (s:=⟨_,gs,dr,tk,os⟩) (jaq W₁.C (.tail _ hm))) ?_)
 refine rwr (if_pos (by decide)) ?_
 refine wpAny_bind (jj6 (W₁.C.own _ (.tail _ hm)) hh λ h₂ tk₂ g₂=>?_)
 refine rwr (if_pos (by rfl)) ?_
 have W₂:=W₁.grow g₂
 refine wpAny_bind (wpAny_rule (wpAny_bind (wpAny_pyIter_list (jaq W₂.C (.tail _ hm)) ?_)))
 refine wpAny_pure ⟨Code.quiet_builtin _ (by decide +kernel),?_⟩
 refine jm7 (A:=A.in1) (prog:=prog) (w:=w) (d:=h.objs.size) (it:=h₂.objs.size) (ps:=ps) (kvs:=[]) (i:=0) hh hm (W₂.push { cls:=.type "list_iterator",data:=.fields #[.ref l,.int 0 0] }) (jfS _) rfl rfl (λ j p hj=>by rw [Nat.zero_add]; exact hp j p hj) (by lia) (by simpa using hsz) λ h' o' tk' W' hd'=>?_
 exact ⟨rfl,k _ _ _ _ W' hd'⟩
end
end
section
section
variable {prog:Program} {w:World} {A:Around} {E:Value->Shared->Prop} {gs:Array GenState} {dr:Drawn} {os:OsState} {tk:Tok}
 {b₀ h h':Heap} {L d l:Addr} {m:Str->Option Value} {led:List (Addr×Obj)} {env:Env}
theorem jmJ {a b:Str} {ka kb:Nat} {pa pb pos:Pos} {v1 v2:Expr} {Q:Value->Shared->Prop} (hn:[a,b].Nodup) (W:Fx b₀ h L m led)
  (hb:∀ D h₁ tk₁,Fx b₀ h₁ L m ((D,dictOf [] 0)::led)->wpAny (model prog w) A (eval v1 env) (λ x1 s₁=>∀ tka,wpAny (model prog w) A (eval v2 env) (λ x2 s₂ =>
   ∃ (h₂:Heap) (tk₂:Nat) (m₂:Str->Option Value) (led₂:List (Addr×Obj)) (led':Obj->List (Addr×Obj)),s₂=⟨h₂,gs,dr,tk₂,os⟩/\Fx b₀ h₂ L m₂ led₂/\(∀ o',Pt D (dictOf [] 0) o' led₂ (led' o')) /\
    ∀ (h':Heap) (o':Obj) (tk':Nat),Fx b₀ h' L m₂ (led' o')->o'.IsDictOf (PySem.strKind prog w) [(a,x1),(b,x2)]->Q (.ref D) ⟨h',gs,dr,tk',os⟩) E { s₁ with toks:=tka }) E ⟨h₁,gs,dr,tk₁,os⟩) :
  wpAny (model prog w) A (eval (.Dict [some (.Constant (.str a) ka pa),some (.Constant (.str b) kb pb)] [v1,v2] pos) env) Q E ⟨h,gs,dr,tk,os⟩:=by
 refine Dict_made (knd:=PySem.strKind prog w) (s:=⟨h,gs,dr,tk,os⟩) W.F rfl rfl (by simp) (by simp) λ U=>?_
 refine evalPairs_cons (jlg λ t1 tk1=>?_)
 refine wpAny_bind (wpAny_mono (hb _ _ _ (W.push { cls:=.type "dict",data:=.dict #[] })) (λ x1 s₁ hx=>?_) λ U U e=>e)
 refine wpAny_bind (wpAny_standAt (wpAny_pure ?_))
 refine evalPairs_cons (Calls.Constant_str ?_)
 refine wpAny_bind (wpAny_mono (hx _) (λ x2 s₂ hy=>?_) λ U U e=>e)
 refine wpAny_bind (wpAny_standAt (wpAny_pure ?_))
 refine evalPairs_nil ?_
 refine jrr hy λ h₂ tk₂ m₂ led₂ led' e_1 W₂ p k=>?_
 subst e_1
 refine display_done_str (by rfl) ?_ ?_ λ h' hD hs=>?_
 ·exact hn
 ·exact Heap.dictOf_iff.mpr ⟨_,W₂.C.own _ (p (dictOf [] 0)).mem,jfS _⟩
 ·refine jam (Heap.dictOf_iff.mp hD) λ o' ho' hd'=>?_
  exact k h' o' _ (W₂.put (p o') hs ho') hd'
theorem jkB {l:Addr} {vs:List Value} {ns:List Int} {x:Str} {xp p pos kp:Pos} {y:Int} {kk:Nat} {Q:Value->Shared->Prop} (W:Fx b₀ h L m led) (hv:m x=some (.ref l)) (hl:b₀.IsList l vs.toArray) (hI:IntsAre vs ns) (hsz:vs.length<=1000) (hy:0<=y)
  (k:∀ S h' tk' vs',IntsAre vs' (ns.take y.toNat)->Fx b₀ h' L m ((S,listOf vs'.toArray 0)::led)->Q (.ref S) ⟨h',gs,dr,tk',os⟩) (hL:env.locals=L)
  (hk:env.scope.kind=.function:=by rfl) (hx:env.kindOf x=some .local:=by rfl) (hd:(x == ("__debug__" : Str))=false:=by decide) :
  wpAny (model prog w) A (eval (.Subscript (.Name x xp) (.Slice none (some (.Constant (.int y) kk kp)) none p) pos) env) Q E ⟨h,gs,dr,tk,os⟩:=by
 refine wpAny_Subscript_list_slice ?_ (by intros; rfl)
 refine jfr W hv ?_ hL hk hx hd
 refine wpAny_of_eq (evalPart_none env) ?_
 rw [evalPart_some]
 refine jfq λ t tk'=>?_
 have hh:h.IsList l vs.toArray:=by refine jam hl λ o ho r=>?_; exact ja2 o (W.C.stays _ _ ho) r
 refine jp8 l vs.toArray none (some y) rfl hh (by refine rwr Jc5 ?_; show vs.length<=16777216; exact Ja0 ‹_› (by decide)) (.none) (.int _ _) ?_
 have W2:=(W.push { cls:=.type "slice",data:=.fields #[.none,.int y t,.none] }).push { cls:=.type "list",data:=.seq (slicePick vs.toArray none (some y) none) }
 rw [Heap.size_push] at W2
 refine k _ _ _ (slicePick vs.toArray none (some y) none).toList (slice_ints_uptoW hI hy) ?_
 exact W2.sub (.cons_cons _ (.cons _ (Jd0 _)))
end
end
section
section
variable {prog:Program} {w:World} {A:Around} {E:Value->Shared->Prop} {gs:Array GenState} {dr:Drawn} {os:OsState} {tk:Tok}
 {b₀ h:Heap} {L:Addr} {m:Str->Option Value} {led:List (Addr×Obj)} {env:Env} {body:List Stmt} {R:Result->Shared->Prop} {x:Str} {xp:Pos}
end
end
section
section
variable {prog:Program} {w:World} {A:Around} {E:Value->Shared->Prop} {gs:Array GenState} {dr:Drawn} {os:OsState} {tk:Tok}
 {b₀ h h':Heap} {L d l:Addr} {m:Str->Option Value} {led led':List (Addr×Obj)} {v x key y:Value} {Q:Value->Shared->Prop} {o o':Obj}
theorem jpW {vs:List Value} {e:Nat} (W:Fx b₀ h L m led) (hm:(l,listOf vs.toArray e)∈led) (hsz:vs.length<=16777216) (k:∀ x h',Fx b₀ h' L m ((x,ja1 vs)::led)->Q (.ref x) ⟨h',gs,dr,tk,os⟩) :
  wpAny (model prog w) A (call (.type "tuple") [.ref l]) Q E ⟨h,gs,dr,tk,os⟩ :=
 call_tuple_list (jaq W.C hm) (λ h' hk=>k _ _ ((W.grow hk).push _)) (by refine rwr Jc5 ?_; exact hsz)
theorem jgS {vs:Array Value} {n:Nat} {pl:Sem Bool} {Q:Value×List Value->Shared->Prop} (W:Fx b₀ h L m led) (hm:(l,listOf vs n)∈led) (k:Q (.builtin "list.pop",[.ref l]) ⟨h,gs,dr,tk,os⟩) :
  wpAny (model prog w) A (getMethod (.ref l) "pop" pl) Q E ⟨h,gs,dr,tk,os⟩ :=
 getMethod_builtin ⟨_,W.C.own _ hm,rfl⟩ PySem.F.plainAttrs_list PySem.F.slot_list_pop PySem.F.type_list_pop (λ a e=>by cases e; exact ja2 _ (W.C.own _ hm) rfl) k
theorem jf4 {vs:Array Value} {n:Nat} {pl:Sem Bool} {Q:Value×List Value->Shared->Prop} (W:Fx b₀ h L m led) (hm:(l,listOf vs n)∈led) (k:Q (.builtin "list.extend",[.ref l]) ⟨h,gs,dr,tk,os⟩) :
  wpAny (model prog w) A (getMethod (.ref l) "extend" pl) Q E ⟨h,gs,dr,tk,os⟩ :=
 getMethod_builtin ⟨_,W.C.own _ hm,rfl⟩ PySem.F.plainAttrs_list PySem.F.slot_list_extend PySem.F.type_list_extend (λ a e=>by cases e; exact ja2 _ (W.C.own _ hm) rfl) k
theorem jod {us:List Value} {n:Nat} (W:Fx b₀ h L m led) (p:Pt l (listOf (us++[y]).toArray n) (listOf us.toArray (n+1)) led led') (hsz:us.length<16777216) (k:∀ h',Fx b₀ h' L m led'->Q y ⟨h',gs,dr,tk,os⟩) :
  wpAny (model prog w) A (call (.builtin "list.pop") [.ref l]) Q E ⟨h,gs,dr,tk,os⟩:=by
 have ho:=W.C.own _ p.mem
 have hs:(us++[y]).toArray.size=us.length+1:=by simp
 refine call_meets PySem.F.slot_list_pop ⟨_,ho,rfl⟩ PySem.F.entry_list_pop (PySem.F.args_list_pop_1 _) (PySem.MeetsSeq.list_pop_last l (us++[y]).toArray n y (by refine rwr hs ?_; simp) (by refine rwr hs ?_; exact hsz)) ⟨ho,?_⟩
 refine k _ (W.put p (Heap.SameBut.update ..) ?_)
 have e:Obj.mapSeq (λ xs=>xs.eraseIdxIfInBounds ((us++[y]).toArray.size - 1)) (listOf (us++[y]).toArray n)=listOf us.toArray (n+1):=by
  have e2:(us++[y]).toArray.eraseIdxIfInBounds us.length=us.toArray:=by
   apply Array.toList_inj.mp
   simp [Array.eraseIdxIfInBounds,List.eraseIdx_append_of_length_le]
  simp only [Obj.mapSeq,hs,Nat.add_sub_cancel]
  refine rwr e2 ?_
  refine rwr (if_neg (by simp)) ?_
  rfl
 exact e▸Heap.get?_update_self _ ho (by refine rwr e ?_; rfl)
theorem jgT {kvs:List (Int×Value)} (hh:A.handled=none) (hlim:b₀.NoLimit) (W:Fx b₀ h L m led) (hm:(d,o)∈led) (hd:o.IsDictOf (PySem.intKind prog w) kvs) (h64:kvs.length<64)
  (k:∀ x h' tk' vs' ns' e,Fx b₀ h' L m ((x,listOf vs'.toArray e)::led)->IntsAre vs' ns'->ns'.Perm (kvs.map (·.1))->ns'.Pairwise (· <= ·)->Q (.ref x) ⟨h',gs,dr,tk',os⟩) :
  wpAny (model prog w) A (call (.builtin "sorted") [.ref d]) Q E ⟨h,gs,dr,tk,os⟩:=by
 have hD:=Heap.dictOf_iff.mpr ⟨o,W.C.own _ hm,hd⟩
 obtain ⟨ep,hat⟩:=hD.dictAt
 refine kdu_sorted (s:=⟨h,gs,dr,tk,os⟩) (kdl_dict (knd:=PySem.intKind prog w) (kvs:=kvs) (ep:=ep) (jfl hlim W.C hm)) hh W.F W.N hat (Ja0 (Jb6 h64) (by decide)) λ D h' tk' vs F' N' l1 hl hv=>?_
 have W':Fx b₀ h' L m ((D,listOf vs.toArray 0)::led):=⟨F',⟨F'.keep,λ p hp=>(N' p hp).1,λ p hp=>by
   refine Jc8 (Ja3.mp hp) (λ e_2=>?_) λ hp=>?_
   ·subst e_2; have hnone:=(N' (D,listOf vs.toArray 0) (.head _)).2.2
    refine Jd2 λ hlt=>?_
    exact absurd (W.C.new _ hm) (Nat.not_le.mpr (Jd1 (l1 _ hm) hlt))
   ·exact W.C.new p hp,by
   refine rwr Ja8 ?_
   rw [Jd9]
   refine ⟨λ q=>?_,W.C.nd⟩
   refine jam (Jb8 q) λ p hp e=>?_
   exact Nat.ne_of_lt (l1 p hp) e⟩,λ p hp=>(N' p hp).2.1⟩
 have hI:IntsAre vs (kvs.map (·.1)):=by
  clear k F' N' l1 W' hat hD hd h64
  induction kvs generalizing vs with
  | nil=>rw [List.length_nil] at hl; refine rwr (List.eq_nil_of_length_eq_zero hl) ?_; exact .nil
  | cons p r ih =>
   cases vs with
   | nil=>simp at hl
   | cons v0 vr =>
    refine jdR (hv 0 v0 rfl) λ k0 x0 e1 e2=>?_
    simp only [List.getElem?_cons_zero,Option.some.injEq] at e1
    subst e1
    have e3:∃ t,v0=.int k0 t:=by
     cases v0 <;> simp [PySem.intKind,Value.isInt] at e2
     subst e2; exact ⟨_,rfl⟩
    refine jbh e3 λ t e_1=>?_
    subst e_1
    exact .cons _ _ (ih vr (by simpa using hl) λ j u hu=>hv (j+1) u (hu))
 have hlen:=jcq hI
 rw [Jc6] at hlen
 have ho:=W'.C.own _ (.head _)
 refine wpAny_call_entry PyProof.Rows.slot_list_sort ⟨_,ho,rfl⟩ PyProof.Rows.entry_list_sort (PyProof.Rows.list_sort_tree ho hI (by lia) λ out ns' a1 a2 a3=>⟨_,rfl,?_⟩) (PyProof.Rows.args_list_sort _)
 refine jbh (PyProof.Rows.sortedHeap_at (out:=out) ho) λ e he=>?_
 have Wl:Fx b₀ (sortedHeap h' D vs out) L m ((D,listOf out.toList.toArray e)::led):=by
  have keep:∀ b o,b≠D->h'.get? b=some o->(sortedHeap h' D vs out).get? b=some o:=λ b o hb e=>(PyProof.Rows.sortedHeap_old hb (Heap.lt_size e)).trans e
  have hDn:=W'.C.new (D,listOf vs.toArray 0) (.head _)
  have st:b₀.StaysIn (sortedHeap h' D vs out):=λ b o e=>keep b o (λ q=>by have:=jbc hDn; rw [q] at e; replace e:=e; rw [this] at e; replace e:=e; exact nomatch e) (W'.C.stays b o e)
  have hnd:=W'.C.nd
  rw [Ja8,Jd9] at hnd
  replace hnd:=hnd
  refine ⟨⟨W'.F.ns.at' λ o e=>keep _ o (λ q=>W'.nL _ (.head _) q.symm) e,st,W'.F.above⟩,⟨st,λ p hp=>?_,λ p hp=>?_,by refine rwr Ja8 ?_; rw [Jd9]; exact hnd⟩,λ p hp=>?_⟩
  ·refine Jc8 (Ja3.mp hp) (λ e_3=>?_) λ hp=>?_
   ·subst e_3; have:=he; simpa [seqObj] using this
   ·exact keep _ _ (λ q=>hnd.1 (Jb9 ⟨p,hp,q⟩)) (W'.C.own p (.tail _ hp))
  ·refine Jc8 (Ja3.mp hp) (λ e_4=>?_) λ hp=>?_
   ·subst e_4; exact hDn
   ·exact W'.C.new p (.tail _ hp)
  ·refine Jc8 (Ja3.mp hp) (λ e_5=>?_) λ hp=>?_
   ·subst e_5; exact W'.nL (D,listOf vs.toArray 0) (.head _)
   ·exact W'.nL p (.tail _ hp)
 exact k D _ _ out.toList ns' e Wl a1 a2 a3
end
end
section
theorem ja6:Slot "reversed" "__next__" "reversed.__next__" :=
 .of (owner := "reversed") (n := "__next__") (by rw [typeLookup_type]; refine rwr builtinLookup_eq_fast ?_; kernel_rfl) (by decide +kernel) (by decide +kernel) (by decide +kernel)
  (by first | exact .inl (by decide +kernel) | exact .inr (by decide +kernel)) (by rw [isSubtype_type]; kernel_rfl)
theorem jb6:entryFor table "reversed.__next__" = some Builtin.«reversed.__next__»:=entryFor_of_tree (by kernel_rfl)
theorem jcl (a:Value):argsOk "reversed.__next__" ⟨[a],[]⟩:=by
 unfold argsOk; kernel_rfl
theorem jcv:Slot "reversed" "__iter__" "reversed.__iter__" :=
 .of (owner := "reversed") (n := "__iter__") (by rw [typeLookup_type]; refine rwr builtinLookup_eq_fast ?_; kernel_rfl) (by decide +kernel) (by decide +kernel) (by decide +kernel)
  (by first | exact .inl (by decide +kernel) | exact .inr (by decide +kernel)) (by rw [isSubtype_type]; kernel_rfl)
theorem jef (a:Value):argsOk "reversed.__iter__" ⟨[a],[]⟩:=by
 unfold argsOk; kernel_rfl
theorem jdM:entryFor table "reversed.__iter__" = some Builtin.«dict_keyiterator.__iter__» :=
 entryFor_alias (id' := "dict_keyiterator.__iter__") (by kernel_rfl) (by first | rfl | decide +kernel | (unfold String.splitOn; simp +decide [String.splitOnAux])) (by decide +kernel) (by kernel_rfl)
theorem jbI:Slot "reversed" "__length_hint__" "reversed.__length_hint__" :=
 .of (owner := "reversed") (n := "__length_hint__") (by rw [typeLookup_type]; refine rwr builtinLookup_eq_fast ?_; kernel_rfl) (by decide +kernel) (by decide +kernel) (by decide +kernel)
  (by first | exact .inl (by decide +kernel) | exact .inr (by decide +kernel)) (by rw [isSubtype_type]; kernel_rfl)
theorem jee (a:Value):argsOk "reversed.__length_hint__" ⟨[a],[]⟩:=by
 unfold argsOk; kernel_rfl
theorem jdL:entryFor table "reversed.__length_hint__" = some Builtin.«reversed.__length_hint__»:=entryFor_of_tree (by kernel_rfl)
theorem jeI:Slot "reversed" "__init__" "object.__init__" :=
 .of (owner := "object") (n := "__init__") (by rw [typeLookup_type]; refine rwr builtinLookup_eq_fast ?_; kernel_rfl) (by decide +kernel) (by decide +kernel) (by decide +kernel)
  (by first | exact .inl (by decide +kernel) | exact .inr (by decide +kernel)) (by rw [isSubtype_type]; kernel_rfl)
theorem jha:TypeCalled "reversed" "reversed.__new__" "object.__init__" :=
 ⟨by decide +kernel,PySem.F.create_reversed,⟨_,_,PySem.F.mro_reversed⟩,PySem.F.made_reversed,PySem.F.plain_reversed_new,PySem.F.sub_reversed_self,jeI⟩
theorem jhD:typeLookup (.type "reversed") "__len__" = pure none:=by rw [typeLookup_type]; refine rwr builtinLookup_eq_fast ?_; kernel_rfl
theorem jhr:typeLookup (.type "list_reverseiterator") "__len__" = pure none:=by rw [typeLookup_type]; refine rwr builtinLookup_eq_fast ?_; kernel_rfl
theorem jkb:typeLookup (.type "list_reverseiterator") "__length_hint__" = pure (some (.builtin "list_reverseiterator.__length_hint__")):=by rw [typeLookup_type]; refine rwr builtinLookup_eq_fast ?_; kernel_rfl
theorem jhI:typeLookup (.type "tuple") "__reversed__" = pure none:=by rw [typeLookup_type]; refine rwr builtinLookup_eq_fast ?_; kernel_rfl
theorem jfz:isSubtype (.type "tuple") (.type "dict")=pure false:=by rw [isSubtype_type]; kernel_rfl
noncomputable def IsRevT (h:Heap) (a t:Addr) (i:Int):Prop:=∃ o,h.get? a=some o/\o.cls=.type "reversed" /\ o.data=.fields #[.ref t,rawInt i]
noncomputable abbrev jkE (t:Addr) (i:Int):Obj:={ cls:=.type "reversed",data:=.fields #[.ref t,rawInt i] }
section
variable {prog:Program} {w:World} {A:Around} {E:Value->Shared->Prop} {s:Shared}
theorem IsRevT.typeIs {a t:Addr} {i:Int} (x:IsRevT s.heap a t i):s.TypeIs (.ref a) "reversed" := let ⟨o,ho,hc,_⟩:=x; ⟨o,ho,hc⟩
theorem IsRevT.at {h h':Heap} {a t:Addr} {i:Int} (x:IsRevT h a t i) (e:∀ o,h.get? a=some o->h'.get? a=some o):IsRevT h' a t i:=let ⟨o,ho,r⟩:=x; ⟨o,e _ ho,r⟩
theorem jfX (t:Addr) (items:Array Value) (hfit:items.size<=16777216):MeetsIn prog w (Builtin.«reversed.__new__» ⟨[.type "reversed",.ref t],[]⟩)
  (λ U R s=>IsTup s.heap t items/\∀ tk,R (.ok (.ret (.ref s.heap.objs.size))) { s with heap:=s.heap.push (jkE t ((items.size:Int) - 1)),toks:=tk }):=.of_wp λ A R s h=>by
 refine jbi h λ ht hR=>?_
 unfold Builtin.«reversed.__new__»
 refine wpAny_bind (wpAny_of_eq (newClass_reversed _) ?_)
 try dsimp only
 refine wpAny_bind (wpAny_of_eq (a:=()) (by first | rfl | kernel_rfl) ?_)
 refine wpAny_bind (wpAny_of_eq (a:=()) (by first | rfl | kernel_rfl) ?_)
 try dsimp only
 refine wpAny_bind (wpAny_specialOf ht.typeIs jhI ?_)
 try dsimp only
 refine wpAny_bind ?_
 show wpAny _ _ (isInstance (.ref t) (.type "dict") >>= _) _ _ s
 refine wpAny_bind (wpAny_isInstance ht.typeIs jfz ?_)
 simp only [Bool.false_eq_true,if_false]
 refine wpAny_bind (wpAny_specialOf ht.typeIs PySem.F.slot_tuple_getitem.lookup ?_)
 try dsimp only
 refine rwr (if_pos (by decide)) ?_
 refine wpAny_pure ?_
 simp only [Bool.not_true,Bool.false_eq_true,if_false]
 refine wpAny_bind (PyProof.Rows.len_tuple ht (by lia) ?_)
 refine wpAny_bind (wpAny_of_eq (a:=some (items.size:Int)) rfl ?_)
 try dsimp only
 refine wpAny_bind ?_
 show wpAny _ _ (newObj (.type "reversed") (.fields #[.ref t,rawInt ((items.size:Int) - 1)])) _ _ _
 exact wpAny_newObj_type (wpAny_pure ⟨_,rfl,hR _⟩)
theorem jeW {t:Addr} {items:Array Value} {Q:Value->Shared->Prop} (ht:IsTup s.heap t items) (hfit:items.size<=16777216)
  (h:∀ tk,Q (.ref s.heap.objs.size) { s with heap:=s.heap.push (jkE t ((items.size:Int) - 1)),toks:=tk }):wpAny (model prog w) A (call (.type "reversed") [.ref t]) Q E s :=
 callType_newIn jha (by decide) (PySem.F.typeCall_reversed_1 _) (PySem.F.newCall_reversed_1 _) (λ obj=>PySem.F.args_object_init_2 obj _) PySem.F.entry_reversed_new (jfX t items hfit)
  ⟨ht,λ tk=>⟨⟨_,Heap.get?_push_size _ rfl,rfl⟩,h tk⟩⟩
theorem jeC {it t:Addr} {i:Nat} {items:Array Value} {x:Value} {Q:Option Value->Shared->Prop} (hit:IsRevT s.heap it t (i:Int)) (ht:IsTup s.heap t items) (hx:items[i]? = some x) (hfit:items.size<=16777216)
  (hQ:∀ h' tk,IsRevT h' it t ((i:Int) - 1)->Heap.SameBut it s.heap h'->Q (some x) { s with heap:=h',toks:=tk }):wpAny (model prog w) A (pyNext (.ref it)) Q E s:=by
 refine jdI (id hit) λ o ho hc hd=>?_
 have hi:i<items.size:=(Array.getElem?_eq_some_iff.mp hx).1
 unfold pyNext
 refine wpAny_bind (wpAny_attempt (wpAny_callSpecial?_slot (name:=Str.ofString "__next__") hit.typeIs ja6
  (wpAny_call_entry ja6 hit.typeIs jb6 ?_ (jcl _))))
 unfold Builtin.«reversed.__next__»
 refine wpAny_bind (wpAny_of_eq (a:=(Value.ref it,[])) rfl ?_)
 try dsimp only
 refine wpAny_bind (wpAny_field ho hd (x:=.ref t) rfl ?_)
 refine wpAny_bind (wpAny_field ho hd (x:=rawInt (i:Int)) rfl ?_)
 show wpAny _ _ (if (i:Int)<0 then _ else _) _ _ s
 refine rwr (if_neg (by lia)) ?_
 refine wpAny_bind (wpAny_specialOf ht.typeIs PySem.F.slot_tuple_getitem.lookup ?_)
 dsimp only [Option.isNone_some,Bool.false_eq_true,if_false]
 refine wpAny_bind (wpAny_mkInt ?_)
 refine wpAny_bind (wpAny_attempt (PyProof.Rows.getItem_tuple (j:=i) (x:=x) (s:={ s with toks:=s.toks+1 }) ht (Int.natCast_nonneg _) (by lia) (ji3 hi) hx ?_))
 try dsimp only
 refine wpAny_bind (wpAny_field ho hd (x:=rawInt (i:Int)) rfl ?_)
 show wpAny _ _ (setField (.ref it) 1 (rawInt ((i:Int) - 1)) >>= _) _ _ _
 refine wpAny_bind (wpAny_setField ho hd (by simp) ?_)
 refine wpAny_pure ⟨x,rfl,wpAny_pure (hQ _ _ ?_ (Heap.SameBut.update ..))⟩
 exact ⟨_,Heap.get?_update_self _ ho (Obj.isFreed_of_fields (Obj.data_mapFields hd _)),(Obj.cls_mapFields ..).trans hc,by
  rw [Obj.data_mapFields hd]; simp⟩
theorem jfj {it t:Addr} {Q:Option Value->Shared->Prop} (hh:A.handled=none) (hit:IsRevT s.heap it t (-1))
  (hQ:∀ h' tk,(∀ b o,b∉[it]->s.heap.get? b=some o->h'.get? b=some o)->Q none { s with heap:=h',toks:=tk }):wpAny (model prog w) A (pyNext (.ref it)) Q E s:=by
 refine jdI (id hit) λ o ho hc hd=>?_
 unfold pyNext
 refine wpAny_bind (wpAny_attempt (wpAny_callSpecial?_slot (name:=Str.ofString "__next__") hit.typeIs ja6
  (wpAny_call_entry ja6 hit.typeIs jb6 ?_ (jcl _))))
 unfold Builtin.«reversed.__next__»
 refine wpAny_bind (wpAny_of_eq (a:=(Value.ref it,[])) rfl ?_)
 try dsimp only
 refine wpAny_bind (wpAny_field ho hd (x:=.ref t) rfl ?_)
 refine wpAny_bind (wpAny_field ho hd (x:=rawInt (-1)) rfl ?_)
 show wpAny _ _ (if (-1:Int)<0 then _ else _) _ _ s
 refine rwr (if_pos (by decide)) ?_
 refine wpAny_bind (wpAny_rule ?_)
 refine wpAny_bind ?_
 show wpAny _ _ (setField (.ref it) 1 (rawInt (-1)) >>= λ U=>setField (.ref it) 0 .none) _ _ _
 refine wpAny_bind (wpAny_setField ho hd (by simp) ?_)
 refine wpAny_setField (Heap.get?_update_self (Obj.mapFields (·.setIfInBounds 1 (rawInt (-1)))) ho (Obj.isFreed_of_fields (Obj.data_mapFields hd _))) (Obj.data_mapFields hd _) (by simp) ?_
 first
 | show wpAny _ _ (newExc (.type "StopIteration") [] >>= _) _ _ _
 | (refine wpAny_bind ?_; show wpAny _ _ (newExc (.type "StopIteration") [] >>= _) _ _ _)
 refine wpAny_bind ?_
 dsimp only [newExc,newTuple]
 refine wpAny_bind (wpAny_newObj_type ?_ (by size_fits))
 refine wpAny_bind (m:=firstArgMember _ _) (wpAny_of_eq (a:=Value.none) (by first | rfl | (simp only [firstArgMember]; rfl)) ?_)
 refine wpAny_newObj_type ?_ (by size_fits)
 dsimp only [raiseNew]
 refine wpAny_bind (wpAny_handled ?_)
 first | rw [show A.in1.handled=none from hh] | rw [hh]
 refine wpAny_bind (wpAny_pure (wpAny_throw ?_))
 refine wpAny_bind (wpAny_isInstance (T := "StopIteration") (b:=true) ⟨_,Heap.get?_push_size _ rfl,rfl⟩ isSubtype_stop ?_)
 refine wpAny_pure (hQ _ _ λ b o hb e=>?_)
 have hb':it≠b:=λ q=>hb (by refine rwr q ?_; exact .head _)
 exact Heap.get?_push_of_some _ (Heap.get?_push_of_some _ ((Heap.get?_update_other _ _ hb').trans ((Heap.get?_update_other _ _ hb').trans e)))
theorem jj4 {it t:Addr} {i:Int} {Q:Value->Shared->Prop} (hit:IsRevT s.heap it t i) (h:Q (.ref it) s):wpAny (model prog w) A (pyIter (.ref it)) Q E s:=by
 refine wpAny_pyIter_slot hit.typeIs jcv (wpAny_call_entry jcv hit.typeIs jdM ?_ (jef _))
 show wpAny _ _ (ret (.ref it)) _ _ s
 exact wpAny_pure ⟨_,rfl, "reversed",_,hit.typeIs,ja6.lookup,h⟩
end
theorem jfB {prog:Program} {w:World} {A:Around} (hh:A.handled=none) (I t:Addr) (hne:t≠I) (items:Array Value) (hfit:items.size<=16777216) :
  Walks prog w A I [I,t] [I] items.size (λ i v=>items[items.size - 1 - i]? = some v) (λ i h=>i<=items.size/\IsRevT h I t ((items.size:Int) - 1 - (i:Int))/\IsTup h t items) where
 sub:=λ b hb=>by simp at hb; simp [hb]
 frame:=λ U U U x hk=>⟨x.1,x.2.1.at λ o e=>hk I (by simp) o e,by
  refine jam x.2.2 λ o ho r=>?_
  exact ja2 o (hk t (by simp) o ho) r⟩
 item:=λ i s Q E hi x hQ=>by
  have e:(items.size:Int) - 1 - (i:Int)=((items.size - 1 - i:Nat):Int):=by
   rw [Int.ofNat_sub (Nat.le_sub_one_of_lt hi),Int.ofNat_sub (Jb1 (Nat.zero_le _) hi)]; rfl
  have hit:=x.2.1
  rw [e] at hit
  have hx:items[items.size - 1 - i]? = some (items[items.size - 1 - i]'(Jb1 (Nat.sub_le _ _) (Nat.sub_one_lt_of_lt hi))):=Array.getElem?_eq_getElem (Jb1 (Nat.sub_le _ _) (Nat.sub_one_lt_of_lt hi))
  refine jeC hit x.2.2 hx hfit λ h' tk hit' hs'=>?_
  rw [(show ((items.size - 1 - i:Nat):Int) - 1=(items.size:Int) - 1 - ((i+1:Nat):Int) from by rw [<- e,Int.natCast_add,<- Int.sub_sub]; rfl)] at hit'
  refine hQ _ h' tk hx ⟨hi,hit',?_⟩ λ b o hb eo=>hs'.extBut b o (λ h=>hb (by simp [h])) eo
  refine jam x.2.2 λ o ho r=>?_
  exact ja2 o ((hs'.2 t hne).trans ho) r
 done:=λ s Q E x hQ=>by
  have hit:=x.2.1
  rw [(show (items.size:Int) - 1 - (items.size:Int)=-1 from by lia)] at hit
  exact jfj hh hit λ h' tk he'=>hQ h' tk he'
 self:=λ U U U U x hQ=>jj4 x.2.1 hQ
end
section
section
variable {prog:Program} {w:World} {A:Around} {R:Result->Shared->Prop} {I S:Addr} {fp wr:List Addr} {n:Nat} {P:Nat->Value->Prop} {St:Nat->Heap->Prop} {us:List Value} {res:Value}
theorem jgu (W:Walks prog w A.in1 I fp wr n P St) (hSf:S∉fp) (hsz:us.length+n<=16777216) :
  ∀ (k i:Nat) (h:Heap) (gs:Array GenState) (dr:Drawn) (os:OsState) (tk:Nat) (acc:List Value) (c:Nat),n - i=k->i<=n->St i h->h.get? S=some (listOf (us++acc).toArray c)->ItemsOf P acc.toArray i ->
  (∀ h' tk' acc' c',(∀ b o,b≠S->b∉wr->h.get? b=some o->h'.get? b=some o)->h'.get? S=some (listOf (us++acc').toArray c')->ItemsOf P acc'.toArray n->R (.ok (.ret res)) ⟨h',gs,dr,tk',os⟩) ->
  codeAny (model prog w) A (.builtin "list.extend.loop" ⟨[.ref S,.ref I,res],[]⟩) R ⟨h,gs,dr,tk,os⟩:=by
 have hSw:S∉wr:=λ h=>hSf (W.sub _ h)
 intro k
 induction k with
 | zero =>
  intro i h gs dr os tk acc c hk hi hst hS hacc hR
  have hin:i=n:=Nat.le_antisymm hi (Nat.le_of_sub_eq_zero hk)
  subst hin
  refine codeAny_builtin PySem.F.entry_extend_loop ?_
  refine rwr (Around.under_plainId PySem.F.plain_extend_loop _) ?_
  show wpAny _ A.in1 (pyNext (.ref I) >>= _) _ _ _
  refine wpAny_bind (W.done _ _ _ hst λ h' tk' hk'=>?_)
  exact wpAny_pure (hR h' tk' acc c (λ b o U hb e=>hk' b o hb e) (hk' S _ hSw hS) hacc)
 | succ k ih =>
  intro i h gs dr os tk acc c hk hi hst hS hacc hR
  have hlt:i<n:=Nat.lt_of_sub_pos (hk▸Nat.succ_pos k)
  refine codeAny_builtin PySem.F.entry_extend_loop ?_
  refine rwr (Around.under_plainId PySem.F.plain_extend_loop _) ?_
  show wpAny _ A.in1 (pyNext (.ref I) >>= _) _ _ _
  refine wpAny_bind (W.item i _ _ _ hlt hst λ v h' tk' hP hst' hk'=>?_)
  have hS':=hk' S _ hSw hS
  have hal:acc.length=i:=by have:=hacc.1; simpa using this
  show wpAny _ A.in1 (updateSeq S (·.push v) >>= _) _ _ _
  refine wpAny_bind (wpAny_updateSeq hS' rfl (wpAny_pure ⟨plainId_quiet PySem.F.plain_extend_loop _,?_⟩)
   (by simp only [Jc5,Jd3]; show _<=16777216; rw [hal]; exact Ja0 (Jb3 (Jb6 hlt) _) hsz) (by show ((us++acc).toArray.push v).size<=16777216+1; simp only [Array.size_push,Jc5,Jd3]; rw [hal]; exact Jc1 (Ja0 (Jb3 (Jb6 hlt) _) hsz)))
  have e:Obj.mapSeq (·.push v) (listOf (us++acc).toArray c)=listOf (us++(acc++[v])).toArray (c+1):=by simp [Obj.mapSeq]
  refine ih (i+1) _ gs dr os tk' (acc++[v]) (c+1) (by rw [Nat.sub_add_eq,hk]; rfl) hlt (W.frame _ h' _ hst' λ b hb o e=>?_) (e▸Heap.get?_update_self _ hS' (by refine rwr e ?_; rfl)) (by have:=hacc.push hP; simpa using this) λ h'' tk'' acc' c' hk'' hS'' hacc'=>?_
  ·exact (Heap.get?_update_other _ _ (λ h:S=b=>hSf (by refine rwr h ?_; exact hb))).trans e
  ·refine hR h'' tk'' acc' c' (λ b o hb1 hb2 e=>?_) hS'' hacc'
   exact hk'' b o hb1 hb2 ((Heap.get?_update_other _ _ (Ne.symm hb1)).trans (hk' b o hb2 e))
theorem jgv {h:Heap} {gs:Array GenState} {dr:Drawn} {os:OsState} {tk:Nat} {c₀:Nat} {T:String} (W:Walks prog w A.in1 I fp wr n P St) (hSf:S∉fp) (hIf:I∈fp) (hsz:us.length+n<16777216) (hT:Shared.TypeIs ⟨h,gs,dr,tk,os⟩ (.ref I) T)
  (h2:(Value.type T == Value.type "list")=false) (h3:(Value.type T == Value.type "tuple")=false) (hst:St 0 h) (hS:h.get? S=some (listOf us.toArray c₀))
  (hint:∀ (Q:Bool->Shared->Prop) (E:Value->Shared->Prop),(∀ b tk',Q b ⟨h,gs,dr,tk',os⟩)->wpAny (model prog w) A.in1 (Builtin.List.listLengthHint (.ref I)) Q E ⟨h,gs,dr,tk,os⟩)
  (hR:∀ h' tk' acc' c',(∀ b o,b≠S->b∉wr->h.get? b=some o->h'.get? b=some o)->h'.get? S=some (listOf (us++acc').toArray c')->ItemsOf P acc'.toArray n->R (.ok (.ret res)) ⟨h',gs,dr,tk',os⟩) :
  wpAny (model prog w) A.in1 (Builtin.List.listExtendWith (.ref S) (.ref I) res)
   (λ fin s'=>match fin with | .done f=>R (.ok f) s' | .again c'=>c'.quiet=true/\codeAny (model prog w) A c' R s') (λ e s'=>R (.error e) s') ⟨h,gs,dr,tk,os⟩:=by
 unfold Builtin.List.listExtendWith
 refine wpAny_bind (wpAny_typeOf (T:=T) hT ?_)
 simp only [(show Builtin.List.listSameRef (.ref S) (.ref I)=false from by simp [Builtin.List.listSameRef,(show S≠I from λ e=>hSf (e▸hIf))]),h2,h3,Bool.or_false,Bool.false_eq_true,if_false]
 refine wpAny_bind (W.self 0 _ _ _ hst ?_)
 refine wpAny_bind (wpAny_holding (hint _ _ λ b tk'=>?_))
 refine wpAny_ite_split (λ U=>?_) (λ U=>wpAny_pure ⟨plainId_quiet PySem.F.plain_extend_loop _,jgu W hSf (Jb6 hsz) n 0 h gs dr os tk' [] c₀ rfl (Nat.zero_le _) hst (by simpa using hS) (ItemsOf.nil _) hR⟩)
 refine wpAny_bind (wpAny_rule ?_)
 refine wpAny_bind ?_
 show wpAny _ _ (updateSeq S (·.push .none) >>= λ U=>updateSeq S (·.pop)) _ _ _
 have hs0:us.toArray.size<=16777216:=by refine rwr Jc5 ?_; lia
 refine wpAny_bind (wpAny_updateSeq hS rfl ?_ hs0 (by show (us.toArray.push _).size<=16777216+1; rw [Array.size_push]; exact Nat.lt_succ_of_le ‹_›))
 have e1:Obj.mapSeq (·.push Value.none) (listOf us.toArray c₀)=listOf (us.toArray.push .none) (c₀+1):=by simp [Obj.mapSeq]
 have hS₂:=Heap.get?_update_self (Obj.mapSeq (·.push Value.none)) hS (by refine rwr e1 ?_; rfl)
 rw [e1] at hS₂
 have e2:Obj.mapSeq (·.pop) (listOf (us.toArray.push .none) (c₀+1))=listOf us.toArray (c₀+1+1):=by simp [Obj.mapSeq]
 have hgo:∀ h2:Heap,h2=((h.update S (Obj.mapSeq (·.push Value.none))).update S (Obj.mapSeq (·.pop)))->h2.get? S=some (listOf us.toArray (c₀+1+1))->codeAny (model prog w) A (.builtin "list.extend.loop" ⟨[.ref S,.ref I,res],[]⟩) R ⟨h2,gs,dr,tk',os⟩:=by
  rintro h2 rfl hS₃
  have oth:∀ b o,b≠S->h.get? b=some o->((h.update S (Obj.mapSeq (·.push Value.none))).update S (Obj.mapSeq (·.pop))).get? b=some o:=λ b o hb e =>
   (Heap.get?_update_other _ _ (Ne.symm hb)).trans ((Heap.get?_update_other _ _ (Ne.symm hb)).trans e)
  exact jgu W hSf (Jb6 hsz) n 0 _ gs dr os tk' [] _ rfl (Nat.zero_le _) (W.frame 0 _ _ hst λ b hb o e=>oth b o (λ h=>hSf (h▸hb)) e) (by simpa using hS₃) (ItemsOf.nil _) λ h' tk'' acc' c' hk hS' hacc=>hR h' tk'' acc' c' (λ b o hb1 hb2 e=>hk b o hb1 hb2 (oth b o hb1 e)) hS' hacc
 have hS₃:=Heap.get?_update_self (Obj.mapSeq (·.pop)) hS₂ (by refine rwr e2 ?_; rfl)
 rw [e2] at hS₃
 refine wpAny_updateSeq (xs:=us.toArray.push .none) (n:=c₀+1) hS₂ rfl ?_ (by show _<=16777216; rw [Array.size_push]; refine rwr Jc5 ?_; exact Jb1 (Jb5 _ _) ‹_›) (by show ((us.toArray.push _).pop).size<=16777216+1; simp; exact Jd8 ‹_›)
 exact wpAny_pure ⟨plainId_quiet PySem.F.plain_extend_loop _,hgo _ rfl hS₃⟩
end
section
variable {prog:Program} {w:World} {A:Around} {E:Value->Shared->Prop} {s:Shared}
theorem jj0 {I t:Addr} {i:Int} {items:Array Value} {Q:Bool->Shared->Prop} (hit:IsRevT s.heap I t i) (ht:IsTup s.heap t items) (hi:i+1<=items.size) (h0:0<=i+1) (hfit:items.size<=16777216) (hQ:∀ b tk,Q b { s with toks:=tk }) :
  wpAny (model prog w) A (Builtin.List.listLengthHint (.ref I)) Q E s:=by
 refine jdI (id hit) λ o ho hc hd=>?_
 unfold Builtin.List.listLengthHint
 refine wpAny_bind (wpAny_specialOf hit.typeIs jhD ?_)
 show wpAny _ _ (specialOf (Value.ref I) (Str.ofString "__length_hint__") >>= _) _ _ _
 refine wpAny_bind (wpAny_specialOf hit.typeIs jbI.lookup ?_)
 generalize hid:("reversed.__length_hint__" : String)=id0
 wp_delta
 refine rwr (show splitId id0=some ("reversed", "__length_hint__") from by subst hid; decide +kernel) ?_
 subst hid
 refine wpAny_bind (wpAny_isInstance (T := "reversed") (b:=true) hit.typeIs PySem.F.sub_reversed_self ?_)
 refine wpAny_ite_split (λ hab=>absurd hab (by decide)) (λ U=>?_)
 refine wpAny_ite_split (λ hab=>absurd hab (by decide +kernel)) (λ U=>?_)
 refine wpAny_bind (wpAny_rule ?_)
 refine wpAny_bind (wpAny_of_eq (jbI.bind _) ?_)
 try dsimp only
 refine wpAny_bind (wpAny_attempt (wpAny_call_entry jbI hit.typeIs jdL ?_ (jee _)))
 unfold Builtin.«reversed.__length_hint__»
 refine wpAny_bind (wpAny_of_eq (a:=Value.ref I) rfl ?_)
 refine wpAny_bind (wpAny_field ho hd (x:=.ref t) rfl ?_)
 refine wpAny_ite_split (λ hab=>absurd hab (by refine rwr (show (Value.ref t == Value.none)=false from rfl) ?_; decide)) (λ U=>?_)
 refine wpAny_bind (PyProof.Rows.len_tuple ht (by lia) ?_)
 refine wpAny_bind (wpAny_of_eq (a:=some (items.size:Int)) rfl ?_)
 try dsimp only
 refine wpAny_bind (wpAny_field ho hd (x:=rawInt i) rfl ?_)
 show wpAny _ _ (if (items.size:Int)<i+1 then _ else _) _ _ _
 refine rwr (if_neg (by lia)) ?_
 show wpAny _ _ (retInt (i+1)) _ _ _
 refine wpAny_ret_mkInt ?_
 try dsimp only
 refine wpAny_bind (wpAny_of_eq (a:=some (i+1)) rfl ?_)
 try dsimp only
 have hlong:¬ Builtin.List.listTooLong (i+1).toNat=true:=by
  have:¬ ((i+1).toNat > sizeLine):=by
   show ¬ ((i+1).toNat > 16777216)
   lia
  simpa [Builtin.List.listTooLong] using this
 have hfits:¬ (!Builtin.List.listFitsIndex (i+1))=true:=by simp [Builtin.List.listFitsIndex]; lia
 refine rwr (if_neg hfits) ?_
 refine rwr (if_neg (by lia)) ?_
 refine rwr (if_neg hlong) ?_
 exact wpAny_pure (hQ _ _)
theorem jjZ {I l:Addr} {i:Int} {Q:Bool->Shared->Prop} (hit:s.heap.IsRevIter I l i) (hQ:Q false s):wpAny (model prog w) A (Builtin.List.listLengthHint (.ref I)) Q E s:=by
 unfold Builtin.List.listLengthHint
 refine wpAny_bind (wpAny_specialOf hit.typeIs jhr ?_)
 show wpAny _ _ (specialOf (Value.ref I) (Str.ofString "__length_hint__") >>= _) _ _ _
 refine wpAny_bind (wpAny_specialOf hit.typeIs jkb ?_)
 generalize hid:("list_reverseiterator.__length_hint__" : String)=id0
 wp_delta
 refine rwr (show splitId id0=some ("list_reverseiterator", "__length_hint__") from by subst hid; decide +kernel) ?_
 subst hid
 refine wpAny_bind (wpAny_isInstance (T := "list_reverseiterator") (b:=true) hit.typeIs (by rw [isSubtype_type]; kernel_rfl) ?_)
 refine wpAny_ite_split (λ hab=>absurd hab (by decide)) (λ U=>?_)
 refine wpAny_ite_split (λ U=>?_) (λ hab=>absurd (by decide +kernel) hab)
 refine wpAny_ite_split (λ hab=>absurd hab (by decide +kernel)) (λ U=>?_)
 exact wpAny_pure hQ
end
theorem jfs {vs:List Value} {acc:List Value} (h:ItemsOf (λ i v=>vs.toArray[vs.length - 1 - i]? = some v) acc.toArray vs.length):acc=vs.reverse:=by
 refine jbi h λ h1 h2=>?_
 have hl:acc.length=vs.length:=h1
 apply List.ext_getElem?
 intro i
 refine Jc8 (Jc9 (i<vs.length)) (λ hi=>?_) λ hi=>?_
 ·have hi':i<acc.length:=Nat.lt_of_lt_of_eq ‹_› (Eq.symm ‹_›)
  refine rwr (List.getElem?_eq_getElem hi') ?_
  have:=h2 i acc[i] (by simp [hi'])
  simp only [List.getElem?_toArray] at this
  refine rwr (List.getElem?_reverse hi) ?_
  refine rwr this ?_
  rfl
 ·refine rwr (List.getElem?_eq_none (by lia)) ?_
  refine rwr (List.getElem?_eq_none (by simp; exact Jd2 ‹_›)) ?_
  rfl
section
variable {prog:Program} {w:World} {A:Around} {E:Value->Shared->Prop} {gs:Array GenState} {dr:Drawn} {os:OsState} {tk:Tok}
 {b₀ h h':Heap} {L l t I S:Addr} {m:Str->Option Value} {led:List (Addr×Obj)} {Q:Value->Shared->Prop}
theorem jpU {vs:List Value} (W:Fx b₀ h L m led) (hm:(t,ja1 vs)∈led) (hsz:vs.length<=16777216) (k:∀ x h' tk',Fx b₀ h' L m ((x,jkE t ((vs.length:Int) - 1))::led)->Q (.ref x) ⟨h',gs,dr,tk',os⟩) :
  wpAny (model prog w) A (call (.type "reversed") [.ref t]) Q E ⟨h,gs,dr,tk,os⟩:=by
 refine jeW (ja3 W.C hm) (by refine rwr Jc5 ?_; exact hsz) λ tk'=>?_
 refine rwr Jc5 ?_
 exact k _ _ _ (W.push _)
theorem jpT {vs:List Value} {e:Nat} (W:Fx b₀ h L m led) (hm:(l,listOf vs.toArray e)∈led) (k:∀ x h',Fx b₀ h' L m ((x,revObj l ((vs.length:Int) - 1))::led)->Q (.ref x) ⟨h',gs,dr,tk,os⟩) :
  wpAny (model prog w) A (call (.type "reversed") [.ref l]) Q E ⟨h,gs,dr,tk,os⟩:=by
 refine call_reversed_list (jaq W.C hm) ?_
 refine rwr Jc5 ?_
 exact k _ _ (W.push _)
theorem Fx.moved {o oS oS':Obj} {led':List (Addr×Obj)} (W:Fx b₀ h L m ((I,o)::led)) (p:Pt S oS oS' led led') (hk:∀ b o,b≠S->b∉[I]->h.get? b=some o->h'.get? b=some o) (hS:h'.get? S=some oS'):Fx b₀ h' L m led':=by
 refine jdR p.split λ pre post e_1 e_2=>?_
 subst e_1
 subst e_2
 have hnd:=W.C.nd
 rw [Ja8,Jd9] at hnd
 replace hnd:=hnd
 have hI:∀ q∈pre++(S,oS)::post,q.1≠I:=λ q hq e=>hnd.1 (Jb9 ⟨q,hq,e⟩)
 have hmS:(S,oS)∈pre++(S,oS)::post:=Ja6 _ (.head _)
 have keep:∀ b o,b≠S->b≠I->h.get? b=some o->h'.get? b=some o:=λ b o h1 h2 e=>hk b o h1 (λ q=>h2 (Ja2.mp q)) e
 have st:b₀.StaysIn h':=λ b x e=>keep b x (λ q=>by have:=W.C.fresh (.tail _ hmS); rw [q,this] at e; replace e:=e; exact nomatch e) (λ q=>by have:=W.C.fresh (.head _); rw [q,this] at e; replace e:=e; exact nomatch e) (W.C.stays b x e)
 have ⟨n1,n2⟩:=jfk hnd.2
 refine ⟨⟨W.F.ns.at' λ o e=>keep L o (λ q=>W.nL _ (.tail _ hmS) q.symm) (λ q=>W.nL _ (.head _) q.symm) e,st,W.F.above⟩,⟨st,λ q hq=>?_,λ q hq=>?_,jd2 hnd.2⟩,λ q hq=>?_⟩
 ·rcases Ja9.mp hq with a | a
  ·exact keep _ _ (n1 q a) (hI q (Ja7 _ a)) (W.C.own q (.tail _ (Ja7 _ a)))
  ·refine Jc8 (Ja3.mp a) (λ e_3=>?_) λ a=>?_
   ·subst e_3; exact hS
   ·exact keep _ _ (n2 q a) (hI q (Ja6 _ (.tail _ a))) (W.C.own q (.tail _ (Ja6 _ (.tail _ a))))
 ·refine Jc8 (Ja9.mp hq) (λ a=>?_) λ a=>?_
  ·exact W.C.new q (.tail _ (Ja7 _ a))
  ·refine Jc8 (Ja3.mp a) (λ e_4=>?_) λ a=>?_
   ·subst e_4; exact W.C.new (S,oS) (.tail _ hmS)
   ·exact W.C.new q (.tail _ (Ja6 _ (.tail _ a)))
 ·refine Jc8 (Ja9.mp hq) (λ a=>?_) λ a=>?_
  ·exact W.nL q (.tail _ (Ja7 _ a))
  ·refine Jc8 (Ja3.mp a) (λ e_5=>?_) λ a=>?_
   ·subst e_5; exact W.nL (S,oS) (.tail _ hmS)
   ·exact W.nL q (.tail _ (Ja6 _ (.tail _ a)))
theorem jmK {vs us:List Value} {n:Nat} {led':Nat->List (Addr×Obj)} (hh:A.handled=none) (W:Fx b₀ h L m ((I,jkE t ((vs.length:Int) - 1))::led)) (ht:(t,ja1 vs)∈led)
  (p:∀ n',Pt S (listOf us.toArray n) (listOf (us++vs.reverse).toArray n') led (led' n')) (hsz:us.length+vs.length<16777216) (k:∀ h' n' tk',Fx b₀ h' L m (led' n')->Q .none ⟨h',gs,dr,tk',os⟩) :
  wpAny (model prog w) A (call (.builtin "list.extend") [.ref S,.ref I]) Q E ⟨h,gs,dr,tk,os⟩:=by
 have hmS:=(p 0).mem
 have hS:=W.C.own _ (.tail _ hmS)
 have hnd:=W.C.nd
 rw [Ja8,Jd9] at hnd
 replace hnd:=hnd
 have htI:t≠I:=λ e=>hnd.1 (Jb9 ⟨_,ht,e⟩)
 have hSI:S≠I:=λ e=>hnd.1 (Jb9 ⟨_,hmS,e⟩)
 have hSt:S≠t:=λ e=>by
  have h1:=W.C.own _ (.tail _ ht)
  have h2:=hS
  rw [show ((t,ja1 vs):Addr×Obj).1=S from e.symm] at h1
  rw [show ((S,listOf us.toArray n):Addr×Obj).1=S from rfl,h1] at h2
  exact absurd (congrArg Obj.cls (Jb0 h2)) (by show ¬ (Value.type "tuple" = Value.type "list"); decide)
 have htup:=ja3 (W.C.sub (λ U hp=>.tail _ hp) hnd.2) ht
 have hit:IsRevT h I t ((vs.length:Int) - 1):=⟨_,W.C.own _ (.head _),rfl,rfl⟩
 have Wk:=jfB (prog:=prog) (w:=w) (A:=A.in1.in1) hh I t htI vs.toArray (by refine rwr Jc5 ?_; lia)
 rw [Jc5] at Wk
 refine call_meetsIn (S:=λ A R s=>wpAny (model prog w) A.in1 (Builtin.«list.extend» ⟨[.ref S,.ref I],[]⟩) (λ fin s'=>match fin with | .done f=>R (.ok f) s' | .again c'=>c'.quiet=true/\codeAny (model prog w) A c' R s') (λ e s'=>R (.error e) s') s)
  PySem.F.slot_list_extend ⟨_,hS,rfl⟩ PySem.F.entry_list_extend (PySem.F.args_list_extend_2 _ _) (λ U U U h=>h) ?_
 show wpAny _ _ (Builtin.List.listExtendWith (.ref S) (.ref I) .none) _ _ _
 refine jgv (A:=A) (us:=us) (c₀:=n) (T := "reversed") (Wk.of_in1) (by simp [hSI,hSt]) (.head _) hsz hit.typeIs (by decide) (by decide) ⟨Nat.zero_le _,by refine rwr (show ((vs.length:Int) - 1 - ((0:Nat):Int))=(vs.length:Int) - 1 from by lia) ?_; exact hit,htup⟩ hS (λ Q E hq=>jj0 hit htup (by refine rwr Jc5 ?_; lia) (by lia) (by refine rwr Jc5 ?_; lia) hq) ?_
 intro h' tk' acc' c' hk hS' hacc
 have e:=jfs hacc
 subst e
 exact k h' c' tk' (W.moved (p c') hk hS')
theorem jkA {vs:List Value} {e:Nat} (hh:A.handled=none) (W:Fx b₀ h L m ((I,revObj l ((vs.length:Int) - 1))::led)) (hm:(l,listOf vs.toArray e)∈led) (hsz:vs.length<16777216)
  (k:∀ x h' tk' e',Fx b₀ h' L m ((x,listOf vs.reverse.toArray e')::led)->Q (.ref x) ⟨h',gs,dr,tk',os⟩) :
  wpAny (model prog w) A (call (.type "list") [.ref I]) Q E ⟨h,gs,dr,tk,os⟩:=by
 have hnd:=W.C.nd
 rw [Ja8,Jd9] at hnd
 replace hnd:=hnd
 have hlI:l≠I:=λ e=>hnd.1 (Jb9 ⟨_,hm,e⟩)
 have hlist:=jaq (W.C.sub (λ U hp=>.tail _ hp) hnd.2) hm
 have Wk:=Walks.listRev (prog:=prog) (w:=w) (A:=A.in1.in1) hh I l hlI vs.toArray
 rw [Jc5] at Wk
 have hIlt:I<h.objs.size:=Heap.lt_size (W.C.own _ (.head _))
 have hllt:l<h.objs.size:=Heap.lt_size (W.C.own _ (.tail _ hm))
 refine callType_codes (Q₁:=λ obj s₁=>obj=.ref h.objs.size/\s₁=⟨h.push { cls:=.type "list",data:=.seq #[] },gs,dr,tk,os⟩) PySem.F.called_list (PySem.F.typeCall_list_1 _) PySem.F.entry_list_init
  (PySem.code_list_new _ ⟨rfl,rfl⟩) λ obj s₁ h₁=>?_
 obtain ⟨rfl,rfl⟩:=h₁
 have hS:(h.push { cls:=.type "list",data:=.seq #[] }).get? h.objs.size=some { cls:=.type "list",data:=.seq #[] }:=Heap.get?_push_size _ rfl
 refine ⟨⟨_,hS,rfl⟩,PySem.F.args_list_init_2 _ _,?_⟩
 show wpAny _ A.in1.in1 (do let old <- Builtin.List.listItems (.ref h.objs.size); Builtin.List.listUpdate (.ref h.objs.size) (λ U=>#[]); letGo old.toList.reverse; Builtin.List.listExtendWith (.ref h.objs.size) (.ref I) .none) _ _ _
 refine wpAny_bind ?_
 unfold Builtin.List.listItems
 refine wpAny_bind (wpAny_seqItems hS rfl (wpAny_pure ?_))
 show wpAny _ _ (updateSeq h.objs.size (λ U=>#[]) >>= λ U=>letGo (#[]:Array Value).toList.reverse >>= λ U=>Builtin.List.listExtendWith (.ref h.objs.size) (.ref I) .none) _ _ _
 refine wpAny_bind (wpAny_updateSeq hS rfl ?_)
 have hS₂:=Heap.get?_update_self (Obj.mapSeq (λ U=>(#[]:Array Value))) hS rfl
 have oth:∀ b o,b≠h.objs.size->h.get? b=some o->((h.push { cls:=.type "list",data:=.seq #[] }).update h.objs.size (Obj.mapSeq (λ U=>(#[]:Array Value)))).get? b=some o :=
  λ b o hb e=>(Heap.get?_update_other _ _ (Ne.symm hb)).trans (Heap.get?_push_of_some _ e)
 refine wpAny_bind (wpAny_letGo ?_)
 have hit₂:=(show h.IsRevIter I l ((vs.length:Int) - 1) from ⟨_,W.C.own _ (.head _),rfl,rfl⟩).at (h':=(h.push { cls:=.type "list",data:=.seq #[] }).update h.objs.size (Obj.mapSeq (λ U=>(#[]:Array Value)))) λ o e=>oth I o (Nat.ne_of_lt hIlt) e
 refine jgv (A:=A.in1) (us:=[]) (T := "list_reverseiterator") (S:=h.objs.size) Wk (by simp [Nat.ne_of_gt hIlt,Nat.ne_of_gt hllt]) (.head _) (by simpa using hsz) hit₂.typeIs (by decide) (by decide) ⟨Nat.zero_le _,by refine rwr (show ((vs.length:Int) - 1 - ((0:Nat):Int))=(vs.length:Int) - 1 from by lia) ?_; exact hit₂,(hlist.at (h':=(h.push { cls:=.type "list",data:=.seq #[] }).update h.objs.size (Obj.mapSeq (λ U=>(#[]:Array Value)))) λ o e=>oth l o (Nat.ne_of_lt hllt) e)⟩ hS₂ (λ Q E hq=>jjZ hit₂ (hq _ _)) ?_
 intro h' tk' acc' c' hk hS' hacc
 have e:=jfs hacc
 subst e
 refine ⟨rfl,k _ h' tk' c' ?_⟩
 rw [Ja5] at hS'
 have keep:∀ b o,b≠I->h.get? b=some o->h'.get? b=some o:=λ b o hb e =>
  hk b o (Nat.ne_of_lt (Heap.lt_size e)) (λ q=>hb (Ja2.mp q)) (oth b o (Nat.ne_of_lt (Heap.lt_size e)) e)
 have W0:Fx b₀ h L m led:=⟨W.F,W.C.sub (λ U hp=>.tail _ hp) hnd.2,λ p hp=>W.nL p (.tail _ hp)⟩
 have st:b₀.StaysIn h':=λ b x e=>keep b x (λ q=>by rw [q,(W.C.fresh (.head _))] at e; replace e:=e; exact nomatch e) (W.C.stays b x e)
 have Wd:Fx b₀ h' L m led:=⟨⟨W.F.ns.at' λ o e=>keep L o (λ q=>W.nL _ (.head _) q.symm) e,st,W.F.above⟩,⟨st,λ p hp=>keep _ _ (λ q=>hnd.1 (Jb9 ⟨p,hp,q⟩)) (W0.C.own p hp),W0.C.new,W0.C.nd⟩,W0.nL⟩
 refine ⟨Wd.F,Wd.C.more hS' (Jb6 (Jb1 W.F.above W.ltL)) λ p hp=>Nat.ne_of_lt (W0.C.lt hp),λ p hp=>?_⟩
 rcases Ja3.mp hp with rfl | hp
 ·exact Nat.ne_of_gt W.ltL
 ·exact W0.nL p hp
theorem jj5 {vs:List Value} {x:Str} {xp:Pos} (hh:A.handled=none) (W:Fx b₀ h L m ((I,jkE t ((vs.length:Int) - 1))::led)) (hm:(t,ja1 vs)∈led) (hsz:vs.length<=16777216) :
  Itr prog w A (.Name x xp) b₀ L [(t,ja1 vs)] (λ i v U=>vs.reverse[i]? = some v) vs.length h m [(I,jkE t ((vs.length:Int) - 1))] led (.ref I):=by
 have hnd:=W.C.nd
 rw [Ja8,Jd9] at hnd
 replace hnd:=hnd
 have Wk:=jfB (prog:=prog) (w:=w) (A:=A) hh I t (λ e=>hnd.1 (Jb9 ⟨_,hm,e⟩)) vs.toArray (by refine rwr Jc5 ?_; exact hsz)
 have K:=KTurns.ofWalks (target:=.Name x xp) Wk λ i v s Q E U q=>jfb q
 rw [Jc5] at K
 replace K:=K
 have st0:0<=vs.toArray.size/\IsRevT h I t (((vs.toArray.size:Nat):Int) - 1 - ((0:Nat):Int))/\IsTup h t vs.toArray:=⟨Nat.zero_le _,by refine rwr Jc5 ?_; refine rwr (show ((vs.length:Int) - 1 - ((0:Nat):Int))=(vs.length:Int) - 1 from by lia) ?_; exact (⟨_,W.C.own _ (.head _),rfl,rfl⟩),(ja3 (W.C.sub (λ U hp=>.tail _ hp) hnd.2) hm)⟩
 refine Itr.mk ⟨I,_,_,(λ i v h=>vs.toArray[vs.toArray.size - 1 - i]? = some v/\(i+1<=vs.toArray.size/\IsRevT h I t ((vs.toArray.size:Int) - 1 - ((i+1:Nat):Int))/\IsTup h t vs.toArray)/\i<vs.length),_,rfl,
  ⟨K.sub,K.frame,λ i s Q E hi st hQ=>K.item i s Q E hi st λ v h' tk md hk=>hQ v h' tk ⟨md.1,md.2,hi⟩ hk,λ i v s Q E md hQ=>K.go i v s Q E ⟨md.1,md.2.1⟩ λ h' p st hk=>hQ h' ?_ st hk,K.done⟩,λ i h' st b hb=>?_,rfl,λ b hb hn=>?_,st0,λ s Q E st q=>Wk.self 0 s Q E st q,λ h' hk=>Wk.frame 0 _ h' st0 hk⟩ W
 ·refine rwr (List.getElem?_reverse md.2.2) ?_; simpa using p
 ·refine rwr (Ja2.mp hb) ?_
  refine jbq st λ U n_9 U=>?_
  refine jam n_9 λ o ho U=>?_
  exact ⟨o,ho⟩
 ·rcases Ja3.mp hb with rfl | hb
  ·exact absurd (Ja2.mpr rfl) hn
  ·refine rwr (Ja2.mp hb) ?_; exact ⟨_,.head _⟩
theorem jjV {vs:List Value} {env:Env} {body:List Stmt} {R:Result->Shared->Prop} {x:Str} {xp:Pos} (hh:A.handled=none) (W:Fx b₀ h env.locals m ((I,jkE t ((vs.length:Int) - 1))::led)) (hm:(t,ja1 vs)∈led) (hsz:vs.length<=16777216)
  (J:Nat->(Str->Option Value)->List (Addr×Obj)->Prop) (h0:J 0 m led) (hJs:∀ i m led,J i m led->(t,ja1 vs)∈led)
  (step:∀ i v m₁ led₁,vs.reverse[i]? = some v->J i m₁ led₁->jne prog w A b₀ env x body gs dr os R (J (i+1)) v m₁ led₁)
  (hR:∀ h' tk' m' led',Fx b₀ h' env.locals m' led'->J vs.length m' led'->R (.ok .next) ⟨h',gs,dr,tk',os⟩)
  (hx:env.kindOf x=some .local:=by rfl) (hp:(env.scope.kind == .class || (env.scope.kind == .module && env.locals != env.globals))=false:=by rfl) :
  wpAny (model prog w) A (pyIter (.ref I)) (λ it s₂=>codeAny (model prog w) A (.forLoop (.Name x xp) it body [] env) R s₂) E ⟨h,gs,dr,tk,os⟩:=by
 have T:=jj5 (prog:=prog) (w:=w) (A:=A) (x:=x) (xp:=xp) hh W hm hsz
 exact T.self (jew T J h0 (λ i m led j p hp=>by refine rwr (Ja2.mp hp) ?_; exact hJs i m led j) (λ i v m₁ led₁ h₁ tk₁ its₁ E' U hv j e W'=>jdC hx hp (step i v m₁ led₁ hv j) e W') hR)
end
end
section
section
variable {prog:Program} {w:World} {A:Around} {gs:Array GenState} {dr:Drawn} {os:OsState} {tk:Tok}
 {b₀ h:Heap} {L:Addr} {m:Str->Option Value} {led:List (Addr×Obj)} {env:Env}
inductive WSt (b₀:Heap) (L:Addr) (gs:Array GenState) (dr:Drawn) (os:OsState) (J:Nat->(Str->Option Value)->List (Addr×Obj)->Prop) (n:Nat):Shared->Prop
 | mk (h₁:Heap) (tk₁:Tok) (m₁:Str->Option Value) (led₁:List (Addr×Obj)) (W:Fx b₀ h₁ L m₁ led₁) (j:J n m₁ led₁):WSt b₀ L gs dr os J n ⟨h₁,gs,dr,tk₁,os⟩
theorem jog {test:Expr} {body:List Stmt} {pos:Pos} {Q:Flow->Shared->Prop} {E:Value->Shared->Prop} (J:Nat->(Str->Option Value)->List (Addr×Obj)->Prop) {n₀:Nat} (W:Fx b₀ h L m led) (hJ:J n₀ m led)
  (turn:∀ n m₁ led₁ h₁ tk₁ (E':Value->Shared->Prop),Fx b₀ h₁ L m₁ led₁->J n m₁ led₁ ->
   wpAny (model prog w) A (isTrue test env (eval test env)) (λ b s₂ =>
    if b=true then wpAny (model prog w) A (execs body env) (λ f s₃=>match f with
     | .ret v=>Q (.ret v) s₃
     | .brk=>Q .next s₃
     | _=>jdK b₀ L gs dr os [] (λ m' led'=>∃ n',n' < n/\J n' m' led') s₃) E' s₂ else Q .next s₂) E' ⟨h₁,gs,dr,tk₁,os⟩) :
  wpAny (model prog w) A (exec (.While test body [] pos) env) Q E ⟨h,gs,dr,tk,os⟩:=by
 refine wpAny_While (codeAny_whileLoop (WSt b₀ L gs dr os J) ?_ n₀ (.mk h tk m led W hJ))
 intro n s' hs'
 refine hs'.rec λ h₁ tk₁ m₁ led₁ W₁ J₁=>?_
 clear hs'
 refine wpAny_mono (turn n m₁ led₁ h₁ tk₁ _ W₁ J₁) (λ b s₂ h₂=>?_) λ U U e=>e
 cases b with
 | false =>
  dsimp only [Bool.false_eq_true,if_false] at h₂ ⊢
  exact wpAny_execs_nil h₂
 | true =>
  dsimp only [if_true] at h₂ ⊢
  refine wpAny_mono h₂ (λ f s₃ h₃=>?_) λ U U e=>e
  have fin:jdK b₀ L gs dr os [] (λ m' led'=>∃ n',n' < n/\J n' m' led') s₃->∃ n',n' < n/\WSt b₀ L gs dr os J n' s₃:=by
   rintro ⟨h',tk',m',led',rfl,W',n',hn,j⟩
   exact ⟨n',hn,.mk h' tk' m' led' W' j⟩
  cases f with
  | ret v=>exact h₃
  | brk=>exact h₃
  | cont=>exact fin h₃
  | next=>exact fin h₃
end
noncomputable abbrev jbz (f:List Nat):List (Int×Value):=f.map λ t:Nat=>((t:Int),Value.bool true)
theorem je5 (f:List Nat):(jbz f).map (·.1)=f.map λ n:Nat=>(n:Int):=by rw [jbz]; refine rwr List.map_map ?_; rfl
theorem jco (f:List Nat) (x:Nat):(valueAt (jbz f) (x:Int)).isSome=decide (x∈f):=by
 by_cases h:x∈f
 ·obtain ⟨v,e⟩:=jdP (kvs:=jbz f) (k:=(x:Int)) (by simp only [jbz,List.map_map]; exact Jb9 ⟨x,h,rfl⟩)
  refine rwr e ?_; simp [h]
 ·have e:valueAt (jbz f) (x:Int)=none:=by
   unfold valueAt
   cases q:(jbz f).find? (λ kv=>kv.1=(x:Int)) with
   | none=>rfl
   | some p =>
    have h2:=List.find?_some q
    refine jam (Jb8 (List.mem_of_find?_eq_some q)) λ y hy e_5=>?_
    subst e_5
    exact absurd (by have:=of_decide_eq_true h2; refine rwl (Int.ofNat.inj this) ?_; exact hy) h
  refine rwr e ?_; simp [h]
theorem jcZ {us vs:List Value} {a b:List Int} (h:IntsAre us a) (g:IntsAre vs b):IntsAre (us++vs) (a++b):=by
 induction h with
 | nil=>exact g
 | cons n t _ ih=>exact .cons n t ih
noncomputable def ja7 (o:Op):Nat:=if o=.con then 1 else 2
noncomputable def jaU (o:Op):Nat:=if o=.con then 2 else 1
noncomputable def jaC (o:Op):Op:=if o=.con then .dis else .con
noncomputable def ins (t:Nat) (f:List Nat):List Nat:=if t∈f then f else f++[t]
theorem jh8 (f:List Nat) (t:Nat):stored (jbz f) (t:Int) (.bool true)=jbz (ins t f):=by
 unfold stored ins
 by_cases h:t∈f
 ·have ha:(jbz f).any (λ kv=>kv.1=(t:Int))=true:=List.any_eq_true.mpr ⟨((t:Int),.bool true),Jb9 ⟨t,h,rfl⟩,by simp⟩
  refine rwr (if_pos ha) ?_
  refine rwr (if_pos h) ?_
  simp only [jbz,List.map_map]
  refine List.map_congr_left λ x U=>?_
  dsimp only [Function.comp]
  split
  ·rename_i e; refine rwr e ?_; rfl
  ·rfl
 ·have ha:¬ (jbz f).any (λ kv=>kv.1=(t:Int))=true:=λ q=>by
   refine jam (List.any_eq_true.mp q) λ p hp e=>?_
   refine jam (Jb8 hp) λ y hy e_6=>?_
   subst e_6
   exact h (by have:=of_decide_eq_true e; refine rwl (Int.ofNat.inj this) ?_; exact hy)
  refine rwr (if_neg ha) ?_
  refine rwr (if_neg h) ?_
  simp [jbz]
theorem jmf (t:Nat) (f:List Nat):(ins t f).length<=f.length+1:=by unfold ins; split <;> simp
theorem jiv {t x:Nat} {f:List Nat}:x∈ins t f↔x∈f\/x=t:=by
 unfold ins; split
 ·rename_i h; constructor
  ·exact .inl
  ·rintro (h' | rfl); exact h'; exact h
 ·simp
noncomputable def jat:Nat->List Tm->Op->List Nat->List Nat->Option (Option (List Nat)×List Tm)
 | 0,_,_,_,_=>none
 | _+1,B,_,f,[]=>some (some f,B)
 | n+1,B,o,f,t::st =>
  if t=ja7 o then jat n B o f st
  else if t=jaU o then some (none,B)
  else if (jab B t).1∈f then some (none,(jab B t).2)
  else if jad (jab B t).2 t=o then jat n (jab B t).2 o f (jaa (jab B t).2 t++st)
  else jat n (jab B t).2 o (ins t f) st
theorem jaz:∀ (n:Nat) {B B':List Tm} {o:Op} {f st:List Nat} {fr:Option (List Nat)},jat n B o f st=some (fr,B')->Ext B B':=by
 intro n
 induction n with
 | zero =>
  intro _ _ _ _ _ _ h
  simp [jat] at h
 | succ n ih =>
  intro B _ o f w_1
  cases w_1 with
  | nil =>
   intro _ h
   simp only [jat,Option.some.injEq,Prod.mk.injEq] at h
   refine rwl h.2 ?_; exact Ext.refl B
  | cons t st =>
   intro _ h
   have hx:=jag B t
   dsimp only [jat] at h
   split at h
   ·exact ih h
   ·refine ith h (λ q_7 h=>?_) λ q_8 h=>?_
    ·simp only [Option.some.injEq,Prod.mk.injEq] at h; replace h:=h; replace h:=h; refine rwl h.2 ?_; exact Ext.refl B
    ·refine ith h (λ q_9 h=>?_) λ q_10 h=>?_
     ·simp only [Option.some.injEq,Prod.mk.injEq] at h; replace h:=h; refine rwl h.2 ?_; exact hx
     ·refine ith h (λ q_11 h=>?_) λ q_12 h=>?_
      ·exact hx.trans (ih h)
      ·exact hx.trans (ih h)
theorem jgx:∀ (n:Nat) {B B':List Tm} {o:Op} {f st:List Nat} {fr:Option (List Nat)},Wf B->(∀ t∈st,t<B.length)->(∀ t∈f,t<B.length)->jat n B o f st=some (fr,B')->Wf B'/\∀ f',fr=some f'->∀ t∈f',t<B'.length:=by
 intro n
 induction n with
 | zero =>
  intro _ _ _ _ _ _ _ _ _ h
  simp [jat] at h
 | succ n ih =>
  intro B _ o f w_2
  cases w_2 with
  | nil =>
   intro _ w _ hf h
   simp only [jat,Option.some.injEq,Prod.mk.injEq] at h
   obtain ⟨rfl,rfl⟩:=h
   exact ⟨w,λ f' e=>by obtain rfl:=Jb0 e; exact hf⟩
  | cons t st =>
   intro _ w hs hf h
   have ht:=hs t (.head _)
   have hst:∀ x∈st,x<B.length:=λ x hx=>hs x (.tail _ hx)
   have hx:=jag B t
   have w2:=jbt w ht
   have up:∀ {l:List Nat},(∀ x∈l,x<B.length)->∀ x∈l,x<(jab B t).2.length:=λ h x hx'=>Ja1 (h x hx') hx.len
   dsimp only [jat] at h
   split at h
   ·exact ih w hst hf h
   ·split at h
    ·simp only [Option.some.injEq,Prod.mk.injEq] at h; replace h:=h; obtain ⟨rfl,rfl⟩:=h; exact ⟨w,λ f' e=>nomatch e⟩
    ·split at h
     ·simp only [Option.some.injEq,Prod.mk.injEq] at h; obtain ⟨rfl,rfl⟩:=h; exact ⟨w2.1,λ f' e=>nomatch e⟩
     ·refine ith h (λ q_25 h=>?_) λ q_26 h=>?_
      ·refine ih w2.1 (λ x hx'=>?_) (up hf) h
       refine Jc8 (Ja9.mp hx') (λ q=>?_) λ q=>?_
       ·exact Jd1 (jaL w2.1 q) (Ja1 ht hx.len)
       ·exact up hst x q
      ·refine ih w2.1 (up hst) (λ x hx'=>?_) h
       refine Jc8 (jiv.mp hx') (λ q=>?_) λ e_13=>?_
       ·exact up hf x q
       ·subst e_13; exact Ja1 ht hx.len
noncomputable def jaA (B:List Tm) (o:Op) (l:List Nat):Nat×List Tm:=if o=.con then jfF B l else jmy B l
noncomputable def jaE:List Tm->List Nat->List Nat->List Nat×List Tm
 | B,_,[]=>([],B)
 | B,f,x::r=>let q:=jaE (jab B x).2 f r; (if (jab B x).1∈f then q.1 else x::q.1,q.2)
theorem jcG (B:List Tm) (f:List Nat) (x:Nat) (r:List Nat):jaE B f (x::r)=(if (jab B x).1∈f then (jaE (jab B x).2 f r).1 else x::(jaE (jab B x).2 f r).1,(jaE (jab B x).2 f r).2):=rfl
noncomputable def jal:List Tm->Op->List Nat->List Nat->List Nat×List Tm
 | B,_,_,[]=>([],B)
 | B,o',f,t::r =>
  if jad B t≠o' then let q:=jal B o' f r; (t::q.1,q.2)
  else if (jaa B t).any (λ x=>decide (x∈f)) then jal B o' f r
  else let l:=jaE B f (jaa B t)
   if l.1.length=(jaa l.2 t).length then let q:=jal l.2 o' f r; (t::q.1,q.2)
   else let j:=jaA l.2 o' l.1; let q:=jal j.2 o' f r; (j.1::q.1,q.2)
noncomputable def jao:List Tm->Op->List Nat->List Nat->List (List Tm×List Nat)
 | _,_,_,[]=>[]
 | B,o',f,t::r =>
  if jad B t≠o' then jao B o' f r
  else if (jaa B t).any (λ x=>decide (x∈f)) then jao B o' f r
  else let l:=jaE B f (jaa B t)
   if l.1.length=(jaa l.2 t).length then jao l.2 o' f r
   else (l.2,l.1)::jao (jaA l.2 o' l.1).2 o' f r
theorem jdr:∀ (l:List Nat) (B:List Tm) (f:List Nat),Ext B (jaE B f l).2:=by
 intro l
 induction l with
 | nil =>
  intro B _
  exact Ext.refl B
 | cons x r ih =>
  intro B f
  exact (jag B x).trans (ih _ f)
theorem jaD (B:List Tm) (o:Op) (l:List Nat):Ext B (jaA B o l).2:=by
 unfold jaA; split
 ·unfold jfF; split <;> first | exact Ext.refl B | exact ja9 B _
 ·unfold jmy; split <;> first | exact Ext.refl B | exact ja9 B _
theorem jgq {B:List Tm} {o:Op} {l:List Nat} (w:Wf B) (hl:∀ s∈l,s<B.length):Wf (jaA B o l).2/\(jaA B o l).1<(jaA B o l).2.length:=by
 have hlen:=w.len
 unfold jaA; split
 ·unfold jfF; split
  ·exact ⟨w,by show 1<B.length; exact Jb6 ‹_›⟩
  ·exact ⟨w,hl _ (.head _)⟩
  ·exact ⟨jht w hl (λ e=>nomatch e),jcT B _⟩
 ·unfold jmy; split
  ·exact ⟨w,hlen⟩
  ·exact ⟨w,hl _ (.head _)⟩
  ·exact ⟨jht w hl (λ e=>nomatch e),jcT B _⟩
theorem jaZ:∀ (l:List Nat) (B:List Tm) (o:Op) (f:List Nat),Ext B (jal B o f l).2:=by
 intro l
 induction l with
 | nil =>
  intro B _ _
  exact Ext.refl B
 | cons t r ih =>
  intro B o f
  unfold jal
  refine itg (λ q_27=>?_) λ q_28=>?_
  ·exact ih B o f
  ·refine itg (λ q_29=>?_) λ q_30=>?_
   ·exact ih B o f
   ·have h1:=jdr (jaa B t) B f
    dsimp only
    refine itg (λ q_31=>?_) λ q_32=>?_
    ·exact h1.trans (ih _ o f)
    ·exact h1.trans ((jaD _ o _).trans (ih _ o f))
theorem jgH:∀ (l:List Nat) {B:List Tm} {f:List Nat},Wf B->(∀ t∈l,t<B.length)->Wf (jaE B f l).2/\(jaE B f l).1.Sublist l:=by
 intro l
 induction l with
 | nil =>
  intro B f w _
  exact ⟨w,.slnil⟩
 | cons x r ih =>
  intro B f w h
  refine jbi (ih (f:=f) (jbt w (h x (.head _))).1 λ t ht=>Ja1 (h t (.tail _ ht)) (jag B x).len) λ h1 h2=>?_
  rw [jcG]
  refine ⟨h1,?_⟩
  dsimp only; split
  ·exact h2.cons _
  ·exact h2.cons_cons _
theorem jnY {t b:Nat} {r:List Nat} {x:Nat} (ht:t<b) (h:∀ x∈r,x<b) (hx:x∈t::r):x<b:=(Ja3.mp hx).elim (λ e=>e▸ht) (h x)
structure ThW (B:List Tm) (p:List Nat×List Tm) (l:List Nat):Prop where
 w:Wf p.2
 lt:∀ x∈p.1,x<p.2.length
 len:p.1.length<=l.length
theorem jm4 {o:Op} {f:List Nat} (l:List Nat):∀ {B:List Tm},Wf B->(∀ t∈l,t<B.length)->ThW B (jal B o f l) l:=by
 induction l with
 | nil=>intro B w _; exact ⟨w,nofun,Jc4 _⟩
 | cons t r ih =>
  intro B w h
  have ht:=h t (.head _)
  have up:∀ {B'},Ext B B'->∀ x∈r,x<B'.length:=λ e x hx=>Ja1 (h x (.tail _ hx)) e.len
  have put:∀ {B' y},Ext B B'->Wf B'->y<B'.length->ThW B (y::(jal B' o f r).1,(jal B' o f r).2) (t::r):=λ e w' hy =>
   have k:=ih w' (up e)
   ⟨k.w,λ x hx=>jnY (Ja1 hy (jaZ _ _ _ _).len) k.lt hx,Jc1 k.len⟩
  unfold jal
  refine itg (λ h1=>put (Ext.refl B) w ht) λ h1=>itg (λ h2=>?_) λ h2=>?_
  ·have k:=ih w (up (Ext.refl B)); exact ⟨k.w,k.lt,Jd8 k.len⟩
  have hx:=jdr (jaa B t) B f
  have hargs:∀ s∈jaa B t,s<B.length:=λ s hs=>Jd1 (jaL w hs) ht
  have w1:=jgH (jaa B t) (f:=f) w hargs
  refine itg (λ h3=>put hx w1.1 (Ja1 ht hx.len)) λ h3=>?_
  have w2:=jgq (o:=o) (l:=(jaE B f (jaa B t)).1) w1.1 λ s hs'=>Ja1 (hargs s (w1.2.subset hs')) hx.len
  exact put (hx.trans (jaD _ o (jaE B f (jaa B t)).1)) w2.1 w2.2
theorem jkK (l:List Nat) {B:List Tm} {o:Op} {f:List Nat} (w:Wf B) (h:∀ t∈l,t<B.length):Wf (jal B o f l).2/\(∀ x∈(jal B o f l).1,x<(jal B o f l).2.length)/\(jal B o f l).1.length<=l.length:=have k:=jm4 l w h; ⟨k.w,k.lt,k.len⟩
noncomputable def jme (x:Nat):List Nat->List Nat
 | []=>[x]
 | y::r=>if x<=y then x::y::r else y::jme x r
noncomputable def jaf (l:List Nat):List Nat:=l.foldr jme []
theorem jdj (x:Nat):∀ l:List Nat,(jme x l).Perm (x::l)
 | []=>.refl _
 | y::r=>by
  unfold jme; split
  ·exact .refl _
  ·exact ((jdj x r).cons y).trans (List.Perm.swap x y r)
theorem jdk (x:Nat):∀ l:List Nat,l.Pairwise (· <= ·)->(jme x l).Pairwise (· <= ·)
 | [],_=>by simp [jme]
 | y::r,h=>by
  unfold jme; split
  ·rename_i hx
   rw [List.pairwise_cons]
   refine ⟨λ z hz=>?_,h⟩
   refine Jc8 (Ja3.mp hz) (λ e_17=>?_) λ hz=>?_
   ·subst e_17; exact hx
   ·exact Ja0 hx ((List.pairwise_cons.mp h).1 z hz)
  ·rename_i hx
   rw [List.pairwise_cons] at h ⊢
   refine ⟨λ z hz=>?_,jdk x r h.2⟩
   refine Jc8 (Ja3.mp ((jdj x r).mem_iff.mp hz)) (λ e_18=>?_) λ hz=>?_
   ·subst e_18; lia
   ·exact h.1 z hz
theorem jas:∀ l:List Nat,(jaf l).Perm l
 | []=>.refl _
 | x::r=>(jdj x (jaf r)).trans ((jas r).cons x)
theorem jbu:∀ l:List Nat,(jaf l).Pairwise (· <= ·)
 | []=>.nil
 | x::r=>jdk x _ (jbu r)
theorem jft {l:List Nat} {ns:List Int} (hp:ns.Perm (l.map λ n:Nat=>(n:Int))) (hs:ns.Pairwise (· <= ·)):ns=(jaf l).map λ n:Nat=>(n:Int):=by
 refine List.Perm.eq_of_pairwise (le:=λ a b=>decide (a<=b)) (λ a b U U h1 h2=>?_) ?_ ?_ (hp.trans ((jas l).map _).symm)
 ·have:=of_decide_eq_true h1; have:=of_decide_eq_true h2; lia
 ·exact hs.imp λ h=>Jd6 h
 ·rw [List.pairwise_map]
  exact (jbu l).imp λ h=>Jd6 (Int.ofNat_le.mpr h)
noncomputable def ja0:Nat->List Tm->Op->Option (List Nat)->Option (Nat×List Tm)
 | 0,_,_,_=>none
 | _+1,B,o,none=>some (jaU o,B)
 | n+1,B,o,some f =>
  if 63<f.length then none
  else let k:=jal B (jaC o) f (jaf f)
   if k.1=jaf f then some (jaA k.2 o k.1)
   else match jat n k.2 o [] k.1 with
    | none=>none
    | some (f',B')=>ja0 n B' o f'
noncomputable def jaT (n:Nat) (B:List Tm) (o:Op) (l:List Nat):Option (Nat×List Tm) :=
 match jat n B o [] l with
 | none=>none
 | some (f',B')=>ja0 n B' o f'
noncomputable def jaJ:Nat->List Tm->Op->Option (List Nat)->List (List Tm×List Nat)
 | 0,_,_,_=>[]
 | _+1,_,_,none=>[]
 | n+1,B,o,some f =>
  jao B (jaC o) f (jaf f)++(let k:=jal B (jaC o) f (jaf f)
   if k.1=jaf f then [] else match jat n k.2 o [] k.1 with
    | none=>[]
    | some (f',B')=>jaJ n B' o f')
noncomputable def jcs (n:Nat) (B:List Tm) (o:Op) (l:List Nat):List (List Tm×List Nat) :=
 match jat n B o [] l with
 | none=>[]
 | some (f',B')=>jaJ n B' o f'
theorem jaO:∀ (n:Nat) {B:List Tm} {o:Op} {f:Option (List Nat)} {r:Nat×List Tm},ja0 n B o f=some r->Ext B r.2:=by
 intro n
 induction n with
 | zero =>
  intro _ _ _ _ h
  simp [ja0] at h
 | succ n ih =>
  intro B o w_3
  cases w_3 with
  | none =>
   intro r h
   simp only [ja0,Option.some.injEq] at h; replace h:=h; replace h:=h; refine rwl h ?_; exact Ext.refl B
  | some f =>
   intro r h
   have hx:=jaZ (jaf f) B (jaC o) f
   unfold ja0 at h
   split at h
   ·exact nomatch h
   ·dsimp only at h
    refine ith h (λ q_35 h=>?_) λ q_36 h=>?_
    ·simp only [Option.some.injEq] at h; replace h:=h; refine rwl h ?_; exact hx.trans (jaD _ _ _)
    ·split at h
     ·exact nomatch h
     ·rename_i f' B' e
      exact hx.trans ((jaz _ e).trans (ih h))
end
section
section
variable {prog:Program} {w:World} {A:Around} {E:Value->Shared->Prop} {gs:Array GenState} {dr:Drawn} {os:OsState} {tk:Tok}
 {b₀ h h':Heap} {L l:Addr} {m:Str->Option Value} {led:List (Addr×Obj)} {Q:Value->Shared->Prop}
theorem Fx.ofFN (W:Fx b₀ h L m led) (F:Fr b₀ L h' m) (N:News b₀ L h' led):Fx b₀ h' L m led:=⟨F,⟨F.keep,λ p hp=>(N p hp).1,W.C.new,W.C.nd⟩,W.nL⟩
theorem jjJ (bs:List Bool):PyProof.Rows.LSm.BoolsAre (bs.map Value.bool) bs:=by
 induction bs with
 | nil=>exact .nil
 | cons b r ih=>exact .cons b ih
theorem jpL {bs:List Bool} {n:Nat} (hh:A.handled=none) (W:Fx b₀ h L m led) (hm:(l,listOf (bs.map Value.bool).toArray n)∈led) (k:∀ h' tk',Fx b₀ h' L m led->Q (.bool (bs.any id)) ⟨h',gs,dr,tk',os⟩) :
  wpAny (model prog w) A (call (.builtin "any") [.ref l]) Q E ⟨h,gs,dr,tk,os⟩ :=
 PyProof.Rows.LSm.any_bools (s:=⟨h,gs,dr,tk,os⟩) W.F W.N hh (jaq W.C hm) (jjJ bs) λ h' tk' F' N'=>k h' tk' (W.ofFN F' N')
theorem jpV {vs:List Value} {ns:List Int} {n:Nat} (hh:A.handled=none) (W:Fx b₀ h L m led) (hm:(l,listOf vs.toArray n)∈led) (hi:IntsAre vs ns) (k:∀ h' tk' t',Fx b₀ h' L m led->Q (.int ns.sum t') ⟨h',gs,dr,tk',os⟩) :
  wpAny (model prog w) A (call (.builtin "sum") [.ref l]) Q E ⟨h,gs,dr,tk,os⟩ :=
 PyProof.Rows.LSm.sum_ints (s:=⟨h,gs,dr,tk,os⟩) W.F W.N hh (jaq W.C hm) hi λ h' tk' t' F' N'=>k h' tk' t' (W.ofFN F' N')
theorem jn6 {M:Model} {c:Expr} {env:Env} {s:Shared} {Q:Bool->Shared->Prop} (h:wpAny M A (PySem.isTrue c env (eval c env)) Q E s) :
  wpAny M A (forIn [c] true λ c r=>if r=true then do let ok <- PySem.isTrue c env (eval c env); pure (ForInStep.yield ok) else pure (ForInStep.yield r)) Q E s:=by
 simp only [List.forIn_cons,List.forIn_nil,if_true]
 exact wpAny_bind (wpAny_bind (wpAny_mono h (λ ok s' x=>wpAny_pure (wpAny_pure x)) λ U U e=>e))
end
end
section
theorem jaR {c:Prop} [Decidable c] {P Q:Prop} (hc:c) (h:P):if c then P else Q:=by refine rwr (if_pos hc) ?_; exact h
theorem jaP {c:Prop} [Decidable c] {P Q:Prop} (hc:¬ c) (h:Q):if c then P else Q:=by refine rwr (if_neg hc) ?_; exact h
section
variable {prog:Program} {w:World} {A:Around} {E:Value->Shared->Prop} {K:Frag} {gs:Array GenState} {dr:Drawn} {os:OsState} {tk:Tok}
 {b₀ h:Heap} {L X C dx Y D dy:Addr} {m:Str->Option Value} {led:List (Addr×Obj)} {v:Value} {env:Env} {Q:Value->Shared->Prop} {fn:Addr}
structure PO (M:Model) (A:Around) (E:Value->Shared->Prop) (env:Env) (rest:List Stmt) (Q P:Flow->Shared->Prop):Prop where
 n:∀ s,wpAny M A (execs rest env) Q E s->P .next s
 r:∀ v s,Q (.ret v) s->P (.ret v) s
 b:∀ s,Q .brk s->P .brk s
 c:∀ s,Q .cont s->P .cont s
structure PG {α:Type} (Q P:α->Shared->Prop):Prop where
 g:∀ a s,Q a s->P a s
theorem jjX {α:Type} {M:Model} {e:Sem α} {Q:α->Shared->Prop} {s:Shared} (h:∀ P:α->Shared->Prop,PG Q P->wpAny M A e P E s):wpAny M A e Q E s:=h Q ⟨λ U U x=>x⟩
theorem jde {M:Model} {stmt:Stmt} {rest:List Stmt} {Q:Flow->Shared->Prop} {s:Shared} (h:∀ P:Flow->Shared->Prop,PO M A E env rest Q P->wpAny M A (exec stmt env) P E s):wpAny M A (execs (stmt::rest) env) Q E s:=by
 refine wpAny_execs_cons (h _ ⟨λ s x=>x,λ v s x=>x,λ s x=>x,λ s x=>x⟩)
theorem jfN {M:Model} {stmt:Stmt} {Q:Flow->Shared->Prop} {s:Shared} (h:wpAny M A (exec stmt env) Q E s):wpAny M A (execs [stmt] env) Q E s :=
 wpAny_execs_cons (wpAny_mono h (λ f s' x=>by cases f <;> first | exact x | exact wpAny_execs_nil x) λ U U e=>e)
structure MOk (K:Frag) (C:Addr) (f:Str) (fn:Addr):Prop where
 g:plainGet K C f=true
 f:findIn K (.ref C) f=some (some (.ref fn))
 t:isFn K (.ref fn)=true
 k:keepIn K (.ref fn)=true
structure AOk (K:Frag) (C:Addr) (f:Str):Prop where
 g:plainGet K C f=true
 h:hasDictIn K C=true
 a:∃ attr,findIn K (.ref C) f=some attr/\noGet K attr=true
end
end
section
section
variable {prog:Program} {w:World} {A:Around} {E:Value->Shared->Prop} {gs:Array GenState} {dr:Drawn} {os:OsState} {tk:Tok}
 {b₀ h:Heap} {L:Addr} {m:Str->Option Value} {led:List (Addr×Obj)} {env:Env} {body:List Stmt} {R:Result->Shared->Prop} {x:Str} {xp:Pos}
end
end
section
theorem jj1 {vs:List Value} {a:List Int} (h:IntsAre vs a):IntsAre vs.reverse a.reverse:=by
 induction h with
 | nil=>exact .nil
 | cons n t _ ih=>refine rwr List.reverse_cons ?_; refine rwr List.reverse_cons ?_; exact jcZ ih (.cons n t .nil)
section
variable {prog:Program} {w:World} {A:Around} {E:Value->Shared->Prop} {gs:Array GenState} {dr:Drawn} {os:OsState} {tk:Tok}
 {b₀ h h':Heap} {L l t d:Addr} {m:Str->Option Value} {led led':List (Addr×Obj)} {Q:Value->Shared->Prop} {o:Obj} {env:Env} {x key:Value}
theorem jf2 {vs:List Value} {n:Nat} (W:Fx b₀ h L m led) (hm:(l,listOf vs.toArray n)∈led) (hsz:vs.length<=16777216) (k:∀ x h' c,Fx b₀ h' L m ((x,listOf vs.toArray c)::led)->Q (.ref x) ⟨h',gs,dr,tk,os⟩) :
  wpAny (model prog w) A (call (.type "list") [.ref l]) Q E ⟨h,gs,dr,tk,os⟩ :=
 call_list_seq l (.inl rfl) (W.C.own _ hm) rfl rfl (λ h' c hk ho=>k _ h' c (W.more hk ho (Jc4 _))) (by refine rwr Jc5 ?_; exact hsz)
theorem jpO {us vs:List Value} {n:Nat} (W:Fx b₀ h L m led) (ht:(t,ja1 vs)∈led) (p:Pt l (listOf us.toArray n) (listOf (us++vs).toArray (n+1)) led led') (hsz:us.length+vs.length<=16777216) (hne:vs≠[]) (k:∀ h',Fx b₀ h' L m led'->Q .none ⟨h',gs,dr,tk,os⟩) :
  wpAny (model prog w) A (call (.builtin "list.extend") [.ref l,.ref t]) Q E ⟨h,gs,dr,tk,os⟩:=by
 have ho:=W.C.own _ p.mem
 have hz:us.toArray.size+vs.toArray.size<=16777216:=hsz
 refine call_meets PySem.F.slot_list_extend ⟨_,ho,rfl⟩ PySem.F.entry_list_extend (PySem.F.args_list_extend_2 _ _) (AutoSeq1.list_extend_list_tuple_0 l us.toArray n t vs.toArray 0 (by
   have:¬ (us.toArray.size+vs.toArray.size > sizeLine):=Nat.not_lt.mpr hz
   simp [Builtin.List.listTooLong]; intro _; exact hsz) (Ja0 (Jb5 _ _) hz) (Jd8 hz)) ⟨ho,W.C.own _ ht,?_⟩
 refine k _ (W.put p (Heap.SameBut.update ..) ?_)
 have e:Obj.mapSeq (·++vs.toArray) (listOf us.toArray n)=listOf (us++vs).toArray (n+1):=by
  simp [Obj.mapSeq,hne]
 exact e▸Heap.get?_update_self _ ho (by refine rwr e ?_; rfl)
theorem jiW {vs:List Value} (e:Value->Bool) (W:Fx b₀ h L m led) (hm:(l,ja1 vs)∈led) (he:∀ y∈vs,∀ A s,EqAt A s y x (e y)) (k:Q (.bool (!vs.any e)) ⟨h,gs,dr,tk,os⟩) :
  wpAny (model prog w) A (compareOp .NotIn x (.ref l)) Q E ⟨h,gs,dr,tk,os⟩ :=
 notIn_tupleAt e (ja3 W.C hm) (λ y hy=>he y (by simpa using hy) _ _) (by simpa using k)
theorem jpN {K:Type} [DecidableEq K] {knd:KeyKind prog w K} {kvs:List (K×Value)} {k:K} {Q:Unit->Shared->Prop} {led':Obj->List (Addr×Obj)} (W:Fx b₀ h L m led) (p:∀ o',Pt d o o' led (led' o')) (hd:o.IsDictOf knd kvs) (hkey:knd.is k key=true) (hl:(valueAt kvs k).isSome=true) (hsz:kvs.length<=16777216)
  (kk:∀ h' o' tk',Fx b₀ h' L m (led' o')->o'.IsDictOf knd (without kvs k)->Q () ⟨h',gs,dr,tk',os⟩) :
  wpAny (model prog w) A (delItem (.ref d) key) Q E ⟨h,gs,dr,tk,os⟩:=by
 have hD:h.DictOf knd d kvs:=Heap.dictOf_iff.mpr ⟨o,(W.C.own _ (p o).mem),hd⟩
 unfold delItem
 try with_reducible refine wpAny_holding ?_
 refine wpAny_bind (wpAny_sequenceKey hD.typeIs (by decide) ?_)
 refine wpAny_bind (wpAny_callSpecial?_slot (name:=Str.ofString "__delitem__") hD.typeIs PySem.F.slot_dict_delitem
  (call_meetsIn PySem.F.slot_dict_delitem hD.typeIs PySem.F.entry_dict_delitem (PySem.F.args_dict_delitem_2 _ _) (meets_dict_delitem_pairs knd d hkey) ⟨kvs,hD,hsz,hl,λ h' hmm hs=>?_⟩))
 refine jam (Heap.dictOf_iff.mp hmm) λ o' ho' hd'=>?_
 exact wpAny_pure (kk h' o' _ (W.put (p o') hs ho') hd')
theorem jhB {vs:List Value} {x:Str} {xp p pos kp:Pos} {y kk:Nat} (W:Fx b₀ h L m led) (hv:m x=some (.ref l)) (hm:(l,listOf vs.toArray t)∈led) (hsz:vs.length<=16777216)
  (k:∀ S h' tk',Fx b₀ h' L m ((S,listOf (vs.drop y).toArray 0)::led)->Q (.ref S) ⟨h',gs,dr,tk',os⟩) (hL:env.locals=L)
  (hk:env.scope.kind=.function:=by rfl) (hx:env.kindOf x=some .local:=by rfl) (hd:(x == ("__debug__" : Str))=false:=by decide) :
  wpAny (model prog w) A (eval (.Subscript (.Name x xp) (.Slice (some (.Constant (.int (y:Int)) kk kp)) none none p) pos) env) Q E ⟨h,gs,dr,tk,os⟩:=by
 refine wpAny_Subscript_list_slice ?_ (by intros; rfl)
 refine jfr W hv ?_ hL hk hx hd
 rw [evalPart_some]
 refine jfq λ t' tk'=>?_
 refine wpAny_of_eq (evalPart_none env) ?_
 refine jp8 l vs.toArray (some (y:Int)) none rfl (jaq W.C hm) (by refine rwr Jc5 ?_; exact hsz) (.int _ _) (.none) ?_
 have W2:=(W.push { cls:=.type "slice",data:=.fields #[.int y t',.none,.none] }).push { cls:=.type "list",data:=.seq (slicePick vs.toArray (some (y:Int)) none none) }
 rw [Heap.size_push] at W2
 have e:slicePick vs.toArray (some (y:Int)) none none=(vs.drop y).toArray:=by
  simpa using slicePick_from' vs.toArray y
 rw [e] at W2 ⊢
 refine k _ _ _ ?_
 exact W2.sub (.cons_cons _ (.cons _ (Jd0 _)))
end
end
section
theorem jnZ {B:List Tm} {t:Tm} {i:Nat} (nd:B.Nodup) (h:B[i]? = some t):mk B t=(i,B):=by
 have hm:t∈B:=List.mem_of_getElem? h
 unfold mk
 refine rwr (if_pos hm) ?_
 congr 1
 have h2:B[B.idxOf t]? = some t:=by refine rwr (List.getElem?_eq_getElem (List.idxOf_lt_length_iff.mpr hm)) ?_; rw [List.getElem_idxOf]
 exact jc3 nd h2 h
theorem jeA {B B2:List Tm} {t:Tm} (nd:B2.Nodup) (x:Ext (mk B t).2 B2):mk B2 t=((mk B t).1,B2):=jnZ nd (x.get (jba B t))
theorem jaB {B:List Tm} (w:Wf B) (nd:B.Nodup) {x y:Nat} (hx:x<B.length) (h:Neg B x y):jab B x=(y,B):=by
 unfold jab
 rcases h with ⟨rfl,rfl⟩ | ⟨rfl,rfl⟩ | h | h
 ·refine rwr (if_neg (by refine rwr (op1 w) ?_; exact λ e=>nomatch e)) ?_
  refine rwr (if_pos rfl) ?_
  rfl
 ·refine rwr (if_neg (by refine rwr (op2 w) ?_; exact λ e=>nomatch e)) ?_
  refine rwr (if_neg (by decide)) ?_
  refine rwr (if_pos rfl) ?_
  rfl
 ·refine jg4 (jaI w h) λ U h1 h2 h3 U=>?_
  refine rwr (if_neg h1) ?_; refine rwr (if_neg h2) ?_; refine rwr (if_neg h3) ?_; exact jnZ nd h
 ·refine rwr (if_pos (jan h)) ?_; refine rwr (jai h) ?_; rfl
noncomputable def Dn (B:List Tm) (x:Nat):Prop:=∃ y,Neg B x y
theorem Neg.ext {B B2:List Tm} (x:Ext B B2) {a b:Nat} (h:Neg B a b):Neg B2 a b:=by
 rcases h with h | h | h | h
 ·exact .inl h
 ·exact .inr (.inl h)
 ·exact .inr (.inr (.inl (x.get h)))
 ·exact .inr (.inr (.inr (x.get h)))
theorem Dn.ext {B B2:List Tm} (x:Ext B B2) {a:Nat} (h:Dn B a):Dn B2 a:=let ⟨y,h⟩:=h; ⟨y,h.ext x⟩
theorem Dn.not {B:List Tm} (w:Wf B) (nd:B.Nodup) {x:Nat} (hx:x<B.length) (h:Dn B x):∃ y,Neg B x y/\jab B x=(y,B):=let ⟨y,h⟩:=h; ⟨y,h,jaB w nd hx h⟩
theorem jav {B:List Tm} (w:Wf B) {t:Nat} (ht:t<B.length):Neg (jab B t).2 t (jab B t).1:=jaW w ht (Ext.refl _)
theorem jaQ {B B2:List Tm} (w:Wf B) (w2:Wf B2) (nd:B2.Nodup) {t:Nat} (ht:t<B.length) (x:Ext (jab B t).2 B2):jab B2 t=((jab B t).1,B2) :=
 jaB w2 nd (Ja1 ht ((jag B t).trans x).len) (jaW w ht x)
theorem Neg.lt {B:List Tm} (w:Wf B) {x y:Nat} (h:Neg B x y):y<B.length:=by
 have:=w.len
 rcases h with ⟨_,rfl⟩ | ⟨_,rfl⟩ | h | h
 ·assumption
 ·exact Jb6 ‹_›
 ·exact (Jc0 h).1
 ·exact Jd1 (jaI w h).1 (Jc0 h).1
structure Sta (B:List Tm) (o:Op) (l:List Nat):Prop where
 so:l.Pairwise (· < ·)
 ne:∀ x∈l,x≠1/\x≠2/\jad B x≠o
 dn:∀ x∈l,Dn B x
 nn:∀ x∈l,∀ y,Neg B x y->y∉l
 du:∀ x∈l,jad B x=jaC o->∀ z∈jaa B x,z∉l/\∀ y,Neg B z y->y∉l
theorem Sta.sub {B:List Tm} {o:Op} {l l':List Nat} (s:Sta B o l) (h:l'.Sublist l):Sta B o l' :=
 ⟨s.so.sublist h,λ x hx=>s.ne x (h.subset hx),λ x hx=>s.dn x (h.subset hx),λ x hx y hy hm=>s.nn x (h.subset hx) y hy (h.subset hm),
  λ x hx e z hz=>⟨λ hm=>(s.du x (h.subset hx) e z hz).1 (h.subset hm),λ y hy hm=>(s.du x (h.subset hx) e z hz).2 y hy (h.subset hm)⟩⟩
structure Gb (B:List Tm):Prop where
 wf:Wf B
 nd:B.Nodup
 z0:B[0]? = some ⟨.nil,[],0⟩
 ar:∀ (i:Nat) (t:Tm),B[i]? = some t->jbL t.op t.args.length=true
 sz:∀ (i:Nat) (t:Tm),B[i]? = some t->t.args.length<=63
 ps:∀ (i:Nat) (t:Tm),B[i]? = some t->∀ s∈t.args,1<=s
 ap:∀ (i:Nat) (t:Tm),B[i]? = some t->t.op=.app->i<7
 st:∀ (i:Nat) (t:Tm),B[i]? = some t->t.op=.con\/t.op=.dis->Sta B t.op t.args
theorem Gb.wn {B:List Tm} (g:Gb B):Wn B:=⟨g.wf,g.nd⟩
theorem Gb.at {B:List Tm} (g:Gb B) {x:Nat} {o:Op} (h:jad B x=o) (ho:o=.con\/o=.dis):Sta B o (jaa B x)/\x<B.length/\(∀ z∈jaa B x,z<x/\1<=z)/\2<=(jaa B x).length/\(jaa B x).length<=63:=by
 have hx:x<B.length:=jaN (by refine rwr h ?_; rcases ho with rfl | rfl <;> exact λ e=>nomatch e)
 have hg:=List.getElem?_eq_getElem hx
 generalize B[x]=t at hg
 rw [jan hg] at h
 refine rwr (jai hg) ?_
 subst h
 refine ⟨g.st x t hg ho,hx,λ z hz=>⟨g.wf.lt x t hg z hz,g.ps x t hg z hz⟩,?_,g.sz x t hg⟩
 have:=g.ar x t hg
 rcases ho with e | e <;> rw [e] at this <;> simpa [jbL] using this
theorem Sta.ext {B B2:List Tm} {o:Op} {l:List Nat} (s:Sta B o l) (g:Gb B) (w2:Wn B2) (x:Ext B B2) (hl:∀ y∈l,y<B.length) (ho:o=.con\/o=.dis):Sta B2 o l where
 so:=s.so
 ne:=λ y hy=>by refine rwr (x.op (hl y hy)) ?_; exact s.ne y hy
 dn:=λ y hy=>(s.dn y hy).ext x
 nn:=λ y hy z hz=>by
  obtain ⟨z',h⟩:=s.dn y hy
  refine rwr (hz.fun w2 (h.ext x)) ?_; exact s.nn y hy z' h
 du:=λ y hy e z hz=>by
  have hy':=hl y hy
  rw [x.op hy'] at e
  replace e:=e
  rw [x.args hy'] at hz
  replace hz:=hz
  have hdu:jaC o=.con\/jaC o=.dis:=by unfold jaC; split <;> decide
  obtain ⟨h1,h2⟩:=s.du y hy e z hz
  refine ⟨h1,λ q hq=>?_⟩
  obtain ⟨q',h⟩:=(g.at e hdu).1.dn z hz
  refine rwr (hq.fun w2 (h.ext x)) ?_; exact h2 q' h
theorem jhs {B:List Tm} {t:Tm} (g:Gb B) (ha:∀ s∈t.args,s<B.length) (hp:∀ s∈t.args,1<=s) (hn:t.op=.neg->∃ s,t.args=[s]/\jad B s≠.neg/\s≠1/\s≠2/\t.data=0) (har:jbL t.op t.args.length=true) (hap:t.op≠.app) (hsz:t.args.length<=63)
  (hs:t.op=.con\/t.op=.dis->Sta B t.op t.args):Gb (mk B t).2:=by
 have w2:Wn (mk B t).2:=⟨jht g.wf ha hn,jpD g.nd⟩
 have hx:=ja9 B t
 refine ⟨w2.wf,w2.nd,hx.get g.z0,?_,?_,?_,?_,?_⟩
 all_goals
  intro i u hu
  have hc:B[i]? = some u\/u=t:=by
   unfold mk at hu
   split at hu
   ·exact .inl hu
   ·rcases jaM hu with h | ⟨_,h⟩
    ·exact .inl h
    ·exact .inr h
  rcases hc with h | rfl
 ·exact g.ar i u h
 ·exact har
 ·exact g.sz i u h
 ·exact hsz
 ·exact g.ps i u h
 ·exact hp
 ·exact g.ap i u h
 ·exact λ e=>absurd e hap
 ·exact λ ho=>(g.st i u h ho).ext g w2 hx (λ y hy=>Jd1 (g.wf.lt i u h y hy) (Jc0 h).1) ho
 ·exact λ ho=>(hs ho).ext g w2 hx ha ho
theorem jau {B:List Tm} {t:Nat} (g:Gb B) (ht:t<B.length) (h0:1<=t):Gb (jab B t).2/\1<=(jab B t).1/\(jab B t).1<(jab B t).2.length:=by
 refine ⟨?_,?_,(jbt g.wf ht).2⟩
 ·unfold jab; split
  ·exact g
  ·split
   ·exact g
   ·split
    ·exact g
    ·rename_i h h1 h2
     exact jhs g (by simpa using ht) (by simpa using h0) (λ U=>⟨t,rfl,h,h1,h2,rfl⟩) rfl (λ e=>nomatch e) (by simp) (λ e=>by rcases e with e | e <;> exact nomatch e)
 ·rcases (jav g.wf ht) with ⟨_,e⟩ | ⟨_,e⟩ | h | h
  ·omega
  ·omega
  ·cases e:(jab B t).1 with
   | succ n=>exact Jc7 _ _
   | zero =>
    rw [e,(jag B t).get g.z0] at h
    exact nomatch h
  ·have hb:B[t]? = some ⟨.neg,[(jab B t).1],0⟩:=by
    refine rwl h ?_
    have:=(jag B t)
    refine jbh this λ R e=>?_
    refine rwr e ?_
    refine rwr (List.getElem?_append_left ht) ?_
    rfl
   exact g.ps t _ hb _ (.head _)
end
section
theorem Neg.irrefl {B:List Tm} (w:Wf B) {x:Nat}:¬ Neg B x x:=by
 rintro (⟨a,b⟩ | ⟨a,b⟩ | h | h)
 ·omega
 ·omega
 ·exact Nat.lt_irrefl _ (jaI w h).1
 ·exact Nat.lt_irrefl _ (jaI w h).1
theorem jaw (o:Op):jaC o=.con\/jaC o=.dis:=by unfold jaC; split <;> decide
theorem jlW (o:Op):jaC o≠o:=by
 unfold jaC; split
 ·rename_i h; refine rwr h ?_; exact λ e=>(Op.noConfusion e)
 ·rename_i h; exact λ e=>h e.symm
theorem jdd {o:Op} (h:o=.con\/o=.dis):jaC (jaC o)=o:=by rcases h with rfl | rfl <;> rfl
theorem jgN {o:Op} {t:Nat} (h:o=.con\/o=.dis) (h1:t≠ja7 o) (h2:t≠jaU o):t≠1/\t≠2:=by
 rcases h with rfl | rfl <;> simp [ja7,jaU] at h1 h2 <;> lia
structure FI (B:List Tm) (o:Op) (f:List Nat):Prop where
 nd:f.Nodup
 ne:∀ x∈f,x≠1/\x≠2/\jad B x≠o
 dn:∀ x∈f,Dn B x
 nn:∀ x∈f,∀ y,Neg B x y->y∉f
 lt:∀ x∈f,x<B.length/\1<=x
theorem FI.nil (B:List Tm) (o:Op):FI B o []:=⟨.nil,nofun,nofun,nofun,nofun⟩
theorem FI.ext {B B2:List Tm} {o:Op} {f:List Nat} (h:FI B o f) (w2:Wn B2) (x:Ext B B2):FI B2 o f :=
 ⟨h.nd,λ y hy=>by refine rwr (x.op (h.lt y hy).1) ?_; exact h.ne y hy,λ y hy=>(h.dn y hy).ext x,λ y hy z hz=>by
  obtain ⟨z',hz'⟩:=h.dn y hy
  refine rwr (hz.fun w2 (hz'.ext x)) ?_; exact h.nn y hy z' hz',λ y hy=>⟨Ja1 (h.lt y hy).1 x.len,(h.lt y hy).2⟩⟩
theorem jbO {o:Op} (ho:o=.con\/o=.dis):∀ (n:Nat) {B B':List Tm} {f st:List Nat} {fr:Option (List Nat)},Gb B->(∀ t∈st,t<B.length/\1<=t)->FI B o f->jat n B o f st=some (fr,B')->Gb B'/\∀ f',fr=some f'->FI B' o f':=by
 intro n
 induction n with
 | zero =>
  intro _ _ _ _ _ _ _ _ h
  simp [jat] at h
 | succ n ih =>
  intro B _ f w_1
  cases w_1 with
  | nil =>
   intro _ g _ hf h
   simp only [jat,Option.some.injEq,Prod.mk.injEq] at h
   obtain ⟨rfl,rfl⟩:=h
   exact ⟨g,λ f' e=>by obtain rfl:=Jb0 e; exact hf⟩
  | cons t st =>
   intro _ g hs hf h
   have ht:=hs t (.head _)
   have hst:∀ x∈st,x<B.length/\1<=x:=λ x hx=>hs x (.tail _ hx)
   have hx:=jag B t
   have g2:=(jau g ht.1 ht.2).1
   have hst2:∀ x∈st,x<(jab B t).2.length/\1<=x:=λ x hx'=>⟨Ja1 (hst x hx').1 hx.len,(hst x hx').2⟩
   have hf2:=hf.ext g2.wn hx
   dsimp only [jat] at h
   split at h
   ·exact ih g hst hf h
   ·rename_i hu
    split at h
    ·simp only [Option.some.injEq,Prod.mk.injEq] at h; replace h:=h; obtain ⟨rfl,rfl⟩:=h; exact ⟨g,λ f' e=>nomatch e⟩
    ·rename_i hse
     split at h
     ·simp only [Option.some.injEq,Prod.mk.injEq] at h; obtain ⟨rfl,rfl⟩:=h; exact ⟨g2,λ f' e=>nomatch e⟩
     ·rename_i hni
      refine ith h (λ hop h=>?_) λ hop h=>?_
      ·refine ih g2 (λ x hx'=>?_) hf2 h
       refine Jc8 (Ja9.mp hx') (λ q=>?_) λ q=>?_
       ·refine jbi ((g2.at hop ho).2.2.1 x q) λ h1 h2=>?_
        exact ⟨Jd1 h1 (Ja1 ht.1 hx.len),h2⟩
       ·exact hst2 x q
      ·have hn:=jav g.wf ht.1
       have h12:=jgN ho hu hse
       refine ih g2 hst2 ?_ h
       unfold ins
       by_cases hm:t∈f
       ·refine rwr (if_pos hm) ?_; exact hf2
       ·refine rwr (if_neg hm) ?_
        refine ⟨?_,?_,?_,?_,?_⟩
        ·rw [List.nodup_append]
         exact ⟨hf2.nd,by simp,λ a ha b hb e=>hm (by rw [Ja2.mp hb] at e; refine rwl e ?_; exact ha)⟩
        ·intro x hx'
         rcases Ja9.mp hx' with q | q
         ·exact hf2.ne x q
         ·refine rwr (Ja2.mp q) ?_; exact ⟨h12.1,h12.2,hop⟩
        ·intro x hx'
         rcases Ja9.mp hx' with q | q
         ·exact hf2.dn x q
         ·refine rwr (Ja2.mp q) ?_; exact ⟨_,hn⟩
        ·intro x hx' y hy hm'
         refine Jc8 (Ja9.mp hx') (λ q=>?_) λ q=>?_
         ·refine Jc8 (Ja9.mp hm') (λ p=>?_) λ p=>?_
          ·exact hf2.nn x q y hy p
          ·rw [Ja2.mp p] at hy
           exact hni (hy.symm.fun g2.wn hn▸q)
         ·rw [Ja2.mp q] at hy
          refine Jc8 (Ja9.mp hm') (λ p=>?_) λ p=>?_
          ·rw [(hy.fun g2.wn hn)] at p; exact hni p
          ·rw [Ja2.mp p] at hy; exact hy.irrefl g2.wf
        ·intro x hx'
         rcases Ja9.mp hx' with q | q
         ·exact hf2.lt x q
         ·refine rwr (Ja2.mp q) ?_; exact ⟨Ja1 ht.1 hx.len,ht.2⟩
theorem jgG {B:List Tm} (g:Gb B) (f:List Nat):∀ (l:List Nat),(∀ z∈l,Dn B z/\z<B.length)->jaE B f l=(l.filter (λ z=>decide ((jab B z).1∉f)),B):=by
 intro l
 induction l with
 | nil =>
  intro _
  exact rfl
 | cons x r ih =>
  intro h
  refine jam ((h x (.head _)).1.not g.wf g.nd (h x (.head _)).2) λ y U e=>?_
  rw [jcG]
  have e2:(jab B x).2=B:=by refine rwr e ?_; rfl
  refine rwr e2 ?_
  refine rwr (ih λ z hz=>h z (.tail _ hz)) ?_
  by_cases hm:(jab B x).1∈f
  ·simp [hm]
  ·simp [hm]
theorem Gb.dnArgs {B:List Tm} (g:Gb B) {x:Nat} {o:Op} (h:jad B x=o) (ho:o=.con\/o=.dis):∀ z∈jaa B x,Dn B z/\z<B.length:=λ z hz=>by
 refine jcV (g.at h ho) λ h1 h2 h3 U=>?_
 exact ⟨h1.dn z hz,Jd1 (h3 z hz).1 h2⟩
theorem jeo {B:List Tm} {o:Op} {l:List Nat} (g:Gb B) (ho:o=.con\/o=.dis) (hl:∀ z∈l,z<B.length/\1<=z) (hs:Sta B o l) (h63:l.length<=63):Gb (jaA B o l).2/\(jaA B o l).1<(jaA B o l).2.length/\1<=(jaA B o l).1:=by
 have hlen:=g.wf.len
 have pos:∀ t:Tm,t.op≠.nil->1<=(mk B t).1:=λ t ht=>by
  cases e:(mk B t).1 with
  | succ n=>exact Jc7 _ _
  | zero =>
   have h1:=jba B t
   rw [e,(ja9 B t).get g.z0] at h1
   exact absurd (by refine rwl (Jb0 h1) ?_; rfl) ht
 rcases l with _ | ⟨a,_ | ⟨b,r⟩⟩
 ·rcases ho with rfl | rfl
  ·exact ⟨g,by show 1<B.length; exact Jb6 ‹_›,Jc4 _⟩
  ·exact ⟨g,by show 2<B.length; assumption,by show 1<=2; exact Jc7 _ _⟩
 ·have:=hl a (.head _)
  refine Jc8 ho (λ e_9=>?_) λ e_10=>?_
  ·subst e_9; exact ⟨g,this.1,this.2⟩
  ·subst e_10; exact ⟨g,this.1,this.2⟩
 ·rcases ho with rfl | rfl
  ·exact ⟨jhs g (t:=⟨.con,a::b::r,0⟩) (λ s hs'=>(hl s hs').1) (λ s hs'=>(hl s hs').2) (λ e=>nomatch e) (by rfl) (λ e=>nomatch e) h63 (λ U=>hs),jcT B _,pos _ (λ e=>nomatch e)⟩
  ·exact ⟨jhs g (t:=⟨.dis,a::b::r,0⟩) (λ s hs'=>(hl s hs').1) (λ s hs'=>(hl s hs').2) (λ e=>nomatch e) (by rfl) (λ e=>nomatch e) h63 (λ U=>hs),jcT B _,pos _ (λ e=>nomatch e)⟩
theorem jbD {B:List Tm} {o:Op} {f:List Nat} {t:Nat} {r:List Nat} (g:Gb B) (ho:o=.con\/o=.dis):jal B o f (t::r) =
  if jad B t≠o then (t::(jal B o f r).1,(jal B o f r).2) else if (jaa B t).any (λ x=>decide (x∈f)) then jal B o f r else
  if (jaa B t).filter (λ z=>decide ((jab B z).1∉f))=jaa B t then (t::(jal B o f r).1,(jal B o f r).2) else
  ((jaA B o ((jaa B t).filter λ z=>decide ((jab B z).1∉f))).1::(jal (jaA B o ((jaa B t).filter λ z=>decide ((jab B z).1∉f))).2 o f r).1,(jal (jaA B o ((jaa B t).filter λ z=>decide ((jab B z).1∉f))).2 o f r).2):=by
 show (if jad B t≠o then _ else _)=_
 by_cases h1:jad B t≠o
 ·refine rwr (if_pos h1) ?_
  refine rwr (if_pos h1) ?_
  rfl
 ·refine rwr (if_neg h1) ?_
  refine rwr (if_neg h1) ?_
  split
  ·rfl
  ·refine rwr (jgG g f _ (g.dnArgs (Classical.not_not.mp h1) ho)) ?_
   dsimp only
   by_cases h2:(jaa B t).filter (λ z=>decide ((jab B z).1∉f))=jaa B t
   ·refine rwr (if_pos h2) ?_
    refine rwr (if_pos (by refine rwr h2 ?_; rfl)) ?_
    rfl
   ·refine rwr (if_neg h2) ?_
    refine rwr (if_neg λ e=>h2 ((List.filter_sublist).eq_of_length e)) ?_
    rfl
theorem jca {B:List Tm} {o:Op} {f:List Nat} {t:Nat} {r:List Nat} (g:Gb B) (ho:o=.con\/o=.dis):jao B o f (t::r) =
  if jad B t≠o then jao B o f r else if (jaa B t).any (λ x=>decide (x∈f)) then jao B o f r else
  if (jaa B t).filter (λ z=>decide ((jab B z).1∉f))=jaa B t then jao B o f r else
  (B,(jaa B t).filter λ z=>decide ((jab B z).1∉f))::jao (jaA B o ((jaa B t).filter λ z=>decide ((jab B z).1∉f))).2 o f r:=by
 show (if jad B t≠o then _ else _)=_
 by_cases h1:jad B t≠o
 ·refine rwr (if_pos h1) ?_
  refine rwr (if_pos h1) ?_
  rfl
 ·refine rwr (if_neg h1) ?_
  refine rwr (if_neg h1) ?_
  split
  ·rfl
  ·refine rwr (jgG g f _ (g.dnArgs (Classical.not_not.mp h1) ho)) ?_
   dsimp only
   by_cases h2:(jaa B t).filter (λ z=>decide ((jab B z).1∉f))=jaa B t
   ·refine rwr (if_pos h2) ?_
    refine rwr (if_pos (by refine rwr h2 ?_; rfl)) ?_
    rfl
   ·refine rwr (if_neg h2) ?_
    refine rwr (if_neg λ e=>h2 ((List.filter_sublist).eq_of_length e)) ?_
    rfl
noncomputable def Easy (B:List Tm) (o:Op) (l:List Nat):Prop:=Gb B/\Sta B o l/\(∀ z∈l,z<B.length/\1<=z)/\l.length<=63
theorem jh1 {B:List Tm} {o:Op} {t:Nat} (g:Gb B) (ho:o=.con\/o=.dis) (h:jad B t=o) (p:Nat->Bool):Easy B o ((jaa B t).filter p):=by
 refine jg4 (g.at h ho) λ h1 h2 h3 U h5=>?_
 have hs:((jaa B t).filter p).Sublist (jaa B t):=List.filter_sublist
 exact ⟨g,h1.sub hs,λ z hz=>⟨Jd1 (h3 z (hs.subset hz)).1 h2,(h3 z (hs.subset hz)).2⟩,Ja0 hs.length_le h5⟩
theorem Easy.gb {B:List Tm} {o:Op} {l:List Nat} (e:Easy B o l) (ho:o=.con\/o=.dis):Gb (jaA B o l).2:=(jeo e.1 ho e.2.2.1 e.2.1 e.2.2.2).1
noncomputable abbrev flt (f:List Nat) (B:List Tm) (t:Nat):List Nat:=(jaa B t).filter λ z=>decide ((jab B z).1∉f)
theorem jcz {o:Op} (ho:o=.con\/o=.dis) {f:List Nat} {M:List Tm->List Nat->List Nat->List Tm->List (List Tm×List Nat)->Prop} (nil:∀ B,Gb B->M B [] [] B [])
  (keep:∀ B t r k B' C,Gb B->(t<B.length/\1<=t)->Ext B B'->(jad B t=o->¬ (jaa B t).any (λ x=>decide (x∈f))=true/\flt f B t=jaa B t)->M B r k B' C->M B (t::r) (t::k) B' C)
  (out:∀ B t r k B' C,Gb B->(t<B.length/\1<=t)->Ext B B'->jad B t=o->(jaa B t).any (λ x=>decide (x∈f))=true->M B r k B' C->M B (t::r) k B' C)
  (cut:∀ B t r k B' C,Gb B->(t<B.length/\1<=t)->jad B t=o->¬ (jaa B t).any (λ x=>decide (x∈f))=true->Easy B o (flt f B t)->flt f B t≠jaa B t->Ext (jaA B o (flt f B t)).2 B'->M (jaA B o (flt f B t)).2 r k B' C->M B (t::r) ((jaA B o (flt f B t)).1::k) B' ((B,flt f B t)::C))
  (l:List Nat):∀ {B:List Tm},Gb B->(∀ t∈l,t<B.length/\1<=t)->M B l (jal B o f l).1 (jal B o f l).2 (jao B o f l):=by
 induction l with
 | nil=>exact λ g U=>nil _ g
 | cons t r ih =>
  intro B g h
  have ht:=h t (.head _)
  have hr:∀ x∈r,x<B.length/\1<=x:=λ x hx=>h x (.tail _ hx)
  rw [jbD g ho,jca g ho]
  by_cases h1:jad B t≠o
  ·rw [if_pos h1,if_pos h1]
   exact keep _ _ _ _ _ _ g ht (jaZ _ _ _ _) (λ e=>absurd e h1) (ih g hr)
  rw [if_neg h1,if_neg h1]
  have h1:=Classical.not_not.mp h1
  by_cases h2:(jaa B t).any (λ x=>decide (x∈f))=true
  ·rw [if_pos h2,if_pos h2]
   exact out _ _ _ _ _ _ g ht (jaZ _ _ _ _) h1 h2 (ih g hr)
  rw [if_neg h2,if_neg h2]
  by_cases h3:flt f B t=jaa B t
  ·rw [if_pos h3,if_pos h3]
   exact keep _ _ _ _ _ _ g ht (jaZ _ _ _ _) (λ U=>⟨h2,h3⟩) (ih g hr)
  ·rw [if_neg h3,if_neg h3]
   have e:=jh1 (t:=t) g ho h1 (λ z=>decide ((jab B z).1∉f))
   exact cut _ _ _ _ _ _ g ht h1 h2 e h3 (jaZ _ _ _ _) (ih (e.gb ho) λ x hx=>⟨Ja1 (hr x hx).1 (jaD _ _ _).len,(hr x hx).2⟩)
theorem all_cons {P:Nat->Prop} {t:Nat} {k:List Nat} (h:P t) (hk:∀ x∈k,P x):∀ x∈t::k,P x:=λ x hx=>(Ja3.mp hx).elim (λ e=>e▸h) (hk x)
theorem jeJ {o:Op} (ho:o=.con\/o=.dis) (f:List Nat) (l:List Nat) {B:List Tm} (g:Gb B) (h:∀ t∈l,t<B.length/\1<=t) :
  Gb (jal B o f l).2/\(∀ x∈(jal B o f l).1,x<(jal B o f l).2.length/\1<=x)/\(jal B o f l).1.length<=l.length/\∀ c∈jao B o f l,Easy c.1 o c.2 :=
 jcz ho (M:=λ U l k B' C=>Gb B'/\(∀ x∈k,x<B'.length/\1<=x)/\k.length<=l.length/\∀ c∈C,Easy c.1 o c.2)
  (λ B g=>⟨g,λ U h=>absurd h Jb2,Jc4 _,λ U h=>absurd h Jb2⟩)
  (λ B t r k B' C g ht x U m=>⟨m.1,all_cons ⟨Ja1 ht.1 x.len,ht.2⟩ m.2.1,Jc1 m.2.2.1,m.2.2.2⟩)
  (λ B t r k B' C g ht x U U m=>⟨m.1,m.2.1,Jd8 m.2.2.1,m.2.2.2⟩)
  (λ B t r k B' C g ht _ _ e _ x m =>
   have q:=jeo e.1 ho e.2.2.1 e.2.1 e.2.2.2
   ⟨m.1,all_cons ⟨Ja1 q.2.1 x.len,q.2.2⟩ m.2.1,Jc1 m.2.2.1,λ c hc=>(Ja3.mp hc).elim (λ q=>q▸e) (m.2.2.2 c)⟩) l g h
end
section
theorem jf9 {l:List Nat} (h:l.Pairwise (· < ·)):jaf l=l :=
 List.Perm.eq_of_pairwise (le:=λ a b=>decide (a<=b)) (λ a b U U h1 h2=>by have:=of_decide_eq_true h1; have:=of_decide_eq_true h2; exact Nat.le_antisymm ‹_› ‹_›) ((jbu l).imp λ h=>Jd6 h) (h.imp λ h=>Jd6 (Jb6 h)) (jas l)
theorem jf8 {f:List Nat} (h:f.Nodup):(jaf f).Pairwise (· < ·):=by
 have h1:=jbu f
 have h2:(jaf f).Nodup:=(jas f).nodup_iff.mpr h
 exact (h1.and (List.nodup_iff_pairwise_ne.mp h2)).imp λ hh_1=>jbi hh_1 λ a b=>Nat.lt_of_le_of_ne a b
theorem jaV {f:List Nat} {x:Nat}:x∈jaf f↔x∈f:=(jas f).mem_iff
theorem jjO {B:List Tm} {o:Op} {t:Nat} {p:Nat->Bool} (g:Gb B) (ho:o=.con\/o=.dis) (h:jad B t=o) (hp:(jaa B t).filter p≠jaa B t):(jaA B o ((jaa B t).filter p)).1≠t:=by
 refine jg4 (g.at h ho) λ h1 h2 h3 h4 h5=>?_
 intro e
 rcases hl:(jaa B t).filter p with _ | ⟨a,_ | ⟨b,r⟩⟩
 ·rw [hl] at e
  rcases ho with rfl | rfl
  ·have:t=1:=e.symm
   rw [this,(op1 g.wf)] at h; replace h:=h; replace h:=h; exact (Op.noConfusion h)
  ·have:t=2:=e.symm
   rw [this,(op2 g.wf)] at h; replace h:=h; exact (Op.noConfusion h)
 ·rw [hl] at e
  have hlt:=(λ z hz=>(h3 z (List.filter_sublist.subset hz)).1) a (by refine rwr hl ?_; exact .head _)
  rcases ho with rfl | rfl
  ·have:a=t:=e
   lia
  ·have:a=t:=e
   lia
 ·rw [hl] at e
  have key:∀ u:Tm,(mk B u).1=t->u.args=jaa B t:=λ u hu=>by
   have hg:=jba B u
   rw [hu] at hg
   have hb:B[t]? = some u:=by
    refine jbh (ja9 B u) λ R e2=>?_
    rw [e2,List.getElem?_append_left h2] at hg
    exact hg
   refine rwr (jai hb) ?_
   rfl
  rcases ho with rfl | rfl
  ·exact hp (by rw [hl]; exact key ⟨.con,a::b::r,0⟩ e)
  ·exact hp (by rw [hl]; exact key ⟨.dis,a::b::r,0⟩ e)
theorem jl2 {f:List Nat} {B:List Tm} {t z:Nat} (hz:z∈flt f B t):(jab B z).1∉f:=of_decide_eq_true (p:=¬ (jab B z).1∈f) (List.mem_filter.mp hz).2
theorem jfw {o:Op} (ho:o=.con\/o=.dis) (f:List Nat) (l:List Nat) {B:List Tm} (g:Gb B) (h:∀ t∈l,t<B.length/\1<=t) (e:(jal B o f l).1=l) :
  (jal B o f l).2=B/\∀ t∈l,jad B t=o->∀ z∈jaa B t,z∉f/\(jab B z).1∉f :=
 (jcz ho (M:=λ B l k B' U=>k.length<=l.length/\(k=l->B'=B/\∀ t∈l,jad B t=o->∀ z∈jaa B t,z∉f/\(jab B z).1∉f))
  (λ B g=>⟨Jc4 _,λ U=>⟨rfl,λ U h=>absurd h Jb2⟩⟩)
  (λ B t r k B' C g ht x q m=>⟨Jc1 m.1,λ e =>
   have w:=m.2 (List.cons.inj e).2
   ⟨w.1,all_cons (λ hop z hz=>⟨λ hm=>(q hop).1 (List.any_eq_true.mpr ⟨z,hz,Jd6 hm⟩),jl2 ((q hop).2.symm▸hz)⟩) w.2⟩⟩)
  (λ B t r k B' C g ht x U U m=>⟨Jd8 m.1,λ e=>absurd (e▸m.1) (Nat.not_succ_le_self _)⟩)
  (λ B t r k B' C g ht hop U U hne x m=>⟨Jc1 m.1,λ e=>absurd (List.cons.inj e).1 (jjO g ho hop hne)⟩) l g h).2 e
theorem jjR {B:List Tm} {o:Op} (g:Gb B) (ho:o=.con\/o=.dis):∀ (n:Nat) (st f:List Nat),Sta B o (f++st)->(∀ z∈st,z<B.length)->st.length<n->jat n B o f st=some (some (f++st),B):=by
 intro n
 induction n with
 | zero =>
  intro _ _ _ _ h
  exact absurd ‹_› (Nat.not_lt_zero _)
 | succ n ih =>
  intro w_1
  cases w_1 with
  | nil =>
   intro f _ _ _
   simp [jat]
  | cons t st =>
   intro f s hl hn
   have hm:t∈f++t::st:=Ja6 _ (.head _)
   refine jbq (s.ne t hm) λ n1 n2 n3=>?_
   refine jam ((s.dn t hm).not g.wf g.nd (hl t (.head _))) λ y hy e=>?_
   have htf:t∉f:=λ h=>by
    have:=(List.pairwise_append.mp s.so).2.2 t h t (.head _)
    exact Nat.lt_irrefl _ ‹_›
   have hu:t≠ja7 o:=by unfold ja7; split <;> assumption
   have hse:t≠jaU o:=by unfold jaU; split <;> assumption
   have hi:ins t f=f++[t]:=by unfold ins; refine rwr (if_neg htf) ?_; rfl
   unfold jat
   refine rwr (if_neg hu) ?_
   refine rwr (if_neg hse) ?_
   refine rwr e ?_
   dsimp only
   refine rwr (if_neg (λ h=>s.nn t hm y hy (Ja7 _ h))) ?_
   refine rwr (if_neg n3) ?_
   refine rwr hi ?_
   rw [(show f++t::st=(f++[t])++st from by simp)] at s ⊢
   exact ih st (f++[t]) s (λ z hz=>hl z (.tail _ hz)) (by simpa using hn)
theorem jg0 {B:List Tm} {o:Op} {l:List Nat} (g:Gb B) (s:Sta B o l) (hz:∀ z∈l,z<B.length):∀ r:List Nat,(∀ z∈r,z∈l)->jal B (jaC o) l r=(r,B)/\jao B (jaC o) l r=[]
 | [],_=>⟨rfl,rfl⟩
 | t::r,h=>by
  refine jbi (jg0 g s hz r λ z hz=>h z (.tail _ hz)) λ h1 h2=>?_
  refine rwr (jbD g (jaw o)) ?_
  refine rwr (jca g (jaw o)) ?_
  by_cases hop:jad B t≠jaC o
  ·refine rwr (if_pos hop) ?_; refine rwr (if_pos hop) ?_; refine rwr h1 ?_; refine rwr h2 ?_; exact ⟨rfl,rfl⟩
  ·have hop':=Classical.not_not.mp hop
   have hd:=s.du t (h t (.head _)) hop'
   have hfil:(jaa B t).filter (λ z=>decide ((jab B z).1∉l))=jaa B t:=by
    rw [List.filter_eq_self]
    intro z hz
    refine jam ((g.dnArgs hop' (jaw o) z hz).1.not g.wf g.nd (g.dnArgs hop' (jaw o) z hz).2) λ y hy e=>?_
    refine rwr e ?_
    exact Jd6 ((hd z hz).2 y hy)
   have hany:¬ ((jaa B t).any λ x=>decide (x∈l))=true:=by
    intro ha
    refine jam (List.any_eq_true.mp ha) λ z hz e=>?_
    exact (hd z hz).1 (of_decide_eq_true e)
   refine rwr (if_neg hop) ?_
   refine rwr (if_neg hop) ?_
   refine rwr (if_neg hany) ?_
   refine rwr (if_neg hany) ?_
   refine rwr (if_pos hfil) ?_
   refine rwr (if_pos hfil) ?_
   refine rwr h1 ?_
   refine rwr h2 ?_
   exact ⟨rfl,rfl⟩
theorem jhm {B:List Tm} {o:Op} {l:List Nat} (ho:o=.con\/o=.dis) (h:Easy B o l):jaT 100 B o l=some (jaA B o l)/\jcs 100 B o l=[]:=by
 refine jcV h λ g s hl h63=>?_
 have e1:=jjR g ho 100 l [] s (λ z hz=>(hl z hz).1) (Jb1 ‹_› (by decide))
 rw [Ja5] at e1
 refine jbi (jg0 g s (λ z hz=>(hl z hz).1) l λ U h=>h) λ e2 e3=>?_
 have e4:=jf9 s.so
 constructor
 ·unfold jaT; refine rwr e1 ?_; dsimp only
  show (if 63<l.length then none else _)=_
  refine rwr (if_neg (Nat.not_lt.mpr ‹_›)) ?_
  refine rwr e4 ?_
  refine rwr e2 ?_
  exact if_pos rfl
 ·unfold jcs; refine rwr e1 ?_; dsimp only
  show jao B (jaC o) l (jaf l)++_=[]
  refine rwr e4 ?_
  refine rwr e3 ?_
  refine rwr e2 ?_
  exact if_pos rfl
theorem jll {B:List Tm} {o:Op} {f:List Nat} (g:Gb B) (fi:FI B o f) (hk:∀ t∈jaf f,jad B t=jaC o->∀ z∈jaa B t,z∉f/\(jab B z).1∉f):Sta B o (jaf f):=by
 refine ⟨jf8 fi.nd,λ x hx=>fi.ne x (jaV.mp hx),λ x hx=>fi.dn x (jaV.mp hx),λ x hx y hy hm=>fi.nn x (jaV.mp hx) y hy (jaV.mp hm),λ x hx e z hz=>?_⟩
 obtain ⟨h1,h2⟩:=hk x hx e z hz
 refine ⟨λ hm=>h1 (jaV.mp hm),λ y hy hm=>h2 ?_⟩
 have hz':=(g.dnArgs e (jaw o) z hz).2
 refine rwr (jaB g.wf g.nd hz' hy) ?_
 exact jaV.mp hm
theorem jmh {o:Op} (ho:o=.con\/o=.dis):∀ (n:Nat) {B:List Tm} {fo:Option (List Nat)} {r:Nat×List Tm},Gb B->(∀ f,fo=some f->FI B o f)->ja0 n B o fo=some r ->
  Gb r.2/\(r.1<r.2.length/\1<=r.1)/\∀ c∈jaJ n B o fo,Easy c.1 (jaC o) c.2:=by
 intro n
 induction n with
 | zero =>
  intro _ _ _ _ _ h
  simp [ja0] at h
 | succ n ih =>
  intro B w_2
  cases w_2 with
  | none =>
   intro r g _ h
   simp only [ja0,Option.some.injEq] at h
   subst h
   have:=g.wf.len
   refine ⟨g,?_,λ c hc=>by simp [jaJ] at hc⟩
   unfold jaU; split <;> constructor <;> dsimp only <;> lia
  | some f =>
   intro r g hf h
   have fi:=hf f rfl
   have hs:∀ t∈jaf f,t<B.length/\1<=t:=λ t ht=>fi.lt t (jaV.mp ht)
   refine jcV (jeJ (jaw o) f (jaf f) g hs) λ g1 k1 k2 k3=>?_
   have hlen:(jaf f).length=f.length:=(jas f).length_eq
   dsimp only [ja0] at h
   unfold jaJ
   split at h
   ·exact nomatch h
   ·rename_i h63
    dsimp only at h ⊢
    split at h
    ·rename_i he
     refine rwr (if_pos he) ?_
     simp only [Option.some.injEq] at h
     refine jbi (jfw (jaw o) f (jaf f) g hs he) λ e1 e2=>?_
     rw [e1,he] at h
     subst h
     refine jbq (jeo g ho hs (jll g fi e2) (by lia)) λ q1 q2 q3=>?_
     exact ⟨q1,⟨q2,q3⟩,λ c hc=>k3 c (by simpa using hc)⟩
    ·rename_i he
     refine rwr (if_neg he) ?_
     cases hF:jat n (jal B (jaC o) f (jaf f)).2 o [] (jal B (jaC o) f (jaf f)).1 with
     | none=>rw [hF] at h; replace h:=h; exact nomatch h
     | some p =>
      obtain ⟨f',B'⟩:=p
      rw [hF] at h
      dsimp only at h ⊢
      refine jbi (jbO ho n g1 k1 (FI.nil _ _) hF) λ g2 f2=>?_
      refine jbq (ih g2 f2 h) λ q1 q2 q3=>?_
      exact ⟨q1,q2,λ c hc=>by refine Jc8 (Ja9.mp hc) (λ hc=>?_) λ hc=>?_; exact k3 c hc; exact q3 c hc⟩
theorem jgD {o:Op} (ho:o=.con\/o=.dis) {n:Nat} {B:List Tm} {l:List Nat} {r:Nat×List Tm} (g:Gb B) (hl:∀ t∈l,t<B.length/\1<=t) (h:jaT n B o l=some r) :
  Ext B r.2/\Gb r.2/\(r.1<r.2.length/\1<=r.1)/\∀ c∈jcs n B o l,Easy c.1 (jaC o) c.2:=by
 unfold jaT at h
 unfold jcs
 cases hF:jat n B o [] l with
 | none=>rw [hF] at h; exact nomatch h
 | some p =>
  obtain ⟨f',B'⟩:=p
  rw [hF] at h
  dsimp only at h ⊢
  refine jbi (jbO ho n g hl (FI.nil _ _) hF) λ g2 f2=>?_
  exact ⟨(jaz n hF).trans (jaO n h),jmh ho n g2 f2 h⟩
end
section
theorem jcy (o:Op) (f:List Nat):∀ (l:List Nat) (B:List Tm),∀ c∈jao B o f l,Ext (jaA c.1 o c.2).2 (jal B o f l).2:=by
 intro l
 induction l with
 | nil =>
  intro _ c hc
  simp [jao] at hc
 | cons t r ih =>
  intro B c hc
  dsimp only [jao] at hc
  unfold jal
  split at hc
  ·rename_i h; refine rwr (if_pos h) ?_; exact ih B c hc
  ·rename_i h; refine rwr (if_neg h) ?_
   split at hc
   ·rename_i h; refine rwr (if_pos h) ?_; exact ih B c hc
   ·rename_i h; refine rwr (if_neg h) ?_
    dsimp only at hc ⊢
    replace hc:=hc
    split at hc
    ·rename_i h; refine rwr (if_pos h) ?_; exact ih _ c hc
    ·rename_i h; refine rwr (if_neg h) ?_
     refine Jc8 (Ja3.mp hc) (λ e_1=>?_) λ hc=>?_
     ·subst e_1; exact jaZ _ _ _ _
     ·exact ih _ c hc
theorem jex (o:Op):∀ (n:Nat) {B:List Tm} {fo:Option (List Nat)} {r:Nat×List Tm},ja0 n B o fo=some r->∀ c∈jaJ n B o fo,Ext (jaA c.1 (jaC o) c.2).2 r.2:=by
 intro n
 induction n with
 | zero =>
  intro _ _ _ h _ _
  simp [ja0] at h
 | succ n ih =>
  intro B w_1
  cases w_1 with
  | none =>
   intro r _ c hc
   simp [jaJ] at hc
  | some f =>
   intro r h c hc
   have hx:=jaO _ h
   dsimp only [ja0] at h
   unfold jaJ at hc
   split at h
   ·exact nomatch h
   ·dsimp only at h hc
    refine ith h (λ he h=>?_) λ he h=>?_
    ·rw [if_pos he,List.append_nil] at hc
     simp only [Option.some.injEq] at h
     refine rwl h ?_
     exact (jcy _ _ _ _ c hc).trans (jaD _ _ _)
    ·rw [if_neg he] at hc
     replace hc:=hc
     cases hF:jat n (jal B (jaC o) f (jaf f)).2 o [] (jal B (jaC o) f (jaf f)).1 with
     | none=>rw [hF] at h; replace h:=h; cases h
     | some p =>
      obtain ⟨f',B'⟩:=p
      rw [hF] at h hc
      dsimp only at h hc
      rcases Ja9.mp hc with hc | hc
      ·exact (jcy _ _ _ _ c hc).trans ((jaz n hF).trans (jaO n h))
      ·exact ih h c hc
theorem jhl {o:Op} {n:Nat} {B:List Tm} {l:List Nat} {r:Nat×List Tm} (h:jaT n B o l=some r):∀ c∈jcs n B o l,Ext (jaA c.1 (jaC o) c.2).2 r.2:=by
 unfold jaT at h
 unfold jcs
 cases hF:jat n B o [] l with
 | none=>rw [hF] at h; exact nomatch h
 | some p=>obtain ⟨f',B'⟩:=p; rw [hF] at h; exact jex o n h
end
section
noncomputable def jdJ:Nat->List Tm->List Nat->Bool->List Nat->Option (List Nat×Bool)
 | 0,_,_,_,_=>none
 | _+1,_,f,odd,[]=>some (f,odd)
 | n+1,B,f,odd,t::st =>
  let odd':=odd != decide (jad B t=.tru\/jad B t=.neg)
  if jad B t=.neg\/jad B t=.xr then jdJ n B f odd' ((jaa B t).reverse++st)
  else if t∈f then jdJ n B (f.filter λ x=>decide (x≠t)) odd' st
  else if jad B t=.tru\/jad B t=.fls then jdJ n B f odd' st
  else jdJ n B (f++[t]) odd' st
noncomputable def jc7:List Tm->Nat->List Nat->Nat×List Tm
 | B,r,[]=>(r,B)
 | B,r,t::l=>jc7 (mk B ⟨.xr,[r,t],0⟩).2 (mk B ⟨.xr,[r,t],0⟩).1 l
noncomputable def jbr (B:List Tm) (s:List Nat):Nat×List Tm:=match s with | []=>(2,B) | x::r=>jc7 B x r
noncomputable def jhL (n:Nat) (B:List Tm) (l:List Nat):Option (Nat×List Tm) :=
 match jdJ n B [] false l.reverse with
 | none=>none
 | some (f,odd)=>if 63<f.length then none else if odd then some (jab (jbr B (jaf f)).2 (jbr B (jaf f)).1) else some (jbr B (jaf f))
noncomputable def chB (n:Nat) (B:List Tm) (c a b:Nat):Option (Nat×List Tm) :=
 if a=1\/a=c then jaT n B .dis [c,b]
 else if a=2\/a=(jab B c).1 then jaT n (jab B c).2 .con [(jab B c).1,b]
 else if b=1\/b=(jab B c).1 then jaT n (jab B c).2 .dis [(jab B c).1,a]
 else if b=2\/b=c then jaT n (jab B c).2 .con [c,a]
 else if a=(jab (jab B c).2 b).1 then some (jaG (jab (jab B c).2 b).2 c a)
 else some (mk (jab (jab B c).2 b).2 ⟨.ite,[c,a,b],0⟩)
noncomputable def sel (B:List Tm) (c a:Nat) (i:Nat):Nat:=if jad B a=.ite/\(jaa B a).headD 0=c then (jaa B a).getD i 0 else a
noncomputable def chs (n:Nat) (B:List Tm) (c a b:Nat):Option (Nat×List Tm) :=
 if c=1\/sel B c a 1=sel B c b 2 then some (sel B c a 1,B)
 else if c=2 then some (sel B c b 2,B)
 else chB n B c (sel B c a 1) (sel B c b 2)
noncomputable def chO (n:Nat) (B:List Tm) (c a b:Nat):Option (Nat×List Tm):=if jad B c=.neg then chs n B (jac B c) b a else chs n B c a b
theorem jh7 (f:List Nat) (t:Nat):without (jbz f) (t:Int)=jbz (f.filter λ x=>decide (x≠t)):=by
 unfold without jbz
 refine rwr List.filter_map ?_
 congr 1
 apply List.filter_congr
 intro x _
 simp only [Function.comp]
 by_cases h:x=t
 ·simp [h]
 ·have:¬ ((x:Int)=t):=λ e=>h (Int.ofNat.inj e)
  simp [h,this]
theorem jcB:∀ (l:List Nat) (B:List Tm) (r:Nat),Ext B (jc7 B r l).2
 | [],B,_=>Ext.refl B
 | t::l,B,r=>(ja9 B _).trans (jcB l _ _)
theorem jjr:∀ (l:List Nat) {B:List Tm} {r:Nat},Wf B->r<B.length->(∀ t∈l,t<B.length)->Wf (jc7 B r l).2/\(jc7 B r l).1<(jc7 B r l).2.length
 | [],_,_,w,hr,_=>⟨w,hr⟩
 | t::l,B,r,w,hr,hl=>jjr l (jht w (λ s hs=>jcK (P:=(· < B.length)) hs hr (hl t (.head _))) (λ e=>nomatch e)) (jcT B _) λ x hx=>Ja1 (hl x (.tail _ hx)) (ja9 B _).len
theorem jjp {B:List Tm} {s:List Nat} (w:Wf B) (h:∀ t∈s,t<B.length):Wf (jbr B s).2/\(jbr B s).1<(jbr B s).2.length:=by
 unfold jbr; split
 ·exact ⟨w,w.len⟩
 ·exact jjr _ w (h _ (.head _)) λ t ht=>h t (.tail _ ht)
theorem jm8 (B:List Tm) (s:List Nat):jbr B s=jc7 B (s.headD 2) (s.drop 1):=by cases s <;> rfl
theorem jc6 (B:List Tm) (s:List Nat):Ext B (jbr B s).2:=by
 unfold jbr; split
 ·exact Ext.refl B
 ·exact jcB _ _ _
end
section
noncomputable def jmG (B:List Tm) (f:List Nat) (t:Nat):List (Nat×Bool):=((jaa B t).filter λ x=>decide (x∉f)).map λ x=>(x,false)
noncomputable def jcg:Nat->List Tm->List Nat->List (Nat×Bool)->Option (List Nat)
 | 0,_,_,_=>none
 | _+1,_,f,[]=>some f
 | n+1,B,f,(t,o)::st =>
  if t∈f then jcg n B f st
  else if o=true then jcg n B (f++[t]) st
  else jcg n B f (jmG B f t++(t,true)::st)
noncomputable def jbb (n:Nat) (B:List Tm):List Nat->List Nat->Option (List Nat)
 | f,[]=>some f
 | f,r::rs=>match jcg n B f [(r,false)] with
  | none=>none
  | some f'=>jbb n B f' rs
noncomputable def jky (f:List Nat) (l:List Nat) (st:List (Nat×Bool)):List (Nat×Bool):=l.foldl (λ st x=>if x∈f then st else (x,false)::st) st
theorem jfo (f:List Nat) (st:List (Nat×Bool)):∀ l:List Nat,jky f l.reverse st=((l.filter λ x=>decide (x∉f)).map λ x=>(x,false))++st
 | []=>rfl
 | x::r=>by
  have ih:=jfo f st r
  unfold jky at ih ⊢
  refine rwr List.reverse_cons ?_
  refine rwr List.foldl_append ?_
  refine rwr ih ?_
  by_cases h:x∈f <;> simp [h]
end
section
section
local macro_rules | `(tactic| o_head $_)=>`(tactic| assumption)
theorem kk (h:PySem.Challenge.rw_rg0210_03.row.Holds):PySem.Challenge.rw_rg0210_03.row.Holds:=by k_head
end
noncomputable abbrev prg:Program:=PySem.Challenge.rw_rg0210_03.row.prog
structure Bs (w:World) (b₀:Heap) (mean:ExcName->Option Value) (mg mb:Str->Option Value):Prop where
 X:(kk.heap_1 w.params).In b₀
 T:Tp mg mb b₀
end
section
structure Msk (m:Nat) (f:Nat->Bool):Prop where
 le:m<=65535
 bit:∀ u,u<16->m.testBit u=f u
theorem Msk.hi {m:Nat} {f:Nat->Bool} (x:Msk m f) {u:Nat} (h:16<=u):m.testBit u=false:=Nat.testBit_lt_two_pow (Ja1 (show m<2 ^ 16 from Nat.lt_succ_of_le x.le) (Nat.pow_le_pow_right (by decide) h))
theorem Msk.uniq {m m':Nat} {f:Nat->Bool} (x:Msk m f) (y:Msk m' f):m=m':=Nat.eq_of_testBit_eq λ u=>by
 by_cases h:u<16
 ·refine rwr (x.bit u h) ?_
  refine rwr (y.bit u h) ?_
  rfl
 ·refine rwr (x.hi (Jd2 ‹_›)) ?_
  refine rwr (y.hi (Jd2 ‹_›)) ?_
  rfl
theorem Msk.ext {m:Nat} {f g:Nat->Bool} (x:Msk m f) (h:∀ u,u<16->f u=g u):Msk m g:=⟨x.le,λ u hu=>by refine rwr (x.bit u hu) ?_; refine rwr (h u hu) ?_; rfl⟩
theorem Msk.zero:Msk 0 λ U=>false:=⟨by decide,λ u U=>by simp⟩
theorem Msk.one:Msk 65535 λ U=>true:=⟨by decide,λ u hu=>by refine rwr (show (65535:Nat)=2 ^ 16 - 1 from rfl) ?_; rw [Nat.testBit_two_pow_sub_one]; simpa using hu⟩
theorem Msk.and {a b:Nat} {f g:Nat->Bool} (x:Msk a f) (y:Msk b g):Msk (a &&& b) λ u=>f u && g u :=
 ⟨Ja0 Nat.and_le_left x.le,λ u hu=>by rw [Nat.testBit_and,x.bit u hu,y.bit u hu]⟩
theorem Msk.or {a b:Nat} {f g:Nat->Bool} (x:Msk a f) (y:Msk b g):Msk (a ||| b) λ u=>f u || g u :=
 ⟨by have:=Nat.or_lt_two_pow (n:=16) (show a<2 ^ 16 by have:=x.le; exact Nat.lt_succ_of_le ‹_›) (show b<2 ^ 16 by have:=y.le; exact Nat.lt_succ_of_le ‹_›); exact Nat.le_of_lt_succ ‹_›,λ u hu=>by rw [Nat.testBit_or]; refine rwr (x.bit u hu) ?_; refine rwr (y.bit u hu) ?_; rfl⟩
theorem Msk.xor {a b:Nat} {f g:Nat->Bool} (x:Msk a f) (y:Msk b g):Msk (a ^^^ b) λ u=>f u ^^ g u :=
 ⟨by have:=Nat.xor_lt_two_pow (n:=16) (show a<2 ^ 16 by have:=x.le; exact Nat.lt_succ_of_le ‹_›) (show b<2 ^ 16 by have:=y.le; exact Nat.lt_succ_of_le ‹_›); exact Nat.le_of_lt_succ ‹_›,λ u hu=>by rw [Nat.testBit_xor]; refine rwr (x.bit u hu) ?_; refine rwr (y.bit u hu) ?_; rfl⟩
theorem Msk.not {a:Nat} {f:Nat->Bool} (x:Msk a f):Msk (65535 - a) λ u=>!f u :=
 ⟨Nat.sub_le _ _,λ u hu=>by
  refine rwr (show 65535 - a=2 ^ 16 - (a+1) by lia) ?_
  rw [Nat.testBit_two_pow_sub_succ (by have:=x.le; exact Nat.lt_succ_of_le ‹_›),x.bit u hu]
  simp [hu]⟩
theorem jhy (a:Nat):∀ b:Nat,(a ||| b)=(a ^^^ b)+(a &&& b):=by
 induction a using Nat.strongRecOn with
 | ind a ih =>
  intro b
  refine Jc8 (Jc9 (a=0)) (λ h0=>?_) λ h0=>?_
  ·subst h0; simp
  ·have h:=ih (a / 2) (Nat.div_lt_self (Nat.pos_of_ne_zero ‹_›) (by decide)) (b / 2)
   rw [<- Nat.or_div_two,<- Nat.xor_div_two,<- Nat.and_div_two] at h
   have h1:=Nat.or_mod_two_pow (a:=a) (b:=b) (n:=1)
   have h2:=Nat.xor_mod_two_pow (a:=a) (b:=b) (n:=1)
   have h3:=Nat.and_mod_two_pow (a:=a) (b:=b) (n:=1)
   rw [Nat.pow_one] at h1 h2 h3
   rcases Nat.mod_two_eq_zero_or_one a with ea | ea <;> rcases Nat.mod_two_eq_zero_or_one b with eb | eb <;> rw [ea,eb] at h1 h2 h3
   ·have h1:(a ||| b) % 2=0:=h1
    have h2:(a ^^^ b) % 2=0:=h2
    have h3:(a &&& b) % 2=0:=h3
    lia
   ·have h1:(a ||| b) % 2=1:=h1
    have h2:(a ^^^ b) % 2=1:=h2
    have h3:(a &&& b) % 2=0:=h3
    lia
   ·have h1:(a ||| b) % 2=1:=h1
    have h2:(a ^^^ b) % 2=1:=h2
    have h3:(a &&& b) % 2=0:=h3
    lia
   ·have h1:(a ||| b) % 2=1:=h1
    have h2:(a ^^^ b) % 2=0:=h2
    have h3:(a &&& b) % 2=1:=h3
    lia
theorem jdU (a b:Nat):Builtin.bitAnd a b=((a &&& b:Nat):Int):=by
 have h1:decide (0<=(a:Int))=true:=by simp
 have h2:decide (0<=(b:Int))=true:=by simp
 unfold Builtin.bitAnd
 refine rwr h1 ?_
 refine rwr h2 ?_
 simp
theorem jeU (a b:Nat):Builtin.bitOr a b=((a ||| b:Nat):Int):=by
 unfold Builtin.bitOr Builtin.bitAnd
 have h1:decide (0<=Builtin.bitNot (a:Int))=false:=by simp [Builtin.bitNot]; lia
 have h2:decide (0<=Builtin.bitNot (b:Int))=false:=by simp [Builtin.bitNot]; lia
 refine rwr h1 ?_
 refine rwr h2 ?_
 have e1:(Builtin.bitNot (Builtin.bitNot (a:Int))).toNat=a:=by simp [Builtin.bitNot]; lia
 have e2:(Builtin.bitNot (Builtin.bitNot (b:Int))).toNat=b:=by simp [Builtin.bitNot]; lia
 simp only [e1,e2]
 dsimp only [Builtin.bitNot]
 lia
theorem jg9 (a b:Nat):Builtin.bitXor a b=((a ^^^ b:Nat):Int):=by
 unfold Builtin.bitXor
 rw [jeU,jdU,jhy]
 lia
end
section
noncomputable def opM (o:Op) (l:List Nat):Nat :=
 match o with
 | .tru | .con=>l.foldl (λ a b=>a &&& b) 65535
 | .fls | .dis=>l.foldl (λ a b=>a ||| b) 0
 | .neg=>65535 - l.getD 0 0
 | .ite=>(l.getD 0 0 &&& l.getD 1 0) ||| ((65535 - l.getD 0 0) &&& l.getD 2 0)
 | .xr=>l.getD 0 0 ^^^ l.getD 1 0
 | _=>65535 - (l.getD 0 0 ^^^ l.getD 1 0)
theorem jph {m:Nat->Nat} {v:Nat->Nat->Bool}:∀ (l:List Nat) (acc:Nat) (f:Nat->Bool),(∀ s∈l,Msk (m s) λ u=>v u s)->Msk acc f->Msk ((l.map m).foldl (λ a b=>a &&& b) acc) λ u=>f u && l.all λ s=>v u s:=by
 intro l
 induction l with
 | nil =>
  intro acc f _ x
  exact x.ext λ u U=>by simp
 | cons s l ih =>
  intro acc f h x
  exact (ih _ _ (λ z hz=>h z (.tail _ hz)) (x.and (h s (.head _)))).ext λ u U=>by simp [Bool.and_assoc]
theorem jpi {m:Nat->Nat} {v:Nat->Nat->Bool}:∀ (l:List Nat) (acc:Nat) (f:Nat->Bool),(∀ s∈l,Msk (m s) λ u=>v u s)->Msk acc f->Msk ((l.map m).foldl (λ a b=>a ||| b) acc) λ u=>f u || l.any λ s=>v u s:=by
 intro l
 induction l with
 | nil =>
  intro acc f _ x
  exact x.ext λ u U=>by simp
 | cons s l ih =>
  intro acc f h x
  exact (ih _ _ (λ z hz=>h z (.tail _ hz)) (x.or (h s (.head _)))).ext λ u U=>by simp [Bool.or_assoc]
theorem jqn {l:List Nat} (h:l.length=1):∃ a,l=[a]:=joO h
theorem joN {l:List Nat} (h:l.length=2):∃ a b,l=[a,b]:=jdR (jnV h) λ a r e h=>jbh (joO h) λ c e3=>⟨a,c,by rw [e,e3]⟩
theorem jqo {l:List Nat} (h:l.length=3):∃ a b c,l=[a,b,c]:=jdR (jnV h) λ a r e h=>jjx (joN h) λ b c e3=>⟨a,b,c,by rw [e,e3]⟩
theorem jmx {o:Op} {l:List Nat} {m:Nat->Nat} {v:Nat->Nat->Bool} (h:∀ s∈l,Msk (m s) λ u=>v u s) (ar:jbL o l.length=true) (h1:o≠.app) (h2:o≠.nil) (h3:o≠.imp):Msk (opM o (l.map m)) λ u=>jeK o (l.map λ s=>v u s):=by
 cases o with
 | nil=>exact absurd rfl h2
 | app=>exact absurd rfl h1
 | imp=>exact absurd rfl h3
 | tru =>
  have e:l=[]:=by simpa [jbL] using ar
  subst e; exact Msk.one
 | fls =>
  have e:l=[]:=by simpa [jbL] using ar
  subst e; exact Msk.zero
 | con =>
  refine (jph l _ _ h Msk.one).ext λ u U=>?_
  simp only [jeK,List.any_map,Bool.true_and]
  refine rwr List.all_eq_not_any_not ?_
  congr 1
  refine congrArg (List.any l) (funext λ s=>?_)
  show (!v u s)=(v u s == false)
  cases v u s <;> rfl
 | dis =>
  refine (jpi l _ _ h Msk.zero).ext λ u U=>?_
  simp only [jeK,List.any_map,Bool.false_or]
  refine congrArg (List.any l) (funext λ s=>?_)
  show (v u s)=(v u s == true)
  cases v u s <;> rfl
 | neg =>
  obtain ⟨a,rfl⟩:=jqn (by simpa [jbL] using ar)
  exact (h a (.head _)).not
 | xr =>
  obtain ⟨a,b,rfl⟩:=joN (by simpa [jbL] using ar)
  exact ((h a (.head _)).xor (h b (.tail _ (.head _)))).ext λ u U=>by show (v u a ^^ v u b)=(v u a != v u b); cases v u a <;> cases v u b <;> rfl
 | eq =>
  obtain ⟨a,b,rfl⟩:=joN (by simpa [jbL] using ar)
  exact ((h a (.head _)).xor (h b (.tail _ (.head _)))).not.ext λ u U=>by show (!(v u a ^^ v u b))=(v u a == v u b); cases v u a <;> cases v u b <;> rfl
 | ite =>
  refine jcR (jqo (by simpa [jbL] using ar)) λ a b c e_4=>?_
  subst e_4
  have ha:=h a (.head _)
  refine ((ha.and (h b (.tail _ (.head _)))).or (ha.not.and (h c (.tail _ (.tail _ (.head _)))))).ext λ u U=>?_
  show ((v u a && v u b) || ((!v u a) && v u c))=if v u a then v u b else v u c
  cases v u a <;> cases v u b <;> cases v u c <;> rfl
noncomputable def jbJ (B:List Tm):List (Nat×Nat)->List Nat->List (Nat×Nat)
 | H,[]=>H
 | H,t::r=>if (H.lookup t).isSome then jbJ B H r else jbJ B (H++[(t,opM (jad B t) ((jaa B t).map λ s=>(H.lookup s).getD 0))]) r
noncomputable def jnj (B:List Tm) (H:List (Nat×Nat)):Prop:=∀ p∈H,Msk p.2 λ u=>jae B u p.1
theorem jbY:∀ {H:List (Nat×Nat)} {t m:Nat},H.lookup t=some m->(t,m)∈H
 | [],_,_,h=>by simp at h
 | (a,b)::H,t,m,h=>by
  rw [List.lookup_cons] at h
  refine Jc8 (Jc9 (t == a)) (λ e=>?_) λ e=>?_
  ·rw [e] at h
   refine rwr (eq_of_beq e) ?_; refine rwl (Jb0 h) ?_; exact .head _
  ·rw [Bool.not_eq_true] at e
   rw [e] at h
   exact .tail _ (jbY h)
theorem jbX {H:List (Nat×Nat)} {t m:Nat} (R:List (Nat×Nat)) (h:H.lookup t=some m):(H++R).lookup t=some m:=by
 refine rwr List.lookup_append ?_; refine rwr h ?_; rfl
theorem jgV {B:List Tm} (w:Wf B) (ha:∀ (i:Nat) (t:Tm),B[i]? = some t->jbL t.op t.args.length=true):∀ (l:List Nat) (H:List (Nat×Nat)),jnj B H ->
  (∀ t∈l,t<B.length/\1<=t/\jad B t≠.nil/\jad B t≠.imp/\(jad B t=.app->(H.lookup t).isSome))->(∀ (i t:Nat),l[i]? = some t->∀ s∈jaa B t,(H.lookup s).isSome\/∃ j:Nat,j<i/\l[j]? = some s) ->
  jnj B (jbJ B H l)/\(∀ t m,H.lookup t=some m->(jbJ B H l).lookup t=some m)/\∀ t∈l,((jbJ B H l).lookup t).isSome:=by
 intro l
 induction l with
 | nil =>
  intro H hH _ _
  exact ⟨hH,λ U U h=>h,λ U h=>(absurd h Jb2)⟩
 | cons t r ih =>
  intro H hH hl hb
  unfold jbJ
  by_cases hs:(H.lookup t).isSome=true
  ·refine rwr (if_pos hs) ?_
   obtain ⟨a1,a2,a3⟩:=ih H hH (λ z hz=>hl z (.tail _ hz)) λ i z hz s hsz=>by
    rcases hb (i+1) z hz s hsz with h | ⟨j,hj,h⟩
    ·exact .inl h
    ·cases j with
     | zero=>rw [List.getElem?_cons_zero] at h; replace h:=h; refine rwl (Jb0 h) ?_; exact .inl hs
     | succ j=>exact .inr ⟨j,Nat.le_of_lt_succ ‹_›,h⟩
   refine ⟨a1,a2,λ z hz=>?_⟩
   refine Jc8 (Ja3.mp hz) (λ e_4=>?_) λ hz=>?_
   ·subst e_4; obtain ⟨m,hm⟩:=Option.isSome_iff_exists.mp hs
    refine rwr (a2 _ _ hm) ?_; rfl
   ·exact a3 z hz
  ·refine rwr (if_neg hs) ?_
   refine jg4 (hl t (.head _)) λ c1 c2 c3 c4 c5=>?_
   have hap:jad B t≠.app:=λ e=>hs (c5 e)
   have harg:∀ s∈jaa B t,(H.lookup s).isSome:=λ s hs'=>by
    rcases hb 0 t rfl s hs' with h | ⟨j,hj,_⟩
    ·exact h
    ·exact absurd ‹_› (Nat.not_lt_zero _)
   have hg:=List.getElem?_eq_getElem c1
   have hm:Msk (opM (jad B t) ((jaa B t).map λ s=>(H.lookup s).getD 0)) λ u=>jae B u t:=by
    refine (jmx (v:=λ u s=>jae B u s) (λ s hs'=>?_) (by refine rwr (jan hg) ?_; refine rwr (jai hg) ?_; exact (ha t _ hg)) hap c3 c4).ext λ u U=>(jbj w c1 hap u).symm
    refine jbh (Option.isSome_iff_exists.mp (harg s hs')) λ m hm=>?_
    refine rwr hm ?_
    exact hH _ (jbY hm)
   have hnew:∀ m,(H++[(t,m)]).lookup t=some m:=λ m=>by
    refine rwr List.lookup_append ?_; refine rwr (Option.not_isSome_iff_eq_none.mp hs) ?_; simp
   obtain ⟨a1,a2,a3⟩:=ih (H++[(t,opM (jad B t) ((jaa B t).map λ s=>(H.lookup s).getD 0))]) (λ p hp=>by
     rcases Ja9.mp hp with h | h
     ·exact hH p h
     ·refine rwr (Ja2.mp h) ?_; exact hm)
    (λ z hz=>by
     refine jg4 (hl z (.tail _ hz)) λ d1 d2 d3 d4 d5=>?_
     refine ⟨d1,d2,d3,d4,λ e=>?_⟩
     refine jbh (Option.isSome_iff_exists.mp (d5 e)) λ m hm=>?_
     refine rwr (jbX _ hm) ?_; rfl)
    λ i z hz s hsz=>by
     rcases hb (i+1) z hz s hsz with h | ⟨j,hj,h⟩
     ·obtain ⟨m,hm⟩:=Option.isSome_iff_exists.mp h
      exact .inl (by refine rwr (jbX _ hm) ?_; rfl)
     ·cases j with
      | zero=>rw [List.getElem?_cons_zero] at h; replace h:=h; refine rwl (Jb0 h) ?_; rw [hnew]; exact .inl rfl
      | succ j=>exact .inr ⟨j,Nat.le_of_lt_succ ‹_›,h⟩
   refine ⟨a1,λ z m hz=>a2 z m (jbX _ hz),λ z hz=>?_⟩
   refine Jc8 (Ja3.mp hz) (λ e_5=>?_) λ hz=>?_
   ·subst e_5; refine rwr (a2 _ _ (hnew _)) ?_; rfl
   ·exact a3 z hz
end
section
noncomputable def AF (B:List Tm) (f:List Nat):Prop:=∀ (i t:Nat),f[i]? = some t->∀ s∈jaa B t,∃ j:Nat,j<i/\f[j]? = some s
theorem AF.push {B:List Tm} {f:List Nat} {t:Nat} (x:AF B f) (h:∀ s∈jaa B t,s∈f):AF B (f++[t]):=λ i z hz s hs=>by
 refine Jc8 (Jc9 (i<f.length)) (λ hi=>?_) λ hi=>?_
 ·rw [List.getElem?_append_left hi] at hz
  refine jam (x i z hz s hs) λ j hj e=>?_
  exact ⟨j,hj,by refine rwr (List.getElem?_append_left (Jd1 ‹_› ‹_›)) ?_; exact e⟩
 ·rw [List.getElem?_append_right (Jd2 ‹_›)] at hz
  have h0:i - f.length=0:=by
   refine Jc8 (Jc9 (i - f.length=0)) (λ e=>?_) λ e=>?_
   ·exact e
   ·rw [List.getElem?_eq_none (by simp; exact Nat.pos_of_ne_zero ‹_›)] at hz; replace hz:=hz; exact nomatch hz
  rw [h0,List.getElem?_cons_zero] at hz
  obtain rfl:=Jb0 hz
  obtain ⟨j,hj,e⟩:=List.getElem_of_mem (h s hs)
  exact ⟨j,by lia,by refine rwr (List.getElem?_append_left hj) ?_; refine rwr (List.getElem?_eq_getElem hj) ?_; refine rwr e ?_; rfl⟩
theorem AF.nil {B:List Tm}:AF B []:=λ i t h=>by simp at h
theorem AF.closed {B:List Tm} {f:List Nat} (x:AF B f) {t s:Nat} (h:t∈f) (hs:s∈jaa B t):s∈f:=by
 obtain ⟨i,hi,e⟩:=List.getElem_of_mem h
 refine jam (x i t (by refine rwr (List.getElem?_eq_getElem hi) ?_; refine rwr e ?_; rfl) s hs) λ j U e2=>?_
 exact List.mem_of_getElem? e2
noncomputable def OpI (B:List Tm) (f:List Nat):List Nat->List (Nat×Bool)->Prop
 | _,[]=>True
 | ab,(t,o)::st=>(o=true->∀ s∈jaa B t,s∈f\/s∈ab)/\OpI B f (t::ab) st
theorem OpI.mono {B:List Tm} {f f':List Nat}:∀ {st:List (Nat×Bool)} {ab ab':List Nat},OpI B f ab st->(∀ s,s∈f\/s∈ab->s∈f'\/s∈ab')->OpI B f' ab' st
 | [],_,_,_,_=>trivial
 | (t,o)::st,ab,ab',h,k=>⟨λ e s hs=>k s (h.1 e s hs),OpI.mono h.2 λ s hs=>by
   rcases hs with hs | hs
   ·refine Jc8 (k s (.inl hs)) (λ h=>?_) λ h=>?_
    ·exact .inl h
    ·exact .inr (.tail _ h)
   ·refine Jc8 (Ja3.mp hs) (λ e_1=>?_) λ hs=>?_
    ·subst e_1; exact .inr (.head _)
    ·refine Jc8 (k s (.inr hs)) (λ h=>?_) λ h=>?_
     ·exact .inl h
     ·exact .inr (.tail _ h)⟩
theorem OpI.low {B:List Tm} {f:List Nat} {rest:List (Nat×Bool)}:∀ (l ab:List Nat),OpI B f (l.reverse++ab) rest->OpI B f ab (l.map (λ x=>(x,false))++rest):=by
 intro l
 induction l with
 | nil =>
  intro _ h
  exact h
 | cons x l ih =>
  intro ab h
  exact ⟨λ e=>(Bool.noConfusion e),ih (x::ab) (by rw [List.reverse_cons,List.append_assoc] at h; exact h)⟩
theorem jc4 {B:List Tm} {S:Nat->Prop} (hS:∀ t,S t->∀ s∈jaa B t,S s):∀ (n:Nat) (f:List Nat) (st:List (Nat×Bool)) (fin:List Nat),jcg n B f st=some fin->AF B f->f.Nodup->OpI B f [] st->(∀ t∈f,S t)->(∀ p∈st,S p.1) ->
  AF B fin/\fin.Nodup/\(∀ t∈fin,S t)/\(∀ t∈f,t∈fin)/\∀ p∈st,p.1∈fin
 | 0,f,st,fin,h,_,_,_,_,_=>by simp [jcg] at h
 | n+1,f,[],fin,h,a,b,_,d,_=>by
  simp only [jcg,Option.some.injEq] at h
  subst h
  exact ⟨a,b,d,λ U h=>h,λ U h=>(absurd h Jb2)⟩
 | n+1,f,(t,o)::st,fin,h,a,b,c,d,e=>by
  dsimp only [jcg] at h
  have e0:=e _ (.head _)
  have e1:∀ p∈st,S p.1:=λ p hp=>e p (.tail _ hp)
  refine Jc8 (Jc9 (t∈f)) (λ ht=>?_) λ ht=>?_
  ·rw [if_pos ht] at h
   refine jg4 (jc4 hS n f st fin h a b (c.2.mono λ s hs=>by
    refine Jc8 hs (λ hs=>?_) λ hs=>?_
    ·exact .inl hs
    ·refine rwr (Ja2.mp hs) ?_; exact .inl ht) d e1) λ r1 r2 r3 r4 r5=>?_
   refine ⟨r1,r2,r3,r4,λ p hp=>?_⟩
   refine Jc8 (Ja3.mp hp) (λ e_3=>?_) λ hp=>?_
   ·subst e_3; exact r4 _ ht
   ·exact r5 p hp
  ·rw [if_neg ht] at h
   refine ith h (λ ho h=>?_) λ ho h=>?_
   ·have harg:∀ s∈jaa B t,s∈f:=λ s hs=>by
     refine Jc8 (c.1 ho s hs) (λ h=>?_) λ h=>?_
     ·exact h
     ·exact absurd h Jb2
    refine jg4 (jc4 hS n (f++[t]) st fin h (a.push harg) (List.nodup_append.mpr ⟨b,by simp,λ x hx y hy e=>ht (by refine rwl (Ja2.mp hy) ?_; refine rwl e ?_; exact hx)⟩) (c.2.mono λ s hs=>by
     rcases hs with hs | hs
     ·exact .inl (Ja7 _ hs)
     ·exact .inl (Ja6 _ hs)) (λ z hz=>by
      rcases Ja9.mp hz with hz | hz
      ·exact d z hz
      ·refine rwr (Ja2.mp hz) ?_; exact e0) e1) λ r1 r2 r3 r4 r5=>?_
    refine ⟨r1,r2,r3,λ z hz=>r4 z (Ja7 _ hz),λ p hp=>?_⟩
    refine Jc8 (Ja3.mp hp) (λ e_1=>?_) λ hp=>?_
    ·subst e_1; exact r4 _ (Ja6 _ (.head _))
    ·exact r5 p hp
   ·have hm:∀ s,s∈(jaa B t).filter (λ x=>decide (x∉f))->s∈jaa B t:=λ s hs=>(List.mem_filter.mp hs).1
    refine jg4 (jc4 hS n f _ fin h a b (OpI.low _ [] ⟨λ U s hs=>by
      by_cases hf:s∈f
      ·exact .inl hf
      ·exact .inr (Ja7 _ (List.mem_reverse.mpr (List.mem_filter.mpr ⟨hs,by simpa using hf⟩))),c.2.mono λ s hs=>by
      rcases hs with hs | hs
      ·exact .inl hs
      ·refine rwr (Ja2.mp hs) ?_; exact .inr (.head _)⟩) d (λ p hp=>by
      refine Jc8 (Ja9.mp hp) (λ hp=>?_) λ hp=>?_
      ·refine jam (Jb8 hp) λ x hx e_2=>?_
       subst e_2
       exact hS t e0 x (hm x hx)
      ·refine Jc8 (Ja3.mp hp) (λ e_5=>?_) λ hp=>?_
       ·subst e_5; exact e0
       ·exact e1 p hp)) λ r1 r2 r3 r4 r5=>?_
    refine ⟨r1,r2,r3,r4,λ p hp=>?_⟩
    refine Jc8 (Ja3.mp hp) (λ e_2=>?_) λ hp=>?_
    ·subst e_2; exact r5 (t,true) (Ja6 _ (.head _))
    ·exact r5 p (Ja6 _ (.tail _ hp))
theorem jiM {B:List Tm} {S:Nat->Prop} (hS:∀ t,S t->∀ s∈jaa B t,S s) (n:Nat):∀ (rs f fin:List Nat),jbb n B f rs=some fin->AF B f->f.Nodup->(∀ t∈f,S t)->(∀ r∈rs,S r) ->
  AF B fin/\fin.Nodup/\(∀ t∈fin,S t)/\(∀ t∈f,t∈fin)/\∀ r∈rs,r∈fin:=by
 intro rs
 induction rs with
 | nil =>
  intro f fin h a b d _
  simp only [jbb,Option.some.injEq] at h
  subst h
  exact ⟨a,b,d,λ U h=>h,λ U h=>(absurd h Jb2)⟩
 | cons r rs ih =>
  intro f fin h a b d e
  dsimp only [jbb] at h
  cases hp:jcg n B f [(r,false)] with
  | none=>rw [hp] at h; replace h:=h; exact nomatch h
  | some f' =>
   rw [hp] at h
   refine jg4 (jc4 hS n f _ f' hp a b ⟨λ e=>(Bool.noConfusion e),trivial⟩ d (λ p hp=>by refine rwr (Ja2.mp hp) ?_; exact e r (.head _))) λ r1 r2 r3 r4 r5=>?_
   refine jg4 (ih f' fin h r1 r2 r3 λ z hz=>e z (.tail _ hz)) λ q1 q2 q3 q4 q5=>?_
   refine ⟨q1,q2,q3,λ z hz=>q4 z (r4 z hz),λ z hz=>?_⟩
   refine Jc8 (Ja3.mp hz) (λ e_7=>?_) λ hz=>?_
   ·subst e_7; exact q4 _ (r5 (z,false) (.head _))
   ·exact q5 z hz
noncomputable def jer (sz:Nat->Nat):List (Nat×Bool)->Nat
 | []=>1
 | (t,o)::st=>(if o then 1 else 2*sz t)+jer sz st
theorem jfa {sz:Nat->Nat} (rest:List (Nat×Bool)):∀ l:List Nat,jer sz (l.map (λ x=>(x,false))++rest)=2*(l.map sz).sum+jer sz rest
 | []=>by simp
 | x::l=>by
  have:=jfa (sz:=sz) rest l
  simp only [Ja8,Ja4,jer,this,List.sum_cons]
  simp; lia
theorem jd3 {sz:Nat->Nat} (p:Nat->Bool):∀ l:List Nat,((l.filter p).map sz).sum<=(l.map sz).sum
 | []=>Jc4 _
 | x::l=>by
  have:=jd3 (sz:=sz) p l
  by_cases h:p x=true
  ·refine rwr (List.filter_cons_of_pos h) ?_; simp only [Ja8,List.sum_cons]; exact Jb3 ‹_› _
  ·refine rwr (List.filter_cons_of_neg h) ?_; simp only [Ja8,List.sum_cons]; exact Ja0 ‹_› (Jc7 _ _)
theorem jb0 {B:List Tm} {sz:Nat->Nat} (hz:∀ t,1+((jaa B t).map sz).sum<=sz t):∀ (n:Nat) (f:List Nat) (st:List (Nat×Bool)),jer sz st<=n->∃ fin,jcg n B f st=some fin
 | 0,f,st,h=>by
  exfalso
  have:∀ st,1<=jer sz st:=λ st=>by
   induction st with
   | nil=>exact Jc4 _
   | cons p st ih=>exact Ja0 ih (Jc7 _ _)
  exact absurd (Ja0 (this st) h) (by decide)
 | n+1,f,[],h=>⟨f,rfl⟩
 | n+1,f,(t,o)::st,h=>by
  unfold jcg
  have h1:=hz t
  dsimp only [jer] at h
  refine Jc8 (Jc9 (t∈f)) (λ ht=>?_) λ ht=>?_
  ·refine rwr (if_pos ht) ?_
   exact jb0 hz n f st (by by_cases ho:o=true <;> simp [ho] at h <;> lia)
  ·refine rwr (if_neg ht) ?_
   refine Jc8 (Jc9 (o=true)) (λ ho=>?_) λ ho=>?_
   ·refine rwr (if_pos ho) ?_
    exact jb0 hz n _ st (by simp [ho] at h; replace h:=h; lia)
   ·refine rwr (if_neg ho) ?_
    refine jb0 hz n f _ ?_
    show jer sz (((jaa B t).filter λ x=>decide (x∉f)).map (λ x=>(x,false))++(t,true)::st)<=n
    rw [jfa]
    have h2:=jd3 (sz:=sz) (λ x=>decide (x∉f)) (jaa B t)
    simp [ho] at h
    dsimp only [jer,if_true]
    lia
end
section
noncomputable def Hold (B:List Tm) (u:Nat) (o:Op) (l:List Nat):Prop:=∀ t∈l,jae B u t=decide (o=.con)
theorem Hold.app {B:List Tm} {u:Nat} {o:Op} {a b:List Nat}:Hold B u o (a++b)↔Hold B u o a/\Hold B u o b:=by simp [Hold,or_imp,forall_and]
theorem Hold.cons {B:List Tm} {u:Nat} {o:Op} {t:Nat} {b:List Nat}:Hold B u o (t::b)↔jae B u t=decide (o=.con)/\Hold B u o b:=by simp [Hold]
theorem jeL {B:List Tm} (w:Wf B) (u:Nat) {o:Op} (ho:o=.con\/o=.dis):jae B u (ja7 o)=decide (o=.con)/\jae B u (jaU o)=!decide (o=.con):=by
 refine jbi (jkP w u) λ h1 h2=>?_
 rcases ho with rfl | rfl
 ·exact ⟨h1,h2⟩
 ·exact ⟨h2,h1⟩
theorem jc2 {B:List Tm} (w:Wf B) (u:Nat) {o:Op} (ho:o=.con\/o=.dis) {t:Nat} (ht:t<B.length) (h:jad B t=o):jae B u t=decide (o=.con)↔Hold B u o (jaa B t):=by
 rw [jbj w ht (by refine rwr h ?_; rcases ho with rfl | rfl <;> exact λ e=>nomatch e)]
 refine rwr h ?_
 rcases ho with rfl | rfl <;> simp [jeK,Hold]
theorem jnD {B B':List Tm} (x:Ext B B') {t:Nat} (ht:t<B.length):jad B' t=jad B t/\jaa B' t=jaa B t:=by
 have hg:=List.getElem?_eq_getElem ht
 have hg':=x.get hg
 exact ⟨by rw [jan hg,jan hg'],by refine rwr (jai hg) ?_; refine rwr (jai hg') ?_; rfl⟩
theorem jgy {Bf:List Tm} (wf:Wf Bf) (u:Nat) {o:Op} (ho:o=.con\/o=.dis):∀ (n:Nat) {B B':List Tm} {f st:List Nat} {fr:Option (List Nat)},Wf B->(∀ t∈st,t<B.length)->jat n B o f st=some (fr,B')->Ext B' Bf ->
  (fr=none->¬ Hold Bf u o (f++st))/\∀ g,fr=some g->(Hold Bf u o g↔Hold Bf u o (f++st)):=by
 intro n
 induction n with
 | zero =>
  intro _ _ _ _ _ _ _ h _
  simp [jat] at h
 | succ n ih =>
  intro B B' f w_1
  cases w_1 with
  | nil =>
   intro fr _ _ h _
   simp only [jat,Option.some.injEq,Prod.mk.injEq] at h
   obtain ⟨rfl,rfl⟩:=h
   refine ⟨λ e=>(nomatch e),λ g e=>?_⟩
   refine rwl (Jb0 e) ?_
   rw [List.append_nil]
  | cons t st =>
   intro fr w hst h x
   dsimp only [jat] at h
   replace h:=h
   refine jbi (jeL wf u ho) λ uv sv=>?_
   refine Jc8 (Jc9 (t=ja7 o)) (λ h1=>?_) λ h1=>?_
   ·rw [if_pos h1] at h
    replace h:=h
    refine jbi (ih w (λ z hz=>hst z (.tail _ hz)) h x) λ a b=>?_
    have e:Hold Bf u o (f++t::st)↔Hold Bf u o (f++st):=by
     rw [Hold.app,Hold.app,Hold.cons]; refine rwr h1 ?_; refine rwr uv ?_; simp
    exact ⟨λ k=>by rw [e]; exact a k,λ g k=>by rw [e]; exact b g k⟩
   ·rw [if_neg h1] at h
    replace h:=h
    refine Jc8 (Jc9 (t=jaU o)) (λ h2=>?_) λ h2=>?_
    ·rw [if_pos h2] at h
     replace h:=h
     refine jbi (Prod.mk.inj (Jb0 h)) λ e_5 e_6=>?_
     subst e_5
     subst e_6
     refine ⟨λ U k=>?_,λ g e=>(nomatch e)⟩
     rw [Hold.app,Hold.cons,h2,sv] at k
     have:=k.2.1
     cases hd:decide (o=.con) <;> rw [hd] at this <;> exact absurd this (by decide)
    ·rw [if_neg h2] at h
     replace h:=h
     have ht:=hst t (.head _)
     have w1:=(jbt w ht).1
     have x1:=jag B t
     refine Jc8 (Jc9 ((jab B t).1∈f)) (λ h3=>?_) λ h3=>?_
     ·rw [if_pos h3] at h
      replace h:=h
      refine jbi (Prod.mk.inj (Jb0 h)) λ e_5 e_6=>?_
      subst e_5
      subst e_6
      refine ⟨λ U k=>?_,λ g e=>(nomatch e)⟩
      rw [Hold.app,Hold.cons] at k
      replace k:=k
      have k1:=k.1 _ h3
      rw [((jaW w ht x).val wf u),k.2.1] at k1
      replace k1:=k1
      cases hd:decide (o=.con) <;> rw [hd] at k1 <;> exact absurd k1 (by decide)
     ·rw [if_neg h3] at h
      replace h:=h
      have ht1:t<(jab B t).2.length:=Ja1 ht x1.len
      by_cases h4:jad (jab B t).2 t=o
      ·rw [if_pos h4] at h
       replace h:=h
       have xf:Ext (jab B t).2 Bf:=(jaz _ h).trans x
       refine jbi (jnD xf ht1) λ e1 e2=>?_
       refine jbi (ih w1 (λ z hz=>by
        rcases Ja9.mp hz with hz | hz
        ·exact Jd1 (jaL w1 hz) ht1
        ·exact Ja1 (hst z (.tail _ hz)) x1.len) h x) λ a b=>?_
       have e:Hold Bf u o (f++t::st)↔Hold Bf u o (f++(jaa (jab B t).2 t++st)):=by
        rw [Hold.app,Hold.app,Hold.cons,Hold.app,jc2 wf u ho (Ja1 ht1 xf.len) (e1.trans h4),e2]
       exact ⟨λ k=>by rw [e]; exact a k,λ g k=>by rw [e]; exact b g k⟩
      ·rw [if_neg h4] at h
       replace h:=h
       refine jbi (ih w1 (λ z hz=>Ja1 (hst z (.tail _ hz)) x1.len) h x) λ a b=>?_
       have e:Hold Bf u o (f++t::st)↔Hold Bf u o (ins t f++st):=by
        unfold ins
        by_cases hf:t∈f
        ·refine rwr (if_pos hf) ?_
         rw [Hold.app,Hold.app,Hold.cons]
         exact ⟨λ k=>⟨k.1,k.2.2⟩,λ k=>⟨k.1,k.1 t hf,k.2⟩⟩
        ·refine rwr (if_neg hf) ?_
         rw [Hold.app,Hold.app,Hold.app,Hold.cons]
         exact ⟨λ k=>⟨⟨k.1,λ z hz=>by refine rwr (Ja2.mp hz) ?_; exact k.2.1⟩,k.2.2⟩,λ k=>⟨k.1.1,k.1.2 t (.head _),k.2⟩⟩
       exact ⟨λ k=>by rw [e]; exact a k,λ g k=>by rw [e]; exact b g k⟩
theorem jh4 {B Bf:List Tm} (wf:Wf Bf) (u:Nat) {o:Op} (ho:o=.con\/o=.dis) {l:List Nat} (x:Ext (jaA B o l).2 Bf):jae Bf u (jaA B o l).1=decide (o=.con)↔Hold Bf u o l:=by
 have two:∀ (a b:Nat) (r:List Nat),Ext (mk B ⟨o,a::b::r,0⟩).2 Bf->(jae Bf u (mk B ⟨o,a::b::r,0⟩).1=decide (o=.con)↔Hold Bf u o (a::b::r)):=λ a b r x=>by
  have hg:=x.get (jba B ⟨o,a::b::r,0⟩)
  have:=jc2 wf u ho (Ja1 (jcT B _) x.len) (jan hg)
  rw [jai hg] at this
  exact this
 rcases l with _ | ⟨a,_ | ⟨b,r⟩⟩
 ·have h:=(jeL wf u ho).1
  rcases ho with rfl | rfl
  ·exact ⟨λ U U h=>(absurd h Jb2),λ U=>h⟩
  ·exact ⟨λ U U h=>(absurd h Jb2),λ U=>h⟩
 ·rcases ho with rfl | rfl
  ·exact ⟨λ h z hz=>by refine rwr (Ja2.mp hz) ?_; exact h,λ h=>h a (.head _)⟩
  ·exact ⟨λ h z hz=>by refine rwr (Ja2.mp hz) ?_; exact h,λ h=>h a (.head _)⟩
 ·rcases ho with rfl | rfl
  ·exact two a b r x
  ·exact two a b r x
theorem jen {o:Op} (ho:o=.con\/o=.dis):decide (jaC o=.con)=!decide (o=.con):=by rcases ho with rfl | rfl <;> rfl
theorem jg6 {B:List Tm} (w:Wf B) (u:Nat) {o:Op} (ho:o=.con\/o=.dis) {t s:Nat} (ht:t<B.length) (h:jad B t=jaC o) (hs:s∈jaa B t) (hv:jae B u s=decide (o=.con)):jae B u t=decide (o=.con):=by
 have hn:=jc2 w u (jaw o) ht h
 rw [jen ho] at hn
 cases hb:jae B u t == decide (o=.con) with
 | true=>exact eq_of_beq hb
 | false =>
  exfalso
  have h1:jae B u t=!decide (o=.con):=by
   revert hb; cases jae B u t <;> cases decide (o=.con) <;> decide
  have h2:=hn.mp h1 s hs
  rw [hv,jen ho] at h2
  cases hd:decide (o=.con) <;> rw [hd] at h2 <;> exact absurd h2 (by decide)
theorem jj8 {B:List Tm} (u:Nat) {o:Op} (ho:o=.con\/o=.dis) (p:Nat->Bool) (l:List Nat) (h:∀ s∈l,p s=false->jae B u s=!decide (o=.con)):Hold B u (jaC o) (l.filter p)↔Hold B u (jaC o) l:=by
 refine ⟨λ k s hs=>?_,λ k s hs=>k s (List.mem_filter.mp hs).1⟩
 by_cases hp:p s=true
 ·exact k s (List.mem_filter.mpr ⟨hs,hp⟩)
 ·refine rwr (h s hs (by simpa using hp)) ?_
  refine rwr (jen ho) ?_
  rfl
end
section
noncomputable def jkW (B:List Tm) (o:Op) (f:List Nat) (t j:Nat):Prop :=
 ∃ p:Nat->Bool,(∀ u,jae B u j=decide (o=.con)↔Hold B u o ((jaa B t).filter p))/\∀ s∈jaa B t,p s=false->∃ y∈f,Neg B s y
noncomputable def Each (B:List Tm) (o:Op) (f R:List Nat) (t:Nat):Prop :=
 (jad B t≠o->t∈R)/\(jad B t=o->(∃ s∈jaa B t,s∈f)\/t∈R\/∃ j∈R,jkW B o f t j)
theorem Each.cons {B:List Tm} {o:Op} {f R:List Nat} {t:Nat} (x:Nat) (h:Each B o f R t):Each B o f (x::R) t :=
 ⟨λ e=>.tail _ (h.1 e),λ e=>by
  rcases h.2 e with h | h | ⟨j,hj,h⟩
  ·exact .inl h
  ·exact .inr (.inl (.tail _ h))
  ·exact .inr (.inr ⟨j,.tail _ hj,h⟩)⟩
theorem jjb {Bf:List Tm} {o:Op} (ho:o=.con\/o=.dis) (wf:Wf Bf) (f l:List Nat) {B:List Tm} (g:Gb B) (hl:∀ t∈l,t<B.length/\1<=t) (x:Ext (jal B o f l).2 Bf) :
  (∀ t∈l,Each Bf o f (jal B o f l).1 t)/\∀ j∈(jal B o f l).1,∃ t∈l,j=t\/(jad Bf t=o/\jkW Bf o f t j) :=
 have more:∀ {t:Nat} {r:List Nat} {j:Nat},(∃ t∈r,j=t\/(jad Bf t=o/\jkW Bf o f t j))->∃ z∈t::r,j=z\/(jad Bf z=o/\jkW Bf o f z j):=λ h=>jam h λ t' ht' h=>⟨t',.tail _ ht',h⟩
 jcz ho (M:=λ U l k B' U=>Ext B' Bf->(∀ t∈l,Each Bf o f k t)/\∀ j∈k,∃ t∈l,j=t\/(jad Bf t=o/\jkW Bf o f t j))
  (λ U U U=>⟨λ U h=>absurd h Jb2,λ U h=>absurd h Jb2⟩)
  (λ B t r k B' C g ht xe q m x =>
   have n:=m x
   ⟨all_cons ⟨λ U=>.head _,λ U=>.inr (.inl (.head _))⟩ λ z hz=>(n.1 z hz).cons _,all_cons ⟨_,.head _,.inl rfl⟩ λ j hj=>more (n.2 j hj)⟩)
  (λ B t r k B' C g ht xe hop hany m x =>
   have n:=m x
   have xB:=xe.trans x
   ⟨all_cons ⟨λ e=>absurd ((xB.op ht.1).trans hop) e,λ U=>.inl (jam (List.any_eq_true.mp hany) λ s hs hsf=>⟨s,(xB.args ht.1).symm▸hs,of_decide_eq_true hsf⟩)⟩ n.1,λ j hj=>more (n.2 j hj)⟩)
  (λ B t r k B' C g ht hop _ e _ xe m x =>
   have n:=m x
   have xE:Ext (jaA B o (flt f B t)).2 Bf:=xe.trans x
   have xB:Ext B Bf:=(jaD _ _ _).trans xE
   have hL:jkW Bf o f t (jaA B o (flt f B t)).1:=⟨λ z=>decide ((jab B z).1∉f),λ u=>by rw [xB.args ht.1]; exact jh4 wf u ho xE,λ s hs hp=>by
    rw [xB.args ht.1] at hs
    refine jbi (g.dnArgs hop ho s hs) λ n_1 hsl=>jbh n_1 λ y hy=>?_
    have hp:=of_decide_eq_false hp
    rw [(jaB g.wf g.nd hsl hy)] at hp
    exact ⟨y,Classical.not_not.mp hp,hy.ext xB⟩⟩
   have eo:jad Bf t=o:=(xB.op ht.1).trans hop
   ⟨all_cons ⟨λ e=>absurd eo e,λ U=>.inr (.inr ⟨_,.head _,hL⟩)⟩ λ z hz=>(n.1 z hz).cons _,all_cons ⟨t,.head _,.inr ⟨eo,hL⟩⟩ λ j hj=>more (n.2 j hj)⟩) l g hl x
theorem jns {a b d e:Bool} (h1:a=e↔b=e) (h:b=d):a=d:=by
 cases a <;> cases b <;> cases d <;> cases e <;> simp at h1 h ⊢
theorem jgI {B:List Tm} (w:Wf B) (u:Nat) {o:Op} (ho:o=.con\/o=.dis) {f:List Nat} {t j:Nat} (ht:t<B.length) (h:jad B t=jaC o) (x:jkW B (jaC o) f t j) (hf:∀ s∈jaa B t,∀ y∈f,Neg B s y->jae B u y=decide (o=.con)) :
  jae B u j=decide (jaC o=.con)↔jae B u t=decide (jaC o=.con):=by
 refine jam x λ p h1 h2=>?_
 rw [h1 u,jc2 w u (jaw o) ht h]
 refine jj8 u ho p _ λ s hs hp=>?_
 refine jam (h2 s hs hp) λ y hy hn=>?_
 have h3:=hn.val w u
 rw [hf s hs y hy hn] at h3
 refine rwr h3 ?_
 rw [Bool.not_not]
theorem jkL {B:List Tm} (w:Wf B) (u:Nat) {o:Op} (ho:o=.con\/o=.dis) {f R l:List Nat} (hl:∀ t,t∈l↔t∈f) (hlt:∀ t∈f,t<B.length) (h1:∀ t∈l,Each B (jaC o) f R t)
  (h2:∀ j∈R,∃ t∈l,j=t\/(jad B t=jaC o/\jkW B (jaC o) f t j)) (c1:jad B 1=.tru) (c2:jad B 2=.fls):Hold B u o R↔Hold B u o f:=by
 constructor
 ·intro k
  have main:∀ n t,t<n->t∈f->jae B u t=decide (o=.con):=by
   intro n
   induction n with
   | zero=>intro t h; exact absurd ‹_› (Nat.not_lt_zero _)
   | succ n ih =>
    intro t htn ht
    have e:=h1 t ((hl t).mpr ht)
    refine Jc8 (Jc9 (jad B t=jaC o)) (λ hd=>?_) λ hd=>?_
    ·rcases e.2 hd with ⟨s,hs,hsf⟩ | h | ⟨j,hj,x⟩
     ·exact jg6 w u ho (hlt t ht) hd hs (ih s (by have:=jaL w hs; lia) hsf)
     ·exact k t h
     ·refine jns (jgI w u ho (hlt t ht) hd x λ s hs y hy hn=>?_).symm (k j hj)
      refine Jc8 (Jc9 (jad B y=jaC o)) (λ hy2=>?_) λ hy2=>?_
      ·have hst:=jaL w hs
       rcases hn with ⟨_,rfl⟩ | ⟨_,rfl⟩ | hn | hn
       ·rw [c2] at hy2; replace hy2:=hy2; rcases jaw o with h | h <;> rw [h] at hy2 <;> exact absurd hy2 (by decide)
       ·rw [c1] at hy2; rcases jaw o with h | h <;> rw [h] at hy2 <;> exact absurd hy2 (by decide)
       ·rw [jan hn] at hy2; replace hy2:=hy2; rcases jaw o with h | h <;> rw [h] at hy2 <;> exact (Op.noConfusion hy2)
       ·exact ih y (by have:=(jaI w hn).1; lia) hy
      ·exact k y ((h1 y ((hl y).mpr hy)).1 hy2)
    ·exact k t (e.1 hd)
  exact λ t ht=>main (t+1) t (Jd5 t) ht
 ·intro k j hj
  obtain ⟨t,ht,rfl | ⟨hd,x⟩⟩:=h2 j hj
  ·exact k _ ((hl _).mp ht)
  ·have ht:=(hl t).mp ht
   exact jns (jgI w u ho (hlt t ht) hd x λ s hs y hy hn=>k y hy) (k t ht)
end
section
theorem jil {Bf:List Tm} (wf:Wf Bf) (u:Nat) {o:Op} (ho:o=.con\/o=.dis):∀ (n:Nat) {B:List Tm} {fr:Option (List Nat)} {r:Nat×List Tm},Gb B->(∀ f,fr=some f->∀ t∈f,t<B.length/\1<=t)->ja0 n B o fr=some r->Ext r.2 Bf ->
  (fr=none->jae Bf u r.1≠decide (o=.con))/\∀ f,fr=some f->(jae Bf u r.1=decide (o=.con)↔Hold Bf u o f):=by
 intro n
 induction n with
 | zero =>
  intro _ _ _ _ _ h _
  simp [ja0] at h
 | succ n ih =>
  intro B w_1
  cases w_1 with
  | none =>
   intro r _ _ h _
   simp only [ja0,Option.some.injEq] at h
   refine rwl h ?_
   refine ⟨λ U e=>?_,λ f e=>(nomatch e)⟩
   rw [(jeL wf u ho).2] at e
   replace e:=e
   cases hd:decide (o=.con) <;> rw [hd] at e <;> exact absurd e (by decide)
  | some f =>
   intro r g hf h x
   refine ⟨λ e=>(nomatch e),λ f' e=>?_⟩
   obtain rfl:=Jb0 e
   have hf:=hf f rfl
   have hp:=jas f
   have hs:∀ t∈jaf f,t<B.length/\1<=t:=λ t ht=>hf t (hp.mem_iff.mp ht)
   refine jcV (jeJ (jaw o) f (jaf f) g hs) λ g2 hk U U=>?_
   have key:Ext (jal B (jaC o) f (jaf f)).2 Bf->(Hold Bf u o (jal B (jaC o) f (jaf f)).1↔Hold Bf u o f):=λ xk=>by
    refine jbi (jjb (jaw o) wf f (jaf f) g hs xk) λ e1 e2=>?_
    exact jkL wf u ho (λ t=>hp.mem_iff) (λ t ht=>Ja1 (hf t ht).1 ((jaZ _ B (jaC o) f).trans xk).len) e1 e2 (jan wf.t1) (jan wf.t2)
   unfold ja0 at h
   replace h:=h
   refine Jc8 (Jc9 (63<f.length)) (λ h63=>?_) λ h63=>?_
   ·rw [if_pos h63] at h; replace h:=h; replace h:=h; exact nomatch h
   ·rw [if_neg h63] at h
    replace h:=h
    dsimp only at h
    replace h:=h
    refine Jc8 (Jc9 ((jal B (jaC o) f (jaf f)).1=jaf f)) (λ hk1=>?_) λ hk1=>?_
    ·rw [if_pos hk1] at h
     replace h:=h
     have h:=Jb0 h
     rw [<- h] at x ⊢
     rw [jh4 wf u ho x]
     exact key ((jaD _ _ _).trans x)
    ·rw [if_neg hk1] at h
     replace h:=h
     cases hfl:jat n (jal B (jaC o) f (jaf f)).2 o [] (jal B (jaC o) f (jaf f)).1 with
     | none=>rw [hfl] at h; replace h:=h; exact nomatch h
     | some q =>
      obtain ⟨f2,B2⟩:=q
      rw [hfl] at h
      replace h:=h
      dsimp only at h
      replace h:=h
      have x2:Ext B2 Bf:=(jaO n h).trans x
      refine jbi (jbO ho n g2 hk (FI.nil _ o) hfl) λ g3 fi=>?_
      refine jbi (jgy wf u ho n g2.wf (λ t ht=>(hk t ht).1) hfl x2) λ a b=>?_
      rw [Ja5] at a b
      replace a:=a
      replace b:=b
      obtain ⟨c,d⟩:=ih g3 (λ f3 e t ht=>(fi f3 e).lt t ht) h x
      rw [<- key ((jaz n hfl).trans x2)]
      cases f2 with
      | none=>exact ⟨λ e=>absurd e (c rfl),λ e=>absurd e (a rfl)⟩
      | some f3=>rw [d f3 rfl,b f3 rfl]
theorem jdq {Bf:List Tm} (wf:Wf Bf) (u:Nat) {o:Op} (ho:o=.con\/o=.dis) {n:Nat} {B:List Tm} {l:List Nat} {r:Nat×List Tm} (g:Gb B) (hl:∀ t∈l,t<B.length/\1<=t) (h:jaT n B o l=some r) (x:Ext r.2 Bf) :
  jae Bf u r.1=decide (o=.con)↔Hold Bf u o l:=by
 unfold jaT at h
 cases hfl:jat n B o [] l with
 | none=>rw [hfl] at h; replace h:=h; exact nomatch h
 | some q =>
  obtain ⟨f2,B2⟩:=q
  rw [hfl] at h
  replace h:=h
  dsimp only at h
  have x2:Ext B2 Bf:=(jaO n h).trans x
  obtain ⟨g3,fi⟩:=jbO ho n g hl (FI.nil _ o) hfl
  obtain ⟨a,b⟩:=jgy wf u ho n g.wf (λ t ht=>(hl t ht).1) hfl x2
  rw [Ja5] at a b
  replace a:=a
  replace b:=b
  obtain ⟨c,d⟩:=jil wf u ho n g3 (λ f3 e t ht=>(fi f3 e).lt t ht) h x
  cases f2 with
  | none=>exact ⟨λ e=>absurd e (c rfl),λ e=>absurd e (a rfl)⟩
  | some f3=>rw [d f3 rfl,b f3 rfl]
end
section
noncomputable def xv (v:Nat->Bool):List Nat->Bool
 | []=>false
 | t::l=>v t ^^ xv v l
theorem jjs (v:Nat->Bool):∀ a b:List Nat,xv v (a++b)=(xv v a ^^ xv v b)
 | [],b=>by simp [xv]
 | t::a,b=>by simp only [Ja4,xv,jjs v a b,Bool.xor_assoc]
theorem jgf (v:Nat->Bool) {a b:List Nat} (h:a.Perm b):xv v a=xv v b:=by
 induction h with
 | nil=>rfl
 | cons x _ ih=>simp only [xv,ih]
 | swap x y l=>simp only [xv]; cases v x <;> cases v y <;> simp
 | trans _ _ h1 h2=>exact h1.trans h2
theorem joG (v:Nat->Bool) {t:Nat}:∀ f:List Nat,t∉f->f.filter (λ x=>decide (x≠t))=f
 | f,h=>List.filter_eq_self.mpr λ a ha=>by simp; exact λ e=>h (e▸ha)
theorem jfD (v:Nat->Bool) {t:Nat}:∀ f:List Nat,f.Nodup->t∈f->xv v (f.filter λ x=>decide (x≠t))=(xv v f ^^ v t)
 | [],_,h=>(nomatch h)
 | x::f,hn,h=>by
  refine jbi (Jd9.mp hn) λ h1 h2=>?_
  by_cases e:x=t
  ·subst e
   refine rwr (List.filter_cons_of_neg (by simp)) ?_
   refine rwr (joG v f h1) ?_
   dsimp only [xv]; cases v x <;> cases xv v f <;> rfl
  ·refine rwr (List.filter_cons_of_pos (by simpa using e)) ?_
   dsimp only [xv]
   refine rwr (jfD v f h2 ((Ja3.mp h).resolve_left λ k=>e k.symm)) ?_
   rw [Bool.xor_assoc]
end
section
theorem bx1:∀ {o d f s a t:Bool},t=(d ^^ a)->((o != d) ^^ (f ^^ (a ^^ s)))=(o ^^ (f ^^ (t ^^ s))):=by decide
theorem bx2:∀ {o d f s t:Bool},d=false->((o != d) ^^ ((f ^^ t) ^^ s))=(o ^^ (f ^^ (t ^^ s))):=by decide
theorem bx3:∀ {o d f s t:Bool},t=d->((o != d) ^^ (f ^^ s))=(o ^^ (f ^^ (t ^^ s))):=by decide
theorem xv1 (v:Nat->Bool) (t:Nat):xv v [t]=v t:=Bool.xor_false _
theorem joz {B:List Tm} (g:Gb B) (u:Nat) {t:Nat} (ht:t<B.length) (h1:jad B t=.neg\/jad B t=.xr):jae B u t=(decide (jad B t=.tru\/jad B t=.neg) ^^ xv (jae B u) (jaa B t)):=by
 have har:=g.ar t _ (List.getElem?_eq_getElem ht)
 rw [<- jan (List.getElem?_eq_getElem ht),<- jai (List.getElem?_eq_getElem ht)] at har
 rcases h1 with e | e
 ·have hv:=jbj g.wf ht (by rw [e]; exact Op.noConfusion) u
  rw [e] at har hv
  refine jbh (jqn (of_decide_eq_true har)) λ a ha=>?_
  refine rwr hv ?_
  refine rwr ha ?_
  rw [e,xv1]
  exact (Bool.true_xor _).symm
 ·have hv:=jbj g.wf ht (by rw [e]; exact Op.noConfusion) u
  rw [e] at har hv
  refine jjx (joN (of_decide_eq_true har)) λ a b ha=>?_
  refine rwr hv ?_
  refine rwr ha ?_
  refine rwr e ?_
  exact (congrArg (xor _) (Bool.xor_false _)).symm.trans (Bool.false_xor _).symm
theorem joA {B:List Tm} (g:Gb B) (u:Nat) {t:Nat} (ht:t<B.length) (h3:jad B t=.tru\/jad B t=.fls):jae B u t=decide (jad B t=.tru\/jad B t=.neg):=by
 rcases h3 with e | e
 ·rw [jbj g.wf ht (by refine rwr e ?_; exact Op.noConfusion) u]; refine rwr e ?_; rfl
 ·rw [jbj g.wf ht (by refine rwr e ?_; exact Op.noConfusion) u]; refine rwr e ?_; rfl
theorem jkt {B:List Tm} (g:Gb B) (u:Nat) (n:Nat):∀ (f st:List Nat) (odd:Bool) (r:List Nat×Bool),f.Nodup->(∀ x∈f,jad B x≠.tru/\jad B x≠.fls)->(∀ t∈st,t<B.length)->jdJ n B f odd st=some r ->
  (r.2 ^^ xv (jae B u) r.1)=(odd ^^ (xv (jae B u) f ^^ xv (jae B u) st)):=by
 induction n with
 | zero=>intro _ _ _ _ _ _ _ h; exact nomatch h
 | succ n ih =>
  intro f st odd r hn hf hl h
  cases st with
  | nil =>
   replace h:(f,odd)=r:=Jb0 h
   subst h
   exact congrArg (xor odd) (Bool.xor_false _).symm
  | cons t st =>
   have ht:=hl t (.head _)
   have hst:∀ z∈st,z<B.length:=λ z hz=>hl z (.tail _ hz)
   unfold jdJ at h
   replace h:=h
   dsimp only at h
   by_cases h1:jad B t=.neg\/jad B t=.xr
   ·rw [if_pos h1] at h
    replace h:=h
    refine rwr (ih _ _ _ r hn hf (λ z hz=>(Ja9.mp hz).elim (λ hz=>Jd1 (jaL g.wf (List.mem_reverse.mp hz)) ht) (hst z)) h) ?_
    rw [jjs]
    refine rwr (jgf _ (List.reverse_perm _)) ?_
    exact bx1 (joz g u ht h1)
   rw [if_neg h1] at h
   replace h:=h
   refine Jc8 (Jc9 (t∈f)) (λ h2=>?_) λ h2=>?_
   ·rw [if_pos h2] at h
    replace h:=h
    refine rwr (ih _ _ _ r (hn.filter _) (λ x hx=>hf x (List.mem_filter.mp hx).1) hst h) ?_
    refine rwr (jfD _ f hn h2) ?_
    exact bx2 (decide_eq_false λ e=>e.elim (hf t h2).1 λ e=>h1 (.inl e))
   rw [if_neg h2] at h
   replace h:=h
   refine Jc8 (Jc9 (jad B t=.tru\/jad B t=.fls)) (λ h3=>?_) λ h3=>?_
   ·rw [if_pos h3] at h
    refine rwr (ih _ _ _ r hn hf hst h) ?_
    exact bx3 (joA g u ht h3)
   ·rw [if_neg h3] at h
    rw [ih _ _ _ r (List.nodup_append.mpr ⟨hn,List.pairwise_singleton _ _,λ x hx y hy e=>h2 (by refine rwl (Ja2.mp hy) ?_; refine rwl e ?_; exact hx)⟩) (λ x hx=>(Ja9.mp hx).elim (hf x) λ hx=>by
     refine rwr (Ja2.mp hx) ?_; exact ⟨λ e=>h3 (.inl e),λ e=>h3 (.inr e)⟩) hst h,jjs,xv1]
    exact bx2 (decide_eq_false λ e=>e.elim (λ e=>h3 (.inl e)) λ e=>h1 (.inl e))
end
section
theorem jjq:∀ (l:List Nat) (B:List Tm) (r:Nat),Ext B (jc7 B r l).2:=by
 intro l
 induction l with
 | nil =>
  intro B _
  exact Ext.refl B
 | cons t l ih =>
  intro B r
  exact (ja9 B _).trans (ih _ _)
theorem jkU {Bf:List Tm} (wf:Wf Bf) (u:Nat):∀ (l:List Nat) {B:List Tm} {r:Nat},Ext (jc7 B r l).2 Bf->jae Bf u (jc7 B r l).1=(jae Bf u r ^^ xv (jae Bf u) l):=by
 intro l
 induction l with
 | nil =>
  intro B r _
  simp [jc7,xv]
 | cons t l ih =>
  intro B r x
  show jae Bf u (jc7 _ _ l).1=_
  refine rwr (ih (B:=(mk B ⟨.xr,[r,t],0⟩).2) (r:=(mk B ⟨.xr,[r,t],0⟩).1) x) ?_
  refine rwr (jbS wf (((jjq l _ _).trans x).get (jba B ⟨.xr,[r,t],0⟩)) u) ?_
  simp only [jeK,xv,List.map]
  simp
theorem jg5 {B Bf:List Tm} (wf:Wf Bf) (u:Nat) (l:List Nat) (x:Ext (jbr B l).2 Bf):jae Bf u (jbr B l).1=xv (jae Bf u) l:=by
 cases l with
 | nil=>exact (jkP wf u).2
 | cons a l=>exact jkU wf u l x
theorem jmB {B:List Tm} (w:Wf B):∀ (n:Nat) (f st:List Nat) (odd:Bool) (r:List Nat×Bool),(∀ x∈f,x<B.length)->(∀ t∈st,t<B.length)->jdJ n B f odd st=some r->∀ x∈r.1,x<B.length:=by
 intro n
 induction n with
 | zero =>
  intro _ _ _ _ _ _ h
  simp [jdJ] at h
 | succ n ih =>
  intro f w_1
  cases w_1 with
  | nil =>
   intro odd r hf _ h
   simp only [jdJ,Option.some.injEq] at h
   refine rwl h ?_; exact hf
  | cons t st =>
   intro odd r hf hl h
   unfold jdJ at h
   dsimp only at h
   have ht:=hl t (.head _)
   have hst:∀ z∈st,z<B.length:=λ z hz=>hl z (.tail _ hz)
   split at h
   ·exact ih f _ _ r hf (λ z hz=>by
     refine Jc8 (Ja9.mp hz) (λ hz=>?_) λ hz=>?_
     ·exact Jd1 (jaL w (List.mem_reverse.mp hz)) ht
     ·exact hst z hz) h
   ·refine ith h (λ q_3 h=>?_) λ q_4 h=>?_
    ·exact ih _ st _ r (λ x hx=>hf x (List.mem_filter.mp hx).1) hst h
    ·refine ith h (λ q_5 h=>?_) λ q_6 h=>?_
     ·exact ih f st _ r hf hst h
     ·exact ih _ st _ r (λ x hx=>by
       refine Jc8 (Ja9.mp hx) (λ hx=>?_) λ hx=>?_
       ·exact hf x hx
       ·refine rwr (Ja2.mp hx) ?_; exact ht) hst h
theorem jeO {v v':Nat->Bool}:∀ l:List Nat,(∀ x∈l,v x=v' x)->xv v l=xv v' l
 | [],_=>rfl
 | x::l,h=>by simp only [xv,h x (.head _),jeO l λ z hz=>h z (.tail _ hz)]
theorem jkw {B Bf:List Tm} (g:Gb B) (wf:Wf Bf) (u:Nat) {n:Nat} {l:List Nat} {r:Nat×List Tm} (hl:∀ t∈l,t<B.length) (h:jhL n B l=some r) (x:Ext r.2 Bf):jae Bf u r.1=xv (jae Bf u) l:=by
 dsimp only [jhL] at h
 cases hp:jdJ n B [] false l.reverse with
 | none=>rw [hp] at h; replace h:=h; cases h
 | some q =>
  obtain ⟨f,odd⟩:=q
  rw [hp] at h
  replace h:=h
  dsimp only at h
  replace h:=h
  have hlr:∀ t∈l.reverse,t<B.length:=λ t ht=>hl t (List.mem_reverse.mp ht)
  have hv:=jkt g u n [] l.reverse false _ .nil (λ U h=>nomatch h) hlr hp
  have hlt:=jmB g.wf n [] l.reverse false _ (λ U h=>nomatch h) hlr hp
  rw [jgf _ (List.reverse_perm l)] at hv
  simp only [xv,Bool.false_xor] at hv
  replace hv:=hv
  have fin:Ext B Bf->(odd ^^ xv (jae Bf u) (jaf f))=xv (jae Bf u) l:=λ xb=>by
   refine rwr (jgf _ (jas f)) ?_
   refine rwr (jeO f λ z hz=>jbo xb (hlt z hz) u) ?_
   refine rwr (jeO l λ z hz=>jbo xb (hl z hz) u) ?_
   exact hv
  split at h
  ·exact nomatch h
  ·cases odd with
   | false =>
    have h:=Jb0 h
    rw [<- h] at x ⊢
    replace x:=x
    have:=fin ((jc6 B (jaf f)).trans x)
    rw [Bool.false_xor] at this
    replace this:=this
    refine rwl this ?_
    exact jg5 wf u _ x
   | true =>
    rw [<- (Jb0 h)] at x ⊢
    replace x:=x
    have w1:=jjp g.wf (λ t ht=>hlt t ((jas f).mem_iff.mp ht))
    have x1:=(jag (jbr B (jaf f)).2 (jbr B (jaf f)).1).trans x
    have:=fin ((jc6 B (jaf f)).trans x1)
    refine rwl this ?_
    refine rwr ((jaW w1.1 w1.2 x).val wf u) ?_
    refine rwr (jg5 wf u _ x1) ?_
    simp
end
section
theorem or2 {Bf:List Tm} (wf:Wf Bf) (u:Nat) {n:Nat} {B:List Tm} {x y:Nat} {r:Nat×List Tm} (g:Gb B) (hx:x<B.length/\1<=x) (hy:y<B.length/\1<=y) (h:jaT n B .dis [x,y]=some r) (e:Ext r.2 Bf):jae Bf u r.1=(jae Bf u x || jae Bf u y):=by
 have:=jdq wf u (.inr rfl) g (λ t ht=>by simp only [Ja3,Jb2,or_false] at ht; replace ht:=ht; replace ht:=ht; replace ht:=ht; rcases ht with rfl | rfl; exact hx; exact hy) h e
 dsimp only [Hold,Ja3,Jb2,or_false,forall_eq_or_imp,forall_eq] at this
 cases h1:jae Bf u r.1 <;> cases h2:jae Bf u x <;> cases h3:jae Bf u y <;> simp [h1,h2,h3] at this ⊢
theorem jqb {Bf:List Tm} (wf:Wf Bf) (u:Nat) {n:Nat} {B:List Tm} {x y:Nat} {r:Nat×List Tm} (g:Gb B) (hx:x<B.length/\1<=x) (hy:y<B.length/\1<=y) (h:jaT n B .con [x,y]=some r) (e:Ext r.2 Bf):jae Bf u r.1=(jae Bf u x && jae Bf u y):=by
 have:=jdq wf u (.inl rfl) g (λ t ht=>by simp only [Ja3,Jb2,or_false] at ht; rcases ht with rfl | rfl; exact hx; exact hy) h e
 dsimp only [Hold,Ja3,Jb2,or_false,forall_eq_or_imp,forall_eq] at this
 cases h1:jae Bf u r.1 <;> cases h2:jae Bf u x <;> cases h3:jae Bf u y <;> simp [h1,h2,h3] at this ⊢
theorem jbA {n:Nat} {B:List Tm} {o:Op} {l:List Nat} {r:Nat×List Tm} (h:jaT n B o l=some r):Ext B r.2:=by
 unfold jaT at h
 cases hfl:jat n B o [] l with
 | none=>rw [hfl] at h; replace h:=h; cases h
 | some q =>
  obtain ⟨f2,B2⟩:=q
  rw [hfl] at h
  exact (jaz n hfl).trans (jaO n h)
theorem jhS {Bf:List Tm} (wn:Wn Bf) (u:Nat) {n:Nat} {B:List Tm} {c a b:Nat} {r:Nat×List Tm} (g:Gb B) (hc:c<B.length/\1<=c) (ha:a<B.length/\1<=a) (hb:b<B.length/\1<=b) (h:chB n B c a b=some r) (e:Ext r.2 Bf) :
  jae Bf u r.1=if jae Bf u c then jae Bf u a else jae Bf u b:=by
 have wf:=wn.wf
 obtain ⟨v1,v2⟩:=jkP wf u
 refine jbq (jau g hc.1 hc.2) λ g1 n1 l1=>?_
 have up:∀ {z:Nat},z<B.length/\1<=z->z<(jab B c).2.length/\1<=z:=λ h=>⟨Ja1 h.1 (jag B c).len,h.2⟩
 have nv:Ext (jab B c).2 Bf->jae Bf u (jab B c).1=!jae Bf u c:=λ x=>(jaW g.wf hc.1 x).val wf u
 unfold chB at h
 split at h
 ·rename_i h1
  refine rwr (or2 wf u g hc hb h e) ?_
  rcases h1 with rfl | rfl
  ·refine rwr v1 ?_; cases jae Bf u c <;> rfl
  ·cases jae Bf u a <;> rfl
 ·split at h
  ·rename_i h1
   have hv:=nv ((jbA h).trans e)
   refine rwr (jqb wf u g1 ⟨l1,n1⟩ (up hb) h e) ?_
   refine rwr hv ?_
   rcases h1 with rfl | rfl
   ·refine rwr v2 ?_; cases jae Bf u c <;> rfl
   ·refine rwr hv ?_; cases jae Bf u c <;> rfl
  ·split at h
   ·rename_i h1
    have hv:=nv ((jbA h).trans e)
    refine rwr (or2 wf u g1 ⟨l1,n1⟩ (up ha) h e) ?_
    refine rwr hv ?_
    rcases h1 with rfl | rfl
    ·refine rwr v1 ?_; cases jae Bf u c <;> rfl
    ·refine rwr hv ?_; cases jae Bf u c <;> rfl
   ·split at h
    ·rename_i h1
     refine rwr (jqb wf u g1 (up hc) (up ha) h e) ?_
     rcases h1 with rfl | rfl
     ·refine rwr v2 ?_; cases jae Bf u c <;> rfl
     ·cases jae Bf u b <;> rfl
    ·refine jbq (jau g1 (up hb).1 hb.2) λ g2 n2 l2=>?_
     have x2:=jag (jab B c).2 b
     split at h
     ·rename_i h1
      have h:=Jb0 h
      rw [<- h] at e ⊢
      have hb':=(jaW g1.wf (up hb).1 ((jaX _ _ _).trans e)).val wf u
      rw [<- h1] at hb'
      refine rwr ((jbn g2.wf wn (Ja1 (up hc).1 x2.len) (Ja1 (up ha).1 x2.len) e).val wf u) ?_
      refine rwr hb' ?_
      cases jae Bf u c <;> cases jae Bf u b <;> rfl
     ·have h:=Jb0 h
      rw [<- h] at e ⊢
      refine rwr (jbS wf (e.get (jba _ _)) u) ?_
      rfl
end
section
noncomputable def B3:List Tm:=[⟨.nil,[],0⟩,⟨.tru,[],0⟩,⟨.fls,[],0⟩]
noncomputable def jcO (i:Nat):List Tm:=B3++(List.range i).map λ d=>⟨.app,[],d⟩
end
section
set_option genSizeOf false
set_option genInjectivity false
inductive AV where
 | v (x:Value) | nat (n:Nat) | int (i:Int) | str (s:Str) | bool (b:Bool) | none | bank | rw
 | tup (l:List AV) | lst (l:List AV) | tns (l:List Nat) | lns (l:List Nat) | fd (f:List Nat) | bl (n:Nat) | rng (n:Nat)
inductive AO where
 | obj (o:Obj) | lst (l:List AV) | lns (l:List Nat) | fd (f:List Nat) | dn (l:List (Nat×Nat)) | tub (x:Addr) (n:Nat) | rvl (l:List Nat) | rvt (l:List Nat)
noncomputable abbrev Ls:=List (Str×AV)
noncomputable abbrev Led:=List (Addr×AO)
inductive Fl where
 | next | ret (a:AV) | brk | cont
structure WG where
 w:World
 b₀:Heap
 α:BA
 gs:Array GenState
 dr:Drawn
 os:OsState
structure WC where
 g:WG
 A:Around
 L:Addr
 env:Env
 fz:Option (List (Addr×Obj))
noncomputable abbrev WC.w (c:WC):World:=c.g.w
noncomputable abbrev WC.b₀ (c:WC):Heap:=c.g.b₀
noncomputable abbrev WC.α (c:WC):BA:=c.g.α
noncomputable abbrev WC.gs (c:WC):Array GenState:=c.g.gs
noncomputable abbrev WC.dr (c:WC):Drawn:=c.g.dr
noncomputable abbrev WC.os (c:WC):OsState:=c.g.os
inductive DnR:List (Int×Value)->List (Nat×Nat)->Prop
 | nil:DnR [] []
 | cons {kvs:List (Int×Value)} {l:List (Nat×Nat)} (n m:Nat) (t:Tok):DnR kvs l->DnR (((n:Int),.int m t)::kvs) ((n,m)::l)
section
variable (g:WG) (T:List (Addr×Obj))
mutual
inductive Has:AV->Value->Prop
 | v (x:Value):Has (.v x) x
 | nat (n:Nat) (t:Tok):Has (.nat n) (.int n t)
 | int (i:Int) (t:Tok):Has (.int i) (.int i t)
 | str (s:Str) (t:Tok):Has (.str s) (.str s t)
 | bool (b:Bool):Has (.bool b) (.bool b)
 | none:Has .none .none
 | bank:Has .bank (.ref g.α.self)
 | rw (ρ:RA):HR g.w.params 513 g.α ρ T->Has .rw (.ref ρ.self)
 | tup (l:List AV) (a:Addr) (vs:List Value):(a,ja1 vs)∈T->Hass l vs->Has (.tup l) (.ref a)
 | lst (l:List AV) (a:Addr) (vs:List Value) (n:Nat):(a,listOf vs.toArray n)∈T->Hass l vs->Has (.lst l) (.ref a)
 | tns (l:List Nat) (a:Addr) (vs:List Value):(a,ja1 vs)∈T->IntsAre vs (l.map λ n:Nat=>(n:Int))->Has (.tns l) (.ref a)
 | lns (l:List Nat) (a:Addr) (vs:List Value) (n:Nat):(a,listOf vs.toArray n)∈T->IntsAre vs (l.map λ n:Nat=>(n:Int))->Has (.lns l) (.ref a)
 | fd (f:List Nat) (a:Addr) (o:Obj):(a,o)∈T->o.IsDictOf (PySem.intKind prg g.w) (jbz f)->Has (.fd f) (.ref a)
 | bl0:Has (.bl 0) (.ref g.α.op)
 | bl1:Has (.bl 1) (.ref g.α.ar)
 | bl2:Has (.bl 2) (.ref g.α.so)
 | rng (n:Nat) (r:Addr) (t u v:Tok):(r,jgU n t u v)∈T->Has (.rng n) (.ref r)
inductive Hass:List AV->List Value->Prop
 | nil:Hass [] []
 | cons {a:AV} {v:Value} {l:List AV} {vs:List Value}:Has a v->Hass l vs->Hass (a::l) (v::vs)
end
inductive HasO:AO->Obj->Prop
 | obj (o:Obj):HasO (.obj o) o
 | lst (l:List AV) (vs:List Value) (n:Nat):Hass g T l vs->HasO (.lst l) (listOf vs.toArray n)
 | lns (l:List Nat) (vs:List Value) (n:Nat):IntsAre vs (l.map λ n:Nat=>(n:Int))->HasO (.lns l) (listOf vs.toArray n)
 | fd (f:List Nat) (o:Obj):o.IsDictOf (PySem.intKind prg g.w) (jbz f)->HasO (.fd f) o
 | dn (l:List (Nat×Nat)) (o:Obj) (kvs:List (Int×Value)):o.IsDictOf (PySem.intKind prg g.w) kvs->DnR kvs l->HasO (.dn l) o
 | tub (x:Addr) (n:Nat) (t:Tok) (o:Obj):o.IsDictOf (PySem.strKind prg g.w) [(Str.ofString "cells",.ref x),(Str.ofString "at",.int n t)]->HasO (.tub x n) o
 | rvl (l:List Nat) (t:Addr) (vs:List Value) (e:Nat):(t,listOf vs.toArray e)∈T->IntsAre vs (l.map λ n:Nat=>(n:Int))->HasO (.rvl l) (revObj t ((vs.length:Int) - 1))
 | rvt (l:List Nat) (t:Addr) (vs:List Value):(t,ja1 vs)∈T->IntsAre vs (l.map λ n:Nat=>(n:Int))->HasO (.rvt l) (jkE t ((vs.length:Int) - 1))
inductive LedOk:Led->List (Addr×Obj)->Prop
 | nil:LedOk [] []
 | cons {a:Addr} {x:AO} {o:Obj} {led:Led} {lr:List (Addr×Obj)}:HasO g T x o->LedOk led lr->LedOk ((a,x)::led) ((a,o)::lr)
inductive jnc:Fl->Flow->Prop
 | next:jnc .next .next
 | brk:jnc .brk .brk
 | cont:jnc .cont .cont
 | ret {a:AV} {v:Value}:Has g T a v->jnc (.ret a) (.ret v)
end
theorem Has.mono {g:WG} {T T':List (Addr×Obj)} (s:∀ p∈T,p∈T') {a:AV} {v:Value} (h:Has g T a v):Has g T' a v:=by
 refine Has.rec (motive_1:=λ a v U=>Has g T' a v) (motive_2:=λ l vs U=>Hass g T' l vs) .v .nat .int .str .bool .none .bank (λ ρ h=>.rw ρ ⟨s _ h.i,s _ h.d⟩) (λ l a vs hm U ih=>.tup l a vs (s _ hm) ih) (λ l a vs n hm U ih=>.lst l a vs n (s _ hm) ih)
  (λ l a vs hm hi=>.tns l a vs (s _ hm) hi) (λ l a vs n hm hi=>.lns l a vs n (s _ hm) hi) (λ f a o hm hd=>.fd f a o (s _ hm) hd) .bl0 .bl1 .bl2 (λ n r t u v hm=>.rng n r t u v (s _ hm)) .nil (λ U U ih1 ih2=>.cons ih1 ih2) h
theorem jcp {g:WG} {T:List (Addr×Obj)} {P:List AV->List Value->Prop} (h0:P [] []) (h1:∀ {a:AV} {v:Value} {l:List AV} {vs:List Value},Has g T a v->Hass g T l vs->P l vs->P (a::l) (v::vs)) {l:List AV} {vs:List Value} (h:Hass g T l vs):P l vs :=
 Hass.rec (motive_1:=λ U U U=>True) (motive_2:=λ l vs U=>P l vs) (λ U=>trivial) (λ U U=>trivial) (λ U U=>trivial) (λ U U=>trivial) (λ U=>trivial) trivial trivial (λ U U=>trivial) (λ U U U U U U=>trivial) (λ U U U U U U U=>trivial) (λ U U U U U=>trivial) (λ U U U U U U=>trivial) (λ U U U U U=>trivial) trivial trivial trivial (λ U U U U U U=>trivial) h0 (λ h r U ih=>h1 h r ih) h
theorem Hass.mono {g:WG} {T T':List (Addr×Obj)} (s:∀ p∈T,p∈T') {l:List AV} {vs:List Value} (h:Hass g T l vs):Hass g T' l vs :=
 jcp (P:=λ l vs=>Hass g T' l vs) .nil (λ h U ih=>.cons (h.mono s) ih) h
theorem HasO.mono {g:WG} {T T':List (Addr×Obj)} (s:∀ p∈T,p∈T') {x:AO} {o:Obj} (h:HasO g T x o):HasO g T' x o:=by
 cases h with
 | obj=>exact .obj _
 | lst l vs n h=>exact .lst l vs n (h.mono s)
 | lns l vs n h=>exact .lns l vs n h
 | fd f _ h=>exact .fd f _ h
 | dn l _ kvs h1 h2=>exact .dn l _ kvs h1 h2
 | tub x n t _ h=>exact .tub x n t _ h
 | rvl l t vs e h1 h2=>exact .rvl l t vs e (s _ h1) h2
 | rvt l t vs h1 h2=>exact .rvt l t vs (s _ h1) h2
theorem LedOk.mono {g:WG} {T T':List (Addr×Obj)} (s:∀ p∈T,p∈T') {led:Led} {lr:List (Addr×Obj)} (h:LedOk g T led lr):LedOk g T' led lr:=by
 induction h with
 | nil=>exact .nil
 | cons h _ ih=>exact .cons (h.mono s) ih
noncomputable def jfG (B:List Tm):Nat:=B.countP λ t=>decide (t.op=.app)
noncomputable def BOk (σ:BC) (B:List Tm):Prop:=B.length<=16000000/\σ.fnV.size=jfG B/\σ.faV.size=jfG B/\σ.frV.size=jfG B
noncomputable def Rd (c:WC) (m:Str->Option Value) (cl:List (Addr×Obj)) (x:Str) (v:Value):Prop :=
 (c.env.kindOf x=some .local/\m x=some v)\/(c.env.kindOf x=some .cell/\∃ a o,c.env.cells.lookup x=some a/\(a,o)∈cl/\o.data=.cell (some v))
noncomputable def Kn (c:WC) (T:List (Addr×Obj)) (m:Str->Option Value) (cl:List (Addr×Obj)) (ls:Ls):Prop:=∀ x a,ls.lookup x=some a->∃ v,Has c.g T a v/\Rd c m cl x v
noncomputable def jcN (c:WC) (cl:List (Addr×Obj)):Prop:=(c.fz=Option.none\/c.fz=some cl)/\∀ x a,c.env.cells.lookup x=some a->∃ o v,(a,o)∈cl/\o.data=.cell v
theorem Kn.mono {c:WC} {T T':List (Addr×Obj)} {m:Str->Option Value} {cl:List (Addr×Obj)} {ls:Ls} (s:∀ p∈T,p∈T') (h:Kn c T m cl ls):Kn c T' m cl ls:=λ x a e=>let ⟨v,h1,h2⟩:=h x a e; ⟨v,h1.mono s,h2⟩
inductive St (c:WC) (ls:Ls) (B:List Tm) (led:Led) (T:List (Addr×Obj)):Shared->Prop
 | mk (h:Heap) (tk:Tok) (m:Str->Option Value) (σ:BC) (cl lr:List (Addr×Obj)):Fx c.b₀ h c.L m ((lr++cl)++jak c.w.params 388 c.α σ)->Ok prg c.w σ B->σ.tups=T->BOk σ B->LedOk c.g T led lr->jcN c cl->Kn c T m cl ls->St c ls B led T ⟨h,c.gs,c.dr,tk,c.os⟩
structure CO (c:WC) (sc:Scope):Prop where
 G:∃ mean mg mb,Bs c.w c.b₀ mean mg mb
 hs:c.env.scope.names=sc.names
 fk:c.env.scope.kind=.function
 wr:sc.isCoroutine=false->c.fz=Option.none
 hl:c.env.locals=c.L
 hg:c.env.globals=mainGlobals
 hb:c.env.builtins=builtinsNs
 hh:c.A.handled=Option.none
 db:∀ x k,sc.names.lookup x=some k->(x == ("__debug__" : Str))=false
 ci:∀ x y a,c.env.cells.lookup x=some a->c.env.cells.lookup y=some a->x=y
 ce:∀ x,sc.names.lookup x=some .cell->∃ a,c.env.cells.lookup x=some a
noncomputable abbrev KE (c:WC) (ls:Ls) (T:List (Addr×Obj)) (K:AV->List Tm->Led->Prop) (Q:Value->Shared->Prop):Prop :=
 ∀ a v B' led' T' s',(∀ p∈T,p∈T')->St c ls B' led' T' s'->Has c.g T' a v->K a B' led'->Q v s'
structure VE (c:WC) (e:Expr) (ls:Ls) (B:List Tm) (led:Led) (K:AV->List Tm->Led->Prop):Prop where
 run:∀ T s (E:Value->Shared->Prop) (Q:Value->Shared->Prop),St c ls B led T s->KE c ls T K Q->wpAny (model prg c.w) c.A (eval e c.env) Q E s
structure VT (c:WC) (e:Expr) (ls:Ls) (B:List Tm) (led:Led) (K:Bool->List Tm->Led->Prop):Prop where
 run:∀ T s (E:Value->Shared->Prop) (Q:Bool->Shared->Prop),St c ls B led T s->(∀ b B' led' T' s',(∀ p∈T,p∈T')->St c ls B' led' T' s'->K b B' led'->Q b s')->wpAny (model prg c.w) c.A (isTrue e c.env (eval e c.env)) Q E s
structure CF (c:WC) (fn:Addr) (as:List AV) (ls:Ls) (B:List Tm) (led:Led) (K:AV->List Tm->Led->Prop):Prop where
 run:∀ T s (E:Value->Shared->Prop) vs (Q:Value->Shared->Prop),St c ls B led T s->Hass c.g T as vs->KE c ls T K Q->wpAny (model prg c.w) c.A (call (.ref fn) vs) Q E s
structure BI (c:WC) (id:String) (as:List AV) (ls:Ls) (B:List Tm) (led:Led) (K:AV->List Tm->Led->Prop):Prop where
 run:∀ T s (E:Value->Shared->Prop) vs (Q:Value->Shared->Prop),St c ls B led T s->Hass c.g T as vs->KE c ls T K Q->wpAny (model prg c.w) c.A (call (.builtin id) vs) Q E s
structure TY (c:WC) (id:String) (as:List AV) (ls:Ls) (B:List Tm) (led:Led) (K:AV->List Tm->Led->Prop):Prop where
 run:∀ T s (E:Value->Shared->Prop) vs (Q:Value->Shared->Prop),St c ls B led T s->Hass c.g T as vs->KE c ls T K Q->wpAny (model prg c.w) c.A (call (.type id) vs) Q E s
structure GM (c:WC) (r:AV) (f:Str) (ls:Ls) (B:List Tm) (led:Led) (P:String->Prop):Prop where
 run:∀ T s (E:Value->Shared->Prop) v pl (Q:Value×List Value->Shared->Prop),St c ls B led T s->Has c.g T r v->(∀ id,P id->Q (.builtin id,[v]) s)->wpAny (model prg c.w) c.A (getMethod v f pl) Q E s
structure CM (c:WC) (a:AV) (op:CmpOp) (b:AV) (ls:Ls) (B:List Tm) (led:Led) (K:Bool->List Tm->Led->Prop):Prop where
 run:∀ T s (E:Value->Shared->Prop) x y (Q:Value->Shared->Prop),St c ls B led T s->Has c.g T a x->Has c.g T b y->(∀ r B' led' T' s',(∀ p∈T,p∈T')->St c ls B' led' T' s'->K r B' led'->Q (.bool r) s')->wpAny (model prg c.w) c.A (compareOp op x y) Q E s
structure BN (c:WC) (op:Operator) (a b:AV) (ls:Ls) (B:List Tm) (led:Led) (K:AV->List Tm->Led->Prop):Prop where
 run:∀ T s (E:Value->Shared->Prop) x y (Q:Value->Shared->Prop),St c ls B led T s->Has c.g T a x->Has c.g T b y->KE c ls T K Q->wpAny (model prg c.w) c.A (binaryOp op x y) Q E s
structure SU (c:WC) (val sl:Expr) (a i:AV) (ls:Ls) (B:List Tm) (led:Led) (K:AV->List Tm->Led->Prop):Prop where
 run:∀ T s (E:Value->Shared->Prop) x y (Q:Value->Shared->Prop),St c ls B led T s->Has c.g T a x->Has c.g T i y->KE c ls T K Q->wpAny (model prg c.w) c.A (subscriptTail val sl x y) Q E s
noncomputable abbrev KF:=Fl->Ls->List Tm->Led->Prop
noncomputable abbrev KQ (c:WC) (T:List (Addr×Obj)) (K:KF) (Q:Flow->Shared->Prop):Prop:=∀ fl f ls' B' led' T' s',(∀ p∈T,p∈T')->St c ls' B' led' T' s'->jnc c.g T' fl f->K fl ls' B' led'->Q f s'
structure VS (c:WC) (b:List Stmt) (ls:Ls) (B:List Tm) (led:Led) (K:KF):Prop where
 run:∀ T s (E:Value->Shared->Prop) (Q:Flow->Shared->Prop),St c ls B led T s->KQ c T K Q->wpAny (model prg c.w) c.A (execs b c.env) Q E s
structure FO (c:WC) (x:Str) (body:List Stmt) (a:AV) (ls:Ls) (B:List Tm) (led:Led) (K:KF):Prop where
 run:∀ T s (E:Value->Shared->Prop) y xp (R:Result->Shared->Prop),St c ls B led T s->Has c.g T a y->KQ c T K (λ f s=>R (.ok f) s)->wpAny (model prg c.w) c.A (pyIter y) (λ it s₂=>codeAny (model prg c.w) c.A (.forLoop (.Name x xp) it body [] c.env) R s₂) E s
structure WH (c:WC) (t:Expr) (body:List Stmt) (ls:Ls) (B:List Tm) (led:Led) (K:KF):Prop where
 run:∀ T s (E:Value->Shared->Prop) pos (Q:Flow->Shared->Prop),St c ls B led T s->KQ c T K Q->wpAny (model prg c.w) c.A (exec (.While t body [] pos) c.env) Q E s
structure SI (c:WC) (a i v:AV) (ls:Ls) (B:List Tm) (led:Led) (K:List Tm->Led->Prop):Prop where
 run:∀ T s (E:Value->Shared->Prop) x y z (Q:Unit->Shared->Prop),St c ls B led T s->Has c.g T a x->Has c.g T i y->Has c.g T v z->(∀ B' led' T' s',(∀ p∈T,p∈T')->St c ls B' led' T' s'->K B' led'->Q () s')->wpAny (model prg c.w) c.A (setItem x y z) Q E s
structure DL (c:WC) (a i:AV) (ls:Ls) (B:List Tm) (led:Led) (K:List Tm->Led->Prop):Prop where
 run:∀ T s (E:Value->Shared->Prop) x y (Q:Unit->Shared->Prop),St c ls B led T s->Has c.g T a x->Has c.g T i y->(∀ B' led' T' s',(∀ p∈T,p∈T')->St c ls B' led' T' s'->K B' led'->Q () s')->wpAny (model prg c.w) c.A (delItem x y) Q E s
structure LI (c:WC) (as:List AV) (ls:Ls) (B:List Tm) (led:Led) (K:AV->List Tm->Led->Prop):Prop where
 run:∀ T s (E:Value->Shared->Prop) vs (Q:Value->Shared->Prop),St c ls B led T s->Hass c.g T as vs->vs.length<=1000->KE c ls T K Q->wpAny (model prg c.w) c.A (newList vs) Q E s
structure ClOk (c:WC) (scope:Scope) (cl:List (Str×Addr)):Prop where
 e:closureFor scope c.env=pure cl
 s:∀ x a,cl.lookup x=some a->c.env.cells.lookup x=some a
 h:∀ x,(x,NameKind.free)∈scope.names->∃ a,cl.lookup x=some a
structure CP (c:WC) (elt t iter:Expr) (ifs:List Expr) (scope:Scope) (pos:Pos) (a:AV) (ls:Ls) (B:List Tm) (led:Led) (K:AV->List Tm->Led->Prop):Prop where
 run:∀ T s (E:Value->Shared->Prop) y (Q:Value->Shared->Prop) cl,ClOk c scope cl->St c ls B led T s->Has c.g T a y->KE c ls T K Q->wpAny (model prg c.w) c.A (pyIter y) (CAt prg c.w c.A E c.env scope cl elt t iter ifs pos Option.none Q) E s
structure CU (c:WC) (yv:Str) (elt t iter:Expr) (ifs:List Expr) (scope:Scope) (pos:Pos) (a:AV) (ls:Ls) (B:List Tm) (led:Led) (K:AV->List Tm->Led->Prop):Prop where
 run:∀ T s (E:Value->Shared->Prop) y py (Q:Shared->Prop) cl,ClOk c scope cl->St c ls B led T s->Has c.g T a y->(∀ a B' led' T' s',(∀ p∈T,p∈T')->St c ((yv,a)::ls) B' led' T' s'->K a B' led'->Q s') ->
  wpAny (model prg c.w) c.A (pyIter y) (CAt prg c.w c.A E c.env scope cl elt t iter ifs pos (some (assign (.Name yv py) c.env)) (λ U s'=>Q s')) E s
section
variable {g:WG} {c:WC} {ls:Ls} {B:List Tm} {led:Led} {T:List (Addr×Obj)}
@[elab_as_elim] theorem St.elim0 {P:Shared->Prop} {s:Shared} (hs:St c ls B led T s) (k:∀ h tk m σ cl lr,St c ls B led T ⟨h,c.gs,c.dr,tk,c.os⟩->Fx c.b₀ h c.L m ((lr++cl)++jak c.w.params 388 c.α σ)->Ok prg c.w σ B->σ.tups=T->BOk σ B->LedOk c.g T led lr->jcN c cl->Kn c T m cl ls->P ⟨h,c.gs,c.dr,tk,c.os⟩):P s:=by
 cases hs with | mk h tk m σ cl lr W O hT hB hL hC hK=>exact k h tk m σ cl lr (.mk h tk m σ cl lr W O hT hB hL hC hK) W O hT hB hL hC hK
@[elab_as_elim] theorem St.elim {P:Shared->Prop} {s:Shared} (hs:St c ls B led T s) (k:∀ h tk m σ cl lr,Fx c.b₀ h c.L m ((lr++cl)++jak c.w.params 388 c.α σ)->Ok prg c.w σ B->σ.tups=T->BOk σ B->LedOk c.g T led lr->jcN c cl->Kn c T m cl ls->P ⟨h,c.gs,c.dr,tk,c.os⟩):P s :=
 hs.elim0 λ h tk m σ cl lr U=>k h tk m σ cl lr
@[elab_as_elim] theorem Hass.consE {P:List Value->Prop} {a:AV} {l:List AV} {vs:List Value} (h:Hass g T (a::l) vs) (k:∀ v r,Has g T a v->Hass g T l r->P (v::r)):P vs:=by
 cases h with | cons h r=>exact k _ _ h r
@[elab_as_elim] theorem Hass.nilE {P:List Value->Prop} {vs:List Value} (h:Hass g T [] vs) (k:P []):P vs:=by
 cases h; exact k
section
variable {P:Value->Prop} {v:Value}
@[elab_as_elim] theorem Has.vE {x:Value} (h:Has g T (.v x) v) (k:P x):P v:=by cases h; exact k
@[elab_as_elim] theorem Has.natE {n:Nat} (h:Has g T (.nat n) v) (k:∀ t,P (.int n t)):P v:=by cases h; exact k _
@[elab_as_elim] theorem Has.strE {x:Str} (h:Has g T (.str x) v) (k:∀ t,P (.str x t)):P v:=by cases h; exact k _
@[elab_as_elim] theorem Has.boolE {b:Bool} (h:Has g T (.bool b) v) (k:P (.bool b)):P v:=by cases h; exact k
@[elab_as_elim] theorem Has.noneE (h:Has g T .none v) (k:P .none):P v:=by cases h; exact k
@[elab_as_elim] theorem Has.bankE (h:Has g T .bank v) (k:P (.ref g.α.self)):P v:=by cases h; exact k
@[elab_as_elim] theorem Has.tupE {l:List AV} (h:Has g T (.tup l) v) (k:∀ a vs,(a,ja1 vs)∈T->Hass g T l vs->P (.ref a)):P v:=by cases h with | tup _ a vs h1 h2=>exact k a vs h1 h2
@[elab_as_elim] theorem Has.lstE {l:List AV} (h:Has g T (.lst l) v) (k:∀ a vs n,(a,listOf vs.toArray n)∈T->Hass g T l vs->P (.ref a)):P v:=by cases h with | lst _ a vs n h1 h2=>exact k a vs n h1 h2
@[elab_as_elim] theorem Has.tnsE {l:List Nat} (h:Has g T (.tns l) v) (k:∀ a vs,(a,ja1 vs)∈T->IntsAre vs (l.map λ n:Nat=>(n:Int))->P (.ref a)):P v:=by cases h with | tns _ a vs h1 h2=>exact k a vs h1 h2
@[elab_as_elim] theorem Has.lnsE {l:List Nat} (h:Has g T (.lns l) v) (k:∀ a vs n,(a,listOf vs.toArray n)∈T->IntsAre vs (l.map λ n:Nat=>(n:Int))->P (.ref a)):P v:=by cases h with | lns _ a vs n h1 h2=>exact k a vs n h1 h2
@[elab_as_elim] theorem Has.fdE {f:List Nat} (h:Has g T (.fd f) v) (k:∀ a o,(a,o)∈T->o.IsDictOf (PySem.intKind prg g.w) (jbz f)->P (.ref a)):P v:=by cases h with | fd _ a o h1 h2=>exact k a o h1 h2
@[elab_as_elim] theorem Has.rngE {n:Nat} (h:Has g T (.rng n) v) (k:∀ r t u v,(r,jgU n t u v)∈T->P (.ref r)):P v:=by cases h with | rng _ r t u v h1=>exact k r t u v h1
@[elab_as_elim] theorem Has.rwE {P:Value->Prop} {v:Value} (h:Has g T .rw v) (k:∀ ρ:RA,HR g.w.params 513 g.α ρ T->P (.ref ρ.self)):P v:=by cases h with | rw ρ H=>exact k ρ H
end
@[elab_as_elim] theorem HasO.lnsE {P:Obj->Prop} {o:Obj} {l:List Nat} (h:HasO g T (.lns l) o) (k:∀ vs n,IntsAre vs (l.map λ n:Nat=>(n:Int))->P (listOf vs.toArray n)):P o:=by cases h with | lns _ vs n hi=>exact k vs n hi
@[elab_as_elim] theorem HasO.lstE {P:Obj->Prop} {o:Obj} {l:List AV} (h:HasO g T (.lst l) o) (k:∀ vs n,Hass g T l vs->P (listOf vs.toArray n)):P o:=by cases h with | lst _ vs n hi=>exact k vs n hi
theorem HasO.fdO {o:Obj} {f:List Nat} (h:HasO g T (.fd f) o):o.IsDictOf (PySem.intKind prg g.w) (jbz f):=by cases h with | fd _ _ hd=>exact hd
theorem HasO.dnO {o:Obj} {l:List (Nat×Nat)} (h:HasO g T (.dn l) o):∃ kvs,o.IsDictOf (PySem.intKind prg g.w) kvs/\DnR kvs l:=by cases h with | dn _ _ kvs hd hr=>exact ⟨kvs,hd,hr⟩
theorem HasO.tubO {o:Obj} {x:Addr} {n:Nat} (h:HasO g T (.tub x n) o):∃ t,o.IsDictOf (PySem.strKind prg g.w) [(Str.ofString "cells",.ref x),(Str.ofString "at",.int n t)]:=by cases h with | tub _ _ t _ hT=>exact ⟨t,hT⟩
end
end
section
noncomputable def jlI:List (Str×AV):=[("true_number",.nat 1),("false_number",.nat 2),("term_ops",.bl 0),("term_args",.bl 1),("term_sorts",.bl 2)]
noncomputable def rwA:List (Str×AV):=[("bank",.bank),("yes",.nat 1),("no",.nat 2)]
noncomputable def jeR:AV->Str->Option AV
 | .bank,a=>jlI.lookup a
 | .rw,a=>rwA.lookup a
 | _,_=>Option.none
noncomputable def jiz:List (Str×Addr):=[("op",175),("args",182),("sort",189),("size",210),("make",217),("find_made",224),("is_value",231),("want",238),("want_all",245),("true_term",252),("false_term",259),("bool_term",266),("parts",273),("parts_of_all",280),
 ("not_of",301),("and_of",308),("or_of",315),("xor_of",322),("iff",336),("eq",343),("ite",357),("fresh_const",140)]
noncomputable def jmV:List (Str×Addr):=[("flat",425),("thinned",430),("joined",437),("negated",444),("parity",451),("same",458),("chosen_bool",465),("chosen",472)]
noncomputable def jkh:AV->Str->Option Addr
 | .bank,f=>jiz.lookup f
 | .rw,f=>jmV.lookup f
 | _,_=>Option.none
noncomputable def jjW:List (Str×AV):=[("BOOL",.nat 0),("_law_entire",.nat 65535)]
noncomputable def jjT:List (Str×Addr):=[("_law_take",524),("_law_read",529),("_law_more",534),("_law_branch",541),("_law_is_right",546)]
noncomputable def jjI:List (Str×String):=[("len", "len"),("sorted", "sorted"),("any", "any"),("sum", "sum"),("min", "min"),("max", "max")]
noncomputable def jkO:List (Str×String):=[("list", "list"),("tuple", "tuple"),("dict", "dict"),("int", "int"),("reversed", "reversed"),("range", "range")]
noncomputable def isB (e:Expr):Bool:=e.ctorIdx == 23 || e.ctorIdx == 20
noncomputable def nst (e:Expr):Bool:=e.ctorIdx != 22
noncomputable def jcU (e:Expr):Bool:=e.ctorIdx != 7
noncomputable def jaY (e:Expr):Bool:=e.ctorIdx != 26
noncomputable def jgP (e:Expr):Bool:=e.ctorIdx != 0 && (e.ctorIdx != 3 && (e.ctorIdx != 5 && e.ctorIdx != 15))
noncomputable def jb8 (e:Expr):Bool:=e.ctorIdx != 8 && (e.ctorIdx != 9 && e.ctorIdx != 10)
noncomputable def jcS:AV->Option Nat
 | .nat n=>some n
 | _=>Option.none
noncomputable def nats:List AV->Option (List Nat)
 | []=>some []
 | a::r=>match jcS a with
  | some n=>(nats r).map (n::·)
  | Option.none=>Option.none
noncomputable def mkL (as:List AV):AV:=match nats as with | some l=>.lns l | Option.none=>.lst as
inductive XV where
 | nm (x:Str) (p:Pos) | tp (es:List Expr) | sb (o i:Expr) | lc (elt:Expr) (gens:List Comprehension) (scope:Scope) (pos:Pos) | oth
noncomputable def exV (e:Expr):XV:=match e with
 | .Name x p=>.nm x p
 | .Tuple es _ _=>.tp es
 | .Subscript o i _=>.sb o i
 | .ListComp elt gens scope pos=>.lc elt gens scope pos
 | _=>.oth
noncomputable def jny (v:XV) (o:Option (List Str)):Option (List Str):=match v with
 | .nm x _=>o.map (x::·)
 | .tp _=>Option.none
 | .sb _ _=>Option.none
 | .lc _ _ _ _=>Option.none
 | .oth=>Option.none
noncomputable def jbm:List Expr->Option (List Str)
 | []=>some []
 | e::r=>jny (exV e) (jbm r)
noncomputable def rel (scope sc:Scope):Scope:={ scope with names:=scope.names.map λ (n,k)=>if (k == .free && sc.names.lookup n == some .cell) then (n,.cell) else (n,k),isCoroutine:=true }
inductive Tg where
 | one (x:Str) | many (xs:List Str)
noncomputable def jqx (v:XV):Option Tg:=match v with
 | .nm x _=>some (.one x)
 | .tp es=>(jbm es).map .many
 | .sb _ _=>Option.none
 | .lc _ _ _ _=>Option.none
 | .oth=>Option.none
noncomputable abbrev jcJ (t:Expr):Option Tg:=jqx (exV t)
noncomputable def Tg.names:Tg->List Str
 | .one x=>[x]
 | .many xs=>xs
noncomputable def jhG:Tg->AV->Option Ls
 | .one x,a=>some [(x,a)]
 | .many xs,.tup as=>if as.length=xs.length then some (xs.zip as).reverse else Option.none
 | .many _,_=>Option.none
noncomputable def cap (scope:Scope) (ls:Ls):Ls:=scope.names.filterMap λ (n,k)=>if k == .free then (ls.lookup n).map λ a=>(n,a) else Option.none
noncomputable def jhJ (scope sc:Scope) (tg:Tg):Bool :=
 decide (scope.kind=.function) && scope.names.all (λ p=>p.2 != .cell && (p.2 != .free || sc.names.lookup p.1 == some .cell) && !(p.1 == ("__debug__" : Str))) && decide ((scope.names.map (·.1)).Nodup) && tg.names.all (λ x=>scope.names.lookup x == some .local)
noncomputable def jlE:AV->Option Str
 | .str x=>some x
 | _=>Option.none
noncomputable def jlF:AV->Option (List AV)
 | .tup l=>some l
 | _=>Option.none
noncomputable def jo5:AV->Option Nat
 | .bl n=>some n
 | _=>Option.none
noncomputable def onB (K:Bool->Prop):AV->Prop
 | .bool b=>K b
 | _=>False
noncomputable def onT (K:List AV->Prop):AV->Prop
 | .tup l=>K l
 | _=>False
noncomputable def jo9 (op:CmpOp) (x y:Nat):Option Bool:=match op with
 | .Eq=>some (decide (x=y))
 | .NotEq=>some (!decide (x=y))
 | .Lt=>some (decide (x<y))
 | .Gt=>some (decide (y<x))
 | .GtE=>some (decide (y<=x))
 | _=>Option.none
noncomputable def jpa (op:CmpOp) (x y:Str):Option Bool:=match op with
 | .Eq=>some (x == y)
 | .NotEq=>some (!(x == y))
 | _=>Option.none
noncomputable def jj2:AV->Bool
 | .none=>true
 | _=>false
noncomputable def jlD:AV->Option Bool
 | .fd _=>some true
 | .none=>some false
 | _=>Option.none
noncomputable def jqd (op:CmpOp) (a b:AV):Option Bool:=match op with
 | .IsNot=>if jj2 b then jlD a else Option.none
 | _=>Option.none
noncomputable def jnw (op:CmpOp) (xa xb:Option Nat) (sa sb:Option Str) (ci:Option Bool):Option Bool:=match xa with
 | some x=>match xb with
  | some y=>jo9 op x y
  | Option.none=>Option.none
 | Option.none=>match sa with
  | some x=>match sb with
   | some y=>jpa op x y
   | Option.none=>Option.none
  | Option.none=>ci
noncomputable def jo8 (a:AV) (op:CmpOp) (b:AV):Option Bool:=jnw op (jcS a) (jcS b) (jlE a) (jlE b) (jqd op a b)
noncomputable abbrev KA:=AV->List Tm->Led->Prop
noncomputable abbrev KL:=List AV->List Tm->Led->Prop
noncomputable abbrev KB:=Bool->List Tm->Led->Prop
noncomputable abbrev FE:=Expr->List Tm->Led->KA->Prop
noncomputable abbrev FS:=List Stmt->Ls->List Tm->Led->KF->Prop
noncomputable def jmi (a:AV) (K:KL):KL:=λ as B led=>K (a::as) B led
noncomputable def kL (g:List Tm->Led->KL->Prop) (K:KL):KA:=λ a B led=>g B led (jmi a K)
noncomputable def kCF (c:WC) (fn:Addr) (ls:Ls) (K:KA):KL:=λ as B led=>CF c fn as ls B led K
noncomputable def kBI (c:WC) (id:String) (ls:Ls) (K:KA):KL:=λ as B led=>BI c id as ls B led K
noncomputable def kTY (c:WC) (id:String) (ls:Ls) (K:KA):KL:=λ as B led=>TY c id as ls B led K
noncomputable def kGM (c:WC) (g:KL->Prop) (r:AV) (ls:Ls) (K:KA):String->Prop:=λ id=>g (jmi r (kBI c id ls K))
noncomputable def joL (g:List Tm->Led->KA->Prop) (h:AV->KA):KA:=λ a B led=>g B led (h a)
noncomputable def jqX (K:KB):KA:=λ a B led=>onB (λ b=>K b B led) a
noncomputable def kB (g:List Tm->Led->KA->Prop) (op:BoolOp) (K:KA):KA:=λ a B led=>onB (λ b=>match op with
 | .Or=>if b then K (.bool true) B led else g B led K
 | .And=>if b then g B led K else K (.bool false) B led) a
noncomputable def kCP (c:WC) (elt t iter:Expr) (ifs:List Expr) (scope:Scope) (pos:Pos) (ls:Ls) (K:KA):KA:=λ a B led=>CP c elt t iter ifs scope pos a ls B led K
noncomputable def jpw (a:Str) (K:KA):KA:=λ r B led=>match jeR r a with
 | some x=>K x B led
 | Option.none=>False
noncomputable def kBl (K:KA):KB:=λ x B led=>K (.bool x) B led
noncomputable def jqW (K:KA):KA:=λ a B led=>onB (λ b=>K (.bool (!b)) B led) a
noncomputable def jqV (f:FE) (a b:Expr) (K:KA):KB:=λ x B led=>if x then f a B led K else f b B led K
noncomputable def jq3 (K:KA):KL:=λ as B led=>K (.tup as) B led
noncomputable def kLI (c:WC) (ls:Ls) (K:KA):KL:=λ as B led=>LI c as ls B led K
noncomputable def kTB (g:List Tm->Led->KB->Prop) (op:BoolOp) (K:KB):KB:=λ b B led=>match op with
 | .Or=>if b then K true B led else g B led K
 | .And=>if b then g B led K else K false B led
noncomputable def kTN (K:KB):KB:=λ b B led=>K (!b) B led
noncomputable def kEx (f:FS) (rest:List Stmt) (ls:Ls) (K:KF):List Tm->Led->Prop:=λ B led=>f rest ls B led K
noncomputable def jqU (f:FS) (rest:List Stmt) (ls:Ls) (K:KF):KA:=λ U B led=>f rest ls B led K
noncomputable def jqY (ls:Ls) (K:KF):KA:=λ a B led=>K (.ret a) ls B led
noncomputable def jqk (f:FS) (x:Str) (rest:List Stmt) (ls:Ls) (K:KF):KA:=λ a B led=>f rest ((x,a)::ls) B led K
noncomputable def kCU (c:WC) (x:Str) (elt t iter:Expr) (ifs:List Expr) (scope:Scope) (pos:Pos) (ls:Ls) (K:KA):KA:=λ a B led=>CU c x elt t iter ifs scope pos a ls B led K
noncomputable def jq1 (c:WC) (ls:Ls) (v a:AV) (KK:List Tm->Led->Prop):KA:=λ i B led=>SI c a i v ls B led KK
noncomputable def jq0 (g:List Tm->Led->KA->Prop) (c:WC) (ls:Ls) (v:AV) (KK:List Tm->Led->Prop):KA:=λ a B led=>g B led (jq1 c ls v a KK)
noncomputable def jqZ (g1 g2:List Tm->Led->KA->Prop) (c:WC) (ls:Ls) (KK:List Tm->Led->Prop):KA:=λ v B led=>g1 B led (jq0 g2 c ls v KK)
noncomputable def jqT (c:WC) (ls:Ls) (a:AV) (KK:List Tm->Led->Prop):KA:=λ i B led=>DL c a i ls B led KK
noncomputable def jqS (g:List Tm->Led->KA->Prop) (c:WC) (ls:Ls) (KK:List Tm->Led->Prop):KA:=λ a B led=>g B led (jqT c ls a KK)
noncomputable def joK (f:FS) (rest:List Stmt) (K:KF):KF:=λ fl ls B led=>match fl with
 | .next=>f rest ls B led K
 | fl=>K fl ls B led
noncomputable def kFO (c:WC) (x:Str) (body:List Stmt) (ls:Ls) (KK:KF):KA:=λ a B led=>FO c x body a ls B led KK
noncomputable def kIf (f:FS) (p q:List Stmt) (ls:Ls) (KK:KF):KB:=λ x B led=>if x then f p ls B led KK else f q ls B led KK
section
variable (c:WC) (sc:Scope) (ls:Ls)
noncomputable def vcL (f:Expr->List Tm->Led->KA->Prop):List Expr->List Tm->Led->(List AV->List Tm->Led->Prop)->Prop
 | [],B,led,K=>K [] B led
 | e::es,B,led,K=>f e B led (kL (vcL f es) K)
noncomputable def jjk (e:Expr) (x:Str) (B:List Tm) (led:Led) (K:KA):Prop:=match ls.lookup x with
 | some a=>K a B led
 | Option.none=>match jjW.lookup x with
  | some a=>if sc.names.lookup x=some .globalImplicit then K a B led else VE c e ls B led K
  | Option.none=>VE c e ls B led K
noncomputable def jgd (e:Expr) (k:Const) (B:List Tm) (led:Led) (K:KA):Prop:=match k with
 | .int (.ofNat i)=>K (.nat i) B led
 | .str s=>K (.str s) B led
 | .bool b=>K (.bool b) B led
 | .none=>K .none B led
 | _=>VE c e ls B led K
noncomputable def jjj (f:Expr->List Tm->Led->KA->Prop) (r:AV) (m:Str) (args:List Expr) (B:List Tm) (led:Led) (K:KA):Prop:=match jkh r m with
 | some fn=>vcL f args B led (jmi r (kCF c fn ls K))
 | Option.none=>GM c r m ls B led (kGM c (vcL f args B led) r ls K)
noncomputable def jgc (f:Expr->List Tm->Led->KA->Prop) (e:Expr) (m:Str) (args:List Expr) (B:List Tm) (led:Led) (K:KA):Prop :=
 if sc.names.lookup m=some .globalImplicit then match jjT.lookup m with
  | some fn=>vcL f args B led (kCF c fn ls K)
  | Option.none=>match jjI.lookup m with
   | some id=>vcL f args B led (kBI c id ls K)
   | Option.none=>match jkO.lookup m with
    | some id=>vcL f args B led (kTY c id ls K)
    | Option.none=>VE c e ls B led K
 else VE c e ls B led K
noncomputable def jji (a:AV) (op:CmpOp) (b:AV) (B:List Tm) (led:Led) (K:Bool->List Tm->Led->Prop):Prop:=match jo8 a op b with
 | some r=>K r B led
 | Option.none=>CM c a op b ls B led K
noncomputable def jql (op:CmpOp) (K:Bool->List Tm->Led->Prop) (a:AV):KA:=λ b B led=>jji c ls a op b B led K
noncomputable def jls (op:Operator) (x y:Nat) (B:List Tm) (led:Led) (K:KA):Prop:=match op with
 | .Add=>K (.nat (x+y)) B led
 | .Sub=>y<=x/\K (.nat (x - y)) B led
 | .BitAnd=>K (.nat (x &&& y)) B led
 | .BitOr=>K (.nat (x ||| y)) B led
 | .BitXor=>K (.nat (x ^^^ y)) B led
 | op=>BN c op (.nat x) (.nat y) ls B led K
noncomputable def jkS (op:Operator) (a b:AV) (B:List Tm) (led:Led) (K:KA):Prop:=match jcS a with
 | some x=>match jcS b with
  | some y=>jls c ls op x y B led K
  | Option.none=>BN c op a b ls B led K
 | Option.none=>BN c op a b ls B led K
noncomputable def jqR (op:Operator) (K:KA) (a:AV):KA:=λ b B led=>jkS c ls op a b B led K
noncomputable def jqz (v s:Expr) (k n:Nat) (B:List Tm) (led:Led) (K:KA):Prop:=match k with
 | 0=>n<B.length/\K (.str (jad B n).str) B led
 | 1=>n<B.length/\K (.tns (jaa B n)) B led
 | 2=>n<B.length/\K (.nat 0) B led
 | k+3=>SU c v s (.bl (k+3)) (.nat n) ls B led K
noncomputable def joC (v s:Expr) (l:List AV) (n:Nat) (B:List Tm) (led:Led) (K:KA):Prop:=match l.drop n with
 | x::_=>n<1000/\K x B led
 | []=>SU c v s (.tup l) (.nat n) ls B led K
noncomputable def jkT (v s:Expr) (a i:AV) (B:List Tm) (led:Led) (K:KA):Prop:=match jcS i with
 | some n=>match jlF a with
  | some l=>joC c ls v s l n B led K
  | Option.none=>match jo5 a with
   | some k=>jqz c ls v s k n B led K
   | Option.none=>SU c v s a i ls B led K
 | Option.none=>SU c v s a i ls B led K
noncomputable def jq2 (v s:Expr) (K:KA) (a:AV):KA:=λ i B led=>jkT c ls v s a i B led K
noncomputable def jpx (f:FE) (m:Str) (args:List Expr) (K:KA):KA:=λ r B led=>jjj c ls f r m args B led K
noncomputable def jp3 (f:Expr->List Tm->Led->KA->Prop) (e:Expr) (B:List Tm) (led:Led) (K:Bool->List Tm->Led->Prop):Prop:=match e with
 | .Compare l ops rs _=>match ops,rs with
  | [op],[r]=>if jcU r then f l B led (joL (f r) (jql c ls op K)) else VT c e ls B led K
  | _,_=>VT c e ls B led K
 | e=>if jgP e then f e B led (jqX K) else VT c e ls B led K
noncomputable def vcB (f:Expr->List Tm->Led->KA->Prop) (op:BoolOp):List Expr->List Tm->Led->KA->Prop
 | [],_,_,_=>False
 | e::r,B,led,K=>match r with
  | []=>f e B led K
  | _::_=>f e B led (kB (vcB f op r) op K)
noncomputable def jqA (f:Expr->List Tm->Led->KA->Prop) (ot:Option Tg) (elt t iter:Expr) (ifs:List Expr) (scope:Scope) (pos:Pos) (e:Expr) (B:List Tm) (led:Led) (K:KA):Prop:=match ot with
 | some tg=>if (jhJ scope sc tg && jcU iter)=true then f iter B led (kCP c elt t iter ifs scope pos ls K) else VE c e ls B led K
 | Option.none=>VE c e ls B led K
noncomputable def vcE:Nat->Expr->List Tm->Led->KA->Prop
 | 0,e,B,led,K=>VE c e ls B led K
 | n+1,e,B,led,K=>match e with
  | .Name x _=>jjk c sc ls e x B led K
  | .Constant k _ _=>jgd c ls e k B led K
  | .Attribute v a _=>if isB v then vcE n v B led (jpw a K)
   else VE c e ls B led K
  | .Call fe args kw pos=>match fe,kw with
   | .Attribute o m ap,[]=>if (isB o && args.all nst && decide (args.length<30) && (ap.endLine == pos.line))=true then vcE n o B led (jpx c ls (vcE n) m args K) else VE c e ls B led K
   | .Name m _,[]=>if (args.all nst && !args.isEmpty)=true then jgc c sc ls (vcE n) e m args B led K else VE c e ls B led K
   | _,_=>VE c e ls B led K
  | .Compare l ops rs _=>match ops,rs with
   | [op],[r]=>if jcU r then vcE n l B led (joL (vcE n r) (jql c ls op (kBl K))) else VE c e ls B led K
   | _,_=>VE c e ls B led K
  | .BoolOp op es _=>vcB (vcE n) op es B led K
  | .UnaryOp .Not x _=>vcE n x B led (jqW K)
  | .IfExp t a b _=>jp3 c ls (vcE n) t B led (jqV (vcE n) a b K)
  | .BinOp l op r _=>vcE n l B led (joL (vcE n r) (jqR c ls op K))
  | .Subscript v s _=>if jaY s then vcE n v B led (joL (vcE n s) (jq2 c ls v s K)) else VE c e ls B led K
  | .Tuple es _ _=>if (es.all nst && decide (es.length<1000))=true then vcL (vcE n) es B led (jq3 K) else VE c e ls B led K
  | .List es _=>if (es.all nst && decide (es.length<1000))=true then vcL (vcE n) es B led (kLI c ls K) else VE c e ls B led K
  | .Dict ks vs _=>match ks,vs with
   | [],[]=>∀ x,K (.v (.ref x)) B ((x,.fd [])::led)
   | _,_=>VE c e ls B led K
  | .ListComp elt gens scope pos=>match gens with
   | [⟨t,iter,ifs,.ofNat 0⟩]=>jqA c sc ls (vcE n) (jcJ t) elt t iter ifs scope pos e B led K
   | _=>VE c e ls B led K
  | _=>VE c e ls B led K
noncomputable def jp4 (f:Expr->List Tm->Led->(Bool->List Tm->Led->Prop)->Prop) (op:BoolOp):List Expr->List Tm->Led->(Bool->List Tm->Led->Prop)->Prop
 | [],B,led,K=>match op with
  | .Or=>K false B led
  | .And=>K true B led
 | e::r,B,led,K=>f e B led (kTB (jp4 f op r) op K)
noncomputable def vcT:Nat->Expr->List Tm->Led->(Bool->List Tm->Led->Prop)->Prop
 | 0,e,B,led,K=>VT c e ls B led K
 | n+1,e,B,led,K=>match e with
  | .BoolOp op es _=>jp4 (vcT n) op es B led K
  | .UnaryOp .Not x _=>vcT n x B led (kTN K)
  | e=>jp3 c ls (vcE c sc ls n) e B led K
end
noncomputable def swX (v:XV):Bool:=match v with
 | .tp vs=>!vs.all (constantsAlone 8)
 | .nm _ _=>true
 | .sb _ _=>true
 | .lc _ _ _ _=>true
 | .oth=>true
noncomputable abbrev joU (e:Expr):Bool:=swX (exV e)
noncomputable def okN (sc:Scope) (x:Str):Bool:=sc.names.lookup x == some .local || (sc.names.lookup x == some .cell && !sc.isCoroutine)
noncomputable def puts:List Str->List AV->Ls->Ls
 | x::xs,a::as,ls=>(x,a)::puts xs as ls
 | _,_,ls=>ls
noncomputable def jnN (f:FS) (xs:List Str) (rest:List Stmt) (ls:Ls) (K:KF):KA:=λ a B led=>onT (λ as=>as.length=xs.length/\f rest (puts xs as ls) B led K) a
noncomputable def jjQ (b:List Stmt):Bool:=match b.getLast? with
 | some s=>s.ctorIdx != 3 && (s.ctorIdx != 27 && s.ctorIdx != 16)
 | Option.none=>true
noncomputable def swC (sc scope:Scope) (x:Str) (xp pos:Pos):Bool:=(sc.names.lookup x == some .local) && xp.line == pos.line && !(scope.names.any λ (n,k)=>n == x && (k == .local || k == .cell))
inductive SV where
 | exp (e:Expr) | ret0 | ret (e:Expr) | asg (x:Str) (xp p:Pos) (e:Expr) | tup (es:List Expr) (e:Expr) | sub (o i e:Expr) | del (o i:Expr) | for_ (x:Str) (it:Expr) (body:List Stmt) | wh (t:Expr) (body:List Stmt) | if_ (t:Expr) (p q:List Stmt) | cont | oth
noncomputable def jqc (p:Pos) (e:Expr) (v:XV):SV:=match v with
 | .nm x xp=>.asg x xp p e
 | .tp es=>.tup es e
 | .sb o i=>.sub o i e
 | .lc _ _ _ _=>.oth
 | .oth=>.oth
noncomputable def jqg (v:XV):SV:=match v with
 | .sb o i=>.del o i
 | .nm _ _=>.oth
 | .tp _=>.oth
 | .lc _ _ _ _=>.oth
 | .oth=>.oth
noncomputable def jqh (it:Expr) (body:List Stmt) (v:XV):SV:=match v with
 | .nm x _=>.for_ x it body
 | .sb _ _=>.oth
 | .tp _=>.oth
 | .lc _ _ _ _=>.oth
 | .oth=>.oth
noncomputable def stV (st:Stmt):SV:=match st with
 | .Expr e _=>.exp e
 | .Return e _=>(match e with | Option.none=>.ret0 | some e=>.ret e)
 | .Assign ts e p=>(match ts with | []=>.oth | t::r=>match r with | []=>jqc p e (exV t) | _::_=>.oth)
 | .Delete ts _=>(match ts with | []=>.oth | t::r=>match r with | []=>jqg (exV t) | _::_=>.oth)
 | .For t it body orelse _=>(match orelse with | []=>jqh it body (exV t) | _::_=>.oth)
 | .While t body orelse _=>(match orelse with | []=>.wh t body | _::_=>.oth)
 | .If t p q _=>.if_ t p q
 | .Continue _=>.cont
 | _=>.oth
structure LC where
 elt:Expr
 t:Expr
 iter:Expr
 ifs:List Expr
 scope:Scope
 pos:Pos
noncomputable def lcG (elt:Expr) (scope:Scope) (pos:Pos) (g:Comprehension):Option LC:=match g.is_async with
 | .ofNat 0=>some ⟨elt,g.target,g.iter,g.ifs,scope,pos⟩
 | _=>Option.none
noncomputable def lcO (v:XV):Option LC:=match v with
 | .lc elt gens scope pos=>(match gens with | []=>Option.none | g::r=>match r with | []=>lcG elt scope pos g | _::_=>Option.none)
 | .nm _ _=>Option.none
 | .tp _=>Option.none
 | .sb _ _=>Option.none
 | .oth=>Option.none
noncomputable abbrev joM (e:Expr):Option LC:=lcO (exV e)
noncomputable def joV (c:WC) (sc:Scope) (f:FS) (x:Str) (xp p:Pos) (l:Option LC) (b rest:List Stmt) (ls:Ls) (B:List Tm) (led:Led) (K:KF):Prop:=match l with
 | some l=>(match jcJ l.t with
  | some tg=>if (jhJ l.scope sc tg && jcU l.iter && swC sc l.scope x xp l.pos)=true then vcE c sc ls 20 l.iter B led (kCU c x l.elt l.t l.iter l.ifs l.scope l.pos ls (jqk f x rest ls K)) else VS c b ls B led K
  | Option.none=>VS c b ls B led K)
 | Option.none=>VS c b ls B led K
noncomputable def jqB (c:WC) (sc:Scope) (f:FS) (o:Option (List Str)) (e:Expr) (b rest:List Stmt) (ls:Ls) (B:List Tm) (led:Led) (K:KF):Prop:=match o with
 | some xs=>if (jb8 e && joU e && xs.all (okN sc) && decide xs.Nodup && decide (xs.length<1000))=true then vcE c sc ls 20 e B led (jnN f xs rest ls K) else VS c b ls B led K
 | Option.none=>VS c b ls B led K
noncomputable def vcV (c:WC) (sc:Scope) (f:FS) (v:SV) (b rest:List Stmt) (ls:Ls) (B:List Tm) (led:Led) (K:KF):Prop:=match v with
 | .exp e=>if jb8 e then vcE c sc ls 20 e B led (jqU f rest ls K) else VS c b ls B led K
 | .ret0=>K (.ret .none) ls B led
 | .ret e=>vcE c sc ls 20 e B led (jqY ls K)
 | .asg x xp p e=>if (jb8 e && okN sc x)=true then vcE c sc ls 20 e B led (jqk f x rest ls K) else joV c sc f x xp p (joM e) b rest ls B led K
 | .tup es e=>jqB c sc f (jbm es) e b rest ls B led K
 | .sub o i e=>if jb8 e then vcE c sc ls 20 e B led (jqZ (vcE c sc ls 20 o) (vcE c sc ls 20 i) c ls (kEx f rest ls K)) else VS c b ls B led K
 | .del o i=>vcE c sc ls 20 o B led (jqS (vcE c sc ls 20 i) c ls (kEx f rest ls K))
 | .for_ x it body=>if jcU it && okN sc x then vcE c sc ls 20 it B led (kFO c x body ls (joK f rest K)) else VS c b ls B led K
 | .wh t body=>WH c t body ls B led (joK f rest K)
 | .if_ t p q=>if jjQ p && jjQ q && !rest.isEmpty then VS c b ls B led K else vcT c sc ls 20 t B led (kIf f p q ls (joK f rest K))
 | .cont=>K .cont ls B led
 | .oth=>VS c b ls B led K
noncomputable def vcS (c:WC) (sc:Scope):Nat->List Stmt->Ls->List Tm->Led->(Fl->Ls->List Tm->Led->Prop)->Prop
 | 0,b,ls,B,led,K=>VS c b ls B led K
 | n+1,b,ls,B,led,K=>match b with
  | []=>K .next ls B led
  | st::rest=>vcV c sc (vcS c sc n) (stV st) (st::rest) rest ls B led K
end
section
inductive IsX:XV->Expr->Prop
 | nm (x:Str) (p:Pos):IsX (.nm x p) (.Name x p)
 | tp (es:List Expr) (k:Nat) (p:Pos):IsX (.tp es) (.Tuple es k p)
 | sb (o i:Expr) (p:Pos):IsX (.sb o i) (.Subscript o i p)
 | lc (elt:Expr) (gens:List Comprehension) (scope:Scope) (pos:Pos):IsX (.lc elt gens scope pos) (.ListComp elt gens scope pos)
 | oth (e:Expr):IsX .oth e
theorem jdX (e:Expr):IsX (exV e) e:=by
 cases e with
 | Name x p=>exact .nm ..
 | Tuple es k p=>exact .tp ..
 | Subscript o i p=>exact .sb ..
 | ListComp elt gens scope pos=>exact .lc ..
 | _=>exact .oth _
theorem jm3 {v:XV} {t:Expr} {tg:Tg} (q:IsX v t) (h:jqx v=some tg):(∃ x p,t=.Name x p)\/∃ es k p,t=.Tuple es k p:=by
 cases q with
 | nm x p=>exact .inl ⟨x,p,rfl⟩
 | tp es k p=>exact .inr ⟨es,k,p,rfl⟩
 | sb=>exact nomatch h
 | lc=>exact nomatch h
 | oth=>exact nomatch h
theorem jlo {t:Expr} {tg:Tg} (h:jcJ t=some tg):(∃ x p,t=.Name x p)\/∃ es k p,t=.Tuple es k p:=jm3 (jdX t) h
inductive Nms:List Expr->List Str->Prop
 | nil:Nms [] []
 | cons (x:Str) (p:Pos) {r:List Expr} {xs:List Str} (h:Nms r xs):Nms (.Name x p::r) (x::xs)
theorem jkm {v:XV} {e:Expr} (q:IsX v e) {r:List Expr} {o:Option (List Str)} {xs:List Str} (h:jny v o=some xs) (ih:∀ {ys},o=some ys->Nms r ys):Nms (e::r) xs:=by
 cases q with
 | nm x p =>
  refine jam (Jd4 (show o.map (x::·)=some xs from h)) λ ys e1 e2=>?_
  rw [<- e2]; exact .cons x p (ih e1)
 | tp=>exact nomatch h
 | sb=>exact nomatch h
 | lc=>exact nomatch h
 | oth=>exact nomatch h
theorem nms:∀ {es:List Expr} {xs:List Str},jbm es=some xs->Nms es xs:=by
 intro es
 induction es with
 | nil=>intro xs h; rw [<- Jb0 h]; exact .nil
 | cons e r ih=>intro xs h; exact jkm (jdX e) h ih
theorem jbH {e:Expr} (h:nst e=true) (rest:List Expr) (env:Env):starEach (e::rest) env=(false,eval e env)::starEach rest env:=by
 cases e <;> first | rfl | exact nomatch (show false=true from h)
theorem jcx:∀ {args:List Expr} (_:args.all nst=true) (env:Env) (pos:Pos),(backTo pos (starEach args env)).any (·.1)=false
 | [],_,_,_=>rfl
 | e::r,h,env,pos=>by
  rw [List.all_cons,Bool.and_eq_true] at h
  rw [jbH h.1]
  show (false || (backTo pos (starEach r env)).any (·.1))=false
  rw [jcx h.2]; rfl
theorem jfR {o:Expr} {m:Str} {ap pos:Pos} {args:List Expr} {env:Env} (hb:isB o=true) (hs:args.all nst=true) (hn:args.length<30) (hl:(ap.endLine == pos.line)=true) :
  ∃ pl,eval (.Call (.Attribute o m ap) args [] pos) env=(do
   let ov <- eval o env
   standAt ap.atName
   let (f,first) <- holding [ov] (getMethod ov m pl)
   callWith pos f first (backTo pos (starEach args env)) []):=by
 have hf:methodCallForm (args.length+0) (backTo pos (starEach args env)) []=true:=by
  unfold methodCallForm
  have h2:(backTo pos (starEach args env)).all (λ x=>!x.1)=true:=by
   refine rwr List.all_eq_not_any_not ?_
   simp only [Bool.not_not]
   refine rwr (jcx hs env pos) ?_; rfl
  refine rwr h2 ?_
  simp
  exact hn
 refine ⟨(do return (<- importBound o env).getD true),?_⟩
 have e1:eval (.Call (.Attribute o m ap) args [] pos) env=(do
   let ov <- eval o env
   standAt ap.atName
   methodCall o m ap pos env ov (args.length+0) (backTo pos (starEach args env)) []):=by
  cases o <;> first | rfl | exact nomatch (show false=true from hb)
 refine rwr e1 ?_
 congr 1; funext ov; congr 1; funext _
 unfold methodCall calleeOf methodCallPos
 refine rwr hf ?_
 refine rwr hl ?_
 rfl
theorem jmb {v:Expr} {a:Str} {pos:Pos} {env:Env} (hb:isB v=true):eval (.Attribute v a pos) env=(do
   let o <- eval v env
   standAt pos.atName
   let r <- holding [o] (getAttr o a true)
   letTemporaryGo v o r
   pure r):=by
 cases v <;> first | rfl | exact nomatch (show false=true from hb)
theorem jk5 {op:CmpOp} {r:Expr} (h:jcU r=true):behindInMarks op r=false:=by
 cases r <;> first | rfl | exact nomatch (show false=true from h)
theorem jeq {it:Expr} {env:Env} {x:Value} (h:jcU it=true):foldedSetIterable it env x=pure x:=by
 cases it <;> first | rfl | exact nomatch (show false=true from h)
theorem jmC {e:Expr} {env:Env} {whole:Sem Value} (h:jgP e=true):isTrue e env whole=(do let v <- whole; standAt e.pos; holding [v] (truthy v)):=by
 cases e <;> first | rfl | exact nomatch (show false=true from h)
theorem jdh {value:Expr} {t:Option Expr} {n:Nat} {env:Env} (h:jb8 value=true):swapsWith value t n env=pure false:=by
 cases value <;> first | rfl | exact nomatch (show false=true from h)
theorem jbC {s:Expr} {o i:Value} (h:jaY s=true):subscripted s false o i=operate [o,i] (getItem o i):=by
 cases s <;> first | rfl | exact nomatch (show false=true from h)
section
variable {c:WC} {sc:Scope} {E:Value->Shared->Prop} {ls:Ls} {B:List Tm} {led:Led} {T:List (Addr×Obj)} {s:Shared}
theorem St.wk {ls':Ls} (h:St c ls B led T s) (hw:∀ x a,ls'.lookup x=some a->ls.lookup x=some a):St c ls' B led T s:=by
 cases h with
 | mk h tk m σ cl lr W O hT hB hL hC hK=>exact .mk h tk m σ cl lr W O hT hB hL hC λ x a e=>hK x a (hw x a e)
theorem jk9 {lr cl bl:List (Addr×Obj)} {p:Addr×Obj} (h:p∈cl):p∈(lr++cl)++bl:=Ja7 _ (Ja6 _ h)
theorem ja4 {lr cl bl:List (Addr×Obj)} {p:Addr×Obj} (h:p∈lr):p∈(lr++cl)++bl:=Ja7 _ (Ja7 _ h)
theorem jar {l:List (Addr×Obj)} {P:Params} {C:Addr} {α:BA} {σ:BC} {T:List (Addr×Obj)} {p:Addr×Obj} (e:σ.tups=T) (h:p∈T):p∈l++jak P C α σ :=
 Ja6 _ (.tail _ (.tail _ (.tail _ (.tail _ (.tail _ (.tail _ (.tail _ (.tail _ (.tail _ (.tail _ (e▸h)))))))))))
theorem CO.kind (C:CO c sc) (x:Str):c.env.kindOf x=sc.names.lookup x:=by unfold Env.kindOf; refine rwr C.hs ?_; rfl
theorem jmP (C:CO c sc) {h:Heap} {tk:Tok} {m:Str->Option Value} {l cl:List (Addr×Obj)} {x:Str} {p:Pos} {v:Value} {Q:Value->Shared->Prop} (W:Fx c.b₀ h c.L m l) (hcl:∀ p∈cl,p∈l) (r:Rd c m cl x v) (k:Q v ⟨h,c.gs,c.dr,tk,c.os⟩) :
  wpAny (model prg c.w) c.A (eval (.Name x p) c.env) Q E ⟨h,c.gs,c.dr,tk,c.os⟩:=by
 have hk:c.env.scope.kind=.function:=C.fk
 rcases r with ⟨h1,h2⟩ | ⟨h1,a,o,h2,h3,h4⟩
 ·exact jfr W h2 k C.hl hk h1 (C.db x _ (C.kind x▸h1))
 ·exact jpM W h2 (hcl _ h3) h4 k hk h1 (C.db x _ (C.kind x▸h1))
end
theorem jay {α:Type} {x:Str} {v:α}:∀ {l:List (Str×α)},l.lookup x=some v->(x,v)∈l
 | [],h=>nomatch h
 | (y,w)::l,h=>by
  rw [List.lookup_cons] at h
  cases e:x == y with
  | true=>rw [e] at h; refine rwr (eq_of_beq e) ?_; refine rwl (Jb0 h) ?_; exact .head _
  | false=>rw [e] at h; replace h:=h; exact .tail _ (jay h)
theorem jah {α:Type} (x y:Str) (a:α) (l:List (Str×α)):((x,a)::l).lookup y=if y=x then some a else l.lookup y:=by
 refine rwr List.lookup_cons ?_
 by_cases e:y=x
 ·subst e; simp
 ·refine rwr (beq_eq_false_iff_ne.mpr e) ?_
  refine rwr (if_neg e) ?_
  rfl
section
variable {c:WC} {sc scope:Scope}
theorem jdb (C:CO c sc) (f:Str×NameKind->List (Str×Addr)->Sem (ForInStep (List (Str×Addr)))) (f1:∀ n a cs,c.env.cells.lookup n=some a->f (n,.free) cs=pure (.yield ((n,a)::cs))) (f2:∀ n k cs,k≠.free->f (n,k) cs=pure (.yield cs)) :
  ∀ (names:List (Str×NameKind)) (acc:List (Str×Addr)),(∀ p∈names,p.2=.free->sc.names.lookup p.1=some .cell)->(∀ x a,acc.lookup x=some a->c.env.cells.lookup x=some a) ->
  ∃ cl,forIn names acc f=pure cl/\(∀ x a,cl.lookup x=some a->c.env.cells.lookup x=some a)/\∀ x,((x,NameKind.free)∈names\/∃ a,acc.lookup x=some a)->∃ a,cl.lookup x=some a
 | [],acc,_,h2=>⟨acc,rfl,h2,λ x h=>by
   refine Jc8 h (λ h=>?_) λ h=>?_
   ·exact absurd h Jb2
   ·exact h⟩
 | (n,k)::r,acc,h1,h2=>by
  rw [List.forIn_cons]
  by_cases hk:k=.free
  ·subst hk
   obtain ⟨a,ha⟩:=C.ce n (h1 _ (.head _) rfl)
   refine jdI (jdb C f f1 f2 r ((n,a)::acc) (λ p hp=>h1 p (.tail _ hp)) (λ x b e=>by
    rw [jah] at e
    split at e
    ·rename_i q; obtain rfl:=Jb0 e; refine rwr q ?_; exact ha
    ·exact h2 x b e)) λ cl e1 e2 e3=>?_
   refine jfE cl ?_ e2 (λ x h=>e3 x ?_)
   ·refine rwr (f1 n a acc ha) ?_; exact e1
   ·rcases h with h | ⟨b,h⟩
    ·rcases Ja3.mp h with e | h
     ·cases e; exact .inr ⟨a,by rw [jah,if_pos rfl]⟩
     ·exact .inl h
    ·refine .inr ?_
     rw [jah]
     refine itg (λ q_3=>?_) λ q_4=>?_
     ·exact ⟨a,rfl⟩
     ·exact ⟨b,h⟩
  ·refine jdI (jdb C f f1 f2 r acc (λ p hp=>h1 p (.tail _ hp)) h2) λ cl e1 e2 e3=>?_
   refine jfE cl ?_ e2 (λ x h=>e3 x ?_)
   ·refine rwr (f2 n k acc hk) ?_; exact e1
   ·rcases h with h | h
    ·rcases Ja3.mp h with e | h
     ·cases e; exact absurd rfl hk
     ·exact .inl h
    ·exact .inr h
theorem jhV (C:CO c sc) {tg:Tg} (h:jhJ scope sc tg=true):∃ cl,ClOk c scope cl:=by
 simp only [jhJ,Bool.and_eq_true,List.all_eq_true] at h
 refine jdI (jdb C (λ x cs=>match x with | (name,kind)=>if (kind == .free)=true then do let a <- cellOf c.env name; pure (ForInStep.yield ((name,a)::cs)) else pure (ForInStep.yield cs)) (λ n a cs e=>by
  have hc:cellOf c.env n=pure a:=by unfold cellOf; refine rwr e ?_; rfl
  simp only [beq_self_eq_true,if_true,hc]; rfl) (λ n k cs hk=>by
  have:(k == NameKind.free)=false:=by simpa using hk
  simp only [this,Bool.false_eq_true,if_false]) scope.names [] (λ p hp hk=>by
  have:=(h.1.1.2 p hp).1.2
  rw [hk] at this
  simpa using this) (λ x a e=>nomatch e)) λ cl e1 e2 e3=>?_
 refine ⟨cl,?_,e2,λ x hx=>e3 x (.inl hx)⟩
 dsimp only [closureFor]
 exact (congrArg (λ q=>q >>= pure) e1)
theorem jhu {x:Str} {k:NameKind} {l:List (Str×NameKind)}:(l.map (·.1)).Nodup->(x,k)∈l->l.lookup x=some k:=by
 induction l with
 | nil=>exact λ U h=>absurd h Jb2
 | cons p l ih =>
  intro hn h
  rw [Ja8,Jd9] at hn
  refine Jc8 (Ja3.mp h) (λ e=>?_) λ h=>?_
  ·rw [<- e,jah,if_pos rfl]
  ·exact (jah p.1 x p.2 l).trans ((if_neg λ (e:x=p.1)=>hn.1 (e▸Jb9 ⟨_,h,rfl⟩)).trans (ih hn.2 h))
structure CF0 (scope sc:Scope) (tg:Tg):Prop where
 k:scope.kind=.function
 n:∀ p∈scope.names,p.2≠.cell
 f:∀ x,(x,NameKind.free)∈scope.names->sc.names.lookup x=some .cell
 d:∀ p∈scope.names,(p.1 == ("__debug__" : Str))=false
 nd:(scope.names.map (·.1)).Nodup
 t:∀ x∈tg.names,scope.names.lookup x=some .local
theorem cf0 {tg:Tg} (h:jhJ scope sc tg=true):CF0 scope sc tg:=by
 simp only [jhJ,Bool.and_eq_true,List.all_eq_true,decide_eq_true_eq] at h
 replace h:=h
 refine ⟨h.1.1.1,λ p hp=>by simpa using (h.1.1.2 p hp).1.1,λ x hx=>?_,λ p hp=>by simpa using (h.1.1.2 p hp).2,h.1.2,λ x hx=>by simpa using h.2 x hx⟩
 simpa using (h.1.1.2 _ hx).1.2
theorem CF0.ln {tg:Tg} (h:CF0 scope sc tg):∀ x∈scope.names,x.2=.local->scope.names.lookup x.1=some .local:=λ x hx e=>by
 obtain ⟨n,k⟩:=x
 subst e
 exact jhu h.nd hx
end
end
local macro_rules | `(tactic| walk_at "v_mem")=>`(tactic| first | exact List.Mem.head _ | assumption | (apply Ja7; assumption) | (apply Ja6; walk_at "v_mem") | (apply List.Mem.tail; walk_at "v_mem"))
section
section
variable {w:World} {A:Around} {E:Value->Shared->Prop} {gs:Array GenState} {dr:Drawn} {os:OsState} {tk:Tok} {M:Model}
 {b₀ h:Heap} {L:Addr} {m mg mb:Str->Option Value} {mean:ExcName->Option Value} {pre led led':List (Addr×Obj)} {Q:Value->Shared->Prop} {env:Env} {p p1 p2 p3 p4 p5 p6:Pos} {es:List DictEntry} {n:Nat} {a d:Addr} {C:Addr} {fld:Str} {rest:List Stmt} {QF:Flow->Shared->Prop} {v:Value}
structure FrE (env:Env) (L a:Addr) (m:Str->Option Value):Prop where
 l:env.locals=L
 k:env.scope.kind=.function
 s:env.kindOf "self" = some .local
 v:m "self" = some (.ref a)
 i:interactive env=false
theorem FrE.of (W:Fx b₀ h L m led) (l:env.locals=L) (k:env.scope.kind=.function) (s:env.kindOf "self" = some .local) (v:m "self" = some (.ref a)) (i:interactive env=false):FrE env L a m:=⟨l,k,s,v,i⟩
theorem FrE.up {x:Str} {v:Value} (f:FrE env L a m) (h:(("self" : Str) == x)=false):FrE env L a (λ y=>if y=x then some v else m y):=⟨f.l,f.k,f.s,(if_neg λ e=>by rw [e,beq_self_eq_true] at h; exact nomatch h).trans f.v,f.i⟩
structure BF (P:Params) (C:Addr) (fld:Str):Prop where
 g:plainGet (kk.heap_1 P) C fld=true
 h:hasDictIn (kk.heap_1 P) C=true
 a:∃ t,findIn (kk.heap_1 P) (.ref C) fld=some t/\noGet (kk.heap_1 P) t=true
theorem nmX {x:Str} (f:FrE env L a m) (W:Fx b₀ h L m led) (hv:m x=some v) (hx:env.kindOf x=some .local) (hd:(x == ("__debug__" : Str))=false) (k:Q v ⟨h,gs,dr,tk,os⟩):wpAny (model prg w) A (eval (.Name x p) env) Q E ⟨h,gs,dr,tk,os⟩:=jfr W hv k f.l f.k hx hd
theorem sgX (f:FrE env L a m) (W:Fx b₀ h L m led) (X:(kk.heap_1 w.params).In b₀) (hi:(a,instObj C d)∈led) (hd:(d,dictOf es n)∈led) (hf:BF w.params C fld) (hl:getL fld es=some (some v)) (hv:handedIn v=true) (k:∀ tk',Q v ⟨h,gs,dr,tk',os⟩) :
  wpAny (model prg w) A (eval (.Attribute (.Name "self" p) fld p2) env) Q E ⟨h,gs,dr,tk,os⟩:=by
 refine Attribute_Name_ ?_
 refine nmX f W f.v f.s (by decide) ?_
 exact jam hf.a λ t ha hn=>joQ W X hi hd hf.g hf.h ha hn hl hv k
theorem apX {e:Expr} {l:Addr} {vs:Array Value} {n':Nat} (f:FrE env L a m) (W:Fx b₀ h L m led) (X:(kk.heap_1 w.params).In b₀) (hi:(a,instObj C d)∈led) (hd:(d,dictOf es n)∈led) (hf:BF w.params C fld) (hl:getL fld es=some (some (.ref l)))
  (hne:nst e=true) (hv:∀ {Q':Value->Shared->Prop} {tk},(∀ tk',Q' v ⟨h,gs,dr,tk',os⟩)->wpAny (model prg w) A (eval e env) Q' E ⟨h,gs,dr,tk,os⟩) (q:Pt l (listOf vs n') (listOf (vs.push v) (n' + 1)) led led') (hb:vs.size<=16777216)
  (k:∀ h' tk',Fx b₀ h' L m led'->wpAny (model prg w) A (execs rest env) QF E ⟨h',gs,dr,tk',os⟩) (hpl:(p3.endLine == p5.line)=true) :
  wpAny (model prg w) A (execs (.Expr (.Call (.Attribute (.Attribute (.Name "self" p1) fld p2) "append" p3) [e] [] p5) p6::rest) env) QF E ⟨h,gs,dr,tk,os⟩:=by
 refine jbh (jfR (o:=.Attribute (.Name "self" p1) fld p2) (m := "append") (args:=[e]) (env:=env) rfl (by rw [List.all_cons,hne]; rfl) (show 1<30 by decide) hpl) λ pl he=>?_
 refine wpAny_execs_cons ?_
 refine wpAny_Expr_any ?_ f.i
 refine MethodCall_ ?_ he
 refine sgX f W X hi hd hf hl rfl λ U=>?_
 refine jch W q.mem ?_
 refine callWith_method1 ?_ (jbH hne _ _)
 refine spliced_more ?_ (jbH hne _ _)
 refine hv λ U=>?_
 refine spliced_none ?_
 exact jeG W q hb λ h' W'=>k h' _ W'
noncomputable def HeX (w:World) (A:Around) (E:Value->Shared->Prop) (env:Env) (gs:Array GenState) (dr:Drawn) (os:OsState) (b₀ h:Heap) (L:Addr) (m:Str->Option Value) (tk:Tok) (e:Expr) {ι:Type} (val:ι->Value) (led:ι->List (Addr×Obj)):Prop :=
 ∀ Q':Value->Shared->Prop,(∀ i h' tk',Fx b₀ h' L m (led i)->Q' (val i) ⟨h',gs,dr,tk',os⟩)->wpAny (model prg w) A (eval e env) Q' E ⟨h,gs,dr,tk,os⟩
section
variable {k1 k2 k3:Nat} {x1 x2 x3:Str} {i1 i2 i3:Int} (W:Fx b₀ h L m led)
include W
theorem jie:HeX w A E env gs dr os b₀ h L m tk (.List [] p) .ref (λ i=>(i,listOf #[] 0)::led):=λ U k=>List_ (spliced_none (jdy W λ x h W=>k x _ _ W))
theorem jpo:HeX w A E env gs dr os b₀ h L m tk (.List [.Constant (.str x1) k1 p1,.Constant (.str x2) k2 p2,.Constant (.str x3) k3 p3] p) (λ i:Addr×Obj=>.ref i.1) (λ i=>(i.1,i.2)::led):=λ U k=>List_ (spliced_more (jlg λ U U=>spliced_more (jlg λ U U=>spliced_more (jlg λ U U=>spliced_none (jdy W λ x h W=>k (x,_) _ _ W)))))
theorem jpm:HeX w A E env gs dr os b₀ h L m tk (.List [.Constant (.int i1) k1 p1,.Constant (.int i2) k2 p2,.Constant (.int i3) k3 p3] p) (λ i:Addr×Obj=>.ref i.1) (λ i=>(i.1,i.2)::led):=λ U k=>List_ (spliced_more (jfq λ U U=>spliced_more (jfq λ U U=>spliced_more (jfq λ U U=>spliced_none (jdy W λ x h W=>k (x,_) _ _ W)))))
theorem jqO:HeX w A E env gs dr os b₀ h L m tk (.Constant (.int i1) k1 p) (.int i1) (λ _:Tok=>led):=λ U k=>jfq λ t U=>k t _ _ W
theorem jpn:HeX w A E env gs dr os b₀ h L m tk (.List [.Constant (.str x1) k1 p1] p) (λ i:Addr×Tok=>.ref i.1) (λ i=>(i.1,listOf #[.str x1 i.2] 0)::led):=λ U k=>List_ (spliced_more (jlg λ t U=>spliced_none (jdy W λ x h W=>k (x,t) _ _ W)))
theorem jpl:HeX w A E env gs dr os b₀ h L m tk (.List [.Constant (.int i1) k1 p1] p) (λ i:Addr×Tok=>.ref i.1) (λ i=>(i.1,listOf #[.int i1 i.2] 0)::led):=λ U k=>List_ (spliced_more (jfq λ t U=>spliced_none (jdy W λ x h W=>k (x,t) _ _ W)))
theorem jpp:HeX w A E env gs dr os b₀ h L m tk (.List [.Tuple [] k1 p1] p) (λ i:Addr×Addr=>.ref i.1) (λ i=>(i.1,listOf #[.ref i.2] 0)::(i.2,ja1 [])::led):=λ U k=>List_ (spliced_more (Tuple_ (spliced_none (jkC W λ t h W=>spliced_none (jdy W λ x h W=>k (x,t) _ _ W)))))
theorem jpk {t:Tok} (F:FrE env L a m) (G:Bs w b₀ mean mg mb) (e:nsIn (kk.heap_1 w.params) mainGlobals x1=some (some (.int i1 t))) (hG:env.globals=mainGlobals) (hx:env.kindOf x1=some .globalImplicit) (hd:(x1 == ("__debug__" : Str))=false) :
  HeX w A E env gs dr os b₀ h L m tk (.List [.Name x1 p1] p) (λ i:Addr×Tok=>.ref i.1) (λ i=>(i.1,listOf #[.int i1 i.2] 0)::led):=λ U k=>List_ (spliced_more (jf1 W G.X G.T e (spliced_none (jdy W λ x h W=>k (x,t) _ _ W)) hG F.k hx hd))
theorem jqj:HeX w A E env gs dr os b₀ h L m tk (.Dict [] [] p) .ref (λ i=>(i,dictOf [] 0)::led):=λ U k=>jld W λ x h W=>k x _ _ W
theorem jqP (F:FrE env L a m) (hv:m x1=some v) (hx:env.kindOf x1=some .local) (hd:(x1 == ("__debug__" : Str))=false):HeX w A E env gs dr os b₀ h L m tk (.Name x1 p) (λ _:Unit=>v) (λ U=>led):=λ U k=>nmX F W hv hx hd (k () _ _ W)
end
theorem saX {ι:Type} {e:Expr} {nw:ι->List (Addr×Obj)} {val:ι->Value} {news:List (Addr×Obj)} {oL:Obj} {L0:Addr} (F:FrE env L a m) (X:(kk.heap_1 w.params).In b₀)
  (he:HeX w A E env gs dr os b₀ h L m tk e val λ i=>((nw i++news)++(L0,oL)::(a,instObj C d)::(d,dictOf es n)::pre))
  (hs:swapsWith e (some (.Attribute (.Name "self" p1) fld p2)) p3.line env=pure false) (hc:findIn (kk.heap_1 w.params) (.ref C) "__setattr__" = some (some (.builtin "object.__setattr__"))) (ho:plainOver (kk.heap_1 w.params) C=true) (hh:hasDictIn (kk.heap_1 w.params) C=true) (ht:takerIn (kk.heap_1 w.params) C fld=some none)
  (hl:(getL fld es).isSome=true) (hp:∀ v H K,(putL fld H K v es,putN fld es n)=(es++[⟨H,K,v⟩],n+1)) (hz:es.length<=999)
  (k:∀ i h' tk',Fx b₀ h' L m ((nw i++news)++(L0,oL)::(a,instObj C d)::(d,dictOf (es++[ent w.params fld (tk' + 1) (val i)]) (n+1))::pre)->wpAny (model prg w) A (execs rest env) QF E ⟨h',gs,dr,tk' + 2,os⟩) :
  wpAny (model prg w) A (execs (.Assign [.Attribute (.Name "self" p1) fld p2] e p3::rest) env) QF E ⟨h,gs,dr,tk,os⟩:=by
 refine wpAny_execs_cons ?_
 refine plainObj_wpAny_Assign_Attribute ?_ hs
 refine he _ λ i h' tk' W=>?_
 refine nmX F W F.v F.s (by decide) ?_
 exact jmM W X (Ja6 _ (.tail _ (.head _))) (Ja6 _ (.tail _ (.tail _ (.head _)))) hc ho ht hh hl (hp _ _ _) (.app (.tail (.tail .head))) (by rw [Jd3]; exact Jc1 hz) λ h W=>k i h _ W
end
section
variable {w:World} {A:Around} {E:Value->Shared->Prop} {gs:Array GenState} {dr:Drawn} {os:OsState} {tk:Tok}
 {b₀ h:Heap} {L:Addr} {m mg mb:Str->Option Value} {mean:ExcName->Option Value} {pre:List (Addr×Obj)} {α:BA} {σ:BC} {B:List Tm} {Q:Value->Shared->Prop}
theorem jm6 {l:List (Addr×Obj)} {C:Addr} {P:Params} {p:Addr×Obj} (hp:p∈σ.tups):p∈l++jak P C α σ :=
 Ja6 _ (.tail _ (.tail _ (.tail _ (.tail _ (.tail _ (.tail _ (.tail _ (.tail _ (.tail _ (.tail _ hp))))))))))
section
variable (P:Params) (C:Addr)
noncomputable abbrev jbk (α:BA) (tl:List DictEntry):List DictEntry :=
 ent P "sort_names" (α.t 0) (.ref α.sn)::ent P "sort_widths" (α.t 1) (.ref α.sw)::ent P "fun_names" (α.t 2) (.ref α.fn)::ent P "fun_args" (α.t 3) (.ref α.fa)::ent P "fun_results" (α.t 4) (.ref α.fr) ::
 ent P "fresh_count" (α.t 5) (.int 0 (α.t 6))::ent P "term_ops" (α.t 7) (.ref α.op)::ent P "term_args" (α.t 8) (.ref α.ar)::ent P "term_sorts" (α.t 9) (.ref α.so)::ent P "term_datas" (α.t 10) (.ref α.da) ::
 ent P "numbers" (α.t 11) (.ref α.nu)::tl
noncomputable abbrev jax (α:BA) (σ:BC) (tl:List DictEntry):List (Addr×Obj) :=
 (α.self,instObj C α.d)::(α.d,dictOf (jbk P α tl) α.n)::(α.fn,listOf σ.fnV (σ.k 0))::(α.fa,listOf σ.faV (σ.k 1))::(α.fr,listOf σ.frV (σ.k 2)) ::
 (α.op,listOf σ.opV (σ.k 3))::(α.ar,listOf σ.arV (σ.k 4))::(α.so,listOf σ.soV (σ.k 5))::(α.da,listOf σ.daV (σ.k 6))::(α.nu,dictOf σ.nuV (σ.k 7))::σ.tups
end
theorem jh9 {P:Params} {α:BA} {tl:List DictEntry}:getL "numbers" (jbk P α tl)=some (some (.ref α.nu)):=by kernel_rfl
theorem jg1 {σ:BC} {α:BA} {tl:List DictEntry} {l:List (Addr×Obj)} {C:Addr} {P:Params} {p:Addr×Obj} (hp:p∈σ.tups):p∈l++jax P C α σ tl :=
 Ja6 _ (.tail _ (.tail _ (.tail _ (.tail _ (.tail _ (.tail _ (.tail _ (.tail _ (.tail _ (.tail _ hp))))))))))
section
variable {P:Params} {C:Addr} {α:BA} {σ:BC} {tl:List DictEntry} {pre:List (Addr×Obj)}
noncomputable def BA.li (α:BA):Nat->Addr
 | 0=>α.fn | 1=>α.fa | 2=>α.fr | 3=>α.op | 4=>α.ar | 5=>α.so | _=>α.da
noncomputable def BC.lv (σ:BC):Nat->Array Value
 | 0=>σ.fnV | 1=>σ.faV | 2=>σ.frV | 3=>σ.opV | 4=>σ.arV | 5=>σ.soV | _=>σ.daV
noncomputable def jpf:Nat->Str
 | 0 => "fun_names" | 1 => "fun_args" | 2 => "fun_results" | 3 => "term_ops" | 4 => "term_args" | 5 => "term_sorts" | _ => "term_datas"
noncomputable def BC.up (σ:BC) (i:Nat) (v:Value):BC :=
 let f (j:Nat) (l:Array Value):Array Value:=if i=j then l.push v else l
 ⟨f 0 σ.fnV,f 1 σ.faV,f 2 σ.frV,f 3 σ.opV,f 4 σ.arV,f 5 σ.soV,f 6 σ.daV,σ.nuV,λ j=>if i=j then σ.k j+1 else σ.k j,σ.tups⟩
theorem joa {v:Value}:∀ i,i<7->Pt (α.li i) (listOf (σ.lv i) (σ.k i)) (listOf ((σ.lv i).push v) (σ.k i+1)) (pre++jax P C α σ tl) (pre++jax P C α (σ.up i v) tl)
 | 0,_=>.app (.tail (.tail .head))
 | 1,_=>.app (.tail (.tail (.tail .head)))
 | 2,_=>.app (.tail (.tail (.tail (.tail .head))))
 | 3,_=>.app (.tail (.tail (.tail (.tail (.tail .head)))))
 | 4,_=>.app (.tail (.tail (.tail (.tail (.tail (.tail .head))))))
 | 5,_=>.app (.tail (.tail (.tail (.tail (.tail (.tail (.tail .head)))))))
 | 6,_=>.app (.tail (.tail (.tail (.tail (.tail (.tail (.tail (.tail .head))))))))
 | n+7,h=>absurd h (Nat.not_lt.mpr (Jc7 7 n))
theorem jia:∀ i,i<7->getL (jpf i) (jbk P α tl)=some (some (.ref (α.li i)))
 | 0,_=>by kernel_rfl
 | 1,_=>by kernel_rfl
 | 2,_=>by kernel_rfl
 | 3,_=>by kernel_rfl
 | 4,_=>by kernel_rfl
 | 5,_=>by kernel_rfl
 | 6,_=>by kernel_rfl
 | n+7,h=>absurd h (Nat.not_lt.mpr (Jc7 7 n))
theorem jda {x:Str} (h1:plainGet (kk.heap_1 P) 388 x=true) (h2:findIn (kk.heap_1 P) (.ref 388) x=some none):BF P 388 x:=⟨h1,by k_is,none,h2,rfl⟩
theorem jlJ:∀ i,i<7->BF P 388 (jpf i)
 | 0,_=>jda (x := "fun_names") (by k_is) (by k_is)
 | 1,_=>jda (x := "fun_args") (by k_is) (by k_is)
 | 2,_=>jda (x := "fun_results") (by k_is) (by k_is)
 | 3,_=>jda (x := "term_ops") (by k_is) (by k_is)
 | 4,_=>jda (x := "term_args") (by k_is) (by k_is)
 | 5,_=>jda (x := "term_sorts") (by k_is) (by k_is)
 | 6,_=>jda (x := "term_datas") (by k_is) (by k_is)
 | n+7,h=>absurd h (Nat.not_lt.mpr (Jc7 7 n))
end
theorem bap {i:Nat} {e:Expr} {v:Value} {tl:List DictEntry} {env:Env} {p1 p2 p3 p5 p6:Pos} {rest:List Stmt} {QF:Flow->Shared->Prop} (hi7:i<7) (F:FrE env L α.self m) (X:(kk.heap_1 w.params).In b₀) (W:Fx b₀ h L m (pre++jax w.params 388 α σ tl))
  (hne:nst e=true) (hv:∀ {Q':Value->Shared->Prop} {tk},(∀ tk',Q' v ⟨h,gs,dr,tk',os⟩)->wpAny (model prg w) A (eval e env) Q' E ⟨h,gs,dr,tk,os⟩) (hb:(σ.lv i).size<=16777216)
  (k:∀ h' tk',Fx b₀ h' L m (pre++jax w.params 388 α (σ.up i v) tl)->wpAny (model prg w) A (execs rest env) QF E ⟨h',gs,dr,tk',os⟩) (hpl:(p3.endLine == p5.line)=true) :
  wpAny (model prg w) A (execs (.Expr (.Call (.Attribute (.Attribute (.Name "self" p1) (jpf i) p2) "append" p3) [e] [] p5) p6::rest) env) QF E ⟨h,gs,dr,tk,os⟩ :=
 apX F W X (Ja6 _ (.head _)) (Ja6 _ (.tail _ (.head _))) (jlJ i hi7) (jia i hi7) hne hv (joa i hi7) hb k hpl
theorem jpI {P:Params} {C:Addr} {tl es es':List DictEntry} {n':Nat} (e:σ.nuV=es):Pt α.nu (dictOf es (σ.k 7)) (dictOf es' n') (pre++jax P C α σ tl) (pre++jax P C α { σ with nuV:=es',k:=λ i=>if i=7 then n' else σ.k i } tl):=by
 subst e
 exact .app (.tail (.tail (.tail (.tail (.tail (.tail (.tail (.tail (.tail .head)))))))))
theorem jkc {tl:List DictEntry} {t:Tm} {to ts td tn:Tok} {a key:Addr} {xs:List (KT×Addr×Value)} {env:Env} {QF:Flow->Shared->Prop} {p1 p2 p3 p4 p5 p6 p7 p8 p9 q1 q2 q3 q4 q5 q6 q7 q8 q9 r1 r2 r3 r4 r5 r6 r7 r8 r9 s1 s2 s3:Pos} (X:(kk.heap_1 w.params).In b₀) (hu:A.units+2<cLine) (F:FrE env L α.self m)
  (W:Fx b₀ h L m (((key,ja1 [.str t.op.str to,.ref a,.int 0 ts,.int t.data td])::pre)++jax w.params 388 α σ tl)) (O:Ok prg w σ B) (hb:B.length<=16000000) (ha:IsArgs σ.tups a t.args)
  (m1:m "op" = some (.str t.op.str to)) (m2:m "args" = some (.ref a)) (m3:m "sort" = some (.int 0 ts)) (m4:m "data" = some (.int t.data td)) (m5:m "key" = some (.ref key)) (m6:m "found" = some (.int (B.length:Nat) tn))
  (k1:env.kindOf "op" = some .local) (k2:env.kindOf "args" = some .local) (k3:env.kindOf "sort" = some .local) (k4:env.kindOf "data" = some .local) (k5:env.kindOf "key" = some .local) (k6:env.kindOf "found" = some .local)
  (l1:(p3.endLine == p5.line)=true) (l2:(q3.endLine == q5.line)=true) (l3:(r3.endLine == r5.line)=true) (l4:(s3.endLine == p8.line)=true)
  (e1:σ.nuV=xs.map (entryOfKey (jbe prg w))) (hnd:(xs.map (·.1)).Nodup) (hlen:xs.length+1=B.length) (h4:∀ x∈xs,∃ t':Tm,x.1=t'.key/\IsKey σ.tups t' x.2.1)
  (k:∀ h' tk' n',Fx b₀ h' L m (((key,ja1 [.str t.op.str to,.ref a,.int 0 ts,.int t.data td])::pre)++jax w.params 388 α { ((((σ.up 3 (.str t.op.str to)).up 4 (.ref a)).up 5 (.int 0 ts)).up 6 (.int t.data td)) with nuV:=(storedH xs t.key key (.int (B.length:Nat) tn)).map (entryOfKey (jbe prg w)),k:=λ i=>if i=7 then n' else ((((σ.up 3 (.str t.op.str to)).up 4 (.ref a)).up 5 (.int 0 ts)).up 6 (.int t.data td)).k i } tl)->QF .next ⟨h',gs,dr,tk',os⟩) :
  wpAny (model prg w) A (execs [.Expr (.Call (.Attribute (.Attribute (.Name "self" p1) "term_ops" p2) "append" p3) [.Name "op" p4] [] p5) p6,
   .Expr (.Call (.Attribute (.Attribute (.Name "self" q1) "term_args" q2) "append" q3) [.Name "args" q4] [] q5) q6,
   .Expr (.Call (.Attribute (.Attribute (.Name "self" r1) "term_sorts" r2) "append" r3) [.Name "sort" r4] [] r5) r6,
   .Expr (.Call (.Attribute (.Attribute (.Name "self" s1) "term_datas" s2) "append" s3) [.Name "data" p7] [] p8) p9,
   .Assign [.Subscript (.Attribute (.Name "self" q7) "numbers" q8) (.Name "key" q9) r7] (.Name "found" r8) r9] env) QF E ⟨h,gs,dr,tk,os⟩:=by
 have h16:∀ {n:Nat},n=B.length->n<=16777216:=λ e=>e▸Ja0 hb (by decide)
 refine bap (i:=3) (by decide) F X W rfl (λ k=>nmX F W m1 k1 (by decide) (k _)) (h16 O.nop) (λ h tk W=>?_) l1
 refine bap (i:=4) (by decide) F X W rfl (λ k=>nmX F W m2 k2 (by decide) (k _)) (h16 O.nar) (λ h tk W=>?_) l2
 refine bap (i:=5) (by decide) F X W rfl (λ k=>nmX F W m3 k3 (by decide) (k _)) (h16 O.nso) (λ h tk W=>?_) l3
 refine bap (i:=6) (by decide) F X W rfl (λ k=>nmX F W m4 k4 (by decide) (k _)) (h16 O.nda) (λ h tk W=>?_) l4
 generalize hσ:(((σ.up 3 (.str t.op.str to)).up 4 (.ref a)).up 5 (.int 0 ts)).up 6 (.int t.data td)=σ2 at W k
 have ht:σ2.tups=σ.tups:=hσ▸rfl
 have hn:σ2.nuV=xs.map (entryOfKey (jbe prg w)):=hσ▸e1
 refine wpAny_execs_cons ?_
 refine wpAny_Assign_Subscript ?_ rfl
 refine nmX F W m6 k6 (by decide) ?_
 refine sgX F W X (Ja6 _ (.head _)) (Ja6 _ (.tail _ (.head _))) (jda (by k_is) (by k_is)) jh9 rfl λ U=>?_
 refine nmX F W m5 k5 (by decide) ?_
 have hin:∀ p∈σ.tups,p∈(((key,ja1 [.str t.op.str to,.ref a,.int 0 ts,.int t.data td])::pre)++jax w.params 388 α σ2 tl):=λ p hp=>jg1 (ht▸hp)
 refine jof hu W (λ U=>jpI hn) (λ x hx=>jam (h4 x hx) λ t' e hk=>e▸hk.key W.C hin) hnd (IsKey.key (tups:=(key,_)::σ.tups) (k:=t) ⟨to,a,ts,td,.head _,ha.mono λ p hp=>.tail _ hp⟩ W.C λ p hp=>(Ja3.mp hp).elim (λ e=>e▸.head _) (hin p)) (Ja0 (Nat.le_succ _) (h16 hlen)) λ h n tk W=>?_
 exact wpAny_execs_nil (k _ _ _ W)
theorem jk8 {tl:List DictEntry} {t:Tm} {to ts td:Tok} {a:Addr} (G:Bs w b₀ mean mg mb) (r:Rm A 2) (W:Fx b₀ h L m (pre++jax w.params 388 α σ tl)) (O:Ok prg w σ B) (hop:t.op≠.nil) (ha:IsArgs σ.tups a t.args) (hb:B.length<=16000000)
  (k:∀ h' tk' σ' tn,Ok prg w σ' (mk B t).2->(σ'.fnV=σ.fnV/\σ'.faV=σ.faV/\σ'.frV=σ.frV)->(∀ p∈σ.tups,p∈σ'.tups)->Fx b₀ h' L m (pre++jax w.params 388 α σ' tl)->Q (.int (mk B t).1 tn) ⟨h',gs,dr,tk',os⟩) :
  wpAny (model prg w) A (call (.ref 217) [.ref α.self,.str t.op.str to,.ref a,.int 0 ts,.int t.data td]) Q E ⟨h,gs,dr,tk,os⟩:=by
 refine' jhd (args:=⟨_,_⟩) G.X G.T.nolimit W (by k_is) (by k_is) r.room (by exact BindsTo.of_eq rfl) (by simp only [Ja8,List.map_nil,List.zip_cons_cons,List.zip_nil_right]; exact rfl) (by exact locs rfl) ?_ (by rfl) (by rfl) (by rfl) (by decide)
 intro oL L' h₁ tk₁ W env A'
 have F:=FrE.of (env:=env) (a:=α.self) W rfl rfl rfl rfl rfl
 refine jjX λ P bk=>?_
 refine jde λ P1 po1=>?_
 refine wpAny_Assign_Name ?_
 refine Tuple_ ?_
 refine spliced_more ?_
 refine nmX F W rfl rfl (by decide) ?_
 refine spliced_more ?_
 refine nmX F W rfl rfl (by decide) ?_
 refine spliced_more ?_
 refine nmX F W rfl rfl (by decide) ?_
 refine spliced_more ?_
 refine nmX F W rfl rfl (by decide) ?_
 refine spliced_none ?_
 refine jkC W λ key h₂ W=>?_
 refine rSt W (λ h₃ tk₃ W=>po1.n _ ?_) rfl rfl rfl
 clear po1
 have F:=F.up (x := "key") (v:=.ref key) rfl
 refine jde λ P1 po1=>?_
 refine wpAny_Assign_Name ?_
 refine MethodCall_ ?_
 have hi:(α.self,instObj 388 α.d)∈((key,ja1 [.str t.op.str to,.ref a,.int 0 ts,.int t.data td])::(L,oL)::pre)++jax w.params 388 α σ tl:=Ja6 _ (.head _)
 have hd:(α.d,dictOf (jbk w.params α tl) α.n)∈((key,ja1 [.str t.op.str to,.ref a,.int 0 ts,.int t.data td])::(L,oL)::pre)++jax w.params 388 α σ tl:=Ja6 _ (.tail _ (.head _))
 refine sgX F W G.X hi hd (jda (by k_is) (by k_is)) jh9 rfl λ tk₄=>?_
 have hnu:(α.nu,dictOf σ.nuV (σ.k 7))∈((key,ja1 [.str t.op.str to,.ref a,.int 0 ts,.int t.data td])::(L,oL)::pre)++jax w.params 388 α σ tl:=Ja6 _ (.tail _ (.tail _ (.tail _ (.tail _ (.tail _ (.tail _ (.tail _ (.tail _ (.tail _ (.head _))))))))))
 refine jgR W hnu ?_
 refine callWith_method1 ?_
 refine spliced_more ?_
 refine nmX F W rfl rfl (by decide) ?_
 refine spliced_more ?_
 refine jfq λ tz tk₅=>?_
 refine spliced_none ?_
 have hin:∀ p∈σ.tups,p∈((key,ja1 [.str t.op.str to,.ref a,.int 0 ts,.int t.data td])::(L,oL)::pre)++jax w.params 388 α σ tl:=λ p hp=>jg1 hp
 refine jqD (O.keys W.C hin) λ xs e1 hks hnd hlen h2 h3 h4=>?_
 have hu:A'.units+2<cLine:=Jb1 (Jb3 (by decide:5<=16) A.units) r.un
 rw [e1] at hnu
 refine jle hu G.T.nolimit W hnu hks hnd (IsKey.key (tups:=(key,_)::σ.tups) (k:=t) ⟨to,a,ts,td,.head _,ha.mono λ p hp=>.tail _ hp⟩ W.C λ p hp=>(Ja3.mp hp).elim (λ e=>e▸.head _) (hin p)) λ tk₆=>?_
 by_cases ht:t∈B
 ·refine jdI (O.idx ht hop) λ j hj hidx hB=>?_
  obtain ⟨tn,he⟩:=jgk h2 hnd h3 hj
  refine rwr he ?_
  refine rwr Option.getD_some ?_
  refine rSt W (λ h₃ tk₃ W=>po1.n _ ?_) rfl rfl rfl
  clear po1
  have F:=F.up (x := "found") (v:=.int ((j:Int)+1) tn) rfl
  refine jde λ P1 po1=>?_
  refine wpAny_If ?_
  refine wpAny_isTrue_Compare1 ?_
  refine nmX F W rfl rfl (by decide) ?_
  refine jfq λ U U=>?_
  refine eq_int ?_
  refine wpAny_truthy_bool ?_
  rw [if_neg (by simp only [beq_iff_eq]; lia)]
  refine wpAny_execs_nil (po1.n _ ?_)
  refine wpAny_execs_cons ?_
  refine wpAny_Return_some ?_
  refine nmX F W rfl rfl (by decide) (bk.g _ _ ?_)
  refine jjF [_] W λ W=>?_
  rw [show mk B t=(B.idxOf t,B) from if_pos ht,hidx] at k
  exact k _ _ σ tn O ⟨rfl,rfl,rfl⟩ (λ U hp=>hp) W
 ·rw [jc9 h2 λ h=>ht (List.mem_of_mem_tail h),Option.map_none]
  refine rwr Option.getD_none ?_
  refine rSt W (λ h₃ tk₃ W=>po1.n _ ?_) rfl rfl rfl
  clear po1
  have F:=F.up (x := "found") (v:=.int 0 tz) rfl
  refine jde λ P1 po1=>?_
  refine wpAny_If ?_
  refine wpAny_isTrue_Compare1 ?_
  refine nmX F W rfl rfl (by decide) ?_
  refine jfq λ U U=>?_
  refine eq_int ?_
  refine wpAny_truthy_bool ?_
  rw [if_pos (by decide)]
  refine jde λ P2 po2=>?_
  refine wpAny_Assign_Name ?_
  refine Call_ ?_
  refine jhz W G.X G.T (by k_is) (by boot_by_name) (by decide) ?_ rfl rfl
  refine PyProof.Rows.callWith_builtin1 ?_
  refine spliced_more ?_
  refine sgX F W G.X hi hd (jlJ 3 (by decide)) (jia 3 (by decide)) rfl λ U=>?_
  refine spliced_none ?_
  have hop':(α.li 3,listOf σ.opV (σ.k 3))∈((key,ja1 [.str t.op.str to,.ref a,.int 0 ts,.int t.data td])::(L,oL)::pre)++jax w.params 388 α σ tl:=(joa (v:=.none) 3 (by decide)).mem
  refine jhA W hop' (Jb1 (Ja0 (Jb7 O.nop) hb) (by decide)) λ tn tk₇=>?_
  have hsz:σ.opV.size=B.length:=O.nop
  refine rwr hsz ?_
  refine rSt W (λ h₃ tk₃ W=>po2.n _ ?_) rfl rfl rfl
  clear po2
  have F:=F.up (x := "found") (v:=.int (B.length:Nat) tn) rfl
  refine jkc (pre:=(L,oL)::pre) G.X hu F W O hb ha rfl rfl rfl rfl rfl rfl rfl rfl rfl rfl rfl rfl rfl rfl rfl rfl e1 hnd hlen h4 λ h₈ tk₈ n₈ W₈=>po1.n _ ?_
  refine wpAny_execs_cons ?_
  refine wpAny_Return_some ?_
  refine nmX F W₈ rfl rfl (by decide) (bk.g _ _ ?_)
  rw [show mk B t=(B.length,B++[t]) from if_neg ht] at k
  let σ':BC:={ ((((σ.up 3 (.str t.op.str to)).up 4 (.ref a)).up 5 (.int 0 ts)).up 6 (.int t.data td)) with nuV:=(storedH xs t.key key (.int (B.length:Nat) tn)).map (entryOfKey (jbe prg w)),k:=λ i=>if i=7 then n₈ else ((((σ.up 3 (.str t.op.str to)).up 4 (.ref a)).up 5 (.int 0 ts)).up 6 (.int t.data td)).k i,tups:=(key,ja1 [.str t.op.str to,.ref a,.int 0 ts,.int t.data td])::σ.tups }
  have W₉:Fx b₀ h₈ L' _ ((L,oL)::(pre++jax w.params 388 α σ' tl)):=W₈.perm (jce ((L,oL)::pre) [_,_,_,_,_,_,_,_,_,_] σ.tups _)
  refine jg7 W₉ λ W=>k _ _ σ' tn (O.push ht hop rfl rfl rfl rfl (λ p hp=>.tail _ hp) (ha.mono λ p hp=>.tail _ hp) ⟨to,a,ts,td,.head _,ha.mono λ p hp=>.tail _ hp⟩ e1 hlen h2 h3 h4 rfl) ⟨rfl,rfl,rfl⟩ (λ U hp=>.tail _ hp) W
theorem jis {t:Tm} {to ts td:Tok} {a:Addr} (G:Bs w b₀ mean mg mb) (r:Rm A 2) (W:Fx b₀ h L m (pre++jak w.params 388 α σ)) (O:Ok prg w σ B) (hop:t.op≠.nil) (ha:IsArgs σ.tups a t.args) (hb:B.length<=16000000)
  (k:∀ h' tk' σ' tn,Ok prg w σ' (mk B t).2->(σ'.fnV=σ.fnV/\σ'.faV=σ.faV/\σ'.frV=σ.frV)->(∀ p∈σ.tups,p∈σ'.tups)->Fx b₀ h' L m (pre++jak w.params 388 α σ')->Q (.int (mk B t).1 tn) ⟨h',gs,dr,tk',os⟩) :
  wpAny (model prg w) A (call (.ref 217) [.ref α.self,.str t.op.str to,.ref a,.int 0 ts,.int t.data td]) Q E ⟨h,gs,dr,tk,os⟩ :=
 jk8 (tl:=[ent w.params "true_number" (α.t 12) (.int 1 (α.t 13)),ent w.params "false_number" (α.t 14) (.int 2 (α.t 15))]) G r W O hop ha hb k
end
end
section
section
variable {w:World} {A:Around} {E:Value->Shared->Prop} {gs:Array GenState} {dr:Drawn} {os:OsState} {tk:Tok}
 {b₀ h:Heap} {L:Addr} {m mg mb:Str->Option Value} {mean:ExcName->Option Value} {pre:List (Addr×Obj)} {α:BA} {σ:BC} {B:List Tm} {Q:Value->Shared->Prop}
noncomputable def jhw (B:List Tm) (t:Tm):Nat:=if t∈B then B.idxOf t else 0
set_option tactic.hygienic true in
theorem jfP {t:Tm} {to ts td:Tok} {a:Addr} {vs:List Value} (G:Bs w b₀ mean mg mb) (r:Rm A 2) (W:Fx b₀ h L m (pre++jak w.params 388 α σ)) (O:Ok prg w σ B) (hop:t.op≠.nil)
  (hm:(a,ja1 vs)∈pre++jak w.params 388 α σ) (hi:IntsAre vs (t.args.map λ n:Nat=>(n:Int))) (hb:B.length<=16000000)
  (k:∀ h' tk' tn,Fx b₀ h' L m (pre++jak w.params 388 α σ)->Q (.int (jhw B t) tn) ⟨h',gs,dr,tk',os⟩) :
  wpAny (model prg w) A (call (.ref 224) [.ref α.self,.str t.op.str to,.ref a,.int 0 ts,.int t.data td]) Q E ⟨h,gs,dr,tk,os⟩:=by
 refine' jhd (args:=⟨_,_⟩) G.X G.T.nolimit W (by k_is) (by k_is) r.room (by exact BindsTo.of_eq rfl) (by simp only [Ja8,List.map_nil,List.zip_cons_cons,List.zip_nil_right]; exact rfl) (by exact locs rfl) ?_ (by rfl) (by rfl) (by rfl) (by decide)
 intro oL L' h₁ tk₁ W env A'
 (refine wpAny_execs_cons ?_; refine wpAny_Return_some ?_; dsimp only [Ja4,Ja5]; refine MethodCall_ ?_; refine Attribute_Name_ ?_; refine jfr ‹_› (by rfl) ?_ (by rfl); refine joQ ‹_› (Bs.X ‹_›) (by walk_at "v_mem") (by walk_at "v_mem") (by k_is) (by k_is) (by k_is) (by k_is) (by k_get) (by k_handed) ?_; intro _)
 refine jgR ‹_› (by walk_at "v_mem") ?_
 (refine callWith_method1 ?_; dsimp only [Ja4,Ja5]; refine spliced_more ?_; refine Tuple_ ?_; refine spliced_more ?_; refine jfr ‹_› (by rfl) ?_ (by rfl); refine spliced_more ?_; refine jfr ‹_› (by rfl) ?_ (by rfl); refine spliced_more ?_; refine jfr ‹_› (by rfl) ?_ (by rfl); refine spliced_more ?_; refine jfr ‹_› (by rfl) ?_ (by rfl); refine spliced_none ?_; refine jkC ‹_› ?_; intro _ _ _; refine spliced_more ?_; refine jfq ?_; intro _ _; refine spliced_none ?_)
 rename Fx _ _ _ _ _=>W
 rename_i tk₃ key h₂ tz tk₄
 refine jqD (O.keys W.C (λ p hp=>List.Mem.tail _ (List.Mem.tail _ (jm6 hp)))) λ xs e1 hks hnd hlen h2 h3 h4=>?_
 have hmK:(key,ja1 [.str t.op.str to,.ref a,.int 0 ts,.int t.data td])∈(key,ja1 [.str t.op.str to,.ref a,.int 0 ts,.int t.data td])::(L,oL)::(pre++jak w.params 388 α σ):=.head _
 have hnu:(α.nu,dictOf (xs.map (entryOfKey (jbe prg w))) (σ.k 7))∈jak w.params 388 α σ:=by refine rwl e1 ?_; walk_at "v_mem"
 refine jle (by have:=r.un; show A.units+3+2<9900; lia) G.T.nolimit W (List.Mem.tail _ (List.Mem.tail _ (Ja6 _ hnu))) hks hnd (IsKey.key (k:=t) ⟨to,a,ts,td,hmK,vs,.tail _ (.tail _ hm),hi⟩ W.C λ p hp=>hp) ?_
 intro tk₆
 unfold jhw at k
 by_cases ht:t∈B
 ·refine jdI (O.idx ht hop) λ j hj hidx hB=>?_
  obtain ⟨tn,he⟩:=jgk h2 hnd h3 hj
  refine rwr he ?_
  refine rwr Option.getD_some ?_
  skip
  rw [if_pos ht,hidx] at k
  exact jjF [_] W λ W=>k _ _ _ W
 ·rw [(jc9 h2 λ h=>ht (List.mem_of_mem_tail h)),Option.map_none,Option.getD_none]
  skip
  rw [if_neg ht] at k
  exact jjF [_] W λ W=>k _ _ _ W
end
end
section
section
variable {w:World} {A:Around} {E:Value->Shared->Prop} {gs:Array GenState} {dr:Drawn} {os:OsState} {tk:Tok}
 {b₀ h:Heap} {L:Addr} {m mg mb:Str->Option Value} {mean:ExcName->Option Value} {pre:List (Addr×Obj)} {α:BA} {σ:BC} {B:List Tm} {Q:Value->Shared->Prop}
theorem jpG {β:Type} (f:Nat->β):List.Perm [f 10,f 11,f 8,f 7,f 6,f 5,f 3,f 2,f 1,f 0,f 4,f 9] [f 0,f 1,f 2,f 3,f 4,f 5,f 6,f 7,f 8,f 9,f 10,f 11] :=
 List.Perm.map f (by decide:List.Perm [10,11,8,7,6,5,3,2,1,0,4,9] [0,1,2,3,4,5,6,7,8,9,10,11])
theorem jn7 {a b c d e f g i j k l n:Addr×Obj} (led:List (Addr×Obj)):List.Perm (k::(led++[l,n,j,i,g,f,d,c,b,a,e])) (a::b::c::d::e::f::g::i::j::k::l::n::led):=by
 have h1:List.Perm (k::(led++[l,n,j,i,g,f,d,c,b,a,e])) ([l,n,j,i,g,f,d,c,b,a,e]++(k::led)):=by
  refine rwl Ja4 ?_; exact List.perm_append_comm
 have h2:List.Perm ([l,n,j,i,g,f,d,c,b,a,e,k]++led) ([a,b,c,d,e,f,g,i,j,k,l,n]++led):=List.Perm.append_right led
  (jpG λ x=>([a,b,c,d,e,f,g,i,j,k,l,n]:List (Addr×Obj)).getD x n)
 exact h1.trans h2
theorem jn5 {σ:BC} {ta:Addr} {t1 t2 t3:Tok} (h1:σ.opV=#[.str (Str.ofString "") t1]) (h2:σ.arV=#[.ref ta]) (h3:σ.soV=#[.int 0 t2]) (h4:σ.daV=#[.int 0 t3]) (h5:(ta,ja1 [])∈σ.tups) (h6:σ.nuV=[]) :
  Ok prg w σ [⟨.nil,[],0⟩]:=by
 refine ⟨by refine rwr h1 ?_; rfl,by refine rwr h2 ?_; rfl,by refine rwr h3 ?_; rfl,by refine rwr h4 ?_; rfl,?_,?_,?_,rfl,(λ U h=>nomatch h),List.nodup_nil,[],h6,rfl,(λ j x h=>by simp at h),λ U h=>(absurd h Jb2)⟩
 ·intro i t h
  rcases i with _ | i
  ·obtain rfl:_=t:=by simpa using h
   exact ⟨t1,by refine rwr h1 ?_; rfl⟩
  ·simp at h
 ·intro i t h
  rcases i with _ | i
  ·obtain rfl:_=t:=by simpa using h
   exact ⟨ta,by refine rwr h2 ?_; rfl,[],h5,.nil⟩
  ·simp at h
 ·intro i t h
  rcases i with _ | i
  ·obtain rfl:_=t:=by simpa using h
   exact ⟨t2,by refine rwr h3 ?_; rfl⟩
  ·simp at h
theorem jnq {P:Params} {L' x dx nu da so ar ta op fr fa fn sw sn:Addr} {osw osn oL:Obj} {t0 t1 t2 t3 t4 t5 t6 t7 t8 t9 t10 t11 ud us uo:Tok}
  (W:Fx b₀ h L m ((nu,dictOf [] 0)::(da,listOf #[.int 0 ud] 0)::(so,listOf #[.int 0 us] 0)::(ar,listOf #[.ref ta] 0)::(ta,ja1 [])::(op,listOf #[.str (Str.ofString "") uo] 0)::(fr,listOf #[] 0)::(fa,listOf #[] 0)::(fn,listOf #[] 0)::(sw,osw)::(sn,osn) ::
   (L',oL)::(x,instObj 388 dx)::(dx,dictOf [ent P "sort_names" t0 (.ref sn),ent P "sort_widths" t1 (.ref sw),ent P "fun_names" t2 (.ref fn),ent P "fun_args" t3 (.ref fa),ent P "fun_results" t4 (.ref fr),ent P "fresh_count" t5 (.int 0 t6),ent P "term_ops" t7 (.ref op),ent P "term_args" t8 (.ref ar),ent P "term_sorts" t9 (.ref so),ent P "term_datas" t10 (.ref da),ent P "numbers" t11 (.ref nu)] 11)::pre)) :
  ∃ (α:BA) (σ:BC),α.self=x/\Ok prg w σ [⟨.nil,[],0⟩]/\σ.fnV=#[]/\σ.faV=#[]/\σ.frV=#[]/\Fx b₀ h L m ((L',oL)::(pre++jax P 388 α σ [])):=by
 refine jqG ⟨x,dx,fn,fa,fr,op,ar,so,da,nu,sn,sw,λ i=>match i with | 0=>t0 | 1=>t1 | 2=>t2 | 3=>t3 | 4=>t4 | 5=>t5 | 6=>t6 | 7=>t7 | 8=>t8 | 9=>t9 | 10=>t10 | _=>t11,11⟩ ⟨#[],#[],#[],#[.str (Str.ofString "") uo],#[.ref ta],#[.int 0 us],#[.int 0 ud],[],λ U=>0,[(ta,ja1 [])]⟩ rfl (jn5 rfl rfl rfl rfl (.head _) rfl) rfl rfl rfl ?_
 have W2:=W.sub (led':=(nu,dictOf [] 0)::(da,listOf #[.int 0 ud] 0)::(so,listOf #[.int 0 us] 0)::(ar,listOf #[.ref ta] 0)::(ta,ja1 [])::(op,listOf #[.str (Str.ofString "") uo] 0)::(fr,listOf #[] 0)::(fa,listOf #[] 0)::(fn,listOf #[] 0) ::
   (L',oL)::(x,instObj 388 dx)::(dx,dictOf [ent P "sort_names" t0 (.ref sn),ent P "sort_widths" t1 (.ref sw),ent P "fun_names" t2 (.ref fn),ent P "fun_args" t3 (.ref fa),ent P "fun_results" t4 (.ref fr),ent P "fresh_count" t5 (.int 0 t6),ent P "term_ops" t7 (.ref op),ent P "term_args" t8 (.ref ar),ent P "term_sorts" t9 (.ref so),ent P "term_datas" t10 (.ref da),ent P "numbers" t11 (.ref nu)] 11)::pre)
   (.cons_cons _ (.cons_cons _ (.cons_cons _ (.cons_cons _ (.cons_cons _ (.cons_cons _ (.cons_cons _ (.cons_cons _ (.cons_cons _ (.cons _ (.cons _ (Jd0 _))))))))))))
 exact W2.perm (jn7 pre)
theorem jpJ {P:Params} {α:BA} {n:Nat} {H:Int} {K v:Value}:(putL "true_number" H K v (jbk P α []),putN "true_number" (jbk P α []) n)=(jbk P α [⟨H,K,v⟩],n+1):=by kernel_rfl
theorem jpK {P:Params} {α:BA} {n:Nat} {H:Int} {K v:Value} {t:Tok} {v':Value}:(putL "false_number" H K v (jbk P α [ent P "true_number" t v']),putN "false_number" (jbk P α [ent P "true_number" t v']) n)=(jbk P α [ent P "true_number" t v',⟨H,K,v⟩],n+1):=by kernel_rfl
theorem mkc {env:Env} {tl:List DictEntry} {y:Str} {p1 p2 p3 p4 p5 p6 p7:Pos} {k1 k2 k3:Nat} (F:FrE env L α.self m) (G:Bs w b₀ mean mg mb) (r:Rm A 2) (W:Fx b₀ h L m (pre++jax w.params 388 α σ tl)) (O:Ok prg w σ B) {o:Op} (hy:o.str=y) (ho:o≠.nil) (hb:B.length<=16000000) (hl:getL "make" (jbk w.params α tl)=some none) (hG:env.globals=mainGlobals) (hx:env.kindOf "BOOL" = some .globalImplicit) (hpl:(p2.endLine == p7.line)=true)
  (k:∀ h' tk' σ' tn,Ok prg w σ' (mk B ⟨o,[],0⟩).2->(σ'.fnV=σ.fnV/\σ'.faV=σ.faV/\σ'.frV=σ.frV)->Fx b₀ h' L m (pre++jax w.params 388 α σ' tl)->Q (.int (mk B ⟨o,[],0⟩).1 tn) ⟨h',gs,dr,tk',os⟩) :
  wpAny (model prg w) A (eval (.Call (.Attribute (.Name "self" p1) "make" p2) [.Constant (.str y) k1 p3,.Tuple [] k2 p4,.Name "BOOL" p5,.Constant (.int 0) k3 p6] [] p7) env) Q E ⟨h,gs,dr,tk,os⟩:=by
 subst hy
 refine jbh (jfR (o:=.Name "self" p1) (m := "make") (args:=[.Constant (.str o.str) k1 p3,.Tuple [] k2 p4,.Name "BOOL" p5,.Constant (.int 0) k3 p6]) (env:=env) rfl rfl (show 4<30 by decide) hpl) λ pl he=>?_
 refine MethodCall_ ?_ he
 refine nmX F W F.v F.s (by decide) ?_
 refine jf3 W G.X (Ja6 _ (.head _)) (Ja6 _ (.tail _ (.head _))) (by k_is) (by k_is) (by k_is) hl ?_
 refine callWith_K (Frag.In.keeps G.X W.C.stays) (by k_is) ?_
 refine spliced_more ?_
 refine jlg λ U U=>?_
 refine spliced_more ?_
 refine Tuple_ ?_
 refine spliced_none ?_
 refine jkC W λ t h W=>?_
 refine spliced_more ?_
 refine jf1 W G.X G.T (by k_is) ?_ hG F.k hx (by decide)
 refine spliced_more ?_
 refine jfq λ U U=>?_
 refine spliced_none ⟨Frag.In.keeps G.X W.C.stays,?_⟩
 exact jk8 (σ:=σ.add (t,ja1 [])) (t:=⟨o,[],0⟩) G r (W.perm (jce pre [_,_,_,_,_,_,_,_,_,_] σ.tups _)) (O.add _) ho ⟨[],.head _,.nil⟩ hb λ h tk σ' tn O' e U W=>k h tk σ' tn O' e W
theorem jfI {x dx:Addr} {R:Result->Shared->Prop} (G:Bs w b₀ mean mg mb) (r:Rm A 5) (W:Fx b₀ h L m ((x,instObj 388 dx)::(dx,dictOf [] 0)::pre))
  (k:∀ h' tk' α σ,α.self=x->Ok prg w σ B3->σ.fnV=#[]->σ.faV=#[]->σ.frV=#[]->Fx b₀ h' L m (pre++jak w.params 388 α σ)->R (.ok (.ret .none)) ⟨h',gs,dr,tk',os⟩) :
  codeAny (model prg w) A (.call (.ref 84) ⟨[.ref x],[]⟩) R ⟨h,gs,dr,tk,os⟩:=by
 refine' jk0 (args:=⟨_,_⟩) G.X G.T.nolimit W (by k_is) (by k_is) r.room (by exact BindsTo.of_eq rfl) (by simp only [Ja8,List.map_nil,List.zip_cons_cons,List.zip_nil_right]; exact rfl) (by exact locs rfl) ?_ (by rfl) (by rfl) (by rfl) (by decide)
 intro oL L' h₁ tk₁ W env A'
 have F:=FrE.of (env:=env) (a:=x) W rfl rfl rfl rfl rfl
 refine jjX λ P bk=>?_
 refine saX (ι:=Addr×Obj) (news:=[]) (nw:=λ i=>[(i.1,i.2)]) (val:=λ i=>.ref i.1) F G.X (jpo W) (by with_unfolding_all rfl) (by k_is) (by k_is) (by k_is) (by k_is) (by kernel_rfl) (λ U U U=>by kernel_rfl) (Jc3 rfl) λ sn h tk W=>?_
 refine saX (ι:=Addr×Obj) (nw:=λ i=>[(i.1,i.2)]) (val:=λ i=>.ref i.1) F G.X (jpm W) (by with_unfolding_all rfl) (by k_is) (by k_is) (by k_is) (by k_is) (by kernel_rfl) (λ U U U=>by kernel_rfl) (Jc3 rfl) λ sw h tk W=>?_
 refine saX (ι:=Addr) (nw:=λ i=>[(i,listOf #[] 0)]) (val:=.ref) F G.X (jie W) (by with_unfolding_all rfl) (by k_is) (by k_is) (by k_is) (by k_is) (by kernel_rfl) (λ U U U=>by kernel_rfl) (Jc3 rfl) λ fn h tk W=>?_
 refine saX (ι:=Addr) (nw:=λ i=>[(i,listOf #[] 0)]) (val:=.ref) F G.X (jie W) (by with_unfolding_all rfl) (by k_is) (by k_is) (by k_is) (by k_is) (by kernel_rfl) (λ U U U=>by kernel_rfl) (Jc3 rfl) λ fa h tk W=>?_
 refine saX (ι:=Addr) (nw:=λ i=>[(i,listOf #[] 0)]) (val:=.ref) F G.X (jie W) (by with_unfolding_all rfl) (by k_is) (by k_is) (by k_is) (by k_is) (by kernel_rfl) (λ U U U=>by kernel_rfl) (Jc3 rfl) λ fr h tk W=>?_
 refine saX (ι:=Tok) (nw:=λ U=>[]) (val:=.int 0) F G.X (jqO W) (by with_unfolding_all rfl) (by k_is) (by k_is) (by k_is) (by k_is) (by kernel_rfl) (λ U U U=>by kernel_rfl) (Jc3 rfl) λ t6 h tk W=>?_
 refine saX (ι:=Addr×Tok) (nw:=λ i=>[(i.1,listOf #[.str (Str.ofString "") i.2] 0)]) (val:=λ i=>.ref i.1) F G.X (jpn W) (by with_unfolding_all rfl) (by k_is) (by k_is) (by k_is) (by k_is) (by kernel_rfl) (λ U U U=>by kernel_rfl) (Jc3 rfl) λ op h tk W=>?_
 refine saX (ι:=Addr×Addr) (nw:=λ i=>[(i.1,listOf #[.ref i.2] 0),(i.2,ja1 [])]) (val:=λ i=>.ref i.1) F G.X (jpp W) (by with_unfolding_all rfl) (by k_is) (by k_is) (by k_is) (by k_is) (by kernel_rfl) (λ U U U=>by kernel_rfl) (Jc3 rfl) λ ar h tk W=>?_
 refine saX (ι:=Addr×Tok) (nw:=λ i=>[(i.1,listOf #[.int 0 i.2] 0)]) (val:=λ i=>.ref i.1) F G.X (jpk W F G (by k_is) rfl rfl (by decide)) (by with_unfolding_all rfl) (by k_is) (by k_is) (by k_is) (by k_is) (by kernel_rfl) (λ U U U=>by kernel_rfl) (Jc3 rfl) λ so h tk W=>?_
 refine saX (ι:=Addr×Tok) (nw:=λ i=>[(i.1,listOf #[.int 0 i.2] 0)]) (val:=λ i=>.ref i.1) F G.X (jpl W) (by with_unfolding_all rfl) (by k_is) (by k_is) (by k_is) (by k_is) (by kernel_rfl) (λ U U U=>by kernel_rfl) (Jc3 rfl) λ da h tk W=>?_
 refine saX (ι:=Addr) (nw:=λ i=>[(i,dictOf [] 0)]) (val:=.ref) F G.X (jqj W) (by with_unfolding_all rfl) (by k_is) (by k_is) (by k_is) (by k_is) (by kernel_rfl) (λ U U U=>by kernel_rfl) (Jc3 rfl) λ nu h₂ tk W=>?_
 refine jqE (jnq (w:=w) W) λ α σ e_1 O z1 z2 z3 W=>?_
 subst e_1
 have r2:Rm A' 2:=r.deeper.le (by decide)
 have F:=FrE.of (env:=env) (a:=α.self) W rfl rfl rfl rfl rfl
 refine wpAny_execs_cons (plainObj_wpAny_Assign_Attribute (mkc (pre:=(L,oL)::pre) (o:=.tru) F G r2 W O rfl (by decide) (by decide) (by kernel_rfl) rfl rfl rfl λ h₅ tk₅ σ₅ tn₅ O₅ hh W=>?_) (by with_unfolding_all rfl))
 obtain ⟨y1,y2,y3⟩:=hh
 refine nmX F W rfl rfl (by decide) ?_
 refine jmM (C:=388) W G.X (.tail _ (Ja6 _ (.head _))) (.tail _ (Ja6 _ (.tail _ (.head _)))) (by k_is) (by k_is) (by k_is) (by k_is) (by kernel_rfl) jpJ (.tail (.app (.tail .head))) (Jc3 rfl) λ h₆ W=>?_
 have e₁:(mk [⟨.nil,[],0⟩] ⟨.tru,[],0⟩:Nat×List Tm)=(1,[⟨.nil,[],0⟩,⟨.tru,[],0⟩]):=by decide
 rw [e₁] at O₅ W
 let α₁:BA:={ α with n:=α.n+1,t:=λ i=>match i with | 12=>tk₅+1 | 13=>tn₅ | i=>α.t i }
 replace W:Fx b₀ h₆ L' _ ((L,oL)::(pre++jax w.params 388 α₁ σ₅ [ent w.params "true_number" (α₁.t 12) (.int 1 (α₁.t 13))])):=W
 refine wpAny_execs_cons (plainObj_wpAny_Assign_Attribute (mkc (α:=α₁) (pre:=(L,oL)::pre) (o:=.fls) (FrE.of (env:=env) (a:=α₁.self) W rfl rfl rfl rfl rfl) G r2 W O₅ rfl (by decide) (by decide) (by kernel_rfl) rfl rfl rfl λ h₇ tk₇ σ₇ tn₇ O₇ hh W=>?_) (by with_unfolding_all rfl))
 obtain ⟨x1,x2,x3⟩:=hh
 refine nmX F W rfl rfl (by decide) ?_
 refine jmM (C:=388) (x:=α₁.self) W G.X (.tail _ (Ja6 _ (.head _))) (.tail _ (Ja6 _ (.tail _ (.head _)))) (by k_is) (by k_is) (by k_is) (by k_is) (by kernel_rfl) jpK (.tail (.app (.tail .head))) (Jc3 rfl) λ h₈ W=>?_
 have e₂:(mk [⟨.nil,[],0⟩,⟨.tru,[],0⟩] ⟨.fls,[],0⟩:Nat×List Tm)=(2,B3):=by decide
 rw [e₂] at O₇ W
 let α₂:BA:={ α with n:=α.n+2,t:=λ i=>match i with | 12=>tk₅+1 | 13=>tn₅ | 14=>tk₇+1 | 15=>tn₇ | i=>α.t i }
 replace W:Fx b₀ h₈ L' _ ((L,oL)::(pre++jak w.params 388 α₂ σ₇)):=W
 refine wpAny_execs_nil ?_
 exact bk.g _ _ (jg7 W λ W=>k _ _ α₂ σ₇ rfl O₇ (x1.trans (y1.trans z1)) (x2.trans (y2.trans z2)) (x3.trans (y3.trans z3)) W)
theorem jou (G:Bs w b₀ mean mg mb) (r:Rm A 1) (W:Fx b₀ h L m (pre++jak w.params 388 α σ)) (k:∀ h' tk' tn,Fx b₀ h' L m (pre++jak w.params 388 α σ)->Q (.int 1 tn) ⟨h',gs,dr,tk',os⟩) :
  wpAny (model prg w) A (call (.ref 252) [.ref α.self]) Q E ⟨h,gs,dr,tk,os⟩:=by
 refine' jhd (args:=⟨_,_⟩) G.X G.T.nolimit W (by k_is) (by k_is) r.room (by exact BindsTo.of_eq rfl) (by simp only [Ja8,List.map_nil,List.zip_cons_cons,List.zip_nil_right]; exact rfl) (by exact locs rfl) ?_ (by rfl) (by rfl) (by rfl) (by decide)
 intro oL L' h₁ tk₁ W env A'
 refine jfN ?_
 refine wpAny_Return_some ?_
 exact sgX (v:=.int 1 (α.t 13)) (FrE.of (env:=env) (a:=α.self) W rfl rfl rfl rfl rfl) W G.X (.tail _ (Ja6 _ (.head _))) (.tail _ (Ja6 _ (.tail _ (.head _)))) (jda (by k_is) (by k_is)) (by kernel_rfl) rfl λ U=>jg7 W λ W=>k _ _ _ W
theorem jl0 (G:Bs w b₀ mean mg mb) (r:Rm A 1) (W:Fx b₀ h L m (pre++jak w.params 388 α σ)) (k:∀ h' tk' tn,Fx b₀ h' L m (pre++jak w.params 388 α σ)->Q (.int 2 tn) ⟨h',gs,dr,tk',os⟩) :
  wpAny (model prg w) A (call (.ref 259) [.ref α.self]) Q E ⟨h,gs,dr,tk,os⟩:=by
 refine' jhd (args:=⟨_,_⟩) G.X G.T.nolimit W (by k_is) (by k_is) r.room (by exact BindsTo.of_eq rfl) (by simp only [Ja8,List.map_nil,List.zip_cons_cons,List.zip_nil_right]; exact rfl) (by exact locs rfl) ?_ (by rfl) (by rfl) (by rfl) (by decide)
 intro oL L' h₁ tk₁ W env A'
 refine jfN ?_
 refine wpAny_Return_some ?_
 exact sgX (v:=.int 2 (α.t 15)) (FrE.of (env:=env) (a:=α.self) W rfl rfl rfl rfl rfl) W G.X (.tail _ (Ja6 _ (.head _))) (.tail _ (Ja6 _ (.tail _ (.head _)))) (jda (by k_is) (by k_is)) (by kernel_rfl) rfl λ U=>jg7 W λ W=>k _ _ _ W
theorem jhZ {x:Str} {tx ts:Tok} {ta:Addr} (G:Bs w b₀ mean mg mb) (r:Rm A 2) (W:Fx b₀ h L m (pre++jak w.params 388 α σ)) (hta:(ta,ja1 [])∈pre) (hs:σ.fnV.size<=100/\σ.faV.size<=100/\σ.frV.size<=100)
  (k:∀ h' tk' tn,Fx b₀ h' L m (pre++jak w.params 388 α { σ with fnV:=σ.fnV.push (.str x tx),faV:=σ.faV.push (.ref ta),frV:=σ.frV.push (.int 0 ts),k:=λ i=>if i<=2 then σ.k i+1 else σ.k i })->Q (.int σ.fnV.size tn) ⟨h',gs,dr,tk',os⟩) :
  wpAny (model prg w) A (call (.ref 126) [.ref α.self,.str x tx,.ref ta,.int 0 ts]) Q E ⟨h,gs,dr,tk,os⟩:=by
 refine' jhd (args:=⟨_,_⟩) G.X G.T.nolimit W (by k_is) (by k_is) r.room (by exact BindsTo.of_eq rfl) (by simp only [Ja8,List.map_nil,List.zip_cons_cons,List.zip_nil_right]; exact rfl) (by exact locs rfl) ?_ (by rfl) (by rfl) (by rfl) (by decide)
 intro oL L' h₁ tk₁ W env A'
 have F:=FrE.of (env:=env) (a:=α.self) W rfl rfl rfl rfl rfl
 refine jjX λ P bk=>?_
 have h16:∀ {n:Nat},n<=100->n<=16777216:=λ e=>Ja0 e (by decide)
 refine bap (pre:=(L,oL)::pre) (i:=0) (by decide) F G.X W rfl (λ k=>nmX F W rfl rfl (by decide) (k _)) (h16 hs.1) (λ h₄ tk₄ W=>?_) rfl
 refine bap (pre:=(L,oL)::pre) (i:=1) (v:=.ref ta) (by decide) F G.X W rfl (λ k=>Call_ (jhz W G.X G.T (by k_is) (by boot_by_name) (by decide) (PyProof.Rows.callWith_type1 (spliced_more (nmX F W rfl rfl (by decide) (spliced_none (call_tuple_tup (ja3 W.C (.tail _ (Ja7 _ hta))) (k _)))))) rfl rfl)) (h16 hs.2.1) (λ h₅ tk₅ W=>?_) rfl
 refine bap (pre:=(L,oL)::pre) (i:=2) (by decide) F G.X W rfl (λ k=>nmX F W rfl rfl (by decide) (k _)) (h16 hs.2.2) (λ h₆ tk₆ W=>?_) rfl
 refine jfN ?_
 refine wpAny_Return_some ?_
 refine wpAny_BinOp ?_
 refine Call_ ?_
 refine jhz W G.X G.T (by k_is) (by boot_by_name) (by decide) ?_ rfl rfl
 refine PyProof.Rows.callWith_builtin1 ?_
 refine spliced_more ?_
 refine sgX F W G.X (Ja6 _ (.head _)) (Ja6 _ (.tail _ (.head _))) (jlJ 0 (by decide)) (jia 0 (by decide)) rfl λ U=>?_
 refine spliced_none ?_
 refine jhA W (vs:=σ.fnV.push (.str x tx)) (Ja6 _ (.tail _ (.tail _ (.head _)))) (by rw [Array.size_push]; exact Jb1 (Jc1 hs.1) (by decide)) λ t₇ tk₇=>?_
 refine jfq λ U U=>?_
 refine PySem.P.sub_int ?_
 have e:(((σ.fnV.push (Value.str x tx)).size:Nat):Int) - 1=(σ.fnV.size:Nat):=by simp
 refine rwr e ?_
 exact bk.g _ _ (jg7 W λ W=>k _ _ _ W)
theorem Ok.fns {prog:Program} {σ':BC} (O:Ok prog w σ B) (h1:σ'.opV=σ.opV) (h2:σ'.arV=σ.arV) (h3:σ'.soV=σ.soV) (h4:σ'.daV=σ.daV) (h5:σ'.tups=σ.tups) (h6:σ'.nuV=σ.nuV):Ok prog w σ' B :=
 ⟨by refine rwr h1 ?_; exact O.nop,by refine rwr h2 ?_; exact O.nar,by refine rwr h3 ?_; exact O.nso,by refine rwr h4 ?_; exact O.nda,by refine rwr h1 ?_; exact O.op,by refine rwr h2 ?_; refine rwr h5 ?_; exact O.ar,by refine rwr h3 ?_; exact O.so,O.hd,O.tl,O.nd,by refine rwr h6 ?_; refine rwr h5 ?_; exact O.nu⟩
set_option tactic.hygienic true in
theorem jl5 {x:Str} {tx ts:Tok} (G:Bs w b₀ mean mg mb) (r:Rm A 4) (W:Fx b₀ h L m (pre++jak w.params 388 α σ)) (O:Ok prg w σ B) (hs:σ.fnV.size<=100/\σ.faV.size<=100/\σ.frV.size<=100) (hb:B.length<=16000000)
  (k:∀ h' tk' σ' tn,Ok prg w σ' (mk B ⟨.app,[],σ.fnV.size⟩).2->(∀ p∈σ.tups,p∈σ'.tups)->(σ'.fnV.size=σ.fnV.size+1/\σ'.faV.size=σ.faV.size+1/\σ'.frV.size=σ.frV.size+1)->Fx b₀ h' L m (pre++jak w.params 388 α σ')->Q (.int (mk B ⟨.app,[],σ.fnV.size⟩).1 tn) ⟨h',gs,dr,tk',os⟩) :
  wpAny (model prg w) A (call (.ref 140) [.ref α.self,.str x tx,.int 0 ts]) Q E ⟨h,gs,dr,tk,os⟩:=by
 refine' jhd (args:=⟨_,_⟩) G.X G.T.nolimit W (by k_is) (by k_is) r.room (by exact BindsTo.of_eq rfl) (by simp only [Ja8,List.map_nil,List.zip_cons_cons,List.zip_nil_right]; exact rfl) (by exact locs rfl) ?_ (by rfl) (by rfl) (by rfl) (by decide)
 intro oL L' h₁ tk₁ W env A'
 (refine wpAny_execs_cons ?_; refine wpAny_Return_some ?_; dsimp only [Ja4,Ja5]; refine MethodCall_ ?_; refine jfr ‹_› (by rfl) ?_ (by rfl); refine jf3 ‹_› (Bs.X ‹_›) (by walk_at "v_mem") (by walk_at "v_mem") (by k_is) (by k_is) (by k_is) (by k_get) ?_; dsimp only [Ja4,Ja5]; (first | refine callWith_K (Bs.X ‹_›) (by k_is) ?_ | refine callWith_K0 (Frag.In.keeps (Bs.X ‹_›) (Cx.stays (Fx.C ‹_›))) (by k_is) ?_); dsimp only [Ja4,Ja5]; refine spliced_more ?_; refine jlg ?_; intro _ _; refine spliced_more ?_; refine Tuple_ ?_; refine spliced_none ?_; refine jkC ‹_› ?_; intro _ _ _; refine spliced_more ?_; refine jfr ‹_› (by rfl) ?_ (by rfl); refine spliced_more ?_; refine MethodCall_ ?_; refine jfr ‹_› (by rfl) ?_ (by rfl); refine jf3 ‹_› (Bs.X ‹_›) (by walk_at "v_mem") (by walk_at "v_mem") (by k_is) (by k_is) (by k_is) (by k_get) ?_; dsimp only [Ja4,Ja5]; (first | refine callWith_K (Bs.X ‹_›) (by k_is) ?_ | refine callWith_K0 (Frag.In.keeps (Bs.X ‹_›) (Cx.stays (Fx.C ‹_›))) (by k_is) ?_); dsimp only [Ja4,Ja5]; refine spliced_more ?_; refine jfr ‹_› (by rfl) ?_ (by rfl); refine spliced_more ?_; refine Tuple_ ?_; refine spliced_none ?_; refine jkC ‹_› ?_; intro _ _ _; refine spliced_more ?_; refine jfr ‹_› (by rfl) ?_ (by rfl); refine spliced_none ?_; dsimp only [Ja4,Ja5]; refine ⟨Frag.In.keeps (Bs.X ‹_›) (Cx.stays (Fx.C ‹_›)),?_⟩)
 rename_i ta h₂ Wa tb h₃ W
 refine jhZ (pre:=(tb,ja1 [])::(ta,ja1 [])::(L,oL)::pre) G (r.deeper.le (by decide)) W (.head _) hs ?_
 intro h₄ tk₄ tn₄ W
 (refine spliced_none ?_; dsimp only [Ja4,Ja5]; refine ⟨Frag.In.keeps (Bs.X ‹_›) (Cx.stays (Fx.C ‹_›)),?_⟩)
 let σ₁:BC:={ σ with fnV:=σ.fnV.push (.str x tx),faV:=σ.faV.push (.ref tb),frV:=σ.frV.push (.int 0 ts),k:=λ i=>if i<=2 then σ.k i+1 else σ.k i }
 have O₁:Ok prg w σ₁ B:=O.fns rfl rfl rfl rfl rfl rfl
 replace W:Fx b₀ h₄ L' _ ((tb,ja1 [])::(ta,ja1 [])::((L,oL)::pre++jak w.params 388 α σ₁)):=W
 replace W:=W.sub (led':=(ta,ja1 [])::((L,oL)::pre++jak w.params 388 α σ₁)) (.cons _ (Jd0 _))
 refine jis (pre:=(L,oL)::pre) (t:=⟨.app,[],σ.fnV.size⟩) G (r.deeper.le (by decide)) (Fx.absorb W) (O₁.add _) (λ e=>nomatch e) ⟨[],.head _,.nil⟩ hb ?_
 intro h₅ tk₅ σ₅ tn₅ O₅ ⟨e1,e2,e3⟩ hsub₅ W
 refine jg7 W λ W=>k _ _ σ₅ tn₅ O₅ (λ p hp=>hsub₅ p (.tail _ hp)) ⟨?_,?_,?_⟩ W
 ·rw [e1]; exact Array.size_push _
 ·refine rwr e2 ?_; exact Array.size_push _
 ·refine rwr e3 ?_; exact Array.size_push _
theorem ji0 {x dx:Addr} {R:Result->Shared->Prop} (G:Bs w b₀ mean mg mb) (r:Rm A 5) (W:Fx b₀ h L m ((x,instObj 513 dx)::(dx,dictOf [] 0)::(pre++jak w.params 388 α σ))) (O:Ok prg w σ B)
  (k:∀ h' tk' ρ,ρ.self=x->Fx b₀ h' L m ((ρ.self,instObj 513 ρ.d)::(ρ.d,dictOf (jgX w.params α ρ) ρ.n)::(pre++jak w.params 388 α σ))->R (.ok (.ret .none)) ⟨h',gs,dr,tk',os⟩) :
  codeAny (model prg w) A (.call (.ref 404) ⟨[.ref x,.ref α.self],[]⟩) R ⟨h,gs,dr,tk,os⟩:=by
 refine' jk0 (args:=⟨_,_⟩) G.X G.T.nolimit W (by k_is) (by k_is) r.room (by exact BindsTo.of_eq rfl) (by simp only [Ja8,List.map_nil,List.zip_cons_cons,List.zip_nil_right]; exact rfl) (by exact locs rfl) ?_ (by rfl) (by rfl) (by rfl) (by decide)
 intro oL L' h₁ tk₁ W env A'
 have F:=FrE.of (env:=env) (a:=x) W rfl rfl rfl rfl rfl
 have r':Rm A' 1:=r.deeper.le (by decide)
 refine jjX λ P bk=>?_
 refine saX (ι:=Unit) (news:=[]) (nw:=λ U=>[]) (val:=λ U=>.ref α.self) F G.X (jqP W F rfl rfl (by decide)) (by with_unfolding_all rfl) (by k_is) (by k_is) (by k_is) (by k_is) (by kernel_rfl) (λ U U U=>by kernel_rfl) (Jc3 rfl) λ U h tk W=>?_
 refine saX (ι:=Tok) (news:=[]) (nw:=λ U=>[]) (val:=.int 1) F G.X (λ U k=>MethodCall_ (nmX F W rfl rfl (by decide) (jf3 W G.X (.tail _ (.tail _ (.tail _ (Ja6 _ (.head _))))) (.tail _ (.tail _ (.tail _ (Ja6 _ (.tail _ (.head _)))))) (by k_is) (by k_is) (by k_is) (by kernel_rfl) (callWith_K0 (Frag.In.keeps G.X W.C.stays) (by k_is) (jou (pre:=_::_::_::pre) G r' W λ U U t W=>k t _ _ W))))) (by with_unfolding_all rfl) (by k_is) (by k_is) (by k_is) (by k_is) (by kernel_rfl) (λ U U U=>by kernel_rfl) (Jc3 rfl) λ t2 h tk₅ W=>?_
 refine saX (ι:=Tok) (news:=[]) (nw:=λ U=>[]) (val:=.int 2) F G.X (λ U k=>MethodCall_ (nmX F W rfl rfl (by decide) (jf3 W G.X (.tail _ (.tail _ (.tail _ (Ja6 _ (.head _))))) (.tail _ (.tail _ (.tail _ (Ja6 _ (.tail _ (.head _)))))) (by k_is) (by k_is) (by k_is) (by kernel_rfl) (callWith_K0 (Frag.In.keeps G.X W.C.stays) (by k_is) (jl0 (pre:=_::_::_::pre) G r' W λ U U t W=>k t _ _ W))))) (by with_unfolding_all rfl) (by k_is) (by k_is) (by k_is) (by k_is) (by kernel_rfl) (λ U U U=>by kernel_rfl) (Jc3 rfl) λ t4 h tk₆ W=>?_
 refine saX (ι:=Addr) (news:=[]) (nw:=λ i=>[(i,dictOf [] 0)]) (val:=.ref) F G.X (jqj W) (by with_unfolding_all rfl) (by k_is) (by k_is) (by k_is) (by k_is) (by kernel_rfl) (λ U U U=>by kernel_rfl) (Jc3 rfl) λ kd h tk₇ W=>?_
 refine wpAny_execs_nil (bk.g _ _ ?_)
 exact jjF [_] W λ W=>k _ _ ⟨x,dx,kd,λ i=>match i with | 0=>tk+1 | 1=>tk₅+1 | 2=>t2 | 3=>tk₆+1 | 4=>t4 | _=>tk₇+1,4⟩ rfl W
theorem jg8 (G:Bs w b₀ mean mg mb) (r:Rm A 6) (W:Fx b₀ h L m pre) (hne:pre≠[])
  (k:∀ h' tk' α σ,Ok prg w σ B3->σ.fnV=#[]->σ.faV=#[]->σ.frV=#[]->Fx b₀ h' L m (pre++jak w.params 388 α σ)->Q (.ref α.self) ⟨h',gs,dr,tk',os⟩) :
  wpAny (model prg w) A (call (.ref 388) [] []) Q E ⟨h,gs,dr,tk,os⟩:=by
 refine jqu W G.X hne (fI:=84) (by k_is) (by k_is) (by k_is) ?_
 intro x dx h' W
 refine jfI G r.under W ?_
 intro h₂ tk₂ α σ e O z1 z2 z3 W2
 subst e
 exact ⟨rfl,k _ _ α σ O z1 z2 z3 W2⟩
theorem jkF (G:Bs w b₀ mean mg mb) (r:Rm A 6) (W:Fx b₀ h L m (pre++jak w.params 388 α σ)) (O:Ok prg w σ B)
  (k:∀ h' tk' ρ,Fx b₀ h' L m ((ρ.self,instObj 513 ρ.d)::(ρ.d,dictOf (jgX w.params α ρ) ρ.n)::(pre++jak w.params 388 α σ))->Q (.ref ρ.self) ⟨h',gs,dr,tk',os⟩) :
  wpAny (model prg w) A (call (.ref 513) [.ref α.self] []) Q E ⟨h,gs,dr,tk,os⟩:=by
 refine jqu W G.X (by first | walk_at "v_mem" | simp) (fI:=404) (by k_is) (by k_is) (by k_is) ?_
 intro x dx h' W
 refine ji0 G r.under W O ?_
 intro h₂ tk₂ ρ e W2
 subst e
 exact ⟨rfl,k _ _ ρ W2⟩
end
end
section
theorem jn2 {w:World} {α:BA}:∀ p∈jiz,MOk (kk.heap_1 w.params) 388 p.1 p.2/\getL p.1 (jgl w.params α)=some none:=by
 intro p hp
 simp only [jiz,Ja3,Jb2,or_false] at hp
 rcases hp with rfl | rfl | rfl | rfl | rfl | rfl | rfl | rfl | rfl | rfl | rfl | rfl | rfl | rfl | rfl | rfl | rfl | rfl | rfl | rfl | rfl | rfl
 all_goals exact ⟨⟨by k_is,by k_is,by k_is,by k_is⟩,by kernel_rfl⟩
theorem joj {w:World} {α:BA} {ρ:RA}:∀ p∈jmV,MOk (kk.heap_1 w.params) 513 p.1 p.2/\getL p.1 (jgX w.params α ρ)=some none:=by
 intro p hp
 simp only [jmV,Ja3,Jb2,or_false] at hp
 rcases hp with rfl | rfl | rfl | rfl | rfl | rfl | rfl | rfl
 all_goals exact ⟨⟨by k_is,by k_is,by k_is,by k_is⟩,by kernel_rfl⟩
theorem jpg {w:World}:∀ p∈jjT,nsIn (kk.heap_1 w.params) mainGlobals p.1=some (some (.ref p.2))/\keepIn (kk.heap_1 w.params) (.ref p.2)=true:=by
 intro p hp
 simp only [jjT,Ja3,Jb2,or_false] at hp
 rcases hp with rfl | rfl | rfl | rfl | rfl
 all_goals exact ⟨by k_is,by k_is⟩
theorem jpj {c:WC} {T:List (Addr×Obj)}:∀ p∈jjW,∃ v,nsIn (kk.heap_1 c.w.params) mainGlobals p.1=some (some v)/\Has c.g T p.2 v:=by
 intro p hp
 simp only [jjW,Ja3,Jb2,or_false] at hp
 rcases hp with rfl | rfl
 ·exact ja2 (.int (0:Nat) _) (by k_is) (.nat 0 _)
 ·exact ⟨.int (65535:Nat) _,by k_is,.nat 65535 _⟩
theorem jo6 {w:World}:∀ p∈jjI,nsIn (kk.heap_1 w.params) mainGlobals p.1=some none/\bootBuiltins p.1=some (.builtin p.2)/\p.1 ≠ "__name__" := by
 intro p hp
 simp only [jjI,Ja3,Jb2,or_false] at hp
 rcases hp with rfl | rfl | rfl | rfl | rfl | rfl
 all_goals exact ⟨by k_is,by dsimp only; boot_by_name,by decide⟩
theorem jp2 {w:World}:∀ p∈jkO,nsIn (kk.heap_1 w.params) mainGlobals p.1=some none/\bootBuiltins p.1=some (.type p.2)/\p.1 ≠ "__name__" := by
 intro p hp
 simp only [jkO,Ja3,Jb2,or_false] at hp
 rcases hp with rfl | rfl | rfl | rfl | rfl | rfl
 all_goals exact ⟨by k_is,by dsimp only; boot_by_name,by decide⟩
end
section
section
variable {c:WC} {sc:Scope} {E:Value->Shared->Prop} {ls:Ls} {B:List Tm} {led:Led} {T:List (Addr×Obj)} {s:Shared} {K:KA}
theorem St.inK (C:CO c sc) (hs:St c ls B led T s):(kk.heap_1 c.w.params).In s.heap:=by
 refine jcR C.G λ U U U G=>?_
 cases hs with
 | mk h tk m σ cl lr W O hT hB hL hC hK=>exact Frag.In.keeps G.X W.C.stays
theorem Hass.app {g:WG} {l l':List AV} {vs vs':List Value} (h:Hass g T l vs) (h':Hass g T l' vs'):Hass g T (l++l') (vs++vs') :=
 jcp (P:=λ l vs=>Hass g T (l++l') (vs++vs')) h' (λ h U ih=>.cons h ih) h
theorem jmv (C:CO c sc) {x:Str} {p:Pos} (h:jjk c sc ls (.Name x p) x B led K):VE c (.Name x p) ls B led K:=by
 unfold jjk at h
 cases hx:ls.lookup x with
 | some a =>
  rw [hx] at h
  replace h:=h
  refine ⟨λ T s E Q hs hk=>?_⟩
  cases hs with
  | mk h' tk m σ cl lr W O hT hB hL hC hK =>
   refine jam (hK x a hx) λ v hv rd=>?_
   exact jmP C W (λ p hp=>jk9 hp) rd (hk a v B led T _ (λ U h=>h) (.mk h' tk m σ cl lr W O hT hB hL hC hK) hv h)
 | none =>
  rw [hx] at h
  cases hg:jjW.lookup x with
  | none=>rw [hg] at h; exact h
  | some a =>
   rw [hg] at h
   replace h:=h
   dsimp only at h
   by_cases hn:sc.names.lookup x=some .globalImplicit
   ·rw [if_pos hn] at h
    replace h:=h
    refine ⟨λ T s E Q hs hk=>?_⟩
    refine jcR C.G λ U U U G=>?_
    cases hs with
    | mk h' tk m σ cl lr W O hT hB hL hC hK =>
     refine jam (jpj (c:=c) (T:=T) _ (jay hg)) λ v e hv=>?_
     exact jf1 W G.X G.T e (hk a v B led T _ (λ U h=>h) (.mk h' tk m σ cl lr W O hT hB hL hC hK) hv h) C.hg C.fk ((C.kind x).trans hn) (C.db x _ hn)
   ·rw [if_neg hn] at h; exact h
theorem jjN {k:Const} {n:Nat} {p:Pos} (h:jgd c ls (.Constant k n p) k B led K):VE c (.Constant k n p) ls B led K:=by
 unfold jgd at h
 split at h
 ·refine ⟨λ T s E Q hs hk=>?_⟩
  cases hs with
  | mk h' tk m σ cl lr W O hT hB hL hC hK=>exact jfq λ t tk'=>hk _ _ B led T _ (λ U h=>h) (.mk h' tk' m σ cl lr W O hT hB hL hC hK) (.nat _ _) h
 ·refine ⟨λ T s E Q hs hk=>?_⟩
  cases hs with
  | mk h' tk m σ cl lr W O hT hB hL hC hK=>exact jlg λ t tk'=>hk _ _ B led T _ (λ U h=>h) (.mk h' tk' m σ cl lr W O hT hB hL hC hK) (.str _ _) h
 ·exact ⟨λ T s E Q hs hk=>Constant_bool (hk _ _ B led T _ (λ U h=>h) hs (.bool _) h)⟩
 ·exact ⟨λ T s E Q hs hk=>Constant_none (hk _ _ B led T _ (λ U h=>h) hs .none h)⟩
 ·exact h
theorem jjG:∀ p∈jlI,AOk (kk.heap_1 c.w.params) 388 p.1/\∃ v,getL p.1 (jgl c.w.params c.α)=some (some v)/\handedIn v=true/\Has c.g T p.2 v:=by
 intro p hp
 simp only [jlI,Ja3,Jb2,or_false] at hp
 rcases hp with rfl | rfl | rfl | rfl | rfl
 all_goals refine ⟨⟨by k_is,by k_is,_,by k_is,by k_is⟩,?_⟩
 ·exact jfE _ (by kernel_rfl) rfl (.nat 1 (c.α.t 13))
 ·exact jfE _ (by kernel_rfl) rfl (.nat 2 (c.α.t 15))
 ·exact jfE _ (by kernel_rfl) rfl (.bl0)
 ·exact jfE _ (by kernel_rfl) rfl (.bl1)
 ·exact jfE _ (by kernel_rfl) rfl (.bl2)
theorem joi {ρ:RA}:∀ p∈rwA,AOk (kk.heap_1 c.w.params) 513 p.1/\∃ v,getL p.1 (jgX c.w.params c.α ρ)=some (some v)/\handedIn v=true/\Has c.g T p.2 v:=by
 intro p hp
 simp only [rwA,Ja3,Jb2,or_false] at hp
 rcases hp with rfl | rfl | rfl
 all_goals refine ⟨⟨by k_is,by k_is,_,by k_is,by k_is⟩,?_⟩
 ·exact ⟨_,by kernel_rfl,rfl,.bank⟩
 ·exact ⟨_,by kernel_rfl,rfl,.nat 1 (ρ.t 2)⟩
 ·exact ⟨_,by kernel_rfl,rfl,.nat 2 (ρ.t 4)⟩
theorem jqM {a:Str} {x:AV} {v:Value} {Q:Value->Shared->Prop} (C:CO c sc) (hs:St c ls B led T s) (ha:AOk (kk.heap_1 c.w.params) 388 a) (hl:getL a (jgl c.w.params c.α)=some (some v)) (hh:handedIn v=true) (hx:Has c.g T x v) (k:∀ v' s',St c ls B led T s'->Has c.g T x v'->Q v' s') :
  wpAny (model prg c.w) c.A (getAttr (.ref c.α.self) a true) Q E s:=by
 refine jcR C.G λ U U U G=>?_
 refine jam ha.a λ at' h1 h2=>?_
 cases hs with
 | mk h' tk m σ cl lr W O hT hB hL hC hK =>
  exact joQ W G.X (Ja6 _ (.head _)) (Ja6 _ (.tail _ (.head _))) ha.g ha.h h1 h2 hl hh λ tk'=>k _ _ (.mk h' tk' m σ cl lr W O hT hB hL hC hK) hx
theorem jqN {ρ:RA} {a:Str} {x:AV} {v:Value} {Q:Value->Shared->Prop} (C:CO c sc) (hs:St c ls B led T s) (H:HR c.w.params 513 c.α ρ T) (ha:AOk (kk.heap_1 c.w.params) 513 a) (hl:getL a (jgX c.w.params c.α ρ)=some (some v)) (hh:handedIn v=true) (hx:Has c.g T x v) (k:∀ v' s',St c ls B led T s'->Has c.g T x v'->Q v' s') :
  wpAny (model prg c.w) c.A (getAttr (.ref ρ.self) a true) Q E s:=by
 refine jcR C.G λ U U U G=>?_
 refine jam ha.a λ at' h1 h2=>?_
 cases hs with
 | mk h' tk m σ cl lr W O hT hB hL hC hK =>
  exact joQ W G.X (jar hT H.i) (jar hT H.d) ha.g ha.h h1 h2 hl hh λ tk'=>k _ _ (.mk h' tk' m σ cl lr W O hT hB hL hC hK) hx
theorem jhN {r x:AV} {a:Str} (e:jeR r a=some x):r=.bank\/r=.rw:=by
 cases r with
 | bank=>exact .inl rfl
 | rw=>exact .inr rfl
 | _=>exact nomatch e
theorem jqL {r x:AV} {a:Str} {v:Value} {Q:Value->Shared->Prop} (C:CO c sc) (e:jeR r a=some x) (hs:St c ls B led T s) (hr:Has c.g T r v) (k:∀ v' s',St c ls B led T s'->Has c.g T x v'->Q v' s') :
  wpAny (model prg c.w) c.A (getAttr v a true) Q E s:=by
 rcases jhN e with rfl | rfl
 ·refine hr.bankE ?_
  obtain ⟨h1,v,h2,h3,h4⟩:=jjG (c:=c) (T:=T) _ (jay e)
  exact jqM C hs h1 h2 h3 h4 k
 ·refine hr.rwE λ ρ H=>?_
  obtain ⟨h1,v,h2,h3,h4⟩:=joi (c:=c) (T:=T) (ρ:=ρ) _ (jay e)
  exact jqN C hs H h1 h2 h3 h4 k
theorem jlH (C:CO c sc) {v:Expr} {a:Str} {p:Pos} (hb:isB v=true) (h:VE c v ls B led λ r B led=>match jeR r a with
    | some x=>K x B led
    | Option.none=>False):VE c (.Attribute v a p) ls B led K:=by
 refine ⟨λ T s E Q hs hk=>Attribute_any_ (h.run T s E _ hs λ r v' B' led' T' s' hsub hs' hr hK=>?_) (jmb hb)⟩
 dsimp only at hK
 cases e:jeR r a with
 | none=>rw [e] at hK; replace hK:=hK; exact hK.elim
 | some x =>
  rw [e] at hK
  exact jqL C e hs' hr λ v' s'' h1 h2=>hk _ _ _ _ _ _ hsub h1 h2 hK
theorem jjl {f:Expr->List Tm->Led->KA->Prop} (hf:∀ e B led K,f e B led K->VE c e ls B led K):∀ (es:List Expr) (hn:es.all nst=true) {B:List Tm} {led:Led} {K:List AV->List Tm->Led->Prop},vcL f es B led K->∀ T s pos (Q:List Value->Shared->Prop),St c ls B led T s ->
  (∀ as vs B' led' T' s',(∀ p∈T,p∈T')->St c ls B' led' T' s'->Hass c.g T' as vs->vs.length=es.length->K as B' led'->Q vs s')->wpAny (model prg c.w) c.A (spliced (backTo pos (starEach es c.env))) Q E s:=by
 intro es
 induction es with
 | nil =>
  intro _ _ _ _ h T s pos Q hs hk
  exact spliced_none (hk [] [] _ _ T s (λ U h=>h) hs .nil rfl h)
 | cons e es ih =>
  intro hn _ _ _ h T s pos Q hs hk
  rw [List.all_cons,Bool.and_eq_true] at hn
  replace hn:=hn
  exact spliced_more ((hf e _ _ _ h).run T s E _ hs λ a v B' led' T' s' hsub hs' ha hK=>ih hn.2 hK T' s' pos _ hs' λ as vs B2 led2 T2 s2 hsub2 hs2 has hln hK2=>hk (a::as) (v::vs) B2 led2 T2 s2 (λ p hp=>hsub2 p (hsub p hp)) hs2 (.cons (ha.mono hsub2) has) (by refine rwr List.length_cons ?_; refine rwr List.length_cons ?_; refine rwr hln ?_; rfl) hK2) (jbH hn.1 es c.env)
theorem jnA (C:CO c sc) {f:Expr->List Tm->Led->KA->Prop} (hf:∀ e B led K,f e B led K->VE c e ls B led K) {fn:Addr} {args:List Expr} {pos:Pos} {r0:List AV} {v0:List Value} {Q:Value->Shared->Prop} (hn:args.all nst=true) (hkp:keepIn (kk.heap_1 c.w.params) (.ref fn)=true)
  (h:vcL f args B led λ as B led=>CF c fn (r0++as) ls B led K) (hs:St c ls B led T s) (h0:Hass c.g T r0 v0) (hk:KE c ls T K Q):wpAny (model prg c.w) c.A (callWith pos (.ref fn) v0 (backTo pos (starEach args c.env)) []) Q E s:=by
 refine jcR C.G λ U U U G=>?_
 cases args with
 | nil =>
  rw [show v0=v0++[] by simp] at h0
  have h:CF c fn (r0++[]) ls B led K:=h
  rw [List.append_nil] at h
  rw [List.append_nil] at h0
  exact callWith_K0 (hs.inK C) hkp (by rw [List.append_nil]; exact h.run T s E v0 Q hs h0 hk)
 | cons e es =>
  have hn2:=hn
  rw [List.all_cons,Bool.and_eq_true] at hn2
  refine callWith_K (h₀:=c.b₀) G.X hkp (jjl hf (e::es) hn h T s pos _ hs λ as vs B' led' T' s' hsub hs' ha U hK=>⟨hs'.inK C,?_⟩) (jbH hn2.1 es c.env) (jcx hn2.2 c.env pos)
  exact hK.run T' s' E _ Q hs' ((h0.mono hsub).app ha) λ a v B2 led2 T2 s2 h1 h2 h3 h4=>hk a v B2 led2 T2 s2 (λ p hp=>h1 p (hsub p hp)) h2 h3 h4
theorem jnz (C:CO c sc) {f:Expr->List Tm->Led->KA->Prop} (hf:∀ e B led K,f e B led K->VE c e ls B led K) {id:String} {args:List Expr} {pos:Pos} {r0:List AV} {v0:List Value} {Q:Value->Shared->Prop} (hn:args.all nst=true)
  (h:vcL f args B led λ as B led=>BI c id (r0++as) ls B led K) (hs:St c ls B led T s) (h0:Hass c.g T r0 v0) (hk:KE c ls T K Q):wpAny (model prg c.w) c.A (callWith pos (.builtin id) v0 (backTo pos (starEach args c.env)) []) Q E s:=by
 cases args with
 | nil =>
  have h:BI c id (r0++[]) ls B led K:=h
  rw [List.append_nil] at h
  exact callWith_method0 (h.run T s E v0 Q hs h0 hk)
 | cons e es =>
  have hn2:=hn
  rw [List.all_cons,Bool.and_eq_true] at hn2
  refine callWith_method1 (jjl hf (e::es) hn h T s pos _ hs λ as vs B' led' T' s' hsub hs' ha U hK=>?_) (jbH hn2.1 es c.env) (jcx hn2.2 c.env pos)
  exact hK.run T' s' E _ Q hs' ((h0.mono hsub).app ha) λ a v B2 led2 T2 s2 h1 h2 h3 h4=>hk a v B2 led2 T2 s2 (λ p hp=>h1 p (hsub p hp)) h2 h3 h4
theorem jki {r:AV} {m:Str} {fn:Addr} (e:jkh r m=some fn):r=.bank\/r=.rw:=by
 cases r with
 | bank=>exact .inl rfl
 | rw=>exact .inr rfl
 | _=>exact nomatch e
theorem jkd (C:CO c sc) {r:AV} {m:Str} {fn:Addr} {v:Value} {pl:Sem Bool} {Q:Value×List Value->Shared->Prop} (e:jkh r m=some fn) (hs:St c ls B led T s) (hr:Has c.g T r v) (k:keepIn (kk.heap_1 c.w.params) (.ref fn)=true->Q (.ref fn,[v]) s) :
  wpAny (model prg c.w) c.A (getMethod v m pl) Q E s:=by
 refine jcR C.G λ U U U G=>?_
 cases hs with
 | mk h' tk m' σ cl lr W O hT hB hL hC hK =>
  rcases jki e with rfl | rfl
  ·revert k
   refine hr.bankE λ k=>?_
   refine jbi (jn2 (w:=c.w) (α:=c.α) _ (jay e)) λ ok hl=>?_
   exact jf3 W G.X (Ja6 _ (.head _)) (Ja6 _ (.tail _ (.head _))) ok.g ok.f ok.t hl (k ok.k)
  ·revert k
   refine hr.rwE λ ρ H k=>?_
   refine jbi (joj (w:=c.w) (α:=c.α) (ρ:=ρ) _ (jay e)) λ ok hl=>?_
   exact jf3 W G.X (jar hT H.i) (jar hT H.d) ok.g ok.f ok.t hl (k ok.k)
theorem jmt (C:CO c sc) {f:Expr->List Tm->Led->KA->Prop} (hf:∀ e B led K,f e B led K->VE c e ls B led K) {o:Expr} {m:Str} {ap pos:Pos} {args:List Expr} (hb:isB o=true) (hn:args.all nst=true) (hl:args.length<30) (hp:(ap.endLine == pos.line)=true)
  (h:f o B led λ r B led=>jjj c ls f r m args B led K):VE c (.Call (.Attribute o m ap) args [] pos) ls B led K:=by
 refine jbh (jfR (m:=m) (env:=c.env) hb hn hl hp) λ pl he=>?_
 refine ⟨λ T s E Q hs hk=>MethodCall_ (pl:=pl) ((hf o _ _ _ h).run T s E _ hs λ r v B' led' T' s' hsub hs' hr hK=>?_) he⟩
 have hk':KE c ls T' K Q:=λ a v B2 led2 T2 s2 h1 h2 h3 h4=>hk a v B2 led2 T2 s2 (λ p hp=>h1 p (hsub p hp)) h2 h3 h4
 dsimp only [jjj] at hK
 cases e:jkh r m with
 | some fn =>
  rw [e] at hK
  replace hK:=hK
  exact jkd C e hs' hr λ hkp=>jnA C hf (r0:=[r]) hn hkp hK hs' (.cons hr .nil) hk'
 | none =>
  rw [e] at hK
  replace hK:=hK
  exact hK.run T' s' E v pl _ hs' hr λ id hK2=>jnz C hf (r0:=[r]) hn hK2 hs' (.cons hr .nil) hk'
theorem jjK (C:CO c sc) {f:Expr->List Tm->Led->KA->Prop} (hf:∀ e B led K,f e B led K->VE c e ls B led K) {m:Str} {np pos:Pos} {args:List Expr} (hn:args.all nst=true) (hne:args.isEmpty=false)
  (h:jgc c sc ls f (.Call (.Name m np) args [] pos) m args B led K):VE c (.Call (.Name m np) args [] pos) ls B led K:=by
 refine jcR C.G λ U U U G=>?_
 unfold jgc at h
 by_cases hg:sc.names.lookup m=some .globalImplicit
 ·rw [if_pos hg] at h
  replace h:=h
  have hfk:c.env.scope.kind=.function:=C.fk
  have hkk:=(C.kind m).trans hg
  have hdb:=C.db m _ hg
  cases e1:jjT.lookup m with
  | some fn =>
   rw [e1] at h
   replace h:=h
   obtain ⟨h1,h2⟩:=jpg (w:=c.w) _ (jay e1)
   refine ⟨λ T s E Q hs hk=>Call_ ?_⟩
   have hs0:=hs
   cases hs with
   | mk h' tk m' σ cl lr W O hT hB hL hC hK=>exact jf1 W G.X G.T h1 (jnA C hf (r0:=[]) hn h2 h hs0 .nil hk) C.hg hfk hkk hdb
  | none =>
   rw [e1] at h
   replace h:=h
   dsimp only at h
   replace h:=h
   cases e2:jjI.lookup m with
   | some id =>
    rw [e2] at h
    replace h:=h
    refine jbq (jo6 (w:=c.w) _ (jay e2)) λ h1 h2 h3=>?_
    refine ⟨λ T s E Q hs hk=>Call_ ?_⟩
    have hs0:=hs
    cases hs with
    | mk h' tk m' σ cl lr W O hT hB hL hC hK=>exact jhz W G.X G.T h1 h2 h3 (jnz C hf (r0:=[]) hn h hs0 .nil hk) C.hg C.hb hfk hkk hdb
   | none =>
    rw [e2] at h
    replace h:=h
    dsimp only at h
    cases e3:jkO.lookup m with
    | none=>rw [e3] at h; exact h
    | some id =>
     rw [e3] at h
     replace h:=h
     refine jbq (jp2 (w:=c.w) _ (jay e3)) λ h1 h2 h3=>?_
     refine ⟨λ T s E Q hs hk=>Call_ ?_⟩
     have hs0:=hs
     cases hs with
     | mk h' tk m' σ cl lr W O hT hB hL hC hK =>
      refine jhz W G.X G.T h1 h2 h3 ?_ C.hg C.hb hfk hkk hdb
      cases args with
      | nil=>simp at hne
      | cons e es =>
       have hn2:=hn
       rw [List.all_cons,Bool.and_eq_true] at hn2
       refine PyProof.Rows.callWith_type1 (jjl hf (e::es) hn h T _ pos _ hs0 λ as vs B' led' T' s' hsub hs' ha U hK=>?_) (jbH hn2.1 es c.env) (jcx hn2.2 c.env pos)
       exact hK.run T' s' E _ Q hs' ha λ a v B2 led2 T2 s2 h1 h2 h3 h4=>hk a v B2 led2 T2 s2 (λ p hp=>h1 p (hsub p hp)) h2 h3 h4
 ·rw [if_neg hg] at h; exact h
end
end
section
theorem jhO (x y:Nat):(((x:Nat):Int) == ((y:Nat):Int))=decide (x=y):=by
 by_cases h:x=y
 ·subst h; simp
 ·refine rwr (beq_eq_false_iff_ne.mpr (λ e:((x:Nat):Int)=((y:Nat):Int)=>h (Int.ofNat.inj e))) ?_; simp [h]
section
variable {c:WC} {sc:Scope} {E:Value->Shared->Prop} {ls:Ls} {B:List Tm} {led:Led} {T:List (Addr×Obj)} {s:Shared} {K:KA}
theorem Hass.get {g:WG} {l:List AV}:∀ {vs:List Value},Hass g T l vs->∀ {n:Nat} {x:AV},l[n]? = some x->∃ v,vs[n]? = some v/\Has g T x v:=by
 induction l with
 | nil=>intro vs h n x e; cases e
 | cons a l ih =>
  intro vs h n x e
  cases h with | cons h r =>
  cases n with
  | zero=>obtain rfl:=Jb0 e; exact ja2 _ rfl h
  | succ n=>exact ih r (n:=n) e
theorem Hass.len {g:WG} {l:List AV}:∀ {vs:List Value},Hass g T l vs->vs.length=l.length:=by
 induction l with
 | nil=>intro vs h; cases h; rfl
 | cons a l ih=>intro vs h; cases h with | cons h r=>exact congrArg Nat.succ (ih r)
theorem jbF {a:AV} {n:Nat} (h:jcS a=some n):a=.nat n:=by
 cases a <;> first | exact absurd h.symm (Option.some_ne_none _) | (rw [Jb0 h])
theorem jgj {a:AV} {x:Str} (h:jlE a=some x):a=.str x:=by
 cases a <;> first | exact absurd h.symm (Option.some_ne_none _) | (rw [Jb0 h])
theorem jjE {a:AV} {l:List AV} (h:jlF a=some l):a=.tup l:=by
 cases a <;> first | exact absurd h.symm (Option.some_ne_none _) | (rw [Jb0 h])
theorem jlC {a:AV} {n:Nat} (h:jo5 a=some n):a=.bl n:=by
 cases a <;> first | exact absurd h.symm (Option.some_ne_none _) | (rw [Jb0 h])
theorem jlQ {op:CmpOp} {x y:Nat} {r:Bool} (e:jo9 op x y=some r) {tx ty:Tok} {Q:Value->Shared->Prop} (h:Q (.bool r) s):wpAny (model prg c.w) c.A (compareOp op (.int (x:Int) tx) (.int (y:Int) ty)) Q E s:=by
 cases op with
 | Eq=>obtain rfl:=Jb0 e; exact PySem.P.eq_int (by rw [jhO]; exact h)
 | NotEq=>obtain rfl:=Jb0 e; exact PySem.P.ne_int (by rw [bne,jhO]; exact h)
 | Lt=>obtain rfl:=Jb0 e; exact PySem.P.lt_int (by refine rwr (show decide ((x:Int)<(y:Int))=decide (x<y) from decide_eq_decide.mpr Int.ofNat_lt) ?_; exact h)
 | Gt=>obtain rfl:=Jb0 e; exact PySem.P.gt_int (by refine rwr (show decide ((x:Int) > (y:Int))=decide (y<x) from decide_eq_decide.mpr Int.ofNat_lt) ?_; exact h)
 | GtE=>obtain rfl:=Jb0 e; exact PySem.P.ge_int (by refine rwr (show decide ((x:Int) >= (y:Int))=decide (y<=x) from decide_eq_decide.mpr Int.ofNat_le) ?_; exact h)
 | _=>cases e
theorem jlR {op:CmpOp} {x y:Str} {r:Bool} (e:jpa op x y=some r) {tx ty:Tok} {Q:Value->Shared->Prop} (h:Q (.bool r) s):wpAny (model prg c.w) c.A (compareOp op (.str x tx) (.str y ty)) Q E s:=by
 cases op with
 | Eq=>obtain rfl:=Jb0 e; exact eq_str h
 | NotEq=>obtain rfl:=Jb0 e; exact ne_str h
 | _=>cases e
theorem jgO {K:Bool->Prop} {a:AV} (h:onB K a):∃ b,a=.bool b/\K b:=by
 cases a <;> first | exact False.elim h | exact ja2 _ rfl h
theorem jiH {K:List AV->Prop} {a:AV} (h:onT K a):∃ l,a=.tup l/\K l:=by
 cases a <;> first | exact False.elim h | exact ja2 _ rfl h
theorem jcY {g:WG} {b:Bool} {v:Value} (h:Has g T (.bool b) v):v=.bool b:=by cases h; rfl
theorem jj3 {b:AV} (h:jj2 b=true):b=.none:=by
 cases b <;> first | rfl | exact absurd h Bool.false_ne_true
theorem jjD {a:AV} {r:Bool} (h:jlD a=some r):(r=true/\∃ f,a=.fd f)\/(r=false/\a=.none):=by
 cases a <;> first | exact absurd h.symm (Option.some_ne_none _) | exact .inl ⟨(Jb0 h).symm,_,rfl⟩ | exact .inr ⟨(Jb0 h).symm,rfl⟩
theorem jlP {a b:AV} {op:CmpOp} {r:Bool} (e:jqd op a b=some r) {x y:Value} (ha:Has c.g T a x) (hb:Has c.g T b y) {Q:Value->Shared->Prop} (h:Q (.bool r) s):wpAny (model prg c.w) c.A (compareOp op x y) Q E s:=by
 cases op with
 | IsNot =>
  have e:(if jj2 b=true then jlD a else Option.none)=some r:=e
  by_cases hn:jj2 b=true
  ·rw [if_pos hn] at e
   replace e:=e
   rw [jj3 hn] at hb
   refine hb.noneE ?_
   rcases jjD e with ⟨rfl,f,rfl⟩ | ⟨rfl,rfl⟩
   ·exact ha.fdE λ U U U U=>isnot_ref_none h
   ·exact ha.noneE (isnot_none_none h)
  ·rw [if_neg hn] at e; replace e:=e; exact nomatch e
 | _=>cases e
theorem jlN {op:CmpOp} {xa xb:Option Nat} {sa sb:Option Str} {ci:Option Bool} {r:Bool} {P:Prop} (e:jnw op xa xb sa sb ci=some r) (hn:∀ x y,xa=some x->xb=some y->jo9 op x y=some r->P) (hs:∀ x y,sa=some x->sb=some y->jpa op x y=some r->P) (hi:ci=some r->P):P:=by
 cases xa with
 | some x=>cases xb with
  | some y=>exact hn x y rfl rfl e
  | none=>cases e
 | none=>cases sa with
  | some x=>cases sb with
   | some y=>exact hs x y rfl rfl e
   | none=>cases e
  | none=>exact hi e
theorem jlO {a b:AV} {op:CmpOp} {r:Bool} (e:jo8 a op b=some r) {x y:Value} (ha:Has c.g T a x) (hb:Has c.g T b y) {Q:Value->Shared->Prop} (h:Q (.bool r) s):wpAny (model prg c.w) c.A (compareOp op x y) Q E s:=by
 refine jlN e (λ n m e1 e2 e=>?_) (λ n m e1 e2 e=>?_) λ e=>jlP e ha hb h
 ·rw [jbF e1] at ha
  rw [jbF e2] at hb
  exact ha.natE λ U=>hb.natE λ U=>jlQ e h
 ·rw [jgj e1] at ha
  rw [jgj e2] at hb
  exact ha.strE λ U=>hb.strE λ U=>jlR e h
theorem jkZ {a:AV} {op:CmpOp} {b:AV} {K:Bool->List Tm->Led->Prop} (h:jji c ls a op b B led K):CM c a op b ls B led K:=by
 unfold jji at h
 cases e:jo8 a op b with
 | none=>rw [e] at h; exact h
 | some r=>rw [e] at h; replace h:=h; exact ⟨λ T s E x y Q hs ha hb hk=>jlO e ha hb (hk _ _ _ T _ (λ U h=>h) hs h)⟩
theorem jfm {op:Operator} {x y z:Nat} (h:K (.nat z) B led) (r:∀ {A:Around} {h:Heap} {tx ty tk:Tok} {Q:Value->Shared->Prop} {E:Value->Shared->Prop},(∀ t tk',Q (.int (z:Int) t) ⟨h,c.gs,c.dr,tk',c.os⟩)->wpAny (model prg c.w) A (binaryOp op (.int (x:Int) tx) (.int (y:Int) ty)) Q E ⟨h,c.gs,c.dr,tk,c.os⟩):BN c op (.nat x) (.nat y) ls B led K:=by
 refine ⟨λ T s E u v Q hs ha hb hk=>?_⟩
 cases ha; cases hb
 refine hs.elim λ h' tk m σ cl lr W O hT hB hL hC hK=>?_
 exact r λ t tk'=>hk (.nat z) _ _ _ T _ (λ U h=>h) (.mk h' _ m σ cl lr W O hT hB hL hC hK) (.nat _ _) h
theorem jlK {op:Operator} {x y:Nat} (h:jls c ls op x y B led K):BN c op (.nat x) (.nat y) ls B led K:=by
 cases op with
 | Add=>exact jfm h λ k=>PySem.P.add_int (k _ _)
 | Sub =>
  have e:((x:Nat):Int) - ((y:Nat):Int)=((x - y:Nat):Int):=(Int.ofNat_sub h.1).symm
  exact jfm h.2 λ k=>PySem.P.sub_int (by refine rwr e ?_; exact k _ _)
 | BitAnd=>exact jfm h λ k=>and_int (by rw [jdU]; exact k _ _)
 | BitOr=>exact jfm h λ k=>or_int (by rw [jeU]; exact k _ _)
 | BitXor=>exact jfm h λ k=>xor_int (by rw [jg9]; exact k _ _)
 | _=>exact h
theorem jnr {a:AV} {op:Operator} {b:AV} (h:jkS c ls op a b B led K):BN c op a b ls B led K:=by
 unfold jkS at h
 cases e1:jcS a with
 | none=>rw [e1] at h; exact h
 | some x =>
  rw [e1] at h
  cases e2:jcS b with
  | none=>rw [e2] at h; exact h
  | some y=>rw [e2] at h; refine rwr (jbF e1) ?_; refine rwr (jbF e2) ?_; exact jlK h
theorem jkM {val sl:Expr} {l:List AV} {n:Nat} {x:AV} (hsl:jaY sl=true) (hx:l[n]? = some x) (hn:n<1000) (h:K x B led):SU c val sl (.tup l) (.nat n) ls B led K:=by
 refine ⟨λ T s E u v Q hs ha hb hk=>?_⟩
 cases ha with
 | tup _ a vs hm has =>
 cases hb with
 | nat _ t =>
 refine jam (has.get hx) λ y hy hv=>?_
 have hs0:=hs
 cases hs with
 | mk h' tk m σ cl lr W O hT hB hL hC hK=>exact jlf (j:=n) W (jar hT hm) (Int.natCast_nonneg _) (by lia) (ji3 ((Jc0 hy).1)) hy (hk _ _ _ _ T _ (λ U h=>h) hs0 hv h) (jbC hsl)
theorem jo7 {val sl:Expr} {k n:Nat} (hsl:jaY sl=true) (h:jqz c ls val sl k n B led K):SU c val sl (.bl k) (.nat n) ls B led K:=by
 refine ⟨λ T s E u v Q hs ha hb hk=>?_⟩
 cases ha with
 | bl0 =>
  cases hb
  refine hs.elim0 λ h' tk m σ cl lr hs0 W O hT hB hL hC hK=>?_
  refine jbh (O.op _ _ (List.getElem?_eq_getElem h.1)) λ to hv=>?_
  exact jdx W (Ja6 _ (.tail _ (.tail _ (.tail _ (.tail _ (.tail _ (.head _))))))) hv (by have:=h.1; have:=hB.1; omega) (hk _ _ _ _ T _ (λ U h=>h) hs0 (jan (List.getElem?_eq_getElem h.1)▸.str _ _) h.2) (jbC hsl)
 | bl1 =>
  cases hb
  refine hs.elim0 λ h' tk m σ cl lr hs0 W O hT hB hL hC hK=>?_
  obtain ⟨ta,hv,us,h1,h2⟩:=O.ar _ _ (List.getElem?_eq_getElem h.1)
  exact jdx W (Ja6 _ (.tail _ (.tail _ (.tail _ (.tail _ (.tail _ (.tail _ (.head _)))))))) hv (by have:=h.1; have:=hB.1; omega) (hk _ _ _ _ T _ (λ U h=>h) hs0 (jai (List.getElem?_eq_getElem h.1)▸.tns _ _ us (hT▸h1) h2) h.2) (jbC hsl)
 | bl2 =>
  cases hb
  refine hs.elim0 λ h' tk m σ cl lr hs0 W O hT hB hL hC hK=>?_
  refine jbh (O.so _ _ (List.getElem?_eq_getElem h.1)) λ to hv=>?_
  exact jdx W (Ja6 _ (.tail _ (.tail _ (.tail _ (.tail _ (.tail _ (.tail _ (.tail _ (.head _))))))))) hv (by have:=h.1; have:=hB.1; omega) (hk _ _ _ _ T _ (λ U h=>h) hs0 (.nat 0 _) h.2) (jbC hsl)
theorem jop {val sl:Expr} {a i:AV} (hsl:jaY sl=true) (h:jkT c ls val sl a i B led K):SU c val sl a i ls B led K:=by
 unfold jkT at h
 cases e1:jcS i with
 | none=>rw [e1] at h; exact h
 | some n =>
  rw [e1] at h
  replace h:=h
  dsimp only at h
  replace h:=h
  refine rwr (jbF e1) ?_
  cases e2:jlF a with
  | some l =>
   rw [e2] at h
   replace h:=h
   dsimp only at h
   replace h:=h
   refine rwr (jjE e2) ?_
   dsimp only [joC] at h
   replace h:=h
   cases e:l.drop n with
   | nil=>rw [e] at h; exact h
   | cons x r =>
    rw [e] at h
    refine jkM hsl ?_ h.1 h.2
    have:l[n]? = (l.drop n)[0]?:=by simp
    refine rwr this ?_; refine rwr e ?_; rfl
  | none =>
   rw [e2] at h
   dsimp only at h
   cases e3:jo5 a with
   | none=>rw [e3] at h; refine rwl (jbF e1) ?_; exact h
   | some k=>rw [e3] at h; refine rwr (jlC e3) ?_; exact jo7 hsl h
theorem jor {f:Expr->List Tm->Led->KA->Prop} (hf:∀ e B led K,f e B led K->VE c e ls B led K) {e:Expr} {K:Bool->List Tm->Led->Prop} (h:jp3 c ls f e B led K):VT c e ls B led K:=by
 have plain:∀ {e:Expr},(if jgP e=true then f e B led λ a B led=>onB (λ b=>K b B led) a else VT c e ls B led K)->VT c e ls B led K:=λ {e} h=>by
  by_cases hp:jgP e=true
  ·rw [if_pos hp] at h
   refine ⟨λ T s E Q hs hk=>isTrue_plain ((hf _ _ _ _ h).run T s E _ hs λ a v B1 led1 T1 s1 h1 hs1 ha hK=>?_) (jmC hp)⟩
   refine jam (jgO hK) λ b e_1 hK=>?_
   subst e_1
   refine rwr (jcY ha) ?_
   exact wpAny_truthy_bool (hk b _ _ _ _ h1 hs1 hK)
  ·rw [if_neg hp] at h; exact h
 cases e with
 | Compare l ops rs p =>
  rcases ops with _ | ⟨op,_ | _⟩
  ·exact h
  ·rcases rs with _ | ⟨r,_ | _⟩
   ·exact h
   ·by_cases hr:jcU r=true
    ·have h:f l B led λ a B led=>f r B led λ b B led=>jji c ls a op b B led K:=(if_pos hr).mp h
     refine ⟨λ T s E Q hs hk=>wpAny_isTrue_Compare1 ((hf _ _ _ _ h).run T s E _ hs λ a v B1 led1 T1 s1 h1 hs1 ha hK=>(hf _ _ _ _ hK).run T1 s1 E _ hs1 λ b y B2 led2 T2 s2 h2 hs2 hb hK2=>?_) (jk5 hr)⟩
     exact (jkZ hK2).run T2 s2 E v y _ hs2 (ha.mono h2) hb λ q B3 led3 T3 s3 h3 hs3 hK3=>wpAny_truthy_bool (hk q _ _ _ _ (λ p hp=>h3 p (h2 p (h1 p hp))) hs3 hK3)
    ·exact (if_neg hr).mp h
   ·exact h
  ·exact h
 | _=>exact plain h
theorem jqJ {f:Expr->List Tm->Led->KA->Prop} (hf:∀ e B led K,f e B led K->VE c e ls B led K) {op:BoolOp} {es:List Expr} {p:Pos}:∀ {B:List Tm} {led:Led},vcB f op es B led K->VE c (.BoolOp op es p) ls B led K:=by
 induction es with
 | nil=>exact λ h=>h.elim
 | cons e r ih =>
  intro B led h
  cases r with
  | nil=>exact ⟨λ T s E Q hs hk=>BoolOp_one ((hf e _ _ _ h).run T s E Q hs hk)⟩
  | cons e2 r =>
  have next:∀ {T T1:List (Addr×Obj)} {s1:Shared} {E:Value->Shared->Prop} {Q:Value->Shared->Prop} {B1:List Tm} {led1:Led},(∀ p∈T,p∈T1)->St c ls B1 led1 T1 s1->KE c ls T K Q->vcB f op (e2::r) B1 led1 K->wpAny (model prg c.w) c.A (eval (.BoolOp op (e2::r) p) c.env) Q E s1 :=
   λ h1 hs1 hk hK=>(ih hK).run _ _ _ _ hs1 λ a v B2 led2 T2 s2 h2=>hk a v B2 led2 T2 s2 λ p hp=>h2 p (h1 p hp)
  refine ⟨λ T s E Q hs hk=>?_⟩
  have h:=(hf e _ _ _ h).run T s E
  cases op with
  | Or =>
   refine BoolOp_or (h _ hs λ a v B1 led1 T1 s1 h1 hs1 ha hK=>?_)
   obtain ⟨b,rfl,hK⟩:=jgO hK
   refine rwr (jcY ha) ?_
   refine wpAny_truthy_bool ?_
   cases b with
   | true=>exact hk _ _ _ _ _ _ h1 hs1 (.bool true) hK
   | false=>exact next h1 hs1 hk hK
  | And =>
   refine BoolOp_and (h _ hs λ a v B1 led1 T1 s1 h1 hs1 ha hK=>?_)
   obtain ⟨b,rfl,hK⟩:=jgO hK
   refine rwr (jcY ha) ?_
   refine wpAny_truthy_bool ?_
   cases b with
   | false=>exact hk _ _ _ _ _ _ h1 hs1 (.bool false) hK
   | true=>exact next h1 hs1 hk hK
theorem St.tup {l:List AV} {vs:List Value} {Q:Value->Shared->Prop} (hs:St c ls B led T s) (has:Hass c.g T l vs) (hk:KE c ls T K Q) (h:K (.tup l) B led) (hn:vs.length<=16777216):wpAny (model prg c.w) c.A (newTuple vs) Q E s:=by
 cases hs with
 | mk h' tk m σ cl lr W O hT hB hL hC hK =>
  refine jkC W (λ x h2 W2=>?_) hn
  have hsub:∀ p∈T,p∈(x,ja1 vs)::T:=λ p hp=>.tail _ hp
  exact hk (.tup l) _ B led ((x,ja1 vs)::T) _ hsub (.mk h2 tk m (σ.add (x,ja1 vs)) cl lr W2.absorb (O.add _) (by refine rwl hT ?_; rfl) hB (hL.mono hsub) hC (hK.mono hsub)) (.tup l x vs (.head _) (has.mono hsub)) h
theorem jbZ {g:WG} {l:List AV}:∀ {vs:List Value} {ns:List Nat},Hass g T l vs->nats l=some ns->IntsAre vs (ns.map λ n:Nat=>(n:Int)):=by
 induction l with
 | nil=>intro vs ns h e; cases h; obtain rfl:=Jb0 e; exact .nil
 | cons a l ih =>
  intro vs ns h e
  cases h with | cons h r =>
  dsimp only [nats] at e
  cases e1:jcS a with
  | none=>rw [e1] at e; replace e:=e; cases e
  | some n =>
   rw [e1] at e
   replace e:=e
   refine jam (Jd4 e) λ ms e2 e_4=>?_
   subst e_4
   rw [jbF e1] at h
   replace h:=h
   cases h
   exact .cons _ _ (ih r e2)
theorem jpz (C:CO c sc) {f:Expr->List Tm->Led->KA->Prop} (hf:∀ e B led K,f e B led K->VE c e ls B led K) {elt t iter:Expr} {ifs:List Expr} {scope:Scope} {pos:Pos} (h:jqA c sc ls f (jcJ t) elt t iter ifs scope pos (.ListComp elt [⟨t,iter,ifs,.ofNat 0⟩] scope pos) B led K):VE c (.ListComp elt [⟨t,iter,ifs,.ofNat 0⟩] scope pos) ls B led K:=by
 generalize jcJ t=ot at h
 cases ot with
 | none=>exact h
 | some tg =>
  by_cases hc:(jhJ scope sc tg && jcU iter)=true
  ·have h:f iter B led λ a B led=>CP c elt t iter ifs scope pos a ls B led K:=(if_pos hc).mp h
   rw [Bool.and_eq_true] at hc
   replace hc:=hc
   have h0:=cf0 hc.1
   obtain ⟨cl,hcl⟩:=jhV C hc.1
   exact ⟨λ T s E Q hs hk=>joc (ifs:=_) ((hf _ _ _ _ h).run T s E _ hs λ a v B1 led1 T1 s1 h1 hs1 ha hK=>hK.run T1 s1 E v Q cl hcl hs1 ha λ a v B2 led2 T2 s2 h2=>hk a v B2 led2 T2 s2 λ p hp=>h2 p (h1 p hp)) hcl.e h0.k h0.ln λ x=>jeq hc.2⟩
  ·exact (if_neg hc).mp h
theorem ja8 (C:CO c sc) (n:Nat):∀ (e:Expr) (B:List Tm) (led:Led) (K:KA),vcE c sc ls n e B led K->VE c e ls B led K:=by
 induction n with
 | zero=>exact λ U U U U h=>h
 | succ n ih =>
 intro e B led K h
 cases e with
 | Name x p=>exact jmv C h
 | Constant k n p=>exact jjN h
 | Attribute v a p =>
  by_cases hb:isB v=true
  ·exact jlH C hb (ih _ _ _ _ ((if_pos hb).mp h))
  ·exact (if_neg hb).mp h
 | Call fe args kw pos =>
  cases fe with
  | Attribute o m ap =>
   cases kw with
   | cons _ _=>exact h
   | nil =>
   by_cases hc:(isB o && args.all nst && decide (args.length<30) && (ap.endLine == pos.line))=true
   ·have h:=(if_pos hc).mp h
    simp only [Bool.and_eq_true,decide_eq_true_eq] at hc
    exact jmt C ih hc.1.1.1 hc.1.1.2 hc.1.2 hc.2 h
   ·exact (if_neg hc).mp h
  | Name m mp =>
   cases kw with
   | cons _ _=>exact h
   | nil =>
   by_cases hc:(args.all nst && !args.isEmpty)=true
   ·have h:=(if_pos hc).mp h
    simp only [Bool.and_eq_true,Bool.not_eq_true'] at hc
    exact jjK C ih hc.1 hc.2 h
   ·exact (if_neg hc).mp h
  | _=>exact h
 | Compare l ops rs p =>
  rcases ops with _ | ⟨op,_ | _⟩
  ·exact h
  ·rcases rs with _ | ⟨r,_ | _⟩
   ·exact h
   ·by_cases hr:jcU r=true
    ·have h:vcE c sc ls n l B led λ a B led=>vcE c sc ls n r B led λ b B led=>jji c ls a op b B led λ x B led=>K (.bool x) B led:=(if_pos hr).mp h
     refine ⟨λ T s E Q hs hk=>wpAny_Compare1 ((ih _ _ _ _ h).run T s E _ hs λ a v B1 led1 T1 s1 h1 hs1 ha hK=>(ih _ _ _ _ hK).run T1 s1 E _ hs1 λ b y B2 led2 T2 s2 h2 hs2 hb hK2=>?_) (jk5 hr)⟩
     exact (jkZ hK2).run T2 s2 E v y _ hs2 (ha.mono h2) hb λ q B3 led3 T3 s3 h3 hs3 hK3=>hk _ _ _ _ _ _ (λ p hp=>h3 p (h2 p (h1 p hp))) hs3 (.bool q) hK3
    ·exact (if_neg hr).mp h
   ·exact h
  ·exact h
 | BoolOp op es p=>exact jqJ ih h
 | UnaryOp op x p =>
  cases op with
  | Not =>
   have h:vcE c sc ls n x B led λ a B led=>onB (λ b=>K (.bool (!b)) B led) a:=h
   refine ⟨λ T s E Q hs hk=>UnaryOp_ ((ih _ _ _ _ h).run T s E _ hs λ a v B1 led1 T1 s1 h1 hs1 ha hK=>?_)⟩
   refine jam (jgO hK) λ b e_5 hK=>?_
   subst e_5
   refine rwr (jcY ha) ?_
   exact PyProof.Rows.not_of (wpAny_truthy_bool (hk _ _ _ _ _ _ h1 hs1 (.bool (!b)) hK))
  | _=>exact h
 | IfExp t a b p =>
  refine ⟨λ T s E Q hs hk=>IfExp_ ((jor ih h).run T s E _ hs λ b B1 led1 T1 s1 h1 hs1 hK=>?_)⟩
  cases b with
  | true=>exact (ih _ _ _ _ hK).run T1 s1 E Q hs1 λ a v B2 led2 T2 s2 h2=>hk a v B2 led2 T2 s2 λ p hp=>h2 p (h1 p hp)
  | false=>exact (ih _ _ _ _ hK).run T1 s1 E Q hs1 λ a v B2 led2 T2 s2 h2=>hk a v B2 led2 T2 s2 λ p hp=>h2 p (h1 p hp)
 | BinOp l op r p =>
  have h:vcE c sc ls n l B led λ a B led=>vcE c sc ls n r B led λ b B led=>jkS c ls op a b B led K:=h
  refine ⟨λ T s E Q hs hk=>wpAny_BinOp ((ih _ _ _ _ h).run T s E _ hs λ a v B1 led1 T1 s1 h1 hs1 ha hK=>(ih _ _ _ _ hK).run T1 s1 E _ hs1 λ b y B2 led2 T2 s2 h2 hs2 hb hK2=>?_)⟩
  exact (jnr hK2).run T2 s2 E v y _ hs2 (ha.mono h2) hb λ a v B3 led3 T3 s3 h3=>hk a v B3 led3 T3 s3 λ p hp=>h3 p (h2 p (h1 p hp))
 | Subscript v s p =>
  by_cases hsl:jaY s=true
  ·have h:vcE c sc ls n v B led λ a B led=>vcE c sc ls n s B led λ i B led=>jkT c ls v s a i B led K:=(if_pos hsl).mp h
   refine ⟨λ T s E Q hs hk=>Subscript_ ((ih _ _ _ _ h).run T s E _ hs λ a v B1 led1 T1 s1 h1 hs1 ha hK=>(ih _ _ _ _ hK).run T1 s1 E _ hs1 λ b y B2 led2 T2 s2 h2 hs2 hb hK2=>?_)⟩
   exact (jop hsl hK2).run T2 s2 E v y _ hs2 (ha.mono h2) hb λ a v B3 led3 T3 s3 h3=>hk a v B3 led3 T3 s3 λ p hp=>h3 p (h2 p (h1 p hp))
  ·exact (if_neg hsl).mp h
 | Tuple es k p =>
  by_cases hn:(es.all nst && decide (es.length<1000))=true
  ·have h:vcL (vcE c sc ls n) es B led λ as B led=>K (.tup as) B led:=(if_pos hn).mp h
   rw [Bool.and_eq_true,decide_eq_true_eq] at hn
   replace hn:=hn
   refine ⟨λ T s E Q hs hk=>Tuple_ (jjl ih _ hn.1 h T s _ _ hs λ as vs B1 led1 T1 s1 h1 hs1 ha hln hK=>?_)⟩
   exact hs1.tup ha (λ a v B2 led2 T2 s2 h2=>hk a v B2 led2 T2 s2 λ p hp=>h2 p (h1 p hp)) hK (by refine rwr hln ?_; exact Ja0 (Jb6 hn.2) (by decide))
  ·exact (if_neg hn).mp h
 | List es p =>
  by_cases hn:(es.all nst && decide (es.length<1000))=true
  ·have h:vcL (vcE c sc ls n) es B led λ as B led=>LI c as ls B led K:=(if_pos hn).mp h
   rw [Bool.and_eq_true,decide_eq_true_eq] at hn
   replace hn:=hn
   refine ⟨λ T s E Q hs hk=>List_ (jjl ih _ hn.1 h T s _ _ hs λ as vs B1 led1 T1 s1 h1 hs1 ha hln hK=>?_)⟩
   exact hK.run T1 s1 E vs Q hs1 ha (by refine rwr hln ?_; exact Jb6 hn.2) (λ a v B2 led2 T2 s2 h2=>hk a v B2 led2 T2 s2 λ p hp=>h2 p (h1 p hp))
  ·exact (if_neg hn).mp h
 | Dict ks vs p =>
  rcases ks with _ | _
  ·rcases vs with _ | _
   ·have h:∀ x,K (.v (.ref x)) B ((x,.fd [])::led):=h
    refine ⟨λ T s E Q hs hk=>?_⟩
    refine hs.elim λ h' tk m σ cl lr W O hT hB hL hC hK=>?_
    exact jld W λ x h2 W2=>hk _ _ _ _ _ _ (λ U h=>h) (.mk h2 tk m σ cl ((x,dictOf [] 0)::lr) W2 O hT hB (.cons (.fd [] _ (jfS _)) hL) hC hK) (.v _) (h x)
   ·exact h
  ·exact h
 | ListComp elt gens scope pos =>
  rcases gens with _ | ⟨⟨t,iter,ifs,k⟩,_ | _⟩
  ·exact h
  ·rcases k with (_ | k) | k
   ·exact jpz C ih h
   ·exact h
   ·exact h
  ·rcases k with (_ | k) | k <;> exact h
 | _=>exact h
end
end
section
section
variable {c:WC} {sc:Scope} {E:Value->Shared->Prop} {ls:Ls} {B:List Tm} {led:Led} {T:List (Addr×Obj)} {s:Shared} {K:KA}
theorem jp0 {f:Expr->List Tm->Led->(Bool->List Tm->Led->Prop)->Prop} (hf:∀ e B led K,f e B led K->VT c e ls B led K) {op:BoolOp} {es:List Expr} {p:Pos} {B:List Tm} {led:Led} {K:Bool->List Tm->Led->Prop} {whole:Sem Value}:jp4 f op es B led K->∀ T s (Q:Bool->Shared->Prop),St c ls B led T s->(∀ b B' led' T' s',(∀ p∈T,p∈T')->St c ls B' led' T' s'->K b B' led'->Q b s')->wpAny (model prg c.w) c.A (isTrue (.BoolOp op es p) c.env whole) Q E s:=by
 induction es generalizing B led with
 | nil =>
  intro h T s Q hs hk
  cases op with
  | Or=>exact isTrue_or_nil (hk _ _ _ T s (λ U h=>h) hs h)
  | And=>exact isTrue_and_nil (hk _ _ _ T s (λ U h=>h) hs h)
 | cons e r ih =>
  intro h T s Q hs hk
  have h:=(hf e _ _ _ h).run T s E
  cases op with
  | Or =>
   refine isTrue_or (h _ hs λ b B1 led1 T1 s1 h1 hs1 hK=>?_)
   cases b with
   | true=>exact hk true _ _ _ _ h1 hs1 hK
   | false=>exact ih hK T1 s1 Q hs1 λ b B2 led2 T2 s2 h2=>hk b B2 led2 T2 s2 λ p hp=>h2 p (h1 p hp)
  | And =>
   refine isTrue_and (h _ hs λ b B1 led1 T1 s1 h1 hs1 hK=>?_)
   cases b with
   | false=>exact hk false _ _ _ _ h1 hs1 hK
   | true=>exact ih hK T1 s1 Q hs1 λ b B2 led2 T2 s2 h2=>hk b B2 led2 T2 s2 λ p hp=>h2 p (h1 p hp)
theorem jcb (C:CO c sc):∀ (n:Nat) (e:Expr) (B:List Tm) (led:Led) (K:Bool->List Tm->Led->Prop),vcT c sc ls n e B led K->VT c e ls B led K:=by
 intro n
 induction n with
 | zero =>
  intro _ _ _ _ h
  exact h
 | succ n ih =>
  intro e B led K h
  dsimp only [vcT] at h
  split at h
  ·exact ⟨λ T s E Q hs hk=>jp0 (ih) h T s Q hs hk⟩
  ·exact ⟨λ T s E Q hs hk=>isTrue_not ((ih _ _ _ _ h).run T s E _ hs λ b=>hk (!b))⟩
  ·exact jor (ja8 C n) h
theorem jiG {x:Str} (h:okN sc x=true):sc.names.lookup x=some .local\/(sc.names.lookup x=some .cell/\sc.isCoroutine=false):=by
 simpa [okN] using h
theorem jcw (C:CO c sc) {x:Str} {v:Value} {a:AV} {Q:Unit->Shared->Prop} (hx:okN sc x=true) (hs:St c ls B led T s) (ha:Has c.g T a v) (k:∀ s',St c ((x,a)::ls) B led T s'->Q () s'):wpAny (model prg c.w) c.A (storeName c.env x v) Q E s:=by
 have hfk:c.env.scope.kind=.function:=C.fk
 cases hs with
 | mk h tk m σ cl lr W O hT hB hL hC hK =>
  rcases jiG hx with hx | ⟨hx,hrw⟩
  ·refine rSt W (λ h' tk' W'=>k _ (.mk h' tk' _ σ cl lr W' O hT hB hL hC λ y b e=>?_)) C.hl ((C.kind x).trans hx) (by refine rwr hfk ?_; rfl)
   rw [jah] at e
   by_cases hy:y=x
   ·rw [if_pos hy] at e; replace e:=e; replace e:=e; obtain rfl:=Jb0 e
    exact ja2 v ha (.inl ⟨by refine rwr hy ?_; exact (C.kind x).trans hx,if_pos hy⟩)
   ·rw [if_neg hy] at e
    refine jam (hK y b e) λ u h1 h2=>?_
    refine ja2 u h1 ?_
    rcases h2 with ⟨h2,h3⟩ | h2
    ·exact .inl ⟨h2,(if_neg hy).trans h3⟩
    ·exact .inr h2
  ·have hkx:=(C.kind x).trans hx
   obtain ⟨ca,hca⟩:=(C.ce x hx)
   refine jdR (hC.2 x ca hca) λ o v0 hm hd=>?_
   refine jjx (List.append_of_mem hm) λ pre post e_1=>?_
   subst e_1
   have hnd:=W.C.nd
   refine jmI (led':=λ o'=>(lr++(pre++(ca,o')::post))++jak c.w.params 388 c.α σ) W hca (jk9 hm) hd (λ o'=>?_) (λ h' o' W' hd'=>k _ (.mk h' tk m σ _ lr W' O hT hB hL ?_ ?_)) hfk hkx
   ·rw [List.append_assoc,List.append_assoc,List.append_assoc,List.append_assoc]
    exact .app (.app .head)
   ·refine ⟨.inl (C.wr hrw),?_⟩
    intro y b hy
    refine jdR (hC.2 y b hy) λ o2 v2 hm2 hd2=>?_
    rcases Ja9.mp hm2 with q | q
    ·exact jjy o2 v2 (Ja7 _ q) hd2
    ·rcases Ja3.mp q with q | q
     ·cases q; exact jjy o' _ (Ja6 _ (.head _)) hd'
     ·exact jjy o2 v2 (Ja6 _ (.tail _ q)) hd2
   ·intro y b e
    rw [jah] at e
    by_cases hy:y=x
    ·rw [if_pos hy] at e; replace e:=e; replace e:=e; obtain rfl:=Jb0 e
     exact ja2 v ha (.inr ⟨by refine rwr hy ?_; exact hkx,ca,o',by refine rwr hy ?_; exact hca,Ja6 _ (.head _),hd'⟩)
    ·rw [if_neg hy] at e
     refine jam (hK y b e) λ u h1 h2=>?_
     refine ja2 u h1 ?_
     rcases h2 with h2 | ⟨h2,a2,o2,h3,h4,h5⟩
     ·exact .inl h2
     ·refine .inr ⟨h2,a2,o2,h3,?_,h5⟩
      rcases Ja9.mp h4 with q | q
      ·exact Ja7 _ q
      ·rcases Ja3.mp q with q | q
       ·cases q; exact absurd (C.ci y x ca h3 hca) hy
       ·exact Ja6 _ (.tail _ q)
theorem jdt {es:List Expr} {xs:List Str} (h:jbm es=some xs):(assignEach es c.env).length=xs.length/\(assignEach es c.env).findIdx? (·.1)=Option.none/\es.length=xs.length:=by
 have q:=nms h
 clear h
 induction q with
 | nil=>exact ⟨rfl,rfl,rfl⟩
 | cons x p _ ih =>
  refine ⟨congrArg Nat.succ ih.1,?_,congrArg Nat.succ ih.2.2⟩
  show List.findIdx? _ ((false,assign (.Name x p) c.env)::assignEach _ c.env)=_
  refine rwr (List.findIdx?_cons) ?_; refine rwr ih.2.1 ?_; rfl
theorem jfu (C:CO c sc) {es:List Expr} {xs:List Str} (h:jbm es=some xs):∀ {as:List AV} {vs:List Value} {ls:Ls} {s:Shared} {Q:Unit->Shared->Prop},xs.all (okN sc)=true->St c ls B led T s->Hass c.g T as vs->as.length=xs.length->(∀ s',St c ((xs.zip as).reverse++ls) B led T s'->Q () s') ->
  wpAny (model prg c.w) c.A (assignInOrder ((assignEach es c.env).map (·.2)) vs) Q E s:=by
 have q:=nms h
 clear h
 induction q with
 | nil =>
  intro as vs ls s Q _ hs has hl k
  cases has with
  | nil=>exact jd9 (k _ hs)
  | cons _ _=>exact nomatch hl
 | cons x p _ ih =>
  intro as vs ls s Q ho hs has hl k
  cases has with
  | nil=>exact nomatch hl
  | cons ha hr =>
   rw [List.all_cons,Bool.and_eq_true] at ho
   refine jgh (wpAny_assign_Name (jcw C ho.1 hs ha λ s' hs'=>?_))
   refine ih ho.2 hs' hr (Nat.succ.inj hl) λ s2 hs2=>k _ ?_
   refine rwr List.zip_cons_cons ?_; refine rwr List.reverse_cons ?_; rw [List.append_assoc]; exact hs2
theorem ji5 (C:CO c sc) {xs:List Str} {as:List AV} {vs:List Value} {ls:Ls} {s:Shared} {Q:Unit->Shared->Prop}:xs.all (okN sc)=true->St c ls B led T s->Hass c.g T as vs->as.length=xs.length->(∀ s',St c ((xs.zip as).reverse++ls) B led T s'->Q () s') ->
  wpAny (model prg c.w) c.A (assignInOrder (xs.map λ n=>bindName c.env n) vs) Q E s:=by
 induction xs generalizing as vs ls s with
 | nil =>
  intro _ hs has hl k
  obtain rfl:=List.length_eq_zero_iff.mp hl
  exact has.nilE (jd9 (k _ hs))
 | cons x r ih =>
  intro ho hs has hl k
  refine jdR (jnV hl) λ a as' e hl'=>?_
  subst e
  refine has.consE λ v vs' ha hr=>?_
  have ho:=Bool.and_eq_true_iff.mp ho
  refine jcj (jcw C ho.1 hs ha λ s' hs'=>ih ho.2 hs' hr hl' λ s2 hs2=>k _ ?_)
  refine rwr List.zip_cons_cons ?_; refine rwr List.reverse_cons ?_; rw [List.append_assoc]; exact hs2
theorem jmH:∀ (xs:List Str) (as:List AV) (ls:Ls),puts xs as ls=xs.zip as++ls:=by
 intro xs
 induction xs with
 | nil =>
  intro _ _
  exact rfl
 | cons x xs ih =>
  intro w_1
  cases w_1 with
  | nil =>
   intro _
   exact rfl
  | cons a as =>
   intro ls
   show (x,a)::puts xs as ls=_; refine rwr (ih as ls) ?_; rfl
theorem jgK {α:Type} (x:Str) (l r:List (Str×α)):(l++r).lookup x=(l.lookup x).or (r.lookup x):=by
 induction l with
 | nil=>rfl
 | cons p l ih =>
  rw [Ja4,show p=(p.1,p.2) from rfl,jah,jah,ih]
  exact itg (p:=λ z=>(if x=p.1 then some p.2 else (List.lookup x l).or (List.lookup x r))=Option.or z _) (λ e=>if_pos e) λ e=>if_neg e
theorem jbW {α:Type} {x:Str} {a:α} {l:List (Str×α)}:(l.map (·.1)).Nodup->(l.lookup x=some a↔(x,a)∈l):=by
 induction l with
 | nil=>exact λ U=>⟨λ h=>(nomatch h),λ h=>absurd h Jb2⟩
 | cons p l ih =>
  intro h
  rw [Ja8,Jd9] at h
  refine ⟨jay,λ q=>?_⟩
  refine Jc8 (Ja3.mp q) (λ e=>?_) λ q=>?_
  ·rw [<- e,jah,if_pos rfl]
  ·exact (jah p.1 x p.2 l).trans ((if_neg λ (e:x=p.1)=>h.1 (e▸Jb9 ⟨_,q,rfl⟩)).trans ((ih h.2).mpr q))
theorem jip {α:Type} {x:Str} {l l':List (Str×α)} (hn:(l.map (·.1)).Nodup) (p:l'.Perm l):l'.lookup x=l.lookup x:=by
 have hn':(l'.map (·.1)).Nodup:=(p.map _).nodup_iff.mpr hn
 cases e:l.lookup x with
 | some a=>exact (jbW hn').mpr (p.mem_iff.mpr ((jbW hn).mp e))
 | none =>
  cases e2:l'.lookup x with
  | none=>rfl
  | some a =>
   have:=(jbW hn).mpr (p.mem_iff.mp ((jbW hn').mp e2))
   rw [e] at this; replace this:=this; cases this
theorem jjt {α:Type}:∀ (xs:List Str) (as:List α),as.length=xs.length->(xs.zip as).map (·.1)=xs:=by
 intro xs
 induction xs with
 | nil =>
  intro _ _
  rfl
 | cons x xs ih =>
  intro w_2
  cases w_2 with
  | nil =>
   intro h
   simp at h
  | cons a as =>
   intro h
   refine rwr List.zip_cons_cons ?_; refine rwr Ja8 ?_; refine rwr (ih as (by simpa using h)) ?_; rfl
theorem St.puts {xs:List Str} {as:List AV} {l:Ls} (hs:St c (l++ls) B led T s) (hn:xs.Nodup) (hl:as.length=xs.length) (p:l.Perm (xs.zip as)):St c (puts xs as ls) B led T s :=
 hs.wk λ x a e=>by
  rw [jmH,jgK] at e
  rw [jgK,jip (by rw [jjt _ _ hl]; exact hn) p]
  exact e
set_option tactic.hygienic true in
theorem jm1 (C:CO c sc) {ts:List Expr} {k:Nat} {tp:Pos} {e:Expr} {xs:List Str} (hx:jbm ts=some xs) (h:joU e=true):swappedStores [.Tuple ts k tp] e c.env=pure Option.none\/(swappedStores [.Tuple ts k tp] e c.env=pure (some xs)):=by
 have key:∀ {ts:List Expr} {xs:List Str} (line:Nat),Nms ts xs->∃ ys,ts.filterMap (fun | .Name id pos=>if c.env.kindOf id == some .local && pos.line == line then some id else none | _=>none)=ys/\(ys.length=ts.length->ys=xs)/\ys.length<=ts.length:=by
  intro ts xs line q
  induction q with
  | nil=>exact jfE ([]) rfl (λ U=>rfl) (Jc4 _)
  | cons x p _ ih =>
   refine jdI ih λ ys h1 h2 h3=>?_
   refine Jc8 (Jc9 ((c.env.kindOf x == some .local && p.line == line)=true)) (λ hc=>?_) λ hc=>?_
   ·exact jfE (x::ys) (by refine rwr List.filterMap_cons ?_; simp only [hc,if_true,h1]) (λ e=>congrArg (List.cons x) (h2 (Nat.succ.inj e))) (Jc1 h3)
   ·exact jfE ys (by refine rwr List.filterMap_cons ?_; simp only [hc,h1]; rfl) (λ e=>absurd (e▸h3) (Nat.not_succ_le_self _)) (Jd8 h3)
 cases e
 case Tuple vs k2 p2 =>
  refine jdI (key ((ts.head?.map (·.pos.line)).getD 0) (nms hx)) λ ys h1 h2 h3=>?_
  unfold swappedStores
  dsimp only
  refine itg (λ q_3=>?_) λ q_4=>?_
  ·exact .inl rfl
  ·refine itg (λ q_5=>?_) λ q_6=>?_
   ·exact .inl rfl
   ·generalize hF:List.filterMap _ ts=zs
    obtain rfl:zs=ys:=hF.symm.trans h1
    refine itg (λ q_7=>?_) λ hc=>?_
    ·exact .inl rfl
    ·refine itg (λ q_8=>?_) λ q_9=>?_
     ·exact .inl rfl
     ·refine rwr (show (vs.all (constantsAlone 8))=false from Bool.not_eq_true' _▸(show (!vs.all (constantsAlone 8))=true from h)) ?_
      refine rwr (if_neg (by decide)) ?_
      simp only [Bool.or_eq_true,not_or,bne_iff_ne,ne_eq,Decidable.not_not] at hc
      refine rwr (h2 hc.1) ?_
      exact .inr rfl
 all_goals exact .inl rfl
end
end
section
section
variable {c:WC} {sc:Scope} {E:Value->Shared->Prop} {ls:Ls} {B:List Tm} {led:Led} {T:List (Addr×Obj)} {s:Shared} {K:KF}
theorem Hass.rev {g:WG} {l:List AV} {vs:List Value} (h:Hass g T l vs):Hass g T l.reverse vs.reverse :=
 match l,vs,h with
 | _,_,.nil=>.nil
 | _,_,.cons h r=>by refine rwr List.reverse_cons ?_; refine rwr List.reverse_cons ?_; exact (Hass.rev r).app (.cons h .nil)
theorem jmT:∀ (xs:List Str) (as:List AV),as.length=xs.length->xs.reverse.zip as.reverse=(xs.zip as).reverse:=by
 intro xs
 induction xs with
 | nil =>
  intro _ _
  exact rfl
 | cons x xs ih =>
  intro w_1
  cases w_1 with
  | nil =>
   intro h
   simp at h
  | cons a as =>
   intro h
   refine rwr List.reverse_cons ?_
   refine rwr List.reverse_cons ?_
   refine rwr List.zip_cons_cons ?_
   refine rwr List.reverse_cons ?_
   refine rwr (List.zip_append (by simpa using h.symm)) ?_
   refine rwr (ih as (by simpa using h)) ?_
   rfl
theorem jjc (C:CO c sc) {ts:List Expr} {k:Nat} {tp pos:Pos} {e:Expr} {xs:List Str} {rest:List Stmt} {Q:Flow->Shared->Prop} (hx:jbm ts=some xs) (hc:jb8 e=true) (hsw:joU e=true) (ho:xs.all (okN sc)=true) (hn:xs.Nodup) (hl:xs.length<1000)
  (h:VE c e ls B led λ a B led=>onT (λ as=>as.length=xs.length/\VS c rest (puts xs as ls) B led K) a) (hs:St c ls B led T s)
  (hk:∀ fl f ls' B' led' T' s',(∀ p∈T,p∈T')->St c ls' B' led' T' s'->jnc c.g T' fl f->K fl ls' B' led'->Q f s') :
  wpAny (model prg c.w) c.A (execs (.Assign [.Tuple ts k tp] e pos::rest) c.env) Q E s:=by
 refine jbq (jdt (c:=c) hx) λ n1 n2 n3=>?_
 rcases jm1 (k:=k) (tp:=tp) C hx hsw with hw | hw
 ·refine wpAny_execs_cons (Assign_Tuple (h.run T s E _ hs λ a v B1 led1 T1 s1 h1 hs1 ha hK=>?_) (show swapsWith e (some (.Tuple ts k tp)) pos.line c.env=pure false from jdh hc) hw)
  obtain ⟨as,rfl,hK⟩:=jiH hK
  cases ha with
  | tup _ a vs hm has =>
   have hs0:=hs1
   cases hs1 with
   | mk h' tk m σ cl lr W O hT hB hL hC hKn =>
    refine job C.hh W (ja3 W.C (jar hT hm)) (λ h2 W2=>?_) (by refine rwr n1 ?_; refine rwr Jc5 ?_; rw [has.len,hK.1]) n2
    have hs2:St c ls B1 led1 T1 ⟨h2,c.gs,c.dr,tk,c.os⟩:=.mk h2 tk m σ cl lr W2 O hT hB hL hC hKn
    exact jfu C hx ho hs2 (by simpa using has) hK.1 λ s' hs'=>hK.2.run T1 s' E Q (hs'.puts hn hK.1 (List.reverse_perm _)) λ fl f ls' B' led' T' s'' hsub=>hk fl f ls' B' led' T' s'' λ p hp=>hsub p (h1 p hp)
 ·refine wpAny_execs_cons (Assign_Tuple_swapped (h.run T s E _ hs λ a v B1 led1 T1 s1 h1 hs1 ha hK=>?_) (show swapsWith e (some (.Tuple ts k tp)) pos.line c.env=pure false from jdh hc) hw)
  obtain ⟨as,rfl,hK⟩:=jiH hK
  cases ha with
  | tup _ a vs hm has =>
   have hs0:=hs1
   cases hs1 with
   | mk h' tk m σ cl lr W O hT hB hL hC hKn =>
    refine jmO C.hh W (jar hT hm) (λ h2 W2=>?_) (by rw [has.len,hK.1])
    have hs2:St c ls B1 led1 T1 ⟨h2,c.gs,c.dr,tk,c.os⟩:=.mk h2 tk m σ cl lr W2 O hT hB hL hC hKn
    refine ji5 C (xs:=xs.reverse) (as:=as.reverse) (by refine rwr List.all_reverse ?_; exact ho) hs2 has.rev (by simpa using hK.1) λ s' hs'=>hK.2.run T1 s' E Q (hs'.puts hn hK.1 ?_) λ fl f ls' B' led' T' s'' hsub=>hk fl f ls' B' led' T' s'' λ p hp=>hsub p (h1 p hp)
    refine rwr (jmT _ _ hK.1) ?_
    rw [List.reverse_reverse]
theorem KQ.sub {T1:List (Addr×Obj)} {Q:Flow->Shared->Prop} (hk:KQ c T K Q) (h1:∀ p∈T,p∈T1):KQ c T1 K Q:=λ fl f ls' B' led' T' s' h2=>hk fl f ls' B' led' T' s' λ p hp=>h2 p (h1 p hp)
theorem KQ.rest {rest:List Stmt} {Q:Flow->Shared->Prop} {E:Value->Shared->Prop} {K2:KF} (ih:∀ ls B led,K2 .next ls B led->VS c rest ls B led K) (hb:∀ fl ls B led,fl≠.next->K2 fl ls B led->K fl ls B led) (hk:KQ c T K Q):KQ c T K2 (λ f s'=>match f with | .next=>wpAny (model prg c.w) c.A (execs rest c.env) Q E s' | f=>Q f s') :=
 λ fl f ls' B' led' T' s' hsub hs' hf hK2=>by
  cases hf with
  | next=>exact (ih _ _ _ hK2).run T' s' E Q hs' (KQ.sub hk hsub)
  | brk=>exact hk .brk .brk _ _ _ T' s' hsub hs' .brk (hb _ _ _ _ (λ e=>nomatch e) hK2)
  | cont=>exact hk .cont .cont _ _ _ T' s' hsub hs' .cont (hb _ _ _ _ (λ e=>nomatch e) hK2)
  | ret ha=>exact hk (.ret _) (.ret _) _ _ _ T' s' hsub hs' (.ret ha) (hb _ _ _ _ (λ e=>nomatch e) hK2)
noncomputable abbrev jja (c:WC) (sc:Scope) (n:Nat) (rest:List Stmt) (K:KF):KF:=joK (vcS c sc n) rest K
theorem jc5 {n:Nat} {rest:List Stmt}:∀ fl ls B led,fl≠.next->jja c sc n rest K fl ls B led->K fl ls B led
 | .next,_,_,_,h,_=>absurd rfl h
 | .ret _,_,_,_,_,h=>h
 | .brk,_,_,_,_,h=>h
 | .cont,_,_,_,_,h=>h
theorem joq (C:CO c sc) {scope:Scope} {x:Str} {xp pos p:Pos} {elt t iter:Expr} {ifs:List Expr} (h:swC sc scope x xp pos=true):swapsWith (.ListComp elt [⟨t,iter,ifs,0⟩] scope pos) (some (.Name x xp)) p.line c.env=pure true:=by
 simp only [swC,Bool.and_eq_true] at h
 have e1:c.env.blockKind=.function:=by unfold Env.blockKind; refine rwr C.fk ?_; rfl
 show (pure (c.env.blockKind == .function && c.env.kindOf x == some .local && xp.line == pos.line && !(scope.names.any λ (n,k)=>n == x && (k == .local || k == .cell))):Sem Bool)=pure true
 refine rwr e1 ?_; rw [C.kind,h.1.1]; refine rwr h.1.2 ?_; refine rwr h.2 ?_; rfl
inductive jeQ:SV->Stmt->Prop
 | exp (e:Expr) (p:Pos):jeQ (.exp e) (.Expr e p)
 | ret0 (p:Pos):jeQ .ret0 (.Return Option.none p)
 | ret (e:Expr) (p:Pos):jeQ (.ret e) (.Return (some e) p)
 | asg (x:Str) (xp p:Pos) (e:Expr):jeQ (.asg x xp p e) (.Assign [.Name x xp] e p)
 | tup (es:List Expr) (k:Nat) (tp:Pos) (e:Expr) (p:Pos):jeQ (.tup es e) (.Assign [.Tuple es k tp] e p)
 | sub (o i:Expr) (sp:Pos) (e:Expr) (p:Pos):jeQ (.sub o i e) (.Assign [.Subscript o i sp] e p)
 | del (o i:Expr) (sp p:Pos):jeQ (.del o i) (.Delete [.Subscript o i sp] p)
 | for_ (x:Str) (xp:Pos) (it:Expr) (body:List Stmt) (p:Pos):jeQ (.for_ x it body) (.For (.Name x xp) it body [] p)
 | wh (t:Expr) (body:List Stmt) (p:Pos):jeQ (.wh t body) (.While t body [] p)
 | if_ (t:Expr) (p q:List Stmt) (pos:Pos):jeQ (.if_ t p q) (.If t p q pos)
 | cont (p:Pos):jeQ .cont (.Continue p)
 | oth (st:Stmt):jeQ .oth st
theorem jlG (p:Pos) (e:Expr) {v:XV} {t:Expr} (q:IsX v t):jeQ (jqc p e v) (.Assign [t] e p):=by
 cases q with
 | nm=>exact .asg ..
 | tp=>exact .tup ..
 | sb=>exact .sub ..
 | lc=>exact .oth _
 | oth=>exact .oth _
theorem jlT (p:Pos) {v:XV} {t:Expr} (q:IsX v t):jeQ (jqg v) (.Delete [t] p):=by
 cases q with
 | sb=>exact .del ..
 | nm=>exact .oth _
 | tp=>exact .oth _
 | lc=>exact .oth _
 | oth=>exact .oth _
theorem jl3 (it:Expr) (body:List Stmt) (p:Pos) {v:XV} {t:Expr} (q:IsX v t):jeQ (jqh it body v) (.For t it body [] p):=by
 cases q with
 | nm=>exact .for_ ..
 | sb=>exact .oth _
 | tp=>exact .oth _
 | lc=>exact .oth _
 | oth=>exact .oth _
theorem jom (st:Stmt):jeQ (stV st) st:=by
 cases st with
 | Expr e p=>exact .exp ..
 | Return e p=>cases e with | none=>exact .ret0 _ | some e=>exact .ret ..
 | Assign ts e p =>
  cases ts with
  | nil=>exact .oth _
  | cons t r=>cases r with | nil=>exact jlG p e (jdX t) | cons _ _=>exact .oth _
 | Delete ts p =>
  cases ts with
  | nil=>exact .oth _
  | cons t r=>cases r with | nil=>exact jlT p (jdX t) | cons _ _=>exact .oth _
 | For t it body orelse p=>cases orelse with | nil=>exact jl3 it body p (jdX t) | cons _ _=>exact .oth _
 | While t body orelse p=>cases orelse with | nil=>exact .wh .. | cons _ _=>exact .oth _
 | If t p q pos=>exact .if_ ..
 | Continue p=>exact .cont _
 | _=>exact .oth _
theorem jnS {elt:Expr} {scope:Scope} {pos:Pos} {g:Comprehension} {l:LC} (h:lcG elt scope pos g=some l):Expr.ListComp elt [g] scope pos=.ListComp l.elt [⟨l.t,l.iter,l.ifs,0⟩] l.scope l.pos:=by
 obtain ⟨t,iter,ifs,a⟩:=g
 match a,h with
 | .ofNat 0,h=>rw [<- Jb0 h]; rfl
theorem jnT {v:XV} {e:Expr} (q:IsX v e) {l:LC} (h:lcO v=some l):e=.ListComp l.elt [⟨l.t,l.iter,l.ifs,0⟩] l.scope l.pos:=by
 cases q with
 | lc elt gens scope pos =>
  cases gens with
  | nil=>exact nomatch h
  | cons g r=>cases r with | nil=>exact jnS h | cons _ _=>exact nomatch h
 | nm=>exact nomatch h
 | sb=>exact nomatch h
 | tp=>exact nomatch h
 | oth=>exact nomatch h
theorem jmm {e:Expr} {l:LC} (h:joM e=some l):e=.ListComp l.elt [⟨l.t,l.iter,l.ifs,0⟩] l.scope l.pos:=jnT (jdX e) h
theorem jrj (C:CO c sc) {n:Nat} (ih:∀ b ls B led K,vcS c sc n b ls B led K->VS c b ls B led K) {rest:List Stmt} {x:Str} {xp p:Pos} {e:Expr} (h:joV c sc (vcS c sc n) x xp p (joM e) (.Assign [.Name x xp] e p::rest) rest ls B led K):VS c (.Assign [.Name x xp] e p::rest) ls B led K:=by
 cases hl:joM e with
 | none=>rw [hl] at h; exact h
 | some l =>
  rw [hl] at h
  cases ht:jcJ l.t with
  | none=>unfold joV at h; dsimp only at h; rw [ht] at h; exact h
  | some tg =>
   unfold joV at h; dsimp only at h; rw [ht] at h
   by_cases hc2:(jhJ l.scope sc tg && jcU l.iter && swC sc l.scope x xp l.pos)=true
   ·replace h:=(if_pos hc2).mp h
    simp only [Bool.and_eq_true] at hc2
    have h0:=cf0 hc2.1.1
    refine jbh (jhV C hc2.1.1) λ cl hcl=>?_
    rw [jmm hl]
    exact ⟨λ T s E Q hs hk=>wpAny_execs_cons (jf0 ((ja8 C 20 _ _ _ _ h).run T s E _ hs λ a v B1 led1 T1 s1 h1 hs1 ha hK=>hK.run T1 s1 E v xp _ cl hcl hs1 ha λ a B2 led2 T2 s2 h2 hs2 hK2=>(ih _ _ _ _ _ hK2).run T2 s2 E Q hs2 (KQ.sub hk λ p hp=>h2 p (h1 p hp))) (joq C hc2.2) hcl.e h0.k h0.ln λ x=>jeq hc2.1.2)⟩
   ·exact (if_neg hc2).mp h
theorem jpY (C:CO c sc) {n:Nat} (ih:∀ b ls B led K,vcS c sc n b ls B led K->VS c b ls B led K) {rest:List Stmt} {es:List Expr} {k:Nat} {tp p:Pos} {e:Expr} (h:jqB c sc (vcS c sc n) (jbm es) e (.Assign [.Tuple es k tp] e p::rest) rest ls B led K):VS c (.Assign [.Tuple es k tp] e p::rest) ls B led K:=by
 cases hx:jbm es with
 | none=>rw [hx] at h; exact h
 | some xs =>
  rw [hx] at h
  by_cases hc:(jb8 e && joU e && xs.all (okN sc) && decide xs.Nodup && decide (xs.length<1000))=true
  ·replace h:vcE c sc ls 20 e B led (jnN (vcS c sc n) xs rest ls K):=(if_pos hc).mp h
   simp only [Bool.and_eq_true,decide_eq_true_eq] at hc
   refine ⟨λ T s E Q hs hk=>jjc C hx hc.1.1.1.1 hc.1.1.1.2 hc.1.1.2 hc.1.2 hc.2 ⟨λ T s E Q hs hk=>(ja8 C 20 _ _ _ _ h).run T s E Q hs λ a v B1 led1 T1 s1 h1 hs1 ha hK=>hk a v B1 led1 T1 s1 h1 hs1 ha ?_⟩ hs hk⟩
   refine jam (jiH hK) λ as e_3 hK=>?_
   subst e_3
   exact ⟨hK.1,ih _ _ _ _ _ hK.2⟩
  ·exact (if_neg hc).mp h
theorem jri (C:CO c sc) {n:Nat} (ih:∀ b ls B led K,vcS c sc n b ls B led K->VS c b ls B led K) {rest:List Stmt} {pos:Pos} {t:Expr} {p q:List Stmt} (h:vcT c sc ls 20 t B led (kIf (vcS c sc n) p q ls (jja c sc n rest K))):VS c (.If t p q pos::rest) ls B led K:=by
 refine ⟨λ T s E Q hs hk=>wpAny_execs_cons (wpAny_If ((jcb C 20 _ _ _ _ h).run T s E _ hs λ b B1 led1 T1 s1 h1 hs1 hK=>?_))⟩
 have hrest:∀ ls B led,jja c sc n rest K .next ls B led->VS c rest ls B led K:=λ ls B led h=>ih _ _ _ _ _ h
 cases b with
 | true=>exact (ih _ _ _ _ _ hK).run T1 s1 E _ hs1 (KQ.rest hrest jc5 (KQ.sub hk h1))
 | false=>exact (ih _ _ _ _ _ hK).run T1 s1 E _ hs1 (KQ.rest hrest jc5 (KQ.sub hk h1))
theorem joD (C:CO c sc) {n:Nat} (ih:∀ b ls B led K,vcS c sc n b ls B led K->VS c b ls B led K) {rest:List Stmt} {v:SV} {st:Stmt} (q:jeQ v st) (h:vcV c sc (vcS c sc n) v (st::rest) rest ls B led K):VS c (st::rest) ls B led K:=by
 have hrest:∀ ls B led,jja c sc n rest K .next ls B led->VS c rest ls B led K:=λ ls B led h=>ih _ _ _ _ _ h
 cases q with
 | exp e p =>
  by_cases hc:jb8 e=true
  ·replace h:=(if_pos hc).mp h
   have hia:interactive c.env=false:=by unfold interactive; refine rwr C.fk ?_; rfl
   exact ⟨λ T s E Q hs hk=>wpAny_execs_cons (wpAny_Expr_any ((ja8 C 20 _ _ _ _ h).run T s E _ hs λ a v B1 led1 T1 s1 h1 hs1 ha hK=>(ih _ _ _ _ _ hK).run T1 s1 E Q hs1 (KQ.sub hk h1)) hia (jdh hc))⟩
  ·exact (if_neg hc).mp h
 | ret0 p=>exact ⟨λ T s E Q hs hk=>wpAny_execs_cons (wpAny_Return_none (hk (.ret .none) (.ret .none) ls B led T s (λ U h=>h) hs (.ret .none) h))⟩
 | ret e p=>exact ⟨λ T s E Q hs hk=>wpAny_execs_cons (wpAny_Return_some ((ja8 C 20 _ _ _ _ h).run T s E _ hs λ a v B1 led1 T1 s1 h1 hs1 ha hK=>hk (.ret a) (.ret v) ls B1 led1 T1 s1 h1 hs1 (.ret ha) hK))⟩
 | asg x xp p e =>
  by_cases hc:(jb8 e && okN sc x)=true
  ·replace h:=(if_pos hc).mp h
   rw [Bool.and_eq_true] at hc
   exact ⟨λ T s E Q hs hk=>wpAny_execs_cons (wpAny_Assign_Name ((ja8 C 20 _ _ _ _ h).run T s E _ hs λ a v B1 led1 T1 s1 h1 hs1 ha hK=>jcw C hc.2 hs1 ha λ s2 hs2=>(ih _ _ _ _ _ hK).run T1 s2 E Q hs2 (KQ.sub hk h1)) (jdh hc.1))⟩
  ·exact jrj C ih ((if_neg hc).mp h)
 | tup es k tp e p=>exact jpY C ih h
 | sub o i sp e p =>
  by_cases hc:jb8 e=true
  ·replace h:=(if_pos hc).mp h
   exact ⟨λ T s E Q hs hk=>wpAny_execs_cons (wpAny_Assign_Subscript ((ja8 C 20 _ _ _ _ h).run T s E _ hs λ a v B1 led1 T1 s1 h1 hs1 ha hK=>(ja8 C 20 _ _ _ _ hK).run T1 s1 E _ hs1 λ a2 v2 B2 led2 T2 s2 h2 hs2 ha2 hK2=>(ja8 C 20 _ _ _ _ hK2).run T2 s2 E _ hs2 λ a3 v3 B3 led3 T3 s3 h3 hs3 ha3 hK3=>hK3.run T3 s3 E v2 v3 v _ hs3 (ha2.mono h3) ha3 (ha.mono λ p hp=>h3 p (h2 p hp)) λ B4 led4 T4 s4 h4 hs4 hK4=>(ih _ _ _ _ _ hK4).run T4 s4 E Q hs4 (KQ.sub hk λ p hp=>h4 p (h3 p (h2 p (h1 p hp))))) (jdh hc))⟩
  ·exact (if_neg hc).mp h
 | del o i sp p=>exact ⟨λ T s E Q hs hk=>wpAny_execs_cons (wpAny_Delete (wpAny_deleteEach_cons (wpAny_delete_Subscript ((ja8 C 20 _ _ _ _ h).run T s E _ hs λ a v B1 led1 T1 s1 h1 hs1 ha hK=>(ja8 C 20 _ _ _ _ hK).run T1 s1 E _ hs1 λ a2 v2 B2 led2 T2 s2 h2 hs2 ha2 hK2=>hK2.run T2 s2 E v v2 _ hs2 (ha.mono h2) ha2 λ B3 led3 T3 s3 h3 hs3 hK3=>wpAny_deleteEach_nil ((ih _ _ _ _ _ hK3).run T3 s3 E Q hs3 (KQ.sub hk λ p hp=>h3 p (h2 p (h1 p hp))))))))⟩
 | for_ x xp it body p =>
  by_cases hc:(jcU it && okN sc x)=true
  ·replace h:=(if_pos hc).mp h
   rw [Bool.and_eq_true] at hc
   exact ⟨λ T s E Q hs hk=>wpAny_execs_cons (wpAny_For ((ja8 C 20 _ _ _ _ h).run T s E _ hs λ a v B1 led1 T1 s1 h1 hs1 ha hK=>hK.run T1 s1 E v xp _ hs1 ha (KQ.rest hrest jc5 (KQ.sub hk h1))) λ y=>jeq hc.1)⟩
  ·exact (if_neg hc).mp h
 | wh t body p =>
  have h:WH c t body ls B led (jja c sc n rest K):=h
  exact ⟨λ T s E Q hs hk=>wpAny_execs_cons (h.run T s E p _ hs (KQ.rest hrest jc5 hk))⟩
 | if_ t p q pos =>
  by_cases hc:(jjQ p && jjQ q && !rest.isEmpty)=true
  ·exact (if_pos hc).mp h
  ·exact jri C ih ((if_neg hc).mp h)
 | cont p=>exact ⟨λ T s E Q hs hk=>wpAny_execs_cons (wpAny_Continue (hk .cont .cont ls B led T s (λ U h=>h) hs .cont h))⟩
 | oth=>exact h
theorem jaj (C:CO c sc) (n:Nat):∀ (b:List Stmt) (ls:Ls) (B:List Tm) (led:Led) (K:KF),vcS c sc n b ls B led K->VS c b ls B led K:=by
 induction n with
 | zero=>exact λ U U U U U h=>h
 | succ n ih =>
  intro b ls B led K h
  cases b with
  | nil=>exact ⟨λ T s E Q hs hk=>wpAny_execs_nil (hk .next .next ls B led T s (λ U h=>h) hs .next h)⟩
  | cons st rest=>exact joD C ih (jom st) h
end
end
section
noncomputable def Fl.val:Fl->AV
 | .ret a=>a
 | _=>.none
inductive EndV (x:Addr×AO) (cl:Led) (K:KA):Fl->Ls->List Tm->Led->Prop
 | plain {fl:Fl} {ls:Ls} {B:List Tm} {led':Led} (led:Led):(x::(led++cl)).Sublist led'->K fl.val B led->EndV x cl K fl ls B led'
 | list {a:Addr} {l:List Nat} {ls:Ls} {B:List Tm} {led':Led} (led:Led):((a,AO.lns l)::x::(led++cl)).Sublist led'->K (.lns l) B led->EndV x cl K (.ret (.v (.ref a))) ls B led'
 | dict {a:Addr} {f:List Nat} {ls:Ls} {B:List Tm} {led':Led} (led:Led):((a,AO.fd f)::x::(led++cl)).Sublist led'->K (.fd f) B led->EndV x cl K (.ret (.v (.ref a))) ls B led'
theorem jfJ:∀ (names:List (Str×NameKind)) (n:Nat) (acc:List (Str×Addr)),(∀ p∈acc,p.2<n)->(acc.map (·.2)).Nodup->((cellsFrom n names acc).map (·.2)).Nodup
 | [],_,_,_,h=>h
 | (x,k)::r,n,acc,h1,h2=>by
  unfold cellsFrom
  refine itg (λ q_1=>?_) λ q_2=>?_
  ·refine jfJ r (n+1) _ (λ p hp=>?_) ?_
   ·refine Jc8 (Ja3.mp hp) (λ e_1=>?_) λ hp=>?_
    ·subst e_1; exact Jd5 n
    ·exact Nat.lt_succ_of_lt (h1 p hp)
   ·refine rwr Ja8 ?_
    rw [Jd9]
    refine ⟨λ q=>?_,h2⟩
    refine jam (Jb8 q) λ p hp e=>?_
    have:=h1 p hp
    rw [e] at this
    exact Nat.lt_irrefl n this
  ·exact jfJ r n acc h1 h2
theorem jhR {x:Str}:∀ (names:List (Str×NameKind)) (n:Nat) (acc:List (Str×Addr)),(x,NameKind.cell)∈names\/x∈acc.map (·.1)->x∈(cellsFrom n names acc).map (·.1)
 | [],_,_,h=>by
  refine Jc8 h (λ h=>?_) λ h=>?_
  ·exact absurd h Jb2
  ·exact h
 | (y,k)::r,n,acc,h=>by
  unfold cellsFrom
  refine itg (λ q_3=>?_) λ hk=>?_
  ·refine jhR r (n+1) _ ?_
   rcases h with h | h
   ·refine Jc8 (Ja3.mp h) (λ e=>?_) λ h=>?_
    ·cases e; exact .inr (by simp)
    ·exact .inl h
   ·exact .inr (by refine rwr Ja8 ?_; exact .tail _ h)
  ·refine jhR r n acc ?_
   rcases h with h | h
   ·refine Jc8 (Ja3.mp h) (λ e=>?_) λ h=>?_
    ·cases e; exact absurd rfl hk
    ·exact .inl h
   ·exact .inr h
theorem jiq {α:Type} {x:Str} {l:List (Str×α)}:x∈l.map (·.1)->∃ a,l.lookup x=some a:=by
 induction l with
 | nil=>exact λ h=>absurd h Jb2
 | cons p l ih =>
  intro h
  rw [show p=(p.1,p.2) from rfl,jah]
  exact itg (p:=λ z=>∃ a,z=some a) (λ U=>⟨p.2,rfl⟩) λ e=>ih ((Ja3.mp h).resolve_left e)
theorem jiB {x y:Str} {a:Addr} {l:List (Str×Addr)}:(l.map (·.2)).Nodup->(x,a)∈l->(y,a)∈l->x=y:=by
 induction l with
 | nil=>exact λ U h U=>absurd h Jb2
 | cons p l ih =>
  intro hn h1 h2
  rw [Ja8,Jd9] at hn
  have no:∀ z,(z,a)=p->∀ u,(u,a)∈l->x=y:=λ z e u h=>absurd (Jb9 ⟨_,h,rfl⟩) (congrArg Prod.snd e▸hn.1)
  exact Jc8 (Ja3.mp h1) (λ e1=>Jc8 (Ja3.mp h2) (λ e2=>congrArg Prod.fst (e1.trans e2.symm)) (no x e1 y)) λ h1=>Jc8 (Ja3.mp h2) (λ e2=>no y e2 x h1) (ih hn.2 h1)
theorem jeY {cm:Str->Option Value} {x:Str} {a:Addr} {cs:List (Str×Addr)} {cells:List (Addr×Obj)} (hc:CellsAre cm cs cells):cs.lookup x=some a->∃ o,(a,o)∈cells/\o.data=.cell (cm x):=by
 induction hc with
 | nil=>exact λ h=>nomatch h
 | cons hd r ih =>
  intro h
  rw [jah] at h
  refine ith h (λ e h=>?_) λ U h=>jam (ih h) λ o' h1 h2=>ja2 o' (.tail _ h1) h2
  exact ja2 _ (Jb0 h▸.head _) (e▸hd)
theorem jeT {kf:Str->Option NameKind} {x:Str} (hk:kf x=some .local):∀ (ps:List (Str×Value)) (m:Str->Option Value),(ps.map (·.1)).Nodup->∀ v,((x,v)∈ps\/(x∉ps.map (·.1)/\m x=some v))->bindL kf ps m x=some v
 | [],m,_,v,h=>by
  refine Jc8 h (λ h=>?_) λ h=>?_
  ·exact absurd h Jb2
  ·exact h.2
 | (y,w)::r,m,hn,v,h=>by
  rw [Ja8,Jd9] at hn
  replace hn:=hn
  refine jeT hk r _ hn.2 v ?_
  rcases h with h | ⟨h1,h2⟩
  ·refine Jc8 (Ja3.mp h) (λ e=>?_) λ h=>?_
   ·cases e; exact .inr ⟨hn.1,by refine rwr (if_pos hk) ?_; exact if_pos rfl⟩
   ·exact .inl h
  ·simp only [Ja8,Ja3,not_or] at h1
   replace h1:=h1
   refine .inr ⟨h1.2,?_⟩
   refine itg (λ q_4=>?_) λ q_5=>?_
   ·exact (if_neg h1.1).trans h2
   ·exact h2
theorem jeS {kf:Str->Option NameKind} {x:Str} (hk:kf x≠some .local):∀ (ps:List (Str×Value)) (m:Str->Option Value),(ps.map (·.1)).Nodup->∀ v,((x,v)∈ps\/(x∉ps.map (·.1)/\m x=some v))->bindC kf ps m x=some v
 | [],m,_,v,h=>by
  rcases h with h | h
  ·exact absurd h Jb2
  ·exact h.2
 | (y,w)::r,m,hn,v,h=>by
  rw [Ja8,Jd9] at hn
  refine jeS hk r _ hn.2 v ?_
  rcases h with h | ⟨h1,h2⟩
  ·rcases Ja3.mp h with e | h
   ·cases e; exact .inr ⟨hn.1,by refine rwr (if_neg hk) ?_; exact if_pos rfl⟩
   ·exact .inl h
  ·simp only [Ja8,Ja3,not_or] at h1
   refine .inr ⟨h1.2,?_⟩
   refine itg (λ q_6=>?_) λ q_7=>?_
   ·exact h2
   ·exact (if_neg h1.1).trans h2
noncomputable def jnH (sc:Scope) (ps:List Str):Bool :=
 ps.all (okN sc) && decide ps.Nodup && decide (((cellsFrom 0 sc.names []).map (·.1)).Nodup) && sc.names.all (λ p=>!(p.1 == ("__debug__" : Str))) && decide (sc.kind=.function) && !sc.isCoroutine && !sc.isGenerator && decide ((sc.names.map (·.1)).Nodup)
section
variable {c:WC} {sc:Scope} {E:Value->Shared->Prop} {ls:Ls} {B:List Tm} {led:Led} {T:List (Addr×Obj)} {s:Shared} {K:KA}
theorem LedOk.sub {g:WG} {led1:Led}:∀ {led:Led} {lr:List (Addr×Obj)},LedOk g T led lr->led1.Sublist led->∃ lr1,lr1.Sublist lr/\LedOk g T led1 lr1:=by
 intro led lr h hs
 induction hs generalizing lr with
 | slnil=>cases h; exact ja2 ([]) (.slnil) (.nil)
 | cons a _ ih=>cases h with | cons h r=>obtain ⟨l,h1,h2⟩:=ih r; exact ja2 l (.cons _ h1) h2
 | cons_cons a _ ih=>cases h with | cons h r=>obtain ⟨l,h1,h2⟩:=ih r; exact ja2 _ (.cons_cons _ h1) (.cons h h2)
theorem LedOk.app {g:WG}:∀ {l1:Led} {r1:List (Addr×Obj)} {l2:Led} {r2:List (Addr×Obj)},LedOk g T l1 r1->LedOk g T l2 r2->LedOk g T (l1++l2) (r1++r2):=by
 intro l1 r1 l2 r2 h1 h2
 induction h1 with
 | nil=>exact h2
 | cons h _ ih=>exact .cons h ih
@[elab_as_elim] theorem LedOk.consE {g:WG} {P:List (Addr×Obj)->Prop} {a:Addr} {x:AO} {l:Led} {r:List (Addr×Obj)} (h:LedOk g T ((a,x)::l) r) (k:∀ o r,HasO g T x o->LedOk g T l r->P ((a,o)::r)):P r:=by
 cases h with | cons h1 h2=>exact k _ _ h1 h2
theorem LedOk.split {g:WG} {l1 l2:Led} {r:List (Addr×Obj)}:LedOk g T (l1++l2) r->∃ r1 r2,r=r1++r2/\LedOk g T l1 r1/\LedOk g T l2 r2:=by
 induction l1 generalizing r with
 | nil=>exact λ h=>jdS [] r rfl .nil h
 | cons p l1 ih=>exact λ h=>LedOk.consE h λ o r h1 h2=>jci (ih h2) λ r1 r2 e_2 h3 h4=>jdS (_::r1) r2 (congrArg (List.cons _) e_2) (.cons h1 h3) h4
noncomputable abbrev lift (l:List (Addr×Obj)):Led:=l.map λ p=>(p.1,AO.obj p.2)
theorem LedOk.lift {g:WG}:∀ (l:List (Addr×Obj)),LedOk g T (lift l) l
 | []=>.nil
 | p::l=>.cons (.obj _) (LedOk.lift l)
@[elab_as_elim] theorem HasO.objE {g:WG} {P:Obj->Prop} {o o':Obj} (h:HasO g T (.obj o) o') (k:P o):P o':=by
 cases h; exact k
theorem LedOk.lift_eq {g:WG} {l r:List (Addr×Obj)}:LedOk g T (Mine.lift l) r->r=l:=by
 induction l generalizing r with
 | nil=>exact λ h=>by cases h; rfl
 | cons p l ih=>exact λ h=>LedOk.consE h λ o r h1 h2=>HasO.objE h1 (congrArg (List.cons p) (ih h2))
theorem jna {g:WG} {x:Str} {a:AV} {ps:List Str} {as:List AV} {vs:List Value} (h:Hass g T as vs):(x,a)∈ps.zip as->∃ v,(x,v)∈ps.zip vs/\Has g T a v:=by
 revert ps
 refine jcp (P:=λ as vs=>∀ {ps:List Str},(x,a)∈ps.zip as->∃ v,(x,v)∈ps.zip vs/\Has g T a v) (λ h=>?_) (λ {b v l vs} hb _ ih ps=>?_) h
 ·rw [List.zip_nil_right] at h; exact absurd h Jb2
 ·refine List.rec (motive:=λ ps=>(x,a)∈ps.zip (b::l)->∃ u,(x,u)∈ps.zip (v::vs)/\Has g T a u) (λ h=>absurd h Jb2) (λ p ps U h=>?_) ps
  refine Jc8 (Ja3.mp h) (λ e=>?_) λ h=>?_
  ·exact ja2 v ((Prod.mk.inj e).1▸.head _) ((Prod.mk.inj e).2▸hb)
  ·exact jam (ih h) λ u h1 h2=>ja2 u (.tail _ h1) h2
noncomputable def jo0:Nat->(List Value->Prop)->Prop
 | 0,P=>P []
 | n+1,P=>∀ a,jo0 n λ l=>P (a::l)
theorem jqa:∀ {n:Nat} {P:List Value->Prop},jo0 n P->∀ vs:List Value,vs.length=n->P vs
 | 0,P,h,vs,e=>by refine rwr (List.length_eq_zero_iff.mp e) ?_; exact h
 | n+1,P,h,[],e=>nomatch e
 | n+1,P,h,v::vs,e=>jqa (h v) vs (Nat.succ.inj e)
set_option tactic.hygienic true in
theorem jaF (C:CO c sc) {f:Addr} {as:List AV} {k:Nat} {name qual:Str} {params:Arguments} {body:List Stmt} {scope:Scope} {dV kV doc pm cdv ct oc:Value} {an od:Option Addr} {osl:Array (Option Value)}
  (r:Rm c.A (k+1))
  (ho:(kk.heap_1 c.w.params).lookup f=some ⟨oc,od,.func (fnOf name qual params body scope dV kV doc pm an cdv ct),osl⟩) (hcd:codeIn (kk.heap_1 c.w.params) cdv qual=true)
  (hbd:jo0 as.length λ vs=>bindArgs (fnOf name qual params body scope dV kV doc pm an cdv ct) ⟨vs,[]⟩=pure ((params.args.map (·.arg)).zip vs))
  (hch:jnH scope (params.args.map (·.arg))=true) (hlen:params.args.length=as.length)
  (h:∀ c' x cl,CO c' scope->Rm c'.A k->VS c' body ((params.args.map (·.arg)).zip as) B (x::(led++cl)) (EndV x cl K)):CF c f as ls B led K:=by
 refine jcR C.G λ me mg mb G=>?_
 simp only [jnH,Bool.and_eq_true,decide_eq_true_eq,Bool.not_eq_true'] at hch
 obtain ⟨⟨⟨⟨⟨⟨⟨hok,hnp⟩,hnc⟩,hdb⟩,hkd⟩,hco⟩,hgn⟩,hnn⟩:=hch
 have hbd:=jqa hbd
 have hlen:(params.args.map (·.arg)).length=as.length:=by rw [Jc6]; exact hlen
 generalize hps:params.args.map (·.arg)=ps at hok hlen hnp hbd h
 refine ⟨λ T s E vs Q hs has hk=>?_⟩
 have hvl:=has.len
 refine hs.elim λ hp tk m σ cl lr W O hT hB hL hC hK=>?_
 refine jnB (args:=⟨vs,[]⟩) (binds:=ps.zip vs) G.X G.T.nolimit W ho hcd r.room (BindsTo.of_eq (by refine rwr hps ?_; exact hbd vs hvl)) (by refine rwr hps ?_; rfl) ?_ hnc ?_ hco hgn hkd
 ·rw [List.all_eq_true]
  intro y hy
  have:y.1∈ps:=List.of_mem_zip hy |>.1
  rcases jiG ((List.all_eq_true.mp hok) _ this) with q | ⟨q,-⟩ <;> simp [q]
 intro oL L' h₁ tk₁ cells W₁ Y env A'
 have hfst:=jjt ps vs (hvl.trans hlen.symm)
 let c':WC:=⟨c.g,A',L',env,Option.none⟩
 have C':CO c' scope:=by
  refine ⟨⟨me,mg,mb,G⟩,rfl,hkd,λ U=>rfl,rfl,rfl,rfl,r.hh,λ x k hx=>?_,λ x y a h1 h2=>?_,λ x hx=>?_⟩
  ·have:=(List.all_eq_true.mp hdb) _ (jay hx)
   simpa using this
  ·exact jiB (jfJ scope.names (L' + 1) [] (λ U h=>nomatch h) .nil) (jay h1) (jay h2)
  ·exact jiq (jhR scope.names (L' + 1) [] (.inl (jay hx)))
 have hs':St c' (ps.zip as) B ((c.L,AO.obj oL)::(led++lift cl)) T ⟨h₁,c.gs,c.dr,tk₁,c.os⟩:=by
  refine .mk h₁ tk₁ _ σ cells ((c.L,oL)::(lr++cl)) (W₁.perm ?_) O hT hB (.cons (.obj _) (hL.app (LedOk.lift cl))) ⟨.inl rfl,λ x a e=>?_⟩ λ x a e=>?_
  ·have:=List.perm_append_comm_assoc ((c.L,oL)::(lr++cl)) cells (jak c.w.params 388 c.α σ)
   simpa using this
  ·refine jam (jeY Y e) λ o h1 h2=>?_
   exact jjy o _ h1 h2
  ·refine jam ((λ x a e=>jna has (jay e)) x a e) λ v h1 h2=>?_
   refine ja2 v h2 ?_
   rcases jiG ((List.all_eq_true.mp hok) x (List.of_mem_zip h1).1) with q | ⟨q,-⟩
   ·exact .inl ⟨q,jeT (kf:=(envOfC qual scope L' f cdv).kindOf) q _ _ (by refine rwr hfst ?_; exact hnp) v (.inl h1)⟩
   ·obtain ⟨a',ha'⟩:=C'.ce x q
    refine jam (jeY Y ha') λ o h3 h4=>?_
    refine .inr ⟨q,a',o,ha',h3,h4.trans ?_⟩
    have hne:(envOfC qual scope L' f cdv).kindOf x≠some .local:=λ e=>by
     have:scope.names.lookup x=some .local:=e
     rw [q] at this; replace this:=this; exact absurd this (by decide)
    refine rwr (jeS hne _ _ (by refine rwr hfst ?_; exact hnp) v (.inl h1)) ?_
    rfl
 refine (h c' (c.L,.obj oL) (lift cl) C' r.deeper).run T _ _ _ hs' λ fl f' ls' B' led' T' s' hsub hs2 hf hE=>?_
 refine hs2.elim λ h2 tk2 m2 σ2 cl2 lr2 W2 O2 hT2 hB2 hL2 hC2 hK2=>?_
 have frz:∀ (a:Addr) (ao:AO) (av:AV) (led0:Led),((a,ao)::(c.L,AO.obj oL)::(led0++lift cl)).Sublist led'->(∀ o T2,HasO c.g T' ao o->(a,o)∈T2->Has c.g T2 av (.ref a))->K av B' led0->jnb c.b₀ c.L L' m oL c.gs c.dr c.os Q (.ref a) ⟨h2,c.gs,c.dr,tk2,c.os⟩:=λ a ao av led0 hs0 hv hKK=>by
  obtain ⟨lr1,q1,q2⟩:=hL2.sub hs0
  cases q2 with
  | cons q2 q3 =>
  rename_i o lr3
  cases q3 with
  | cons q3 q4 =>
  cases q3
  refine jci q4.split λ r1 r2 e_4 q5 q6=>?_
  subst e_4
  have:=q6.lift_eq
  subst this
  refine joZ h2 tk2 _ m2 rfl ((W2.sub (led':=((a,o)::(c.L,oL)::(r1++r2))++jak c.w.params 388 c.α σ2) ((q1.trans (List.sublist_append_left _ _)).append (Jd0 _))).perm (List.Perm.swap (a,o) (c.L,oL) ((r1++r2)++jak c.w.params 388 c.α σ2))) (λ W4=>?_)
  have hsub2:∀ p∈T',p∈(a,o)::T':=λ p hp=>.tail _ hp
  exact hk av _ B' led0 ((a,o)::T') _ (λ p hp=>hsub2 p (hsub p hp)) (.mk h2 tk2 m (σ2.add (a,o)) r2 r1 W4.absorb (O2.add _) (by refine rwl hT2 ?_; rfl) hB2 (q5.mono hsub2) hC (hK.mono λ p hp=>hsub2 p (hsub p hp))) (hv o _ q2 (.head _)) hKK
 cases hE with
 | plain led0 hs0 hKK =>
  obtain ⟨lr1,q1,q2⟩:=hL2.sub hs0
  cases q2 with
  | cons q3 q4 =>
  cases q3
  refine jci q4.split λ r1 r2 e_5 q5 q6=>?_
  subst e_5
  have:=q6.lift_eq
  subst this
  refine joZ h2 tk2 _ m2 rfl (W2.sub (led':=((c.L,oL)::(r1++r2))++jak c.w.params 388 c.α σ2) ((q1.trans (List.sublist_append_left _ _)).append (Jd0 _))) (λ W4=>?_)
  refine hk fl.val _ B' led0 T' _ hsub (.mk h2 tk2 m σ2 r2 r1 W4 O2 hT2 hB2 q5 hC (hK.mono hsub)) ?_ hKK
  cases hf with
  | ret ha=>exact ha
  | _=>exact .none
 | list led0 hs0 hKK =>
  cases hf with
  | ret ha =>
   refine ha.vE ?_
   refine frz _ _ _ led0 hs0 (λ o T2 h1 h2=>?_) hKK
   cases h1 with | lns _ vs n hi=>exact .lns _ _ vs n h2 hi
 | dict led0 hs0 hKK =>
  cases hf with
  | ret ha =>
   refine ha.vE ?_
   refine frz _ _ _ led0 hs0 (λ o T2 h1 h2=>?_) hKK
   cases h1 with | fd _ _ hd=>exact .fd _ _ o h2 hd
end
end
section
noncomputable def jfh:AV->Option (List Nat)
 | .tns l=>some l
 | .tup as=>nats as
 | _=>Option.none
section
variable {c:WC} {sc:Scope} {E:Value->Shared->Prop} {ls:Ls} {B:List Tm} {led:Led} {K:KA}
theorem EndV.end0 {x:Addr×AO} {cl:Led} {fl:Fl} (h:K fl.val B led):EndV x cl K fl ls B (x::(led++cl)):=.plain led (Jd0 _) h
theorem jfi {a:AV} {l:List Nat} (e:jfh a=some l):a=.tns l\/∃ as,a=.tup as/\nats as=some l:=by
 cases a with
 | tns l'=>exact .inl (congrArg AV.tns (Jb0 e))
 | tup as=>exact .inr ⟨as,rfl,e⟩
 | _=>exact nomatch e
theorem jd1 {g:WG} {T:List (Addr×Obj)} {a:AV} {v:Value} {l:List Nat} (e:jfh a=some l) (h:Has g T a v):∃ x vs,v=.ref x/\(x,ja1 vs)∈T/\IntsAre vs (l.map λ n:Nat=>(n:Int)):=by
 rcases jfi e with rfl | ⟨as,rfl,e⟩
 ·exact h.tnsE λ x vs h1 h2=>jdS x vs rfl h1 h2
 ·exact h.tupE λ x vs h1 h2=>jdS x vs rfl h1 (jbZ h2 e)
theorem jfH {B:List Tm} {t:Tm} (h:t.op≠.app):jfG (mk B t).2=jfG B:=by
 unfold mk
 refine itg (λ q_1=>?_) λ q_2=>?_
 ·rfl
 ·unfold jfG; refine rwr List.countP_append ?_; simp [h]
theorem BOk.mk {σ σ':BC} {B:List Tm} {t:Tm} (hB:BOk σ B) (ha:t.op≠.app) (hb:(Mine.mk B t).2.length<=16000000) (e:σ'.fnV=σ.fnV/\σ'.faV=σ.faV/\σ'.frV=σ.frV):BOk σ' (Mine.mk B t).2 :=
 ⟨hb,by refine rwr (jfH ha) ?_; refine rwr e.1 ?_; exact hB.2.1,by refine rwr (jfH ha) ?_; refine rwr e.2.1 ?_; exact hB.2.2.1,by refine rwr (jfH ha) ?_; refine rwr e.2.2 ?_; exact hB.2.2.2⟩
theorem jd0 (C:CO c sc) (r:Rm c.A 2) {o:Op} {a:AV} {l:List Nat} {d:Nat} (e:jfh a=some l) (ho:o≠.nil) (hb:(mk B ⟨o,l,d⟩).2.length<=16000000) (k:K (.nat (mk B ⟨o,l,d⟩).1) (mk B ⟨o,l,d⟩).2 led) (ha:o≠.app:=by decide):CF c 217 [.bank,.str o.str,a,.nat 0,.nat d] ls B led K:=by
 refine jcR C.G λ me mg mb G=>?_
 refine ⟨λ T s E vs Q hs has hk=>?_⟩
 refine has.consE λ U U h1 has=>?_
 refine has.consE λ U U h2 has=>?_
 refine has.consE λ U U h3 has=>?_
 refine has.consE λ U U h4 has=>?_
 refine has.consE λ U U h5 has=>?_
 refine has.nilE ?_
 refine h1.bankE ?_
 refine h2.strE λ U=>?_
 refine h4.natE λ U=>?_
 refine h5.natE λ U=>?_
 refine jci (jd1 e h3) λ x us e_1 hm hi=>?_
 subst e_1
 refine hs.elim λ h tk m σ cl lr W O hT hB hL hC hK=>?_
 subst hT
 exact jis (t:=⟨o,l,d⟩) G r W O ho ⟨us,hm,hi⟩ hB.1 λ h' tk' σ' tn O' eσ hsub W'=>hk _ _ _ led σ'.tups _ hsub (.mk h' tk' m σ' cl lr W' O' rfl (hB.mk ha hb eσ) (hL.mono hsub) hC (hK.mono hsub)) (.nat _ _) k
theorem jhK (C:CO c sc) (r:Rm c.A 1) {t:Nat} (ht:t<B.length) (k:K (.str (jad B t).str) B led):CF c 175 [.bank,.nat t] ls B led K:=by
 refine jaF ‹_› ‹_› (by k_is) (by k_is) (by exact λ U U=>rfl) (by decide +kernel) (by rfl) ?_
 intro c' x cl C' r'
 exact jaj C' 10 _ _ _ _ _ ⟨ht,.end0 k⟩
theorem jbK (C:CO c sc) (r:Rm c.A 1) {t:Nat} (ht:t<B.length) (k:K (.tns (jaa B t)) B led):CF c 182 [.bank,.nat t] ls B led K:=by
 refine jaF ‹_› ‹_› (by k_is) (by k_is) (by exact λ U U=>rfl) (by decide +kernel) (by rfl) ?_
 intro c' x cl C' r'
 exact jaj C' 10 _ _ _ _ _ ⟨ht,.end0 k⟩
theorem jol (C:CO c sc) (r:Rm c.A 1) {t:Nat} (ht:t<B.length) (k:K (.nat 0) B led):CF c 189 [.bank,.nat t] ls B led K:=by
 refine jaF ‹_› ‹_› (by k_is) (by k_is) (by exact λ U U=>rfl) (by decide +kernel) (by rfl) ?_
 intro c' x cl C' r'
 exact jaj C' 10 _ _ _ _ _ ⟨ht,.end0 k⟩
theorem jfC (C:CO c sc) (r:Rm c.A 1) {t:Nat} {s:Str} (ht:t<B.length) (k:K .none B led):CF c 238 [.bank,.nat t,.nat 0,.str s] ls B led K:=by
 refine jaF ‹_› ‹_› (by k_is) (by k_is) (by exact λ U U U U=>rfl) (by decide +kernel) (by rfl) ?_
 intro c' x cl C' r'
 exact jaj C' 10 _ _ _ _ _ ⟨ht,.end0 k⟩
theorem jov (C:CO c sc) (r:Rm c.A 1) (k:K (.nat 1) B led):CF c 252 [.bank] ls B led K:=by
 refine jaF ‹_› ‹_› (by k_is) (by k_is) (by exact λ U=>rfl) (by decide +kernel) (by rfl) ?_
 intro c' x cl C' r'
 exact jaj C' 10 _ _ _ _ _ (.end0 k)
theorem jl1 (C:CO c sc) (r:Rm c.A 1) (k:K (.nat 2) B led):CF c 259 [.bank] ls B led K:=by
 refine jaF ‹_› ‹_› (by k_is) (by k_is) (by exact λ U=>rfl) (by decide +kernel) (by rfl) ?_
 intro c' x cl C' r'
 exact jaj C' 10 _ _ _ _ _ (.end0 k)
theorem jnt (C:CO c sc) (r:Rm c.A 1) {b:Bool} (k:K (.nat (if b then 1 else 2)) B led):CF c 266 [.bank,.bool b] ls B led K:=by
 refine jaF ‹_› ‹_› (by k_is) (by k_is) (by exact λ U U=>rfl) (by decide +kernel) (by rfl) ?_
 intro c' x cl C' r'
 refine jaj C' 10 _ _ _ _ _ ?_
 cases b
 ·exact .end0 k
 ·exact .end0 k
end
end
section
inductive Wk:Ls->Ls->Prop
 | nil {ls:Ls}:Wk [] ls
 | cons {x:Str} {a:AV} {r ls:Ls}:ls.lookup x=some a->Wk r ls->Wk ((x,a)::r) ls
theorem wk3 {ls:Ls} {x0:Str} {a0:AV} {x1:Str} {a1:AV} {x2:Str} {a2:AV} (h0:ls.lookup x0=some a0) (h1:ls.lookup x1=some a1) (h2:ls.lookup x2=some a2):Wk [(x0,a0),(x1,a1),(x2,a2)] ls:=.cons h0 (.cons h1 (.cons h2 .nil))
theorem wk4 {ls:Ls} {x0:Str} {a0:AV} {x1:Str} {a1:AV} {x2:Str} {a2:AV} {x3:Str} {a3:AV} (h0:ls.lookup x0=some a0) (h1:ls.lookup x1=some a1) (h2:ls.lookup x2=some a2) (h3:ls.lookup x3=some a3):Wk [(x0,a0),(x1,a1),(x2,a2),(x3,a3)] ls:=.cons h0 (.cons h1 (.cons h2 (.cons h3 .nil)))
theorem wk5 {ls:Ls} {x0:Str} {a0:AV} {x1:Str} {a1:AV} {x2:Str} {a2:AV} {x3:Str} {a3:AV} {x4:Str} {a4:AV} (h0:ls.lookup x0=some a0) (h1:ls.lookup x1=some a1) (h2:ls.lookup x2=some a2) (h3:ls.lookup x3=some a3) (h4:ls.lookup x4=some a4):Wk [(x0,a0),(x1,a1),(x2,a2),(x3,a3),(x4,a4)] ls:=.cons h0 (.cons h1 (.cons h2 (.cons h3 (.cons h4 .nil))))
theorem wk6 {ls:Ls} {x0:Str} {a0:AV} {x1:Str} {a1:AV} {x2:Str} {a2:AV} {x3:Str} {a3:AV} {x4:Str} {a4:AV} {x5:Str} {a5:AV} (h0:ls.lookup x0=some a0) (h1:ls.lookup x1=some a1) (h2:ls.lookup x2=some a2) (h3:ls.lookup x3=some a3) (h4:ls.lookup x4=some a4) (h5:ls.lookup x5=some a5):Wk [(x0,a0),(x1,a1),(x2,a2),(x3,a3),(x4,a4),(x5,a5)] ls:=.cons h0 (.cons h1 (.cons h2 (.cons h3 (.cons h4 (.cons h5 .nil)))))
theorem wk8 {ls:Ls} {x0:Str} {a0:AV} {x1:Str} {a1:AV} {x2:Str} {a2:AV} {x3:Str} {a3:AV} {x4:Str} {a4:AV} {x5:Str} {a5:AV} {x6:Str} {a6:AV} {x7:Str} {a7:AV} (h0:ls.lookup x0=some a0) (h1:ls.lookup x1=some a1) (h2:ls.lookup x2=some a2) (h3:ls.lookup x3=some a3) (h4:ls.lookup x4=some a4) (h5:ls.lookup x5=some a5) (h6:ls.lookup x6=some a6) (h7:ls.lookup x7=some a7):Wk [(x0,a0),(x1,a1),(x2,a2),(x3,a3),(x4,a4),(x5,a5),(x6,a6),(x7,a7)] ls:=.cons h0 (.cons h1 (.cons h2 (.cons h3 (.cons h4 (.cons h5 (.cons h6 (.cons h7 .nil)))))))
theorem Wk.at {r ls:Ls} (h:Wk r ls):∀ x a,r.lookup x=some a->ls.lookup x=some a:=by
 induction h with
 | nil=>intro x a e; cases e
 | cons h _ ih =>
  intro x a e
  rw [jah] at e
  split at e
  ·rename_i q; obtain rfl:=Jb0 e; refine rwr q ?_; exact h
  ·exact ih x a e
section
variable {c:WC} {sc:Scope} {E:Value->Shared->Prop} {ls:Ls} {B:List Tm} {led:Led} {T:List (Addr×Obj)} {s:Shared} {K:KA}
theorem LedOk.get {g:WG} {a:Addr} {x:AO} {led:Led} {lr:List (Addr×Obj)} (h:LedOk g T led lr):(a,x)∈led->∃ o,(a,o)∈lr/\HasO g T x o:=by
 induction h with
 | nil=>exact λ h=>absurd h Jb2
 | cons h r ih =>
  refine λ hm=>Jc8 (Ja3.mp hm) (λ e=>?_) λ hm=>jam (ih hm) λ o h1 h2=>ja2 o (.tail _ h1) h2
  exact ja2 _ ((Prod.mk.inj e).1▸.head _) ((Prod.mk.inj e).2▸h)
theorem St.frz {h h':Heap} {tk tk':Tok} {m:Str->Option Value} {σ:BC} {cl lr:List (Addr×Obj)} {x:Addr} {o:Obj} (W':Fx c.b₀ h' c.L m ((x,o)::((lr++cl)++jak c.w.params 388 c.α σ))) (O:Ok prg c.w σ B) (hT:σ.tups=T) (hB:BOk σ B) (hL:LedOk c.g T led lr) (hC:jcN c cl) (hK:Kn c T m cl ls) :
  St c ls B led ((x,o)::T) ⟨h',c.gs,c.dr,tk',c.os⟩ :=
 have hsub:∀ p∈T,p∈(x,o)::T:=λ p hp=>.tail _ hp
 .mk h' tk' m (σ.add (x,o)) cl lr W'.absorb (O.add _) (by refine rwl hT ?_; rfl) hB (hL.mono hsub) hC (hK.mono hsub)
theorem St.own {h':Heap} {tk':Tok} {m:Str->Option Value} {σ:BC} {cl lr:List (Addr×Obj)} {x:Addr} {o:Obj} {ao:AO} (W':Fx c.b₀ h' c.L m ((x,o)::((lr++cl)++jak c.w.params 388 c.α σ))) (O:Ok prg c.w σ B) (hT:σ.tups=T) (hB:BOk σ B) (hL:LedOk c.g T led lr) (hC:jcN c cl) (hK:Kn c T m cl ls) (ho:HasO c.g T ao o) :
  St c ls B ((x,ao)::led) T ⟨h',c.gs,c.dr,tk',c.os⟩ :=
 .mk h' tk' m σ cl ((x,o)::lr) W' O hT hB (.cons ho hL) hC hK
theorem jds {l:List Nat} {vs:List Value} (h:IntsAre vs (l.map λ n:Nat=>(n:Int))):vs.length=l.length:=by rw [jcq h,Jc6]
theorem jbx (C:CO c sc) {l:List Nat} (hl:l.length<=16000000) (k:K (.nat l.length) B led):BI c "len" [.lns l] ls B led K:=by
 refine ⟨λ T s E vs Q hs has hk=>?_⟩
 refine has.consE λ U U h1 has=>?_; refine has.nilE ?_; refine h1.lnsE λ a us n hm hi=>?_
 refine hs.elim λ h tk m σ cl lr W O hT hB hL hC hK=>?_
 refine jhA W (jar hT hm) (by refine rwr Jc5 ?_; refine rwr (jds hi) ?_; exact Jb1 ‹_› (by decide)) λ t tk'=>?_
 refine rwr Jc5 ?_
 refine rwr (jds hi) ?_
 exact hk _ _ B led T _ (λ U h=>h) (.mk h tk' m σ cl lr W O hT hB hL hC hK) (.nat _ _) k
theorem jmo (C:CO c sc) {l:List Nat} (hl:l.length<=16000000) (k:K (.nat l.length) B led):BI c "len" [.tns l] ls B led K:=by
 refine ⟨λ T s E vs Q hs has hk=>?_⟩
 refine has.consE λ U U h1 has=>?_; refine has.nilE ?_; refine h1.tnsE λ a us hm hi=>?_
 refine hs.elim λ h tk m σ cl lr W O hT hB hL hC hK=>?_
 refine jpQ W (jar hT hm) (by refine rwr (jds hi) ?_; exact Jb1 ‹_› (by decide)) λ t tk'=>?_
 refine rwr (jds hi) ?_
 exact hk _ _ B led T _ (λ U h=>h) (.mk h tk' m σ cl lr W O hT hB hL hC hK) (.nat _ _) k
theorem jfV (C:CO c sc) {l:List Nat} {a:Addr} (hm:(a,AO.lns l)∈led) (hl:l.length<=16000000) (k:K (.nat l.length) B led):BI c "len" [.v (.ref a)] ls B led K:=by
 refine ⟨λ T s E vs Q hs has hk=>?_⟩
 refine has.consE λ U U h1 has=>?_
 refine has.nilE ?_
 refine h1.vE ?_
 refine hs.elim λ h tk m σ cl lr W O hT hB hL hC hK=>?_
 refine jam (hL.get hm) λ o h2 h3=>?_
 revert h2
 refine h3.lnsE λ us n hi h2=>?_
 refine jhA W (ja4 h2) (by refine rwr Jc5 ?_; refine rwr (jds hi) ?_; exact Jb1 ‹_› (by decide)) λ t tk'=>?_
 refine rwr Jc5 ?_
 refine rwr (jds hi) ?_
 exact hk _ _ B led T _ (λ U h=>h) (.mk h tk' m σ cl lr W O hT hB hL hC hK) (.nat _ _) k
theorem jc0 (C:CO c sc) {l:List AV} {a:Addr} (hm:(a,AO.lst l)∈led) (hl:l.length<=16000000) (k:K (.nat l.length) B led):BI c "len" [.v (.ref a)] ls B led K:=by
 refine ⟨λ T s E vs Q hs has hk=>?_⟩
 refine has.consE λ U U h1 has=>?_
 refine has.nilE ?_
 refine h1.vE ?_
 refine hs.elim λ h tk m σ cl lr W O hT hB hL hC hK=>?_
 refine jam (hL.get hm) λ o h2 h3=>?_
 revert h2
 refine h3.lstE λ us n hi h2=>?_
 refine jhA W (ja4 h2) (by refine rwr Jc5 ?_; refine rwr hi.len ?_; exact Jb1 ‹_› (by decide)) λ t tk'=>?_
 refine rwr Jc5 ?_
 refine rwr hi.len ?_
 exact hk _ _ B led T _ (λ U h=>h) (.mk h tk' m σ cl lr W O hT hB hL hC hK) (.nat _ _) k
theorem jpC (C:CO c sc) {a b:Nat} (k:K (.nat (min a b)) B led):BI c "min" [.nat a,.nat b] ls B led K:=by
 refine ⟨λ T s E vs Q hs has hk=>?_⟩
 refine has.consE λ U U h1 has=>?_
 refine has.consE λ U U h2 has=>?_
 refine has.nilE ?_
 refine h1.natE λ U=>?_
 refine h2.natE λ U=>?_
 refine hs.elim λ h tk m σ cl lr W O hT hB hL hC hK=>?_
 refine jpS C.hh W λ h' tk' t' W'=>?_
 refine rwr (show min (a:Int) (b:Int)=((min a b:Nat):Int) by omega) ?_
 exact hk _ _ B led T _ (λ U h=>h) (.mk h' tk' m σ cl lr W' O hT hB hL hC hK) (.nat _ _) k
theorem jpB (C:CO c sc) {a b:Nat} (k:K (.nat (max a b)) B led):BI c "max" [.nat a,.nat b] ls B led K:=by
 refine ⟨λ T s E vs Q hs has hk=>?_⟩
 refine has.consE λ U U h1 has=>?_
 refine has.consE λ U U h2 has=>?_
 refine has.nilE ?_
 refine h1.natE λ U=>?_
 refine h2.natE λ U=>?_
 refine hs.elim λ h tk m σ cl lr W O hT hB hL hC hK=>?_
 refine jpR C.hh W λ h' tk' t' W'=>?_
 refine rwr (show max (a:Int) (b:Int)=((max a b:Nat):Int) by omega) ?_
 exact hk _ _ B led T _ (λ U h=>h) (.mk h' tk' m σ cl lr W' O hT hB hL hC hK) (.nat _ _) k
theorem jjd (C:CO c sc) {l:List Nat} (hl:l.length<=16000000) (k:K (.tns l) B led):TY c "tuple" [.lns l] ls B led K:=by
 refine ⟨λ T s E vs Q hs has hk=>?_⟩
 refine has.consE λ U U h1 has=>?_; refine has.nilE ?_; refine h1.lnsE λ a us n hm hi=>?_
 refine hs.elim λ h tk m σ cl lr W O hT hB hL hC hK=>?_
 refine jpW W (jar hT hm) (by refine rwr (jds hi) ?_; exact Ja0 ‹_› (by decide)) λ x h' W'=>?_
 exact hk (.tns l) _ B led _ _ (λ p hp=>.tail _ hp) (St.frz (h:=h) (tk:=tk) W' O hT hB hL hC hK) (.tns l x us (.head _) hi) k
theorem jgZ (C:CO c sc) {f:List Nat} (hf:f.length<=63) (k:K (.lns (jaf f)) B led):BI c "sorted" [.fd f] ls B led K:=by
 refine jcR C.G λ U U U G=>?_
 refine ⟨λ T s E vs Q hs has hk=>?_⟩
 refine has.consE λ U U h1 has=>?_; refine has.nilE ?_; refine h1.fdE λ a o hm hd=>?_
 refine hs.elim λ h tk m σ cl lr W O hT hB hL hC hK=>?_
 refine jgT C.hh G.T.nolimit W (jar hT hm) hd (by rw [Jc6]; exact Nat.lt_succ_of_le ‹_›) λ x h' tk' vs' ns' e W' hi hp hs=>?_
 rw [je5] at hp
 rw [jft hp hs] at hi
 exact hk (.lns (jaf f)) _ B led _ _ (λ p hp=>.tail _ hp) (St.frz (h:=h) (tk:=tk) W' O hT hB hL hC hK) (.lns _ x vs' e (.head _) hi) k
theorem St.list {l:List AV} {vs:List Value} {Q:Value->Shared->Prop} (hs:St c ls B led T s) (has:Hass c.g T l vs) (hk:KE c ls T K Q) (h:K (mkL l) B led) (hn:vs.length<=16777216):wpAny (model prg c.w) c.A (newList vs) Q E s:=by
 cases hs with
 | mk h' tk m σ cl lr W O hT hB hL hC hK =>
  refine jdy W (λ x h2 W2=>?_) hn
  have hsub:∀ p∈T,p∈(x,listOf vs.toArray 0)::T:=λ p hp=>.tail _ hp
  refine hk (mkL l) _ B led ((x,listOf vs.toArray 0)::T) _ hsub (.mk h2 tk m (σ.add (x,listOf vs.toArray 0)) cl lr W2.absorb (O.add _) (by refine rwl hT ?_; rfl) hB (hL.mono hsub) hC (hK.mono hsub)) ?_ h
  unfold mkL
  cases e:nats l with
  | none=>exact .lst l x vs 0 (.head _) (has.mono hsub)
  | some ns=>exact .lns ns x vs 0 (.head _) (jbZ has e)
theorem jb4 {as:List AV} (k:K (mkL as) B led):LI c as ls B led K:=⟨λ T s E vs Q hs has hn hk=>hs.list has hk k (Ja0 ‹_› (by decide))⟩
theorem jnk {as:List AV} (k:∀ x,K (.v (.ref x)) B ((x,.lst as)::led)):LI c as ls B led K:=by
 refine ⟨λ T s E vs Q hs has hn hk=>?_⟩
 refine hs.elim λ h tk m σ cl lr W O hT hB hL hC hK=>?_
 exact jdy W (λ x h2 W2=>hk _ _ _ _ _ _ (λ U h=>h) (St.own (h':=h2) (tk':=tk) (ao:=.lst as) W2 O hT hB hL hC hK (.lst as vs 0 has)) (.v _) (k x)) (Ja0 ‹_› (by decide))
theorem jkV {as:List AV} {l:List Nat} (e:nats as=some l) (k:∀ x,K (.v (.ref x)) B ((x,.lns l)::led)):LI c as ls B led K:=by
 refine ⟨λ T s E vs Q hs has hn hk=>?_⟩
 refine hs.elim λ h tk m σ cl lr W O hT hB hL hC hK=>?_
 exact jdy W (λ x h2 W2=>hk _ _ _ _ _ _ (λ U h=>h) (St.own (h':=h2) (tk':=tk) (ao:=.lns l) W2 O hT hB hL hC hK (.lns l vs 0 (jbZ has e))) (.v _) (k x)) (Ja0 ‹_› (by decide))
theorem jc1:∀ l:List Nat,nats (l.map .nat)=some l
 | []=>rfl
 | n::l=>by show (nats (l.map .nat)).map (n::·)=_; refine rwr (jc1 l) ?_; rfl
theorem jq5 {a:AV} {l:List Nat} {o:Option (List Nat)} {P:Prop} (e:(match jcS a with | some n=>o.map (n::·) | Option.none=>Option.none)=some l) (k:∀ n l',a=.nat n->o=some l'->n::l'=l->P):P:=by
 cases a with
 | nat n =>
  cases o with
  | none=>exact nomatch e
  | some l'=>exact k n l' rfl rfl (Jb0 e)
 | _=>exact nomatch e
theorem jgL {as:List AV} {l:List Nat}:nats as=some l->as=l.map .nat:=by
 induction as generalizing l with
 | nil=>exact λ e=>Jb0 e▸rfl
 | cons a r ih =>
  refine λ e=>jq5 e λ n l' e1 e2 e3=>?_
  rw [e1,ih e2,<- e3]; rfl
@[elab_as_elim] theorem jnL {P:List Value->Prop} {n:Int} {l:List Int} {vs:List Value} (h:IntsAre vs (n::l)) (k:∀ t r,IntsAre r l->P (.int n t::r)):P vs:=by
 cases h with | cons _ t r=>exact k t _ r
theorem jih {g:WG} {T:List (Addr×Obj)} {l:List Nat} {vs:List Value}:IntsAre vs (l.map λ n:Nat=>(n:Int))->Hass g T (l.map .nat) vs:=by
 induction l generalizing vs with
 | nil=>exact λ h=>by cases h; exact .nil
 | cons n l ih=>exact λ h=>jnL h λ t r hr=>.cons (.nat n t) (ih hr)
theorem jmu {g:WG} {T:List (Addr×Obj)} {l:List AV} {v:Value} (h:Has g T (mkL l) v):∃ x vs n,v=.ref x/\(x,listOf vs.toArray n)∈T/\Hass g T l vs:=by
 unfold mkL at h
 cases e:nats l with
 | none =>
  rw [e] at h
  replace h:=h
  cases h with | lst _ x vs n h1 h2=>exact jqH x vs n rfl h1 h2
 | some ns =>
  rw [e] at h
  cases h with | lns _ x vs n h1 h2 =>
  refine jqH x vs n rfl h1 ?_
  refine rwr (jgL e) ?_; exact jih h2
theorem jhP {g:WG} {T:List (Addr×Obj)} {bs:List Bool}:∀ {us:List Value},Hass g T (bs.map .bool) us->us=bs.map Value.bool:=by
 induction bs with
 | nil=>intro us h; exact h.nilE rfl
 | cons b r ih=>intro us h; exact h.consE λ v r' hb hr=>by refine rwr (ih hr) ?_; exact hb.boolE rfl
theorem jo4 (C:CO c sc) {bs:List Bool} (k:K (.bool (bs.any id)) B led):BI c "any" [mkL (bs.map .bool)] ls B led K:=by
 refine ⟨λ T s E vs Q hs has hk=>?_⟩
 refine has.consE λ U U h1 has=>?_
 refine has.nilE ?_
 refine jrn (jmu h1) λ x us n e_1 hm hus=>?_
 subst e_1
 rw [jhP hus] at hm
 refine hs.elim λ h tk m σ cl lr W O hT hB hL hC hK=>?_
 exact jpL C.hh W (jar hT hm) λ h' tk' W'=>hk _ _ _ _ _ _ (λ U h=>h) (.mk h' tk' m σ cl lr W' O hT hB hL hC hK) (.bool _) k
end
end
section
inductive RawJ (c:WC) (T:List (Addr×Obj)) (J:Ls->List Tm->Led->Prop) (m:Str->Option Value) (lr0:List (Addr×Obj)):Prop
 | mk (σ:BC) (cl lr T':List (Addr×Obj)) (ls:Ls) (B:List Tm) (led:Led):lr0=(lr++cl)++jak c.w.params 388 c.α σ->Ok prg c.w σ B->σ.tups=T'->(∀ p∈T,p∈T')->BOk σ B->LedOk c.g T' led lr->jcN c cl->Kn c T' m cl ls->J ls B led->RawJ c T J m lr0
inductive LoopOk (z:Addr×AO) (J:Ls->List Tm->Led->Prop) (ls:Ls) (B:List Tm) (led:Led):Prop
 | mk (ls2:Ls) (led2:Led) (w:Wk ls2 ls) (e:led=z::led2) (j:J ls2 B led2)
inductive WhileOk (J:Nat->Ls->List Tm->Led->Prop) (n:Nat) (ls:Ls) (B:List Tm) (led:Led):Prop
 | mk (ls2:Ls) (w:Wk ls2 ls) (n2:Nat) (h:n2<n) (j:J n2 ls2 B led)
noncomputable def jjA (z:Addr×AO) (J:Ls->List Tm->Led->Prop) (K:KF):KF:=λ fl ls B led=>match fl with
 | .ret a=>K (.ret a) ls B led
 | .brk=>False
 | _=>LoopOk z J ls B led
noncomputable def jnl (J:Nat->Ls->List Tm->Led->Prop) (n:Nat) (K:KF):KF:=λ fl ls B led=>match fl with
 | .ret a=>K (.ret a) ls B led
 | .brk=>False
 | _=>WhileOk J n ls B led
noncomputable def kWh (c:WC) (body:List Stmt) (ls:Ls) (KK K:KF):Bool->List Tm->Led->Prop:=λ b B led=>if b then VS c body ls B led KK else K .next ls B led
inductive Now (L:Ls) (B:List Tm) (D:Led):Ls->List Tm->Led->Prop
 | mk:Now L B D L B D
theorem Now.el {L:Ls} {B:List Tm} {D:Led} {P:Ls->List Tm->Led->Prop} (p:P L B D):∀ ls B' led,Now L B D ls B' led->P ls B' led:=λ U U U h=>by cases h; exact p
@[elab_as_elim] theorem Now.elim {L ls:Ls} {B B':List Tm} {D led:Led} {P:Ls->List Tm->Led->Prop} (h:Now L B D ls B' led) (p:P L B D):P ls B' led:=by cases h; exact p
noncomputable def jdm:AV->Option (List AV)
 | .tup l=>some l
 | .lst l=>some l
 | .tns l=>some (l.map .nat)
 | .lns l=>some (l.map .nat)
 | _=>Option.none
theorem jeu {g:WG} {T:List (Addr×Obj)}:∀ {l:List Nat} {vs:List Value},IntsAre vs (l.map λ n:Nat=>(n:Int))->Hass g T (l.map .nat) vs
 | [],_,.nil=>.nil
 | n::l,_,.cons _ t r=>.cons (.nat n t) (jeu r)
theorem ji4 {g:WG} {T:List (Addr×Obj)} {a:AV} {y:Value} {items:List AV} (e:jdm a=some items) (h:Has g T a y):∃ t vs,y=.ref t/\Hass g T items vs/\((t,ja1 vs)∈T\/∃ n,(t,listOf vs.toArray n)∈T):=by
 cases h with
 | tup l x vs h1 h2=>obtain rfl:=Jb0 e; exact jdS x vs rfl h2 (.inl h1)
 | lst l x vs n h1 h2=>obtain rfl:=Jb0 e; exact jdS x vs rfl h2 (.inr ⟨n,h1⟩)
 | tns l x vs h1 h2=>obtain rfl:=Jb0 e; exact jdS x vs rfl (jeu h2) (.inl h1)
 | lns l x vs n h1 h2=>obtain rfl:=Jb0 e; exact jdS x vs rfl (jeu h2) (.inr ⟨n,h1⟩)
 | _=>cases e
theorem Hass.at {g:WG} {T:List (Addr×Obj)} {l:List AV} {vs:List Value} (h:Hass g T l vs) {n:Nat} {v:Value}:vs[n]? = some v->∃ x,l[n]? = some x/\Has g T x v:=by
 revert n
 refine jcp (P:=λ l vs=>∀ {n:Nat},vs[n]? = some v->∃ x,l[n]? = some x/\Has g T x v) (λ h=>nomatch h) (λ {a u l vs} h _ ih n=>?_) h
 exact Nat.rec (motive:=λ n=>(u::vs)[n]? = some v->∃ x,(a::l)[n]? = some x/\Has g T x v) (λ e=>⟨a,rfl,Jb0 e▸h⟩) (λ n U=>ih) n
section
variable {c:WC} {sc:Scope} {ls:Ls} {B:List Tm} {led:Led} {T:List (Addr×Obj)} {K:KF}
theorem CO.hp (C:CO c sc):(c.env.scope.kind == .class || (c.env.scope.kind == .module && c.env.locals != c.env.globals))=false:=by refine rwr C.fk ?_; rfl
theorem jk7 {m:Str->Option Value} {cl:List (Addr×Obj)} (C:CO c sc) {x:Str} {v:Value} {a:AV} (hx:sc.names.lookup x=some .local) (ha:Has c.g T a v) (hK:Kn c T m cl ls):Kn c T (λ y=>if y=x then some v else m y) cl ((x,a)::ls):=λ y b e=>by
 rw [jah] at e
 by_cases hy:y=x
 ·rw [if_pos hy] at e; replace e:=e; replace e:=e; obtain rfl:=Jb0 e
  exact ja2 v ha (.inl ⟨by refine rwr hy ?_; exact (C.kind x).trans hx,if_pos hy⟩)
 ·rw [if_neg hy] at e
  refine jam (hK y b e) λ u h1 h2=>?_
  refine ja2 u h1 ?_
  rcases h2 with ⟨h2,h3⟩ | h2
  ·exact .inl ⟨h2,(if_neg hy).trans h3⟩
  ·exact .inr h2
theorem jlp (C:CO c sc) {x:Str} {body:List Stmt} {v:Value} {a:AV} {J2:Ls->List Tm->Led->Prop} {R:Result->Shared->Prop} {m:Str->Option Value} {T0 lr0 lr cl:List (Addr×Obj)} {σ:BC} (hx:sc.names.lookup x=some .local) (ha:Has c.g T a v)
  (he:lr0=(lr++cl)++jak c.w.params 388 c.α σ) (O:Ok prg c.w σ B) (hT:σ.tups=T) (hs:∀ p∈T0,p∈T) (hB:BOk σ B) (hL:LedOk c.g T led lr) (hC:jcN c cl) (hK:Kn c T m cl ls)
  (st:∀ z,VS c body ((x,a)::ls) B (z::led) (jjA z J2 K)) (hk:KQ c T0 K (λ f s=>R (.ok f) s)):jne prg c.w c.A c.b₀ c.env x body c.gs c.dr c.os R (RawJ c T0 J2) v m lr0:=by
 subst he
 intro it h₁ tk₁ E' W
 rw [C.hl] at W
 refine (st (it.1,.obj it.2)).run T _ E' _ (.mk h₁ tk₁ _ σ cl (it::lr) W O hT hB (.cons (.obj _) hL) hC (jk7 C hx ha hK)) λ fl f ls' B' led' T' s' hsub hs' hf hKK=>?_
 have fin:LoopOk (it.1,AO.obj it.2) J2 ls' B' led'->jdK c.b₀ c.env.locals c.gs c.dr c.os [it] (RawJ c T0 J2) s':=by
  rintro ⟨ls2,led2,hw,rfl,hj⟩
  cases hs' with | mk h2 tk2 m2 σ2 cl2 lr2 W2 O2 hT2 hB2 hL2 hC2 hK2 =>
  cases hL2 with | cons ho hL2 =>
  cases ho
  exact joZ h2 tk2 m2 _ rfl (by refine rwr C.hl ?_; exact W2) (.mk σ2 cl2 _ T' ls2 B' led2 rfl O2 hT2 (λ p hp=>hsub p (hs p hp)) hB2 hL2 hC2 (λ y b e=>hK2 y b (hw.at y b e)) hj)
 cases hf with
 | ret hv=>exact hk (.ret _) (.ret _) _ _ _ T' s' (λ p hp=>hsub p (hs p hp)) hs' (.ret hv) hKK
 | brk=>exact hKK.elim
 | next=>exact fin hKK
 | cont=>exact fin hKK
theorem jc8 (C:CO c sc) {x:Str} {body:List Stmt} {a:AV} {items:List AV} (e:jdm a=some items) (hx:sc.names.lookup x=some .local) (J:Nat->Ls->List Tm->Led->Prop) (ls0:Ls) (hw:Wk ls0 ls) (h0:J 0 ls0 B led)
  (step:∀ i v ls B led,items[i]? = some v->J i ls B led->∀ z,VS c body ((x,v)::ls) B (z::led) (jjA z (J (i+1)) K)) (fin:∀ ls B led,J items.length ls B led->K .next ls B led):FO c x body a ls B led K:=by
 refine ⟨λ T s E y xp R hs ha hk=>?_⟩
 refine jci (ji4 e ha) λ t vs e_3 has hm=>?_
 subst e_3
 refine hs.elim λ h tk m σ cl lr W O hT hB hL hC hK=>?_
 have W':Fx c.b₀ h c.env.locals m ((lr++cl)++jak c.w.params 388 c.α σ):=by refine rwr C.hl ?_; exact W
 have hlen:=has.len
 have j0:RawJ c T (J 0) m ((lr++cl)++jak c.w.params 388 c.α σ):=.mk σ cl lr T ls0 B led rfl O hT (λ U h=>h) hB hL hC (λ y b e=>hK y b (hw.at y b e)) h0
 have hst:∀ (i:Nat) v m₁ led₁,vs[i]? = some v->RawJ c T (J i) m₁ led₁->jne prg c.w c.A c.b₀ c.env x body c.gs c.dr c.os R (RawJ c T (J (i+1))) v m₁ led₁:=by
  rintro i v m₁ led₁ hv ⟨σ1,cl1,lr1,T1,ls1,B1,led1,he,O1,hT1,hs1,hB1,hL1,hC1,hK1,j⟩
  refine jam (has.at hv) λ b hb hav=>?_
  exact jlp C hx (hav.mono hs1) he O1 hT1 hs1 hB1 hL1 hC1 hK1 (step i b _ _ _ hb j) hk
 have hR:∀ h' tk' m' led',Fx c.b₀ h' c.env.locals m' led'->RawJ c T (J items.length) m' led'->R (.ok .next) ⟨h',c.gs,c.dr,tk',c.os⟩:=by
  rintro h' tk' m' led' Wn ⟨σ1,cl1,lr1,T1,ls1,B1,led1,rfl,O1,hT1,hs1,hB1,hL1,hC1,hK1,j⟩
  rw [C.hl] at Wn
  exact hk .next .next ls1 B1 led1 T1 _ hs1 (.mk h' tk' m' σ1 cl1 lr1 Wn O1 hT1 hB1 hL1 hC1 hK1) .next (fin _ _ _ j)
 have keep:∀ {p:Addr×Obj},p∈T->∀ i m led,RawJ c T (J i) m led->p∈led:=by
  rintro p hp i m led ⟨σ1,cl1,lr1,T1,ls1,B1,led1,rfl,O1,hT1,hs1,hB1,hL1,hC1,hK1,j⟩
  exact jar hT1 (hs1 p hp)
 rcases hm with hm | ⟨n,hm⟩
 ·exact jl4 C.hh W' (jar hT hm) (λ i=>RawJ c T (J i)) j0 (λ i m led j=>keep hm i m led j) (λ i v m₁ led₁ hv j=>hst i v m₁ led₁ hv j) (λ h' tk' m' led' Wn j=>hR h' tk' m' led' Wn (by refine rwl hlen ?_; exact j)) ((C.kind x).trans hx) C.hp
 ·exact jjU C.hh W' (jar hT hm) (λ i=>RawJ c T (J i)) j0 (λ i m led j=>keep hm i m led j) (λ i v m₁ led₁ hv j=>hst i v m₁ led₁ (by simpa using hv) j) (λ h' tk' m' led' Wn j=>hR h' tk' m' led' Wn (by refine rwl hlen ?_; simpa using j)) ((C.kind x).trans hx) C.hp
theorem jcW (C:CO c sc) {t:Expr} {body:List Stmt} (J:Nat->Ls->List Tm->Led->Prop) (n0:Nat) (ls0:Ls) (hw:Wk ls0 ls) (h0:J n0 ls0 B led)
  (step:∀ n ls B led,J n ls B led->VT c t ls B led (kWh c body ls (jnl J n K) K)):WH c t body ls B led K:=by
 refine ⟨λ T s E pos Q hs hk=>?_⟩
 refine hs.elim λ h tk m σ cl lr W O hT hB hL hC hK=>?_
 refine jog (λ n m' led'=>RawJ c T (J n) m' led') W (.mk σ cl lr T ls0 B led rfl O hT (λ U h=>h) hB hL hC (λ y b e=>hK y b (hw.at y b e)) h0) ?_
 rintro n m₁ led₁ h₁ tk₁ E' W1 ⟨σ1,cl1,lr1,T1,ls1,B1,led1,rfl,O1,hT1,hs1,hB1,hL1,hC1,hK1,j⟩
 refine (step n ls1 B1 led1 j).run T1 _ E' _ (.mk h₁ tk₁ m₁ σ1 cl1 lr1 W1 O1 hT1 hB1 hL1 hC1 hK1) λ b B2 led2 T2 s2 h2 hs2 hK2=>?_
 have hsub:∀ p∈T,p∈T2:=λ p hp=>h2 p (hs1 p hp)
 cases b with
 | false=>exact hk .next .next ls1 B2 led2 T2 s2 hsub hs2 .next hK2
 | true =>
  have hK2:VS c body ls1 B2 led2 (jnl J n K):=hK2
  refine hK2.run T2 s2 E' _ hs2 λ fl f ls' B' led' T' s' hsub3 hs' hf hKK=>?_
  have fin:WhileOk J n ls' B' led'->jdK c.b₀ c.L c.gs c.dr c.os [] (λ m' led'=>∃ n',n' < n/\RawJ c T (J n') m' led') s':=by
   rintro ⟨ls2,hw2,n',hn',hj⟩
   cases hs' with | mk h2 tk2 m2 σ2 cl2 lr2 W2 O2 hT2 hB2 hL2 hC2 hK2 =>
   exact ⟨h2,tk2,m2,_,rfl,W2,n',hn',.mk σ2 cl2 _ T' ls2 B' led' rfl O2 hT2 (λ p hp=>hsub3 p (hsub p hp)) hB2 hL2 hC2 (λ y b e=>hK2 y b (hw2.at y b e)) hj⟩
  cases hf with
  | ret hv=>exact hk (.ret _) (.ret _) _ _ _ T' s' (λ p hp=>hsub3 p (hsub p hp)) hs' (.ret hv) hKK
  | brk=>exact hKK.elim
  | next=>exact fin hKK
  | cont=>exact fin hKK
end
end
section
theorem opT {a:Op} {s:Str} (o:Op) (e:s=o.str) (h:a=o):(a.str == s)=true:=by subst h e; simp
theorem opF {a:Op} {s:Str} (o:Op) (e:s=o.str) (h:¬ a=o):¬ (a.str == s)=true:=by subst e; intro q; exact h (Op.str_inj (eq_of_beq q))
theorem dT {p:Prop} [Decidable p] (h:p):decide p=true:=Jd6 h
theorem dF {p:Prop} [Decidable p] (h:¬ p):¬ decide p=true:=λ e=>h (of_decide_eq_true e)
inductive JoinOk (J:Ls->List Tm->Led->Prop) (ls:Ls) (B:List Tm) (led:Led):Prop
 | mk (ls2:Ls) (w:Wk ls2 ls) (j:J ls2 B led)
noncomputable def jjz (J:Ls->List Tm->Led->Prop) (K:KF):KF:=λ fl ls B led=>match fl with
 | .next=>JoinOk J ls B led
 | fl=>K fl ls B led
section
variable {c:WC} {sc:Scope} {ls:Ls} {B:List Tm} {led:Led} {K:KA}
theorem jb1 {val sl:Expr} {l:List Nat} {n t:Nat} (hsl:jaY sl=true) (hx:l[n]? = some t) (hn:n<1000) (h:K (.nat t) B led):SU c val sl (.tns l) (.nat n) ls B led K:=by
 refine ⟨λ T s E u v Q hs ha hb hk=>?_⟩
 cases ha with
 | tns _ a vs hm hi =>
 cases hb with
 | nat _ t' =>
 have hlt:=(Jc0 hx).1
 have hvl:=jds hi
 refine jdR (jbU hi (List.getElem?_eq_getElem (by refine rwr hvl ?_; exact hlt))) λ y ty e1 e2=>?_
 rw [List.getElem?_map,hx] at e2
 obtain rfl:=Jb0 e2
 have hs0:=hs
 cases hs with
 | mk h' tk m σ cl lr W O hT hB hL hC hK=>exact jlf (j:=n) W (jar hT hm) (Int.natCast_nonneg _) (by lia) (ji3 (by refine rwr hvl ?_; exact hlt)) ((List.getElem?_eq_getElem _).trans (congrArg some e1)) (hk _ _ _ _ T _ (λ U h=>h) hs0 (.nat _ _) h) (jbC hsl)
theorem jaH {val sl:Expr} {l:List Nat} {n t:Nat} (hsl:jaY sl=true) (hx:l[n]? = some t) (hn:n<1000) (h:K (.nat t) B led):SU c val sl (.lns l) (.nat n) ls B led K:=by
 refine ⟨λ T s E u v Q hs ha hb hk=>?_⟩
 cases ha with
 | lns _ a vs e hm hi =>
 cases hb with
 | nat _ t' =>
 have hlt:=(Jc0 hx).1
 have hvl:=jds hi
 refine jdR (jbU hi (List.getElem?_eq_getElem (by refine rwr hvl ?_; exact hlt))) λ y ty e1 e2=>?_
 rw [List.getElem?_map,hx] at e2
 obtain rfl:=Jb0 e2
 have hs0:=hs
 cases hs with
 | mk h' tk m σ cl lr W O hT hB hL hC hK=>exact jdx (i:=n) W (jar hT hm) (by simpa using (List.getElem?_eq_getElem _).trans (congrArg some e1)) (by lia) (hk _ _ _ _ T _ (λ U h=>h) hs0 (.nat _ _) h) (jbC hsl)
theorem jjB {K:KF} (C:CO c sc) (n:Nat) (J:Ls->List Tm->Led->Prop) {t:Expr} {p q rest:List Stmt} {pos:Pos} (h:vcT c sc ls n t B led λ x B led=>if x then vcS c sc n p ls B led (jjz J K) else vcS c sc n q ls B led (jjz J K))
  (r:∀ ls B led,J ls B led->VS c rest ls B led K):VS c (.If t p q pos::rest) ls B led K:=by
 refine ⟨λ T s E Q hs hk=>wpAny_execs_cons (wpAny_If ((jcb C n _ _ _ _ h).run T s E _ hs λ b B1 led1 T1 s1 h1 hs1 hK=>?_))⟩
 have main:KQ c T1 (jjz J K) (λ f s'=>match f with | .next=>wpAny (model prg c.w) c.A (execs rest c.env) Q E s' | f=>Q f s'):=λ fl f ls' B' led' T' s' hsub hs' hf hK2=>by
  have hk2:=KQ.sub hk (λ p hp=>hsub p (h1 p hp))
  cases hf with
  | next =>
   obtain ⟨ls2,hw,hj⟩:=hK2
   exact (r _ _ _ hj).run T' s' E Q (hs'.wk hw.at) hk2
  | brk=>exact hk2 .brk .brk _ _ _ T' s' (λ U h=>h) hs' .brk hK2
  | cont=>exact hk2 .cont .cont _ _ _ T' s' (λ U h=>h) hs' .cont hK2
  | ret ha=>exact hk2 (.ret _) (.ret _) _ _ _ T' s' (λ U h=>h) hs' (.ret ha) hK2
 cases b with
 | true=>exact (jaj C n _ _ _ _ _ hK).run T1 s1 E _ hs1 main
 | false=>exact (jaj C n _ _ _ _ _ hK).run T1 s1 E _ hs1 main
theorem jb2 (C:CO c sc) (r:Rm c.A 2) {a:AV} {l:List Nat} {s:Str} (e:jfh a=some l\/a=.lns l) (hl:∀ t∈l,t<B.length) (k:K .none B led):CF c 245 [.bank,a,.nat 0,.str s] ls B led K:=by
 have hi:jdm a=some (l.map .nat):=by
  rcases e with e | rfl
  ·rcases jfi e with rfl | ⟨as,rfl,e⟩
   ·rfl
   ·exact congrArg some (jgL e)
  ·rfl
 refine jaF ‹_› ‹_› (by k_is) (by k_is) (by exact λ U U U U=>rfl) (by decide +kernel) (by rfl) ?_
 intro c' x cl C' r'
 refine jaj C' 30 _ _ _ _ _ ?_
 refine jc8 C' hi (by decide +kernel) (λ U=>Now [("self",.bank),("s",.nat 0),("where",.str s)] B (x::(led++cl))) [("self",.bank),("s",.nat 0),("where",.str s)] (wk3 rfl rfl rfl) .mk ?_ ?_
 ·intro i v _ _ _ hv h z
  refine h.elim ?_
  rw [List.getElem?_map] at hv
  refine jam (Jd4 hv) λ t hj e=>?_
  subst e
  refine jaj C' 20 _ _ _ _ _ ?_
  refine jfC C' r' (hl t (List.mem_of_getElem? hj)) ?_
  exact ⟨_,_,wk3 rfl rfl rfl,rfl,.mk⟩
 ·refine Now.el ?_
  exact .end0 k
theorem jeD (C:CO c sc) (r:Rm c.A 3) (wf:Wf B) {t:Nat} (ht:t<B.length) (hb:(jab B t).2.length<=16000000) (k:K (.nat (jab B t).1) (jab B t).2 led):CF c 301 [.bank,.nat t] ls B led K:=by
 refine jaF ‹_› ‹_› (by k_is) (by k_is) (by exact λ U U=>rfl) (by decide +kernel) (by rfl) ?_
 intro c' x cl C' r'
 refine jaj C' 30 _ _ _ _ _ ?_
 refine jfC C' (r'.le (by decide)) ht ?_
 refine ⟨ht,?_⟩
 by_cases h:jad B t=.neg
 ·refine jaR (opT .neg rfl h) ⟨ht,?_⟩
  refine jdI (ja5 wf h) λ s U e U=>?_
  have em:jab B t=(s,B):=by unfold jab; refine rwr (if_pos h) ?_; refine rwr e ?_; rfl
  rw [em] at k
  refine rwr e ?_
  exact jb1 rfl rfl (by decide) (.end0 k)
 refine jaP (opF .neg rfl h) ?_
 by_cases h1:t=1
 ·subst h1
  have em:jab B 1=(2,B):=by unfold jab; refine rwr (if_neg h) ?_; refine rwr (if_pos rfl) ?_; rfl
  rw [em] at k
  exact .end0 k
 refine jaP (dF h1) ?_
 by_cases h2:t=2
 ·subst h2
  have em:jab B 2=(1,B):=by unfold jab; refine rwr (if_neg h) ?_; refine rwr (if_neg h1) ?_; refine rwr (if_pos rfl) ?_; rfl
  rw [em] at k
  exact .end0 k
 refine jaP (dF h2) ?_
 have em:jab B t=mk B ⟨.neg,[t],0⟩:=by unfold jab; refine rwr (if_neg h) ?_; refine rwr (if_neg h1) ?_; refine rwr (if_neg h2) ?_; rfl
 rw [em] at k hb
 exact jd0 C' (o:=.neg) (r'.le (by decide)) rfl (λ e=>nomatch e) hb (.end0 k)
theorem jo3 (C:CO c sc) (r:Rm c.A 3) {l:List Nat} (hl:∀ t∈l,t<B.length) (hn:l.length<=16000000) (hb:(jfF B l).2.length<=16000000) (k:K (.nat (jfF B l).1) (jfF B l).2 led):CF c 308 [.bank,.lns l] ls B led K:=by
 refine jaF ‹_› ‹_› (by k_is) (by k_is) (by exact λ U U=>rfl) (by decide +kernel) (by rfl) ?_
 intro c' x cl C' r'
 refine jaj C' 30 _ _ _ _ _ ?_
 refine jb2 C' r' (.inr rfl) hl (jbx C' hn ?_)
 match l,k,hb,hn with
 | [],k,_,_=>exact .end0 k
 | [t],k,_,_=>exact jbx C' (show 1<=16000000 by decide) (jaH rfl rfl (by decide) (.end0 k))
 | t::u::l,k,hb,hn=>exact jbx C' hn (jjd C' hn (jd0 C' (o:=.con) r' rfl (λ e=>nomatch e) hb (.end0 k)))
theorem jq9 (C:CO c sc) (r:Rm c.A 3) {l:List Nat} (hl:∀ t∈l,t<B.length) (hn:l.length<=16000000) (hb:(jmy B l).2.length<=16000000) (k:K (.nat (jmy B l).1) (jmy B l).2 led):CF c 315 [.bank,.lns l] ls B led K:=by
 refine jaF ‹_› ‹_› (by k_is) (by k_is) (by exact λ U U=>rfl) (by decide +kernel) (by rfl) ?_
 intro c' x cl C' r'
 refine jaj C' 30 _ _ _ _ _ ?_
 refine jb2 C' r' (.inr rfl) hl (jbx C' hn ?_)
 match l,k,hb,hn with
 | [],k,_,_=>exact .end0 k
 | [t],k,_,_=>exact jbx C' (show 1<=16000000 by decide) (jaH rfl rfl (by decide) (.end0 k))
 | t::u::l,k,hb,hn=>exact jbx C' hn (jjd C' hn (jd0 C' (o:=.dis) r' rfl (λ e=>nomatch e) hb (.end0 k)))
theorem jp7 (C:CO c sc) (r:Rm c.A 3) {a b:Nat} (ha:a<B.length) (hb':b<B.length) (hb:(mk B ⟨.xr,[a,b],0⟩).2.length<=16000000) (k:K (.nat (mk B ⟨.xr,[a,b],0⟩).1) (mk B ⟨.xr,[a,b],0⟩).2 led):CF c 322 [.bank,.nat a,.nat b] ls B led K:=by
 refine jaF ‹_› ‹_› (by k_is) (by k_is) (by exact λ U U U=>rfl) (by decide +kernel) (by rfl) ?_
 intro c' x cl C' r'
 refine jaj C' 30 _ _ _ _ _ ?_
 refine jb2 (l:=[a,b]) C' r' (.inl rfl) (by simp [ha,hb']) ?_
 exact jd0 C' (o:=.xr) r' rfl (λ e=>nomatch e) hb (.end0 k)
theorem jqK (C:CO c sc) (r:Rm c.A 3) {a b:Nat} (ha:a<B.length) (hb':b<B.length) (hb:(jcP B a b).2.length<=16000000) (k:K (.nat (jcP B a b).1) (jcP B a b).2 led):CF c 343 [.bank,.nat a,.nat b] ls B led K:=by
 refine jaF ‹_› ‹_› (by k_is) (by k_is) (by exact λ U U U=>rfl) (by decide +kernel) (by rfl) ?_
 intro c' x cl C' r'
 refine jaj C' 30 _ _ _ _ _ ?_
 refine ⟨ha,jfC C' (r'.le (by decide)) hb' ?_⟩
 refine Jc8 (Jc9 (a=b)) (λ h=>?_) λ h=>?_
 ·subst h
  have em:jcP B a a=(1,B):=if_pos rfl
  rw [em] at k
  exact jaR (dT rfl) (.end0 k)
 ·have em:jcP B a b=mk B ⟨.eq,[min a b,max a b],0⟩:=if_neg h
  rw [em] at k hb
  refine jaP (dF h) (jpC C' (jpB C' (jd0 C' (o:=.eq) r' rfl (λ e=>nomatch e) hb (.end0 k))))
theorem jpq (C:CO c sc) (r:Rm c.A 4) {a b:Nat} (ha:a<B.length) (hb':b<B.length) (hb:(jcP B a b).2.length<=16000000) (k:K (.nat (jcP B a b).1) (jcP B a b).2 led):CF c 336 [.bank,.nat a,.nat b] ls B led K:=by
 refine jaF ‹_› ‹_› (by k_is) (by k_is) (by exact λ U U U=>rfl) (by decide +kernel) (by rfl) ?_
 intro c' x cl C' r'
 refine jaj C' 30 _ _ _ _ _ ?_
 refine jb2 (l:=[a,b]) C' (r'.le (by decide)) (.inl rfl) (by simp [ha,hb']) ?_
 exact jqK C' r' ha hb' hb (.end0 k)
theorem jpu (C:CO c sc) (r:Rm c.A 3) {t a b:Nat} (ht:t<B.length) (ha:a<B.length) (hb':b<B.length) (hb:(mk B ⟨.ite,[t,a,b],0⟩).2.length<=16000000) (k:K (.nat (mk B ⟨.ite,[t,a,b],0⟩).1) (mk B ⟨.ite,[t,a,b],0⟩).2 led):CF c 357 [.bank,.nat t,.nat a,.nat b] ls B led K:=by
 refine jaF ‹_› ‹_› (by k_is) (by k_is) (by exact λ U U U U=>rfl) (by decide +kernel) (by rfl) ?_
 intro c' x cl C' r'
 refine jaj C' 30 _ _ _ _ _ ?_
 refine jfC C' (r'.le (by decide)) ht ⟨ha,jfC C' (r'.le (by decide)) hb' ⟨ha,?_⟩⟩
 exact jd0 C' (o:=.ite) r' rfl (λ e=>nomatch e) hb (.end0 k)
theorem jbs (C:CO c sc) (r:Rm c.A 4) (wf:Wf B) {t:Nat} (ht:t<B.length) (hb:(jab B t).2.length<=16000000) (k:K (.nat (jab B t).1) (jab B t).2 led):CF c 444 [.rw,.nat t] ls B led K:=by
 refine jaF ‹_› ‹_› (by k_is) (by k_is) (by exact λ U U=>rfl) (by decide +kernel) (by rfl) ?_
 intro c' x cl C' r'
 refine jaj C' 30 _ _ _ _ _ ?_
 exact jeD C' r' wf ht hb (.end0 k)
theorem jli (C:CO c sc) (r:Rm c.A 5) (wf:Wf B) {a b:Nat} (ha:a<B.length) (hb':b<B.length) (hb:(jaG B a b).2.length<=16000000) (k:K (.nat (jaG B a b).1) (jaG B a b).2 led):CF c 458 [.rw,.nat a,.nat b] ls B led K:=by
 have hA:=jbM wf ha
 have hB:=jbM wf hb'
 have hl:=Ja0 (jaX B a b).len hb
 have hsame:jaG B a b=if decide (jad B a=.neg) != decide (jad B b=.neg) then jab (jap B (jac B a) (jac B b)).2 (jap B (jac B a) (jac B b)).1 else jap B (jac B a) (jac B b):=rfl
 have hm:=jcI wf hA hB
 refine jaF ‹_› ‹_› (by k_is) (by k_is) (by exact λ U U U=>rfl) (by decide +kernel) (by rfl) ?_
 intro c' x cl C' r'
 have r1:Rm c'.A 1:=r'.le (by decide)
 refine jaj C' 30 _ _ _ _ _ ?_
 refine jjB C' 20 (Now [("self",.rw),("b",.nat b),("a",.nat (jac B a)),("is_odd",.bool (decide (jad B a=.neg)))] B (x::(led++cl))) ?_ ?_
 ·refine jhK C' r1 ha ?_
  by_cases h:jad B a=.neg
  ·refine jaR (opT .neg rfl h) (jbs C' r' wf ha (Ja0 (by refine rwr (jbB h) ?_; exact Jc4 _) hl) ?_)
   refine rwr (jbB h) ?_
   exact ⟨rfl,_,.cons rfl (.cons rfl (.cons rfl (.cons (by refine rwr (dT h) ?_; rfl) .nil))),.mk⟩
  ·refine jaP (opF .neg rfl h) ?_
   have e:jac B a=a:=if_neg h
   refine rwr e ?_
   exact ⟨_,.cons rfl (.cons rfl (.cons rfl (.cons (by refine rwr (decide_eq_false h) ?_; rfl) .nil))),.mk⟩
 refine Now.el ?_
 refine jjB C' 20 (Now [("self",.rw),("b",.nat (jac B b)),("a",.nat (jac B a)),("is_odd",.bool (decide (jad B a=.neg) != decide (jad B b=.neg)))] B (x::(led++cl))) ?_ ?_
 ·refine jhK C' r1 hb' ?_
  by_cases h:jad B b=.neg
  ·refine jaR (opT .neg rfl h) (jbs C' r' wf hb' (Ja0 (by refine rwr (jbB h) ?_; exact Jc4 _) hl) ?_)
   refine rwr (jbB h) ?_
   exact ⟨rfl,_,.cons rfl (.cons rfl (.cons rfl (.cons (by refine rwr (dT h) ?_; rw [Bool.bne_true]; rfl) .nil))),.mk⟩
  ·refine jaP (opF .neg rfl h) ?_
   have e:jac B b=b:=if_neg h
   refine rwr e ?_
   exact ⟨_,.cons rfl (.cons rfl (.cons rfl (.cons (by refine rwr (decide_eq_false h) ?_; rw [Bool.bne_false]; rfl) .nil))),.mk⟩
 refine Now.el ?_
 rw [hsame] at hb k
 replace hb:=hb
 replace k:=k
 generalize (decide (jad B a=.neg) != decide (jad B b=.neg))=odd at hb k
 generalize jac B a=a₁ at hA hb k hm
 generalize jac B b=b₁ at hB hb k hm
 have hl2:(jap B a₁ b₁).2.length<=16000000:=by
  cases odd
  ·exact hb
  ·exact Ja0 (jag _ _).len hb
 refine jjB C' 20 (Now [("self",.rw),("b",.nat (if a₁=1\/a₁=2 then a₁ else b₁)),("a",.nat (if a₁=1\/a₁=2 then b₁ else a₁)),("is_odd",.bool odd)] B (x::(led++cl))) ?_ ?_
 ·by_cases h1:a₁=1
  ·refine jaR (dT h1) ⟨rfl,?_⟩
   refine rwr (if_pos (.inl h1)) ?_
   refine rwr (if_pos (.inl h1)) ?_
   exact ⟨_,wk4 rfl rfl rfl rfl,.mk⟩
  refine jaP (dF h1) ?_
  by_cases h2:a₁=2
  ·refine jaR (dT h2) ⟨rfl,?_⟩
   refine rwr (if_pos (.inr h2)) ?_
   refine rwr (if_pos (.inr h2)) ?_
   exact ⟨_,wk4 rfl rfl rfl rfl,.mk⟩
  ·refine jaP (dF h2) ?_
   refine rwr (if_neg (by lia)) ?_
   refine rwr (if_neg (by lia)) ?_
   exact ⟨_,wk4 rfl rfl rfl rfl,.mk⟩
 refine Now.el ?_
 have hmid:jap B a₁ b₁=if (if a₁=1\/a₁=2 then a₁ else b₁)=1 then ((if a₁=1\/a₁=2 then b₁ else a₁),B) else if (if a₁=1\/a₁=2 then a₁ else b₁)=2 then jab B (if a₁=1\/a₁=2 then b₁ else a₁) else jcP B (if a₁=1\/a₁=2 then b₁ else a₁) (if a₁=1\/a₁=2 then a₁ else b₁):=by
  unfold jap
  by_cases h1:a₁=1\/a₁=2
  ·simp only [if_pos h1]
   by_cases h2:a₁=1
   ·refine rwr (if_pos h2) ?_
    refine rwr (if_pos h2) ?_
    rfl
   ·refine rwr (if_neg h2) ?_
    refine rwr (if_neg h2) ?_
    refine rwr (if_pos (by lia)) ?_
    rfl
  ·simp only [if_neg h1]
 have hA2:(if a₁=1\/a₁=2 then b₁ else a₁)<B.length:=by split <;> assumption
 have hB2:(if a₁=1\/a₁=2 then a₁ else b₁)<B.length:=by split <;> assumption
 generalize (if a₁=1\/a₁=2 then b₁ else a₁:Nat)=a₂ at hmid hA2
 generalize (if a₁=1\/a₁=2 then a₁ else b₁:Nat)=b₂ at hmid hB2
 generalize jap B a₁ b₁=p at k hb hmid hm hl2
 refine jjB C' 20 (Now [("self",.rw),("is_odd",.bool odd),("result",.nat p.1)] p.2 (x::(led++cl))) ?_ ?_
 ·by_cases h1:b₂=1
  ·rw [if_pos h1] at hmid
   replace hmid:=hmid
   subst hmid
   refine jaR (dT h1) (jaR rfl (jaR (dT h1) ?_))
   exact ⟨_,wk3 rfl rfl rfl,.mk⟩
  rw [if_neg h1] at hmid
  refine jaP (dF h1) ?_
  by_cases h2:b₂=2
  ·rw [if_pos h2] at hmid
   subst hmid
   refine jaR (dT h2) (jaR rfl (jaP (dF h1) (jbs C' r' wf hA2 hl2 ?_)))
   exact ⟨_,wk3 rfl rfl rfl,.mk⟩
  ·rw [if_neg h2] at hmid
   subst hmid
   refine jaP (dF h2) (jpq C' r' hA2 hB2 hl2 ?_)
   exact ⟨_,wk3 rfl rfl rfl,.mk⟩
 refine Now.el ?_
 refine jaj C' 30 _ _ _ _ _ ?_
 cases odd
 ·exact .end0 k
 ·exact jbs C' r' hm.1 hm.2 hb (.end0 k)
end
end
section
theorem jfd {prog:Program} {w:World} {A:Around} {E:Value->Shared->Prop} {gs:Array GenState} {dr:Drawn} {os:OsState} {tk:Tok} {b₀ h:Heap} {L:Addr} {m:Str->Option Value} {led:List (Addr×Obj)} {t:Addr} {vs:Array Value} {e:Nat} {target:Expr} {Q:Value->Shared->Prop}
  (hgo:∀ I l (i:Nat) v (s:Shared) (Q:Unit->Shared->Prop) (E:Value->Shared->Prop),s.heap.IsListIter I l i->Q () s->wpAny (model prog w) A (letOwnedTupleGo target (.ref I) v) Q E s) (hh:A.handled=none) (W:Fx b₀ h L m led) (hm:(t,listOf vs e)∈led)
  (k:∀ h' i0 it,Itr prog w A target b₀ L [(t,listOf vs e)] (λ i v U=>vs[i]? = some v) vs.size h' m [i0] led it->Q it ⟨h',gs,dr,tk,os⟩) :
  wpAny (model prog w) A (pyIter (.ref t)) Q E ⟨h,gs,dr,tk,os⟩:=by
 have ht:h.IsList t vs:=jaq W.C hm
 refine wpAny_pyIter_list ht ?_
 refine k _ (h.objs.size,_) _ (Itr.mk ?_ (W.push _))
 have Wk:=Walks.list (prog:=prog) (w:=w) hh h.objs.size t (Nat.ne_of_lt (W.C.lt hm)) vs
 refine ⟨_,_,_,_,_,rfl,(KTurns.ofWalks (target:=target) Wk λ i v s Q E st q=>hgo _ _ _ v s Q E st.1 q),λ i h' st b hb=>?_,rfl,λ b hb hn=>?_,⟨⟨_,Heap.get?_push_size _ rfl,rfl,rfl⟩,ht.at λ o e=>Heap.get?_push_of_some _ e⟩,λ s Q E st q=>Wk.self 0 s Q E st q,λ h' hk=>Wk.frame 0 _ h' ⟨⟨_,Heap.get?_push_size _ rfl,rfl,rfl⟩,ht.at λ o e=>Heap.get?_push_of_some _ e⟩ hk⟩
 ·refine rwr (Ja2.mp hb) ?_
  refine jbi st λ n_1 U=>?_
  refine jam n_1 λ o ho U=>?_
  exact ⟨o,ho⟩
 ·rcases Ja3.mp hb with rfl | hb
  ·exact absurd (Ja2.mpr rfl) hn
  ·refine rwr (Ja2.mp hb) ?_; exact ⟨_,.head _⟩
section
variable {c:WC} {sc scope:Scope} {E:Value->Shared->Prop} {ls:Ls} {B:List Tm} {led:Led} {T:List (Addr×Obj)} {s:Shared} {K:KA}
theorem jeh:∀ (names:List (Str×NameKind)) (n:Nat) (acc:List (Str×Addr)),(∀ p∈names,p.2≠.cell)->cellsFrom n names acc=acc
 | [],_,_,_=>rfl
 | (x,k)::r,n,acc,h=>by
  unfold cellsFrom
  refine rwr (if_neg (by simpa using h _ (.head _))) ?_
  exact jeh r n acc λ p hp=>h p (.tail _ hp)
theorem jfL:∀ (names:List (Str×NameKind)) (n:Nat) (acc:List (Addr×Obj)),(∀ p∈names,p.2≠.cell)->jaS n names acc=acc
 | [],_,_,_=>rfl
 | (x,k)::r,n,acc,h=>by
  unfold jaS
  refine rwr (if_neg (by simpa using h _ (.head _))) ?_
  exact jfL r n acc λ p hp=>h p (.tail _ hp)
theorem jgW {x:Str} {names:List (Str×NameKind)} {k:NameKind}:(names.map λ p=>if (p.2 == NameKind.free && sc.names.lookup p.1 == some .cell) then (p.1,NameKind.cell) else (p.1,p.2)).lookup x=some k->∃ k0,names.lookup x=some k0/\(k=k0\/(k0=.free/\k=.cell)):=by
 induction names with
 | nil=>exact λ h=>nomatch h
 | cons p r ih =>
  intro h
  rw [Ja8] at h
  rw [show p=(p.1,p.2) from rfl,jah]
  refine Jc8 (Jc9 ((p.2 == NameKind.free && sc.names.lookup p.1 == some .cell)=true)) (λ hc=>?_) λ hc=>?_
  ·rw [if_pos hc,jah] at h
   refine ith h (λ e h=>?_) λ e h=>?_
   ·exact ja2 p.2 (if_pos e) (.inr ⟨eq_of_beq (Bool.and_eq_true_iff.mp hc).1,(Jb0 h).symm⟩)
   ·exact jam (ih h) λ k0 h1 h2=>ja2 k0 ((if_neg e).trans h1) h2
  ·rw [if_neg hc,jah] at h
   refine ith h (λ e h=>?_) λ e h=>?_
   ·exact ja2 p.2 (if_pos e) (.inl (Jb0 h).symm)
   ·exact jam (ih h) λ k0 h1 h2=>ja2 k0 ((if_neg e).trans h1) h2
theorem jiX {x:Str} {names:List (Str×NameKind)}:names.lookup x=some .local->(names.map λ p=>if (p.2 == NameKind.free && sc.names.lookup p.1 == some .cell) then (p.1,NameKind.cell) else (p.1,p.2)).lookup x=some .local:=by
 induction names with
 | nil=>exact λ h=>nomatch h
 | cons p r ih =>
  intro h
  rw [show p=(p.1,p.2) from rfl,jah] at h
  rw [Ja8]
  refine ith h (λ e h=>?_) λ e h=>?_
  ·rw [Jb0 h,if_neg nofun,jah,if_pos e]
  ·refine itg (p:=λ z=>List.lookup x (z::_)=_) (λ U=>?_) λ U=>?_ <;> rw [jah,if_neg e] <;> exact ih h
theorem jkD {x:Str} (hc:sc.names.lookup x=some .cell) {names:List (Str×NameKind)}:(names.map (·.1)).Nodup->(x,NameKind.free)∈names->(names.map λ p=>if (p.2 == NameKind.free && sc.names.lookup p.1 == some .cell) then (p.1,NameKind.cell) else (p.1,p.2)).lookup x=some .cell:=by
 induction names with
 | nil=>exact λ U h=>absurd h Jb2
 | cons p r ih =>
  intro hn h
  rw [Ja8,Jd9] at hn
  rw [Ja8]
  refine Jc8 (Ja3.mp h) (λ e=>?_) λ h=>?_
  ·rw [<- e,if_pos (by simp [hc]),jah,if_pos rfl]
  ·have e:x≠p.1:=λ e=>hn.1 (e▸Jb9 ⟨_,h,rfl⟩)
   refine itg (p:=λ z=>List.lookup x (z::_)=_) (λ U=>?_) λ U=>?_ <;> rw [jah,if_neg e] <;> exact ih hn.2 h
noncomputable def blk (c:WC) (scope:Scope) (cl:List (Str×Addr)) (C:Addr) (clo:List (Addr×Obj)):WC:=⟨c.g,c.A,C,jcC scope cl C c.env,some clo⟩
theorem jdV (C:CO c sc) {tg:Tg} (h:CF0 scope sc tg) {cl:List (Str×Addr)} (hcl:ClOk c scope cl) (D:Addr) (clo:List (Addr×Obj)):CO (blk c scope cl D clo) (rel scope sc):=by
 have hn:(relabel scope c.env).names=(rel scope sc).names:=by
  show scope.names.map _=scope.names.map _
  refine List.map_congr_left λ p U=>?_
  obtain ⟨n,k⟩:=p
  dsimp only
  refine rwr C.fk ?_; rw [C.kind]; simp
 have hcells:(jcC scope cl D c.env).cells=cl:=jeh scope.names (D+1) cl h.n
 refine ⟨C.G,hn,h.k,(λ e=>by cases e),rfl,C.hg,C.hb,C.hh,λ x k hx=>?_,λ x y a h1 h2=>?_,λ x hx=>?_⟩
 ·refine jam (jgW hx) λ k0 h0 U=>?_
  exact h.d _ (jay h0)
 ·exact C.ci x y a (hcl.s x a (hcells▸h1)) (hcl.s y a (hcells▸h2))
 ·obtain ⟨k0,h0,h1 | ⟨h1,_⟩⟩:=jgW hx
  ·exact absurd h1.symm (h.n _ (jay h0))
  ·subst h1
   obtain ⟨a,ha⟩:=hcl.h x (jay h0)
   exact ⟨a,by show (jcC scope cl D c.env).cells.lookup x=_; refine rwr hcells ?_; exact ha⟩
theorem jnu (C:CO c sc) {tg:Tg} (h:CF0 scope sc tg) {cl:List (Str×Addr)} (hcl:ClOk c scope cl) {D:Addr} {clo:List (Addr×Obj)} {m m':Str->Option Value} (hK:Kn c T m clo ls):Kn (blk c scope cl D clo) T m' clo (cap scope ls):=by
 intro x a e
 have hcells:(jcC scope cl D c.env).cells=cl:=jeh scope.names (D+1) cl h.n
 refine jam (List.mem_filterMap.mp (jay e)) λ p hp e2=>?_
 obtain ⟨n,k⟩:=p
 dsimp only at e2
 split at e2
 ·rename_i hk
  have hk:k=.free:=by simpa using hk
  subst hk
  cases e3:ls.lookup n with
  | none=>rw [e3] at e2; replace e2:=e2; replace e2:=e2; cases e2
  | some b =>
   rw [e3] at e2
   replace e2:=e2
   cases e2
   refine jam (hK x a e3) λ v h1 h2=>?_
   have hc:=h.f x hp
   rcases h2 with ⟨h2,_⟩ | ⟨h2,ad,o,h3,h4,h5⟩
   ·rw [C.kind,hc] at h2; replace h2:=h2; exact absurd h2 (by decide)
   ·refine jbh (hcl.h x hp) λ ad' h6=>?_
    have:=hcl.s x ad' h6
    rw [h3] at this
    replace this:=this
    obtain rfl:=Jb0 this
    refine ja2 v h1 (.inr ⟨?_,ad,o,by show (jcC scope cl D c.env).cells.lookup x=_; refine rwr hcells ?_; exact h6,h4,h5⟩)
    exact ((jdV C h hcl D clo).kind x).trans (jkD hc h.nd hp)
 ·exact nomatch e2
noncomputable def TurnP (c:WC) (ifs:List Expr) (elt:Expr) (ls:Ls) (B:List Tm) (led:Led) (P:Option AV->List Tm->Led->Prop):Prop:=match ifs with
 | []=>VE c elt ls B led λ a=>P (some a)
 | [e]=>VT c e ls B led λ b B led=>if b then VE c elt ls B led λ a=>P (some a) else P Option.none B led
 | _=>False
noncomputable def more (ys:List AV):Option AV->List AV
 | some a=>ys++[a]
 | Option.none=>ys
inductive RawC (c:WC) (T:List (Addr×Obj)) (ls:Ls) (m:Str->Option Value) (clo:List (Addr×Obj)) (J:List AV->List Tm->Led->Prop) (ys:Array Value) (lr0:List (Addr×Obj)):Prop
 | mk (σ:BC) (lr T':List (Addr×Obj)) (ysA:List AV) (B:List Tm) (led:Led):lr0=(lr++clo)++jak c.w.params 388 c.α σ->Ok prg c.w σ B->σ.tups=T'->(∀ p∈T,p∈T')->BOk σ B->LedOk c.g T' led lr->Kn c T' m clo ls->Hass c.g T' ysA ys.toList->J ysA B led->RawC c T ls m clo J ys lr0
theorem je1 (C:CO c sc) {elt t:Expr} {ifs:List Expr} {tg:Tg} (htg:jcJ t=some tg) (h:CF0 scope sc tg) {cl:List (Str×Addr)} (hcl:ClOk c scope cl) {D L':Addr} {clo:List (Addr×Obj)} {oL:Obj} {its lr T0:List (Addr×Obj)} {m m₁:Str->Option Value} {ys:Array Value} {ysA:List AV} {e:Nat} {v:Value} {a:AV} {l:Ls} {h₁:Heap} {tk₁:Tok} {J2:List AV->List Tm->Led->Prop} {σ:BC} {cadr:List Addr} (hcadr:cadr=[])
  (W:Fx c.b₀ h₁ D m₁ ((L',listOf ys e)::(c.L,oL)::(its++((lr++clo)++jak c.w.params 388 c.α σ)))) (O:Ok prg c.w σ B) (hT:σ.tups=T) (hs0:∀ p∈T0,p∈T) (hB:BOk σ B) (hL:LedOk c.g T led lr) (hC:jcN c clo) (hK:Kn c T m clo ls) (hys:Hass c.g T ysA ys.toList) (ha:Has c.g T a v) (hl:jhG tg a=some l)
  (st:∀ pre,TurnP (blk c scope cl D clo) ifs elt (l++cap scope ls) B (pre++led) λ o B' led'=>∃ led2,led'=pre++led2/\J2 (more ysA o) B' led2) :
  wpAny (model prg c.w) c.A (assign t (jcC scope cl D c.env) v) (λ _ s₂ =>
     wpAny (model prg c.w) c.A (forIn ifs true λ c1 r=>if r=true then do let ok <- PySem.isTrue c1 (jcC scope cl D c.env) (eval c1 (jcC scope cl D c.env)); pure (ForInStep.yield ok) else pure (ForInStep.yield r)) (λ ok s₃ =>
      if ok=true then wpAny (model prg c.w) c.A (eval elt (jcC scope cl D c.env)) (λ x s₄=>CEnd c.b₀ c.L D L' oL e ys cadr c.gs c.dr c.os its (RawC c T0 ls m clo J2 (ys.push x)) s₄) E s₃
      else CEnd c.b₀ c.L D L' oL e ys cadr c.gs c.dr c.os its (RawC c T0 ls m clo J2 ys) s₃) E s₂) E ⟨h₁,c.gs,c.dr,tk₁,c.os⟩:=by
 subst hcadr
 have C2:=jdV C h hcl D clo
 have hs1:St (blk c scope cl D clo) (cap scope ls) B (lift ((L',listOf ys e)::(c.L,oL)::its)++led) T ⟨h₁,c.gs,c.dr,tk₁,c.os⟩:=by
  refine .mk h₁ tk₁ m₁ σ clo ((L',listOf ys e)::(c.L,oL)::its++lr) ?_ O hT hB ((LedOk.lift _).app hL) ⟨.inr rfl,λ x a e=>hC.2 x a (hcl.s x a ((jeh scope.names (D+1) cl h.n)▸e))⟩ (jnu C h hcl hK)
  simp only [List.append_assoc,Ja4] at W ⊢
  exact W
 have hok:∀ x∈tg.names,okN (rel scope sc) x=true:=λ x hx=>by
  have:=jiX (sc:=sc) (h.t x hx)
  unfold okN
  refine rwr (show (rel scope sc).names.lookup x=some .local from this) ?_; rfl
 have key:∀ s2,St (blk c scope cl D clo) (l++cap scope ls) B (lift ((L',listOf ys e)::(c.L,oL)::its)++led) T s2->wpAny (model prg c.w) c.A (forIn ifs true λ c1 r=>if r=true then do let ok <- PySem.isTrue c1 (jcC scope cl D c.env) (eval c1 (jcC scope cl D c.env)); pure (ForInStep.yield ok) else pure (ForInStep.yield r)) (λ ok s₃ =>
      if ok=true then wpAny (model prg c.w) c.A (eval elt (jcC scope cl D c.env)) (λ x s₄=>CEnd c.b₀ c.L D L' oL e ys [] c.gs c.dr c.os its (RawC c T0 ls m clo J2 (ys.push x)) s₄) E s₃
      else CEnd c.b₀ c.L D L' oL e ys [] c.gs c.dr c.os its (RawC c T0 ls m clo J2 ys) s₃) E s2:=by
  intro s2 hs2
  have back:∀ {B':List Tm} {led2:Led} {T':List (Addr×Obj)} {s':Shared} {l':Ls} {ysB:List AV} {ysV:Array Value},(∀ p∈T,p∈T')->St (blk c scope cl D clo) l' B' (lift ((L',listOf ys e)::(c.L,oL)::its)++led2) T' s'->Hass c.g T' ysB ysV.toList->J2 ysB B' led2->CEnd c.b₀ c.L D L' oL e ys [] c.gs c.dr c.os its (RawC c T0 ls m clo J2 ysV) s':=by
   intro B' led2 T' s' l' ysB ysV hsub hs' hyB hj
   cases hs' with | mk h2 tk2 m2 σ2 cl2 lr2 W2 O2 hT2 hB2 hL2 hC2 hK2 =>
   have ecl:cl2=clo:=by
    refine Jc8 hC2.1 (λ q=>?_) λ q=>?_
    ·cases q
    ·exact (Jb0 q).symm
   subst ecl
   refine jci hL2.split λ r1 r2 e_3 q5 q6=>?_
   subst e_3
   have q7:=LedOk.lift_eq q5
   subst q7
   refine CEnd.intro (m:=m2) [] ?_ rfl (λ p hp=>nomatch hp) (.mk σ2 r2 T' ysB B' led2 rfl O2 hT2 (λ p hp=>hsub p (hs0 p hp)) hB2 q6 (hK.mono hsub) hyB hj)
   simp only [List.append_assoc,Ja4,Ja5] at W2 ⊢
   exact W2
  have hst:=st (lift ((L',listOf ys e)::(c.L,oL)::its))
  have elt_ok:∀ {B1:List Tm} {led1:Led} {T1:List (Addr×Obj)} {s1:Shared},(∀ p∈T,p∈T1)->St (blk c scope cl D clo) (l++cap scope ls) B1 led1 T1 s1->VE (blk c scope cl D clo) elt (l++cap scope ls) B1 led1 (λ a B' led'=>∃ led2,led'=lift ((L',listOf ys e)::(c.L,oL)::its)++led2/\J2 (more ysA (some a)) B' led2)->wpAny (model prg c.w) c.A (eval elt (jcC scope cl D c.env)) (λ x s₄=>CEnd c.b₀ c.L D L' oL e ys [] c.gs c.dr c.os its (RawC c T0 ls m clo J2 (ys.push x)) s₄) E s1:=by
   intro B1 led1 T1 s1 hsub hs1 hv
   refine hv.run T1 s1 E _ hs1 λ b y B' led' T' s' hsub2 hs' hb hK2=>?_
   obtain ⟨led2,rfl,hj⟩:=hK2
   refine back (λ p hp=>hsub2 p (hsub p hp)) hs' ?_ hj
   refine rwr Array.toList_push ?_
   exact (hys.mono λ p hp=>hsub2 p (hsub p hp)).app (.cons hb .nil)
  match ifs,hst with
  | [],hst=>exact jlb (by refine rwr (if_pos rfl) ?_; exact elt_ok (λ U h=>h) hs2 hst)
  | [cd],hst =>
   have hst:VT (blk c scope cl D clo) cd (l++cap scope ls) B _ _:=hst
   refine jn6 (hst.run T s2 E _ hs2 λ b B' led' T' s' hsub hs' hK2=>?_)
   cases b with
   | true=>refine rwr (if_pos rfl) ?_; exact elt_ok hsub hs' hK2
   | false =>
    refine rwr (if_neg Bool.false_ne_true) ?_
    obtain ⟨led2,rfl,hj⟩:=hK2
    exact back hsub hs' (hys.mono hsub) hj
  | _::_::_,hst=>exact hst.elim
 refine Jc8 (jlo htg) (λ e=>jjx e λ x xp e=>?_) λ e=>jcR e λ es k tp e=>?_
 ·subst e
  obtain rfl:=Jb0 htg
  obtain rfl:=Jb0 hl
  exact wpAny_assign_Name (jcw C2 (hok x (.head _)) hs1 ha λ s' hs'=>key s' hs')
 subst e
 refine jam (Jd4 (show (jbm es).map Tg.many=some tg from htg)) λ xs hx e=>?_
 subst e
 cases ha with
 | tup as ad vs hm has =>
  dsimp only [jhG] at hl
  refine ith hl (λ hlen hl=>?_) λ U hl=>nomatch hl
  obtain rfl:=Jb0 hl
  refine jbq (jdt (c:=blk c scope cl D clo) hx) λ n1 n2 n3=>?_
  refine hs1.elim0 λ h' tk m3 σ3 cl3 lr3 hs0 W3 O3 hT3 hB3 hL3 hC3 hK3=>?_
  refine job (env:=(blk c scope cl D clo).env) C.hh W3 (ja3 W3.C (jar hT3 hm)) (λ h2 W2=>?_) (by rw [n1,Jc5,has.len,hlen]) n2
  exact jfu C2 hx (List.all_eq_true.mpr hok) (.mk h2 _ _ σ3 cl3 lr3 W2 O3 hT3 hB3 hL3 hC3 hK3) has hlen λ s' hs'=>key s' hs'
 | _=>exact nomatch hl
end
end
section
noncomputable def jdY:AV->Option (List AV)
 | .rng n=>some ((List.range n).map .nat)
 | a=>jdm a
noncomputable def jdl (e:Expr):Bool:=e.ctorIdx == 23
theorem jfc {t:Expr} (h:jdl t=true):∃ x p,t=.Name x p:=by
 cases t with
 | Name x p=>exact ⟨x,p,rfl⟩
 | _=>exact nomatch (show false=true from h)
theorem goT {w:World} {A:Around} {es:List Expr} {k2:Nat} {tp:Pos} {I l:Addr} {i:Nat} {s:Shared} {Q:Unit->Shared->Prop} {E:Value->Shared->Prop} (hi:s.heap.IsListIter I l i) (q:Q () s) (v:Value):wpAny (model prg w) A (letOwnedTupleGo (.Tuple es k2 tp) (.ref I) v) Q E s:=by
 cases v with
 | ref T=>exact wpAny_letOwnedTupleGo_listiter hi q
 | _=>exact wpAny_of_eq (a:=()) rfl q
theorem jnJ {w:World} {A:Around} {t:Expr} {tg:Tg} (h:jcJ t=some tg) (I l:Addr) (i:Nat) (v:Value) (s:Shared) (Q:Unit->Shared->Prop) (E:Value->Shared->Prop) (hi:s.heap.IsListIter I l i) (q:Q () s):wpAny (model prg w) A (letOwnedTupleGo t (.ref I) v) Q E s:=by
 refine Jc8 (jlo h) (λ e=>jjx e λ x p e=>?_) λ e=>jcR e λ es k p e=>?_
 ·rw [e]; exact jfb q
 ·rw [e]; exact goT hi q v
theorem jfU {w:World} {A:Around} {E:Value->Shared->Prop} {gs:Array GenState} {dr:Drawn} {os:OsState} {tk:Tok} {b₀ h:Heap} {L:Addr} {m:Str->Option Value} {led:List (Addr×Obj)} {g:WG} {T:List (Addr×Obj)} {a:AV} {y:Value} {items:List AV} {target:Expr} {tg:Tg} {Q:Value->Shared->Prop}
  (hh:A.handled=none) (W:Fx b₀ h L m led) (hT:∀ p∈T,p∈led) (ht:jcJ target=some tg) (he:jdY a=some items) (ho:jdl target=true\/∃ l,a=.lst l) (hn:items.length<=16000000) (ha:Has g T a y)
  (k:∀ h' i0 it src P,Itr prg w A target b₀ L src P items.length h' m [i0] led it->(∀ p∈src,p∈T)->(∀ i v h,i<items.length->P i v h->∃ b,items[i]? = some b/\Has g T b v)->Q it ⟨h',gs,dr,tk,os⟩):wpAny (model prg w) A (pyIter y) Q E ⟨h,gs,dr,tk,os⟩:=by
 refine Jc8 (Jc9 (∃ n,a=.rng n)) (λ hr=>jbh hr λ n e=>?_) λ hr=>?_
 ·subst e
  obtain rfl:=Jb0 he
  refine ha.rngE λ r t u v hm=>?_
  refine Jc8 ho (λ ho=>jjx (jfc ho) λ x xp e=>?_) λ q=>jbh q λ l e=>nomatch e
  subst e
  rw [Jc6,List.length_range] at hn
  refine jii (x:=x) (xp:=xp) hh W (hT _ hm) (by lia) λ h' i0 it I=>k h' i0 it [] _ (by rw [Jc6]; refine rwr List.length_range ?_; exact I) (λ p hp=>nomatch hp) λ i v h hi hv=>?_
  refine jbi hv λ h1 q=>jbh q λ t' e=>?_
  subst e
  exact ja2 (.nat i) (by refine rwr (List.getElem?_map) ?_; refine rwr (List.getElem?_range h1) ?_; rfl) (.nat i t')
 have he:jdm a=some items:=by
  cases a <;> first | exact he | exact absurd ⟨_,rfl⟩ hr
 refine jci (ji4 he ha) λ t vs e_3 has hm=>?_
 subst e_3
 have hlen:=has.len
 refine Jc8 hm (λ hm=>?_) λ q=>jbh q λ n hm=>?_
 ·refine Jc8 (Jc9 (jdl target=true)) (λ ho=>jjx (jfc ho) λ x xp e=>?_) λ hno=>?_
  ·subst e
   exact jij (x:=x) (xp:=xp) hh W (hT _ hm) λ h' i0 it I=>k h' i0 it _ _ (hlen▸I) (λ p hp=>Ja2.mp hp▸hm) λ i v h hi hv=>has.at hv
  refine jbh (ho.resolve_left hno) λ l e=>?_
  subst e
  cases ha with | lst _ _ us n2 hm2 has2 =>
  obtain rfl:=Jb0 he
  exact jfd (jnJ ht) hh W (hT _ hm2) λ h' i0 it I=>k h' i0 it _ _ (by rw [Jc5,has2.len] at I; exact I) (λ p hp=>Ja2.mp hp▸hm2) λ i v h hi hv=>has2.at (by rw [<- List.getElem?_toArray]; exact hv)
 ·exact jfd (jnJ ht) hh W (hT _ hm) λ h' i0 it I=>k h' i0 it _ _ (by rw [Jc5,hlen] at I; exact I) (λ p hp=>Ja2.mp hp▸hm) λ i v h hi hv=>has.at (by rw [<- List.getElem?_toArray]; exact hv)
section
variable {c:WC} {sc scope:Scope} {E:Value->Shared->Prop} {ls:Ls} {B:List Tm} {led:Led} {T:List (Addr×Obj)} {s:Shared} {K:KA}
theorem jiw {g:WG} {l:List AV} {vs:List Value} {x:Addr} {n:Nat} (hm:(x,listOf vs.toArray n)∈T) (has:Hass g T l vs):Has g T (mkL l) (.ref x):=by
 unfold mkL
 cases e:nats l with
 | none=>exact .lst l x vs n hm has
 | some ns=>exact .lns ns x vs n hm (jbZ has e)
theorem jlw (C:CO c sc) {elt t iter:Expr} {ifs:List Expr} {pos:Pos} {a:AV} {items:List AV} {tg:Tg} (ht:jcJ t=some tg) (he:jdY a=some items) (ho:jdl t=true\/∃ l,a=.lst l) (hn:items.length<=16000000) (chk:jhJ scope sc tg=true)
  (J:Nat->List AV->List Tm->Led->Prop) (h0:J 0 [] B led) (hJ:∀ i ys B led,J i ys B led->ys.length<=i)
  (turn:∀ c':WC,CO c' (rel scope sc)->(∀ k,Rm c.A k->Rm c'.A k)->∀ i v ys B led pre,items[i]? = some v->J i ys B led->∃ l,jhG tg v=some l/\TurnP c' ifs elt (l++cap scope ls) B (pre++led) λ o B' led'=>∃ led2,led'=pre++led2/\J (i+1) (more ys o) B' led2)
  (fin:∀ ys B led,J items.length ys B led->K (mkL ys) B led):CP c elt t iter ifs scope pos a ls B led K:=by
 refine ⟨λ T s E y Q cl hcl hs ha hk=>?_⟩
 have h:=cf0 chk
 refine hs.elim λ hp tk m σ clo lr W O hT hB hL hC hK=>?_
 refine jfU C.hh W (λ p hp=>jar hT hp) ht he ho hn ha λ h' i0 it src P I hsrc hP=>?_
 refine jhW (its:=[i0]) I hn (λ i ys lr0=>RawC c T ls m clo (J i) ys lr0) (.mk σ lr T [] B led rfl O hT (λ U h=>h) hB hL hK .nil h0) ?_ ?_ ?_
 ·rintro i ys lr0 ⟨σ1,lr1,T1,ysA,B1,led1,rfl,O1,hT1,hs1,hB1,hL1,hK1,hy,j⟩
  exact ⟨by have:=hJ _ _ _ _ j; have:=hy.len; rw [Array.length_toList] at this; replace this:=this; exact Ja0 (Jb7 ‹_›) ‹_›,λ p hp=>jar hT1 (hs1 p (hsrc p hp))⟩
 ·rintro D i v ys e L' oL m₁ led₁ its₁ cells₁ h₁ tk₁ E' hi hPv ⟨σ1,lr1,T1,ysA,B1,led1,rfl,O1,hT1,hs1,hB1,hL1,hK1,hy,j⟩ hits hc hd W1
  have hc0:cells₁=[]:=by
   rw [jfL _ _ _ h.n] at hc
   simpa using hc
  subst hc0
  refine jam (hP i v h₁ hi hPv) λ b hb hbv=>?_
  refine jam (turn (blk c scope cl D clo) (jdV C h hcl D clo) (λ k r=>r) i b ysA B1 led1 [] hb j) λ l hl U=>?_
  refine je1 C ht h hcl rfl (W1) O1 hT1 hs1 hB1 hL1 hC hK1 hy (hbv.mono hs1) hl λ pre=>?_
  refine jam (turn (blk c scope cl D clo) (jdV C h hcl D clo) (λ k r=>r) i b ysA B1 led1 pre hb j) λ l2 hl2 ht2=>?_
  rw [hl] at hl2
  obtain rfl:=Jb0 hl2
  exact ht2
 ·rintro D h2 tk2 ys e led' W2 ⟨σ1,lr1,T1,ysA,B1,led1,rfl,O1,hT1,hs1,hB1,hL1,hK1,hy,j⟩
  rw [(rfl:ys=ys.toList.toArray)] at W2
  exact hk (mkL ysA) _ B1 led1 _ _ (λ p hp=>.tail _ (hs1 p hp)) (St.frz (h:=h2) (tk:=tk2) W2 O1 hT1 hB1 hL1 hC hK1) (jiw (n:=e) (.head _) (hy.mono λ p hp=>.tail _ hp)) (fin _ _ _ j)
theorem jni (C:CO c sc) {yv:Str} {elt t iter:Expr} {ifs:List Expr} {pos:Pos} {a:AV} {items:List AV} {tg:Tg} (hy:sc.names.lookup yv=some .local) (ht:jcJ t=some tg) (he:jdY a=some items) (ho:jdl t=true\/∃ l,a=.lst l) (hn:items.length<=16000000) (chk:jhJ scope sc tg=true)
  (J:Nat->List AV->List Tm->Led->Prop) (h0:J 0 [] B led) (hJ:∀ i ys B led,J i ys B led->ys.length<=i)
  (turn:∀ c':WC,CO c' (rel scope sc)->(∀ k,Rm c.A k->Rm c'.A k)->∀ i v ys B led pre,items[i]? = some v->J i ys B led->∃ l,jhG tg v=some l/\TurnP c' ifs elt (l++cap scope ls) B (pre++led) λ o B' led'=>∃ led2,led'=pre++led2/\J (i+1) (more ys o) B' led2)
  (fin:∀ ys B led,J items.length ys B led->K (mkL ys) B led):CU c yv elt t iter ifs scope pos a ls B led K:=by
 refine ⟨λ T s E y py Q cl hcl hs ha hk=>?_⟩
 have h:=cf0 chk
 refine hs.elim λ hp tk m σ clo lr W O hT hB hL hC hK=>?_
 refine jfU C.hh W (λ p hp=>jar hT hp) ht he ho hn ha λ h' i0 it src P I hsrc hP=>?_
 refine jfM (its:=[i0]) (Q:=λ U s'=>Q s') I hn C.hl ((C.kind yv).trans hy) C.hp (λ i ys lr0=>RawC c T ls m clo (J i) ys lr0) (.mk σ lr T [] B led rfl O hT (λ U h=>h) hB hL hK .nil h0) ?_ ?_ ?_
 ·rintro i ys lr0 ⟨σ1,lr1,T1,ysA,B1,led1,rfl,O1,hT1,hs1,hB1,hL1,hK1,hy,j⟩
  exact ⟨by have:=hJ _ _ _ _ j; have:=hy.len; rw [Array.length_toList] at this; exact Ja0 (Jb7 ‹_›) ‹_›,λ p hp=>jar hT1 (hs1 p (hsrc p hp))⟩
 ·rintro D i v ys e L' oL m₁ led₁ its₁ cells₁ h₁ tk₁ E' hi hPv ⟨σ1,lr1,T1,ysA,B1,led1,rfl,O1,hT1,hs1,hB1,hL1,hK1,hy,j⟩ hits hc hd W1
  have hc0:cells₁=[]:=by
   rw [jfL _ _ _ h.n] at hc
   simpa using hc
  subst hc0
  refine jam (hP i v h₁ hi hPv) λ b hb hbv=>?_
  refine jam (turn (blk c scope cl D clo) (jdV C h hcl D clo) (λ k r=>r) i b ysA B1 led1 [] hb j) λ l hl U=>?_
  refine je1 C ht h hcl rfl (W1) O1 hT1 hs1 hB1 hL1 hC hK1 hy (hbv.mono hs1) hl λ pre=>?_
  refine jam (turn (blk c scope cl D clo) (jdV C h hcl D clo) (λ k r=>r) i b ysA B1 led1 pre hb j) λ l2 hl2 ht2=>?_
  rw [hl] at hl2
  obtain rfl:=Jb0 hl2
  exact ht2
 ·rintro D h2 tk2 ys e led' W2 ⟨σ1,lr1,T1,ysA,B1,led1,rfl,O1,hT1,hs1,hB1,hL1,hK1,hy2,j⟩
  have hys:ys=ys.toList.toArray:=by simp
  rw [hys] at W2
  have hsub:∀ p∈T1,p∈(D,listOf ys.toList.toArray e)::T1:=λ p hp=>.tail _ hp
  exact hk (mkL ysA) B1 led1 _ _ (λ p hp=>hsub p (hs1 p hp)) (.mk h2 tk2 _ (σ1.add (D,listOf ys.toList.toArray e)) clo lr1 W2.absorb (O1.add _) (by refine rwl hT1 ?_; rfl) hB1 (hL1.mono hsub) hC (jk7 C hy (jiw (n:=e) (.head _) (hy2.mono hsub)) (hK1.mono hsub))) (fin _ _ _ j)
end
end
section
inductive PtA (d:Addr) (o o':AO):Led->Led->Prop
 | head {r:Led}:PtA d o o' ((d,o)::r) ((d,o')::r)
 | tail {p:Addr×AO} {r r':Led}:PtA d o o' r r'->PtA d o o' (p::r) (p::r')
theorem PtA.mem {d:Addr} {o o':AO} {l l':Led} (h:PtA d o o' l l'):(d,o)∈l:=by
 induction h with
 | head=>exact .head _
 | tail _ ih=>exact .tail _ ih
theorem PtA.mem' {d:Addr} {o o':AO} {l l':Led} (h:PtA d o o' l l'):(d,o')∈l':=by
 induction h with
 | head=>exact .head _
 | tail _ ih=>exact .tail _ ih
theorem PtA.app {d:Addr} {o o':AO} {l l':Led} (r:Led) (h:PtA d o o' l l'):PtA d o o' (l++r) (l'++r):=by
 induction h with
 | head=>exact .head
 | tail _ ih=>exact .tail ih
theorem Pt.appR {d:Addr} {o o':Obj} {l l':List (Addr×Obj)} (r:List (Addr×Obj)) (h:Pt d o o' l l'):Pt d o o' (l++r) (l'++r):=by
 induction h with
 | head=>exact .head
 | tail _ ih=>exact .tail ih
theorem jet (w:World) (x:Int) (t:Tok):(PySem.intKind prg w).is x (.int x t)=true:=by simp [PySem.intKind,Value.isInt]
theorem LedOk.pt {g:WG} {T:List (Addr×Obj)} {d:Addr} {a a':AO} {led led':Led} (p:PtA d a a' led led'):∀ {lr:List (Addr×Obj)},LedOk g T led lr->∃ (o:Obj) (f:Obj->List (Addr×Obj)),HasO g T a o/\(∀ o',Pt d o o' lr (f o'))/\∀ o' T',(∀ p∈T,p∈T')->HasO g T' a' o'->LedOk g T' led' (f o'):=by
 induction p with
 | head =>
  intro lr h
  cases h with | cons h r=>exact jdS _ (λ o'=>(d,o')::_) h (λ U=>.head) (λ o' T' hs ho=>.cons ho (r.mono hs))
 | tail _ ih =>
  intro lr h
  cases h with | cons h r =>
  refine jci (ih r) λ o f h1 h2 h3=>?_
  exact jdS o (λ o'=>_::f o') h1 (λ o'=>.tail (h2 o')) (λ o' T' hs ho=>.cons (h.mono hs) (h3 o' T' hs ho))
section
variable {c:WC} {sc scope:Scope} {ls:Ls} {B:List Tm} {led led':Led} {K:KA} {S I:Addr} {l u:List Nat}
theorem jmS (C:CO c sc) (k:∀ I,K (.v (.ref I)) B ((I,.rvl l)::led)):TY c "reversed" [.lns l] ls B led K:=by
 refine ⟨λ T s E vs Q hs has hk=>?_⟩
 refine has.consE λ U U h1 has=>?_
 refine has.nilE ?_
 refine h1.lnsE λ a us n hm hi=>?_
 refine hs.elim λ h tk m σ cl lr W O hT hB hL hC hK=>?_
 exact jpT W (jar hT hm) λ x h' W'=>hk _ _ _ _ _ _ (λ U h=>h) (St.own (ao:=.rvl l) W' O hT hB hL hC hK (.rvl l a us n hm hi)) (.v _) (k x)
theorem jiY (C:CO c sc) (hl:l.length<=16000000) (k:∀ I,K (.v (.ref I)) B ((I,.rvt l)::led)):TY c "reversed" [.tns l] ls B led K:=by
 refine ⟨λ T s E vs Q hs has hk=>?_⟩
 refine has.consE λ U U h1 has=>?_
 refine has.nilE ?_
 refine h1.tnsE λ a us hm hi=>?_
 refine hs.elim λ h tk m σ cl lr W O hT hB hL hC hK=>?_
 exact jpU W (jar hT hm) (by refine rwr (jds hi) ?_; exact Ja0 ‹_› (by decide)) λ x h' tk' W'=>hk _ _ _ _ _ _ (λ U h=>h) (St.own (ao:=.rvt l) W' O hT hB hL hC hK (.rvt l a us hm hi)) (.v _) (k x)
theorem jhh {a b:List Int} {vs:List Value}:IntsAre vs (a++b)->∃ va vb,vs=va++vb/\IntsAre va a/\IntsAre vb b:=by
 induction a generalizing vs with
 | nil=>exact λ h=>jdS [] vs rfl .nil h
 | cons n a ih=>exact λ h=>jnL h λ t r hr=>jci (ih hr) λ va vb e_1 h1 h2=>jdS (_::va) vb (congrArg (List.cons _) e_1) (.cons n t h1) h2
theorem jf5 {vs:List Value} (hi:IntsAre vs (l.map λ n:Nat=>(n:Int))):IntsAre vs.reverse (l.reverse.map λ n:Nat=>(n:Int)):=by
 refine rwr List.map_reverse ?_; exact jj1 hi
theorem jmp (C:CO c sc) (hl:l.length<=16000000) (k:∀ S,K (.v (.ref S)) B ((S,.lns l.reverse)::led)):TY c "list" [.v (.ref I)] ls B ((I,.rvl l)::led) K:=by
 refine ⟨λ T s E vs Q hs has hk=>?_⟩
 refine has.consE λ U U h1 has=>?_
 refine has.nilE ?_
 refine h1.vE ?_
 refine hs.elim λ h tk m σ cl lr W O hT hB hL hC hK=>?_
 cases hL with | cons ho hL =>
 cases ho with | rvl _ t us e hm hi =>
 exact jkA C.hh W (jar hT hm) (by refine rwr (jds hi) ?_; exact Jb1 ‹_› (by decide)) λ x h' tk' e' W'=>hk _ _ _ _ _ _ (λ U h=>h) (St.own (ao:=.lns l.reverse) W' O hT hB hL hC hK (.lns _ _ e' (jf5 hi))) (.v _) (k x)
theorem jj9 (C:CO c sc) (hl:l.length<=16000000) (k:∀ S,K (.v (.ref S)) B ((S,.lns l)::led)):TY c "list" [.lns l] ls B led K:=by
 refine ⟨λ T s E vs Q hs has hk=>?_⟩
 refine has.consE λ U U h1 has=>?_
 refine has.nilE ?_
 refine h1.lnsE λ a us n hm hi=>?_
 refine hs.elim λ h tk m σ cl lr W O hT hB hL hC hK=>?_
 exact jf2 W (jar hT hm) (by refine rwr (jds hi) ?_; exact Ja0 ‹_› (by decide)) λ x h' e' W'=>hk _ _ _ _ _ _ (λ U h=>h) (St.own (h':=h') (tk':=tk) (ao:=.lns l) W' O hT hB hL hC hK (.lns _ _ e' hi)) (.v _) (k x)
theorem jk4 (C:CO c sc) {P:String->Prop} (hm:(S,AO.lns l)∈led) (k:P "list.pop"):GM c (.v (.ref S)) "pop" ls B led P:=by
 refine ⟨λ T s E v pl Q hs hr hk=>?_⟩
 revert hk
 refine hr.vE ?_
 refine hs.elim λ h tk m σ cl lr W O hT hB hL hC hK hk=>?_
 refine jam (hL.get hm) λ o h1 h2=>?_
 revert h1
 refine h2.lnsE λ U U U h1=>?_
 exact jgS W (ja4 h1) (hk _ k)
theorem jk3 (C:CO c sc) {P:String->Prop} (hm:(S,AO.lns l)∈led) (k:P "list.extend"):GM c (.v (.ref S)) "extend" ls B led P:=by
 refine ⟨λ T s E v pl Q hs hr hk=>?_⟩
 revert hk
 refine hr.vE ?_
 refine hs.elim λ h tk m σ cl lr W O hT hB hL hC hK hk=>?_
 refine jam (hL.get hm) λ o h1 h2=>?_
 revert h1
 refine h2.lnsE λ U U U h1=>?_
 exact jf4 W (ja4 h1) (hk _ k)
theorem jdf (C:CO c sc) {P:String->Prop} (hm:(∃ l,(S,AO.lns l)∈led)\/∃ l,(S,AO.lst l)∈led) (k:P "list.append"):GM c (.v (.ref S)) "append" ls B led P:=by
 refine ⟨λ T s E v pl Q hs hr hk=>?_⟩
 revert hk
 refine hr.vE ?_
 refine hs.elim λ h tk m σ cl lr W O hT hB hL hC hK hk=>?_
 rcases hm with ⟨l,hm⟩ | ⟨l,hm⟩
 ·refine jam (hL.get hm) λ o h1 h2=>?_
  revert h1
  refine h2.lnsE λ U U U h1=>?_
  exact jch W (ja4 h1) (hk _ k)
 ·refine jam (hL.get hm) λ o h1 h2=>?_
  revert h1
  refine h2.lstE λ U U U h1=>?_
  exact jch W (ja4 h1) (hk _ k)
theorem jiP (C:CO c sc) {t:Nat} (hl:l.length<=16000000) (p:PtA S (.lns (l++[t])) (.lns l) led led') (k:K (.nat t) B led'):BI c "list.pop" [.v (.ref S)] ls B led K:=by
 refine ⟨λ T s E vs Q hs has hk=>?_⟩
 refine has.consE λ U U h1 has=>?_
 refine has.nilE ?_
 refine h1.vE ?_
 refine hs.elim λ h tk m σ cl lr W O hT hB hL hC hK=>?_
 refine jci (hL.pt p) λ o f h1 h2 h3=>?_
 revert h2
 refine h1.lnsE λ us n hi h2=>?_
 rw [List.map_append] at hi
 replace hi:=hi
 refine jci (jhh hi) λ va vb e_1 ha hb=>?_
 subst e_1
 cases hb with | cons _ tv hb =>
 cases hb
 refine jod (W:=W) (((h2 _).appR cl).appR _) (by refine rwr (jds ha) ?_; exact Jb1 ‹_› (by decide)) λ h' W'=>?_
 exact hk _ _ _ _ _ _ (λ U h=>h) (.mk h' tk m σ cl _ W' O hT hB (h3 _ T (λ U h=>h) (.lns _ _ _ ha)) hC hK) (.nat t tv) k
theorem jnE (C:CO c sc) (hl:u.length+l.length<=16000000) (p:PtA S (.lns u) (.lns (u++l.reverse)) led led') (k:K .none B led'):BI c "list.extend" [.v (.ref S),.v (.ref I)] ls B ((I,.rvt l)::led) K:=by
 refine ⟨λ T s E vs Q hs has hk=>?_⟩
 refine has.consE λ U U h1 has=>?_
 refine has.consE λ U U h2 has=>?_
 refine has.nilE ?_
 refine h1.vE ?_
 refine h2.vE ?_
 refine hs.elim λ h tk m σ cl lr W O hT hB hL hC hK=>?_
 cases hL with | cons ho hL =>
 cases ho with | rvt _ t vt hm hi =>
 refine jci (hL.pt p) λ o f h1 h2 h3=>?_
 revert h2
 refine h1.lnsE λ us n hu h2=>?_
 refine jmK (led':=λ n'=>(f (listOf (us++vt.reverse).toArray n')++cl)++jak c.w.params 388 c.α σ) C.hh W (jar hT hm) (λ n'=>((h2 _).appR cl).appR _) (by refine rwr (jds hi) ?_; refine rwr (jds hu) ?_; exact Jb1 ‹_› (by decide)) λ h' n' tk' W'=>?_
 exact hk _ _ _ _ _ _ (λ U h=>h) (.mk h' tk' m σ cl _ W' O hT hB (h3 _ T (λ U h=>h) (.lns _ _ _ (by refine rwr List.map_append ?_; exact jcZ hu (jf5 hi)))) hC hK) .none k
theorem jlZ (C:CO c sc) (hl:u.length+l.length<=16000000) (hne:l≠[]) (p:PtA S (.lns u) (.lns (u++l)) led led') (k:K .none B led'):BI c "list.extend" [.v (.ref S),.tns l] ls B led K:=by
 refine ⟨λ T s E vs Q hs has hk=>?_⟩
 refine has.consE λ U U h1 has=>?_
 refine has.consE λ U U h2 has=>?_
 refine has.nilE ?_
 refine h1.vE ?_
 refine h2.tnsE λ t vt hm hi=>?_
 refine hs.elim λ h tk m σ cl lr W O hT hB hL hC hK=>?_
 refine jci (hL.pt p) λ o f h1 h2 h3=>?_
 revert h2
 refine h1.lnsE λ us n hu h2=>?_
 refine jpO W (jar hT hm) (((h2 _).appR cl).appR _) (by refine rwr (jds hi) ?_; refine rwr (jds hu) ?_; exact Ja0 ‹_› (by decide)) (λ e=>hne (by subst e; have:=jds hi; exact List.eq_nil_of_length_eq_zero this.symm)) λ h' W'=>?_
 exact hk _ _ _ _ _ _ (λ U h=>h) (.mk h' tk m σ cl _ W' O hT hB (h3 _ T (λ U h=>h) (.lns _ _ _ (by refine rwr List.map_append ?_; exact jcZ hu hi))) hC hK) .none k
theorem jeb (C:CO c sc) {t:Nat} (hl:u.length<=16000000) (p:PtA S (.lns u) (.lns (u++[t])) led led') (k:K .none B led'):BI c "list.append" [.v (.ref S),.nat t] ls B led K:=by
 refine ⟨λ T s E vs Q hs has hk=>?_⟩
 refine has.consE λ U U h1 has=>?_
 refine has.consE λ U U h2 has=>?_
 refine has.nilE ?_
 refine h1.vE ?_
 refine h2.natE λ tv=>?_
 refine hs.elim λ h tk m σ cl lr W O hT hB hL hC hK=>?_
 refine jci (hL.pt p) λ o f h1 h2 h3=>?_
 revert h2
 refine h1.lnsE λ us n hu h2=>?_
 refine jeG W (((h2 _).appR cl).appR _) (by refine rwr Jc5 ?_; refine rwr (jds hu) ?_; exact Ja0 ‹_› (by decide)) λ h' W'=>?_
 refine hk _ _ _ _ _ _ (λ U h=>h) (.mk h' tk m σ cl _ W' O hT hB (h3 _ T (λ U h=>h) ?_) hC hK) .none k
 rw [List.push_toArray]
 exact .lns _ _ _ (by refine rwr List.map_append ?_; exact jcZ hu (.cons _ tv .nil))
theorem jcX (C:CO c sc) {a:AV} {u:List AV} (hl:u.length<=16000000) (p:PtA S (.lst u) (.lst (u++[a])) led led') (k:K .none B led'):BI c "list.append" [.v (.ref S),a] ls B led K:=by
 refine ⟨λ T s E vs Q hs has hk=>?_⟩
 refine has.consE λ U U h1 has=>?_
 refine has.consE λ U U ha has=>?_
 refine has.nilE ?_
 refine h1.vE ?_
 refine hs.elim λ h tk m σ cl lr W O hT hB hL hC hK=>?_
 refine jci (hL.pt p) λ o f h1 h2 h3=>?_
 revert h2
 refine h1.lstE λ us n hu h2=>?_
 refine jeG W (((h2 _).appR cl).appR _) (by refine rwr Jc5 ?_; refine rwr hu.len ?_; exact Ja0 ‹_› (by decide)) λ h' W'=>?_
 refine hk _ _ _ _ _ _ (λ U h=>h) (.mk h' tk m σ cl _ W' O hT hB (h3 _ T (λ U h=>h) ?_) hC hK) .none k
 rw [List.push_toArray]
 exact .lst _ _ _ (hu.app (.cons ha .nil))
theorem jif (C:CO c sc) {t:Nat} {K:Bool->List Tm->Led->Prop} (hm:(S,AO.fd l)∈led) (k:K (decide (t∈l)) B led):CM c (.nat t) .In (.v (.ref S)) ls B led K:=by
 refine jcR C.G λ U U U G=>?_
 refine ⟨λ T s E x y Q hs ha hb hk=>?_⟩
 refine ha.natE λ tv=>?_
 refine hb.vE ?_
 refine hs.elim λ h tk m σ cl lr W O hT hB hL hC hK=>?_
 refine jam (hL.get hm) λ o h1 h2=>?_
 have hd:=h2.fdO
 refine jpP G.T.nolimit W (ja4 h1) hd (jet _ _ _) λ tk'=>?_
 rw [jco]
 exact hk _ _ _ _ _ (λ U h=>h) (.mk h tk' m σ cl lr W O hT hB hL hC hK) k
theorem jps (C:CO c sc) {t:Nat} {K:Bool->List Tm->Led->Prop} (k:K (decide (t∈l)) B led):CM c (.nat t) .In (.fd l) ls B led K:=by
 refine jcR C.G λ U U U G=>?_
 refine ⟨λ T s E x y Q hs ha hb hk=>?_⟩
 refine ha.natE λ tv=>?_
 refine hb.fdE λ a o hm hd=>?_
 refine hs.elim λ h tk m σ cl lr W O hT hB hL hC hK=>?_
 refine jpP G.T.nolimit W (jar hT hm) hd (jet _ _ _) λ tk'=>?_
 rw [jco]
 exact hk _ _ _ _ _ (λ U h=>h) (.mk h tk' m σ cl lr W O hT hB hL hC hK) k
theorem jko (C:CO c sc) {t:Nat} {K:Bool->List Tm->Led->Prop} (k:K (!decide (t∈l)) B led):CM c (.nat t) .NotIn (.fd l) ls B led K:=by
 refine jcR C.G λ U U U G=>?_
 refine ⟨λ T s E x y Q hs ha hb hk=>?_⟩
 refine ha.natE λ tv=>?_
 refine hb.fdE λ a o hm hd=>?_
 refine hs.elim λ h tk m σ cl lr W O hT hB hL hC hK=>?_
 refine jiV G.T.nolimit W (jar hT hm) hd (jet _ _ _) λ tk'=>?_
 rw [jco]
 exact hk _ _ _ _ _ (λ U h=>h) (.mk h tk' m σ cl lr W O hT hB hL hC hK) k
theorem jf7 (C:CO c sc) {t:Nat} {K:List Tm->Led->Prop} (hl:l.length<=16000000) (p:PtA S (.fd l) (.fd (ins t l)) led led') (k:K B led'):SI c (.v (.ref S)) (.nat t) (.bool true) ls B led K:=by
 refine ⟨λ T s E x y z Q hs ha hb hc hk=>?_⟩
 refine ha.vE ?_
 refine hb.natE λ tv=>?_
 cases hc
 refine hs.elim λ h tk m σ cl lr W O hT hB hL hC hK=>?_
 refine jci (hL.pt p) λ o f h1 h2 h3=>?_
 have hd:=h1.fdO
 refine jmN W (λ o'=>((h2 o').appR cl).appR _) hd (jet _ _ _) (by rw [Jc6]; exact Ja0 ‹_› (by decide)) λ h' o' tk' W' hd'=>?_
 rw [jh8] at hd'
 exact hk _ _ _ _ (λ U h=>h) (.mk h' tk' m σ cl _ W' O hT hB (h3 _ T (λ U h=>h) (.fd _ _ hd')) hC hK) k
theorem jlU (C:CO c sc) {t:Nat} {K:List Tm->Led->Prop} (hl:l.length<=16000000) (ht:t∈l) (p:PtA S (.fd l) (.fd (l.filter λ x=>decide (x≠t))) led led') (k:K B led'):DL c (.v (.ref S)) (.nat t) ls B led K:=by
 refine ⟨λ T s E x y Q hs ha hb hk=>?_⟩
 refine ha.vE ?_
 refine hb.natE λ tv=>?_
 refine hs.elim λ h tk m σ cl lr W O hT hB hL hC hK=>?_
 refine jci (hL.pt p) λ o f h1 h2 h3=>?_
 have hd:=h1.fdO
 refine jpN W (λ o'=>((h2 o').appR cl).appR _) hd (jet _ _ _) (by rw [jco]; exact Jd6 ht) (by rw [Jc6]; exact Ja0 ‹_› (by decide)) λ h' o' tk' W' hd'=>?_
 rw [jh7] at hd'
 exact hk _ _ _ _ (λ U h=>h) (.mk h' tk' m σ cl _ W' O hT hB (h3 _ T (λ U h=>h) (.fd _ _ hd')) hC hK) k
end
end
section
section
variable {c:WC} {sc:Scope} {ls:Ls} {B:List Tm} {led:Led} {K:KA}
theorem jfO {M:Model} {A:Around} {E:Value->Shared->Prop} {env:Env} {s:Shared} {st:Stmt} {rest:List Stmt} {Q:Flow->Shared->Prop} (h:wpAny M A (execs [st] env) (λ f s'=>match f with | .next=>wpAny M A (execs rest env) Q E s' | f=>Q f s') E s):wpAny M A (execs (st::rest) env) Q E s:=λ Γ p hΓ=>by
 have h:=h Γ p hΓ
 rw [execs_cons,Sem.wp_bind'] at h ⊢
 refine Sem.wp_mono M Γ _ (λ f p' s' h'=>?_) (λ U U U h'=>h') _ _ h
 cases f <;> first | exact h' Γ p' hΓ | exact h'
theorem jb5 {K:KF} (C:CO c sc) (n:Nat) (J:Ls->List Tm->Led->Prop) {st:Stmt} {rest:List Stmt} (h:vcS c sc n [st] ls B led (jjz J K)) (r:∀ ls B led,J ls B led->VS c rest ls B led K):VS c (st::rest) ls B led K :=
 ⟨λ T s E Q hs hk=>jfO ((jaj C n _ _ _ _ _ h).run T s E _ hs λ fl f ls' B' led' T' s' hsub hs' hf hK2=>by
  have hk2:=KQ.sub hk hsub
  cases hf with
  | next =>
   obtain ⟨ls2,hw,hj⟩:=hK2
   exact (r _ _ _ hj).run T' s' E Q (hs'.wk hw.at) hk2
  | brk=>exact hk2 .brk .brk _ _ _ T' s' (λ U h=>h) hs' .brk hK2
  | cont=>exact hk2 .cont .cont _ _ _ T' s' (λ U h=>h) hs' .cont hK2
  | ret ha=>exact hk2 (.ret _) (.ret _) _ _ _ T' s' (λ U h=>h) hs' (.ret ha) hK2)⟩
noncomputable def jqi:Option (List Nat)->AV
 | some f=>.fd f
 | Option.none=>.none
noncomputable abbrev jpd (o:Op) (F S:Addr):Ls:=[("self",.rw),("op",.str o.str),("unit",.nat (ja7 o)),("settling",.nat (jaU o)),("found",.v (.ref F)),("stack",.v (.ref S))]
theorem jpe {o:Op} {F S:Addr} {a:AV}:Wk (jpd o F S) (("t",a)::jpd o F S):=wk6 rfl rfl rfl rfl rfl rfl
inductive FlJ (o:Op) (F S:Addr) (lx:Led) (m n:Nat) (fr:Option (List Nat)) (B':List Tm) (n':Nat):Ls->List Tm->Led->Prop
 | mk (B₁:List Tm) (f st:List Nat) (wf:Wf B₁) (hl:∀ t∈st,t<B₁.length) (hc:st.length+63*n'<=m) (hF:jat n' B₁ o f st=some (fr,B')) (hfn:f.length+n'<=n):FlJ o F S lx m n fr B' n' (jpd o F S) B₁ ((S,.lns st.reverse)::(F,.fd f)::lx)
theorem jk2 (C:CO c sc) (r:Rm c.A 4) {o:Op} {l:List Nat} {n:Nat} {fr:Option (List Nat)} {B':List Tm} (wf:Wf B) (ho:o=.con\/o=.dis) (hl:∀ t∈l,t<B.length) (hll:l.length<=1000) (hF:jat n B o [] l=some (fr,B')) (hn:n<=100000)
  (hA:∀ (i:Nat) (t:Tm),B'[i]? = some t->t.args.length<=63) (hb:B'.length<=15000000) (k:K (jqi fr) B' led):CF c 425 [.rw,.str o.str,.lns l] ls B led K:=by
 refine jaF ‹_› ‹_› (by k_is) (by k_is) (by exact λ U U U=>rfl) (by decide +kernel) (by rfl) ?_
 intro c' x cl C' r'
 refine jb5 C' 20 (Now [("self",.rw),("op",.str o.str),("some",.lns l),("unit",.nat (ja7 o)),("settling",.nat (jaU o))] B (x::(led++cl))) ?_ ?_
 ·refine Jc8 ho (λ e_14=>?_) λ e_15=>?_
  ·subst e_14; exact ⟨rfl,_,wk5 rfl rfl rfl rfl rfl,.mk⟩
  ·subst e_15; exact ⟨rfl,_,wk5 rfl rfl rfl rfl rfl,.mk⟩
 refine Now.el ?_
 refine jaj C' 30 _ _ _ _ _ ?_
 intro F
 refine jmS C' λ I=>jmp C' (Ja0 ‹_› (by decide)) λ S=>⟨rfl,?_⟩
 have hM:l.length+63*n<=10000000:=Ja0 (Nat.add_le_add hll (Jc2 63 hn)) (by decide)
 refine jcW C' (FlJ o F S (x::(led++cl)) (l.length+63*n) n fr B') n _ (wk6 rfl rfl rfl rfl rfl rfl) (.mk B [] l wf hl (Jc4 _) hF (by simp)) ?_
 clear hF hl wf
 intro n' ls' B₁ led' h
 refine h.rec λ B₁ f st wf hl hc hF hfn=>?_
 clear h
 refine jcb C' 20 _ _ _ _ ?_
 refine jfV C' (.head _) (by simp; exact Ja0 (Jb5 _ _) (Ja0 hc (Ja0 hM (by decide)))) ?_
 cases n' with
 | zero=>simp [jat] at hF
 | succ n' =>
 cases st with
 | nil =>
  simp only [jat,Option.some.injEq,Prod.mk.injEq] at hF
  replace hF:=hF
  obtain ⟨rfl,rfl⟩:=hF
  exact .dict led (.cons _ (Jd0 _)) k
 | cons t st =>
 refine jaR (by simp) ?_
 have ht:=hl t (.head _)
 have hl':∀ x∈st,x<B₁.length:=λ x hx=>hl x (.tail _ hx)
 have hB1:B₁.length<=16000000:=Ja0 (jaz _ hF).len (Ja0 hb (by decide))
 dsimp only [List.length_cons] at hc
 refine jaj C' 30 _ _ _ _ _ ?_
 refine jk4 C' (.head _) (jiP C' (l:=st.reverse) (t:=t) (by simp; exact Ja0 (Nat.le_succ _) (Ja0 (Jb5 _ _) (Ja0 hc (Ja0 hM (by decide))))) (by refine rwr List.reverse_cons ?_; exact .head) ?_)
 dsimp only [jat] at hF
 replace hF:=hF
 by_cases hu:t=ja7 o
 ·rw [if_pos hu] at hF
  replace hF:=hF
  exact jaR (dT hu) ⟨_,jpe,n',Jd5 _,.mk _ f st wf hl' (jmY hc) hF (Jb6 ‹_›)⟩
 rw [if_neg hu] at hF
 replace hF:=hF
 refine jaP (dF hu) ?_
 by_cases hs:t=jaU o
 ·rw [if_pos hs] at hF
  replace hF:=hF
  simp only [Option.some.injEq,Prod.mk.injEq] at hF
  replace hF:=hF
  refine jbi hF λ e_3 e_4=>?_
  subst e_3
  subst e_4
  exact jaR (dT hs) (.plain led (.cons _ (.cons _ (Jd0 _))) k)
 rw [if_neg hs] at hF
 replace hF:=hF
 have hx:=jag B₁ t
 have hx1:Ext (jab B₁ t).2 B':=by
  repeat' split at hF
  ·cases hF; exact Ext.refl _
  ·exact jaz _ hF
  ·exact jaz _ hF
 have hB2:(jab B₁ t).2.length<=16000000:=Ja0 hx1.len (Ja0 hb (by decide))
 have wf2:=jbt wf ht
 have ht2:t<(jab B₁ t).2.length:=Ja1 ht hx.len
 refine jaP (dF hs) (jeD C' r' wf ht hB2 (jif C' (.tail _ (.head _)) ?_))
 by_cases hin:(jab B₁ t).1∈f
 ·rw [if_pos hin] at hF
  replace hF:=hF
  simp only [Option.some.injEq,Prod.mk.injEq] at hF
  replace hF:=hF
  refine jbi hF λ e_5 e_6=>?_
  subst e_5
  subst e_6
  exact jaR (dT hin) (.plain led (.cons _ (.cons _ (Jd0 _))) k)
 rw [if_neg hin] at hF
 refine jaP (dF hin) (jhK C' (r'.le (by decide)) ht2 ?_)
 by_cases hop:jad (jab B₁ t).2 t=o
 ·rw [if_pos hop] at hF
  replace hF:=hF
  have hal:(jaa (jab B₁ t).2 t).length<=63:=by
   have hg:=List.getElem?_eq_getElem ht2
   refine rwr (jai hg) ?_; exact hA t _ (hx1.get hg)
  refine jaR (opT o rfl hop) (jk3 C' (.head _) (jbK C' (r'.le (by decide)) ht2 (jiY C' (Ja0 ‹_› (by decide)) λ I=>jnE C' (by simp; exact Ja0 (Jb4 (Nat.le_succ _) _) (Ja0 (jpZ hc hal) (Ja0 hM (by decide)))) .head ?_)))
  exact ⟨_,jpe,n',Jd5 _,by refine rwl List.reverse_append ?_; exact .mk _ f (jaa (jab B₁ t).2 t++st) wf2.1 (λ y hy=>(Ja9.mp hy).elim (λ q=>Jd1 (jaL wf2.1 q) ht2) λ q=>Ja1 (hl' y q) hx.len) (by refine rwr Jd3 ?_; exact stp hc hal) hF (Jb6 ‹_›)⟩
 ·rw [if_neg hop] at hF
  replace hF:=hF
  have hfl:=jmf t f
  refine jaP (opF o rfl hop) (jf7 C' (Ja0 (Jb5 _ _) (Ja0 hfn (Ja0 hn (by decide)))) (.tail .head) ?_)
  exact ⟨_,jpe,n',Jd5 _,.mk _ (ins t f) st wf2.1 (λ y hy=>Ja1 (hl' y hy) hx.len) (jmY hc) hF (Ja0 (Jb4 hfl n') (Ja0 (Jb7 (Nat.add_right_comm f.length 1 n')) hfn))⟩
end
end
section
noncomputable def JC (k:Nat) (o:Op) (B:List Tm) (l:List Nat) (res:Nat×List Tm):Prop :=
 ∀ ⦃c:WC⦄ ⦃sc:Scope⦄ ⦃ls:Ls⦄ ⦃led:Led⦄ ⦃K:KA⦄,CO c sc->Rm c.A k->K (.nat res.1) res.2 led->CF c 437 [.rw,.str o.str,.lns l] ls B led K
theorem jez (l:List Nat):mkL (l.map .nat)=.lns l:=by unfold mkL; rw [jc1]
theorem jkJ {α β:Type} {f:α->β} {l:List α} {i:Nat} {x:α} (h:l[i]? = some x):(l.take (i+1)).map f=(l.take i).map f++[f x]:=by
 refine rwr List.take_add_one ?_; refine rwr h ?_; refine rwr List.map_append ?_; rfl
theorem jbT {α:Type} {l:List α} {i:Nat} {x:α} (h:l[i]? = some x):l.drop i=x::l.drop (i+1):=by
 refine jbh (Jc0 h) λ hi e=>?_
 refine rwr (List.drop_eq_getElem_cons hi) ?_
 refine rwr e ?_
 rfl
structure ThI (o:Op) (f:List Nat) (TH:List Nat×List Tm) (TC:List (List Tm×List Nat)) (B:List Tm) (kept r:List Nat):Prop where
 a:kept++(jal B o f r).1=TH.1
 b:(jal B o f r).2=TH.2
 c:∀ p∈jao B o f r,p∈TC
section
variable {o:Op} {f:List Nat} {TH:List Nat×List Tm} {TC:List (List Tm×List Nat)} {B:List Tm} {kept r:List Nat} {t:Nat}
theorem ThI.ext (h:ThI o f TH TC B kept r):Ext B TH.2:=h.b▸jaZ r B o f
theorem joI (k:List Nat) (x:Nat) (l:List Nat):(k++[x])++l=k++x::l:=List.append_assoc k [x] l
theorem ThI.skip (h:ThI o f TH TC B kept (t::r)) (q:¬ jad B t=o):ThI o f TH TC B (kept++[t]) r:=by
 have e:jal B o f (t::r)=(t::(jal B o f r).1,(jal B o f r).2):=if_pos q
 have e2:jao B o f (t::r)=jao B o f r:=if_pos q
 have h1:=h.a; have h2:=h.b; have h3:=h.c
 rw [e] at h1 h2; rw [e2] at h3
 exact ⟨(joI _ _ _).trans h1,h2,h3⟩
theorem ThI.out (h:ThI o f TH TC B kept (t::r)) (q:jad B t=o) (a:(jaa B t).any (λ x=>decide (x∈f))=true):ThI o f TH TC B kept r:=by
 have e:jal B o f (t::r)=jal B o f r:=(if_neg (not_not_intro q)).trans (if_pos a)
 have e2:jao B o f (t::r)=jao B o f r:=(if_neg (not_not_intro q)).trans (if_pos a)
 have h1:=h.a; have h2:=h.b; have h3:=h.c
 rw [e] at h1 h2; rw [e2] at h3
 exact ⟨h1,h2,h3⟩
theorem ThI.keep (h:ThI o f TH TC B kept (t::r)) (q:jad B t=o) (a:¬ (jaa B t).any (λ x=>decide (x∈f))=true) (l:(jaE B f (jaa B t)).1.length=(jaa (jaE B f (jaa B t)).2 t).length):ThI o f TH TC (jaE B f (jaa B t)).2 (kept++[t]) r:=by
 have e:jal B o f (t::r)=(t::(jal (jaE B f (jaa B t)).2 o f r).1,(jal (jaE B f (jaa B t)).2 o f r).2):=(if_neg (not_not_intro q)).trans ((if_neg a).trans (if_pos l))
 have e2:jao B o f (t::r)=jao (jaE B f (jaa B t)).2 o f r:=(if_neg (not_not_intro q)).trans ((if_neg a).trans (if_pos l))
 have h1:=h.a; have h2:=h.b; have h3:=h.c
 rw [e] at h1 h2; rw [e2] at h3
 exact ⟨(joI _ _ _).trans h1,h2,h3⟩
theorem ThI.call (h:ThI o f TH TC B kept (t::r)) (q:jad B t=o) (a:¬ (jaa B t).any (λ x=>decide (x∈f))=true) (l:¬ (jaE B f (jaa B t)).1.length=(jaa (jaE B f (jaa B t)).2 t).length) :
  ThI o f TH TC (jaA (jaE B f (jaa B t)).2 o (jaE B f (jaa B t)).1).2 (kept++[(jaA (jaE B f (jaa B t)).2 o (jaE B f (jaa B t)).1).1]) r/\((jaE B f (jaa B t)).2,(jaE B f (jaa B t)).1)∈TC:=by
 have e:jal B o f (t::r)=((jaA (jaE B f (jaa B t)).2 o (jaE B f (jaa B t)).1).1::(jal (jaA (jaE B f (jaa B t)).2 o (jaE B f (jaa B t)).1).2 o f r).1,(jal (jaA (jaE B f (jaa B t)).2 o (jaE B f (jaa B t)).1).2 o f r).2):=(if_neg (not_not_intro q)).trans ((if_neg a).trans (if_neg l))
 have e2:jao B o f (t::r)=((jaE B f (jaa B t)).2,(jaE B f (jaa B t)).1)::jao (jaA (jaE B f (jaa B t)).2 o (jaE B f (jaa B t)).1).2 o f r:=(if_neg (not_not_intro q)).trans ((if_neg a).trans (if_neg l))
 have h1:=h.a; have h2:=h.b; have h3:=h.c
 rw [e] at h1 h2; rw [e2] at h3; replace h3:=h3
 exact ⟨⟨(joI _ _ _).trans h1,h2,λ p hp=>h3 p (.tail _ hp)⟩,h3 _ (.head _)⟩
theorem ThI.left (h:ThI o f TH TC B kept (t::r)) (q:jad B t=o) (a:¬ (jaa B t).any (λ x=>decide (x∈f))=true):Ext (jaE B f (jaa B t)).2 TH.2:=by
 by_cases l:(jaE B f (jaa B t)).1.length=(jaa (jaE B f (jaa B t)).2 t).length
 ·exact (h.keep q a l).ext
 ·exact (jaD _ _ _).trans (h.call q a l).1.ext
end
structure LfI (f:List Nat) (B₀:List Tm) (LF:List Nat×List Tm) (B:List Tm) (p r:List Nat):Prop where
 a:p++(jaE B f r).1=LF.1
 b:(jaE B f r).2=LF.2
 w:Wf B
 x:Ext B₀ B
theorem LfI.step {f:List Nat} {B₀:List Tm} {LF:List Nat×List Tm} {B:List Tm} {p r:List Nat} {s:Nat} (h:LfI f B₀ LF B p (s::r)) (hs:s<B.length):LfI f B₀ LF (jab B s).2 (if (jab B s).1∈f then p else p++[s]) r:=by
 have h1:=h.a
 rw [jcG] at h1
 refine ⟨?_,h.b,(jbt h.w hs).1,h.x.trans (jag _ _)⟩
 by_cases q:(jab B s).1∈f
 ·rw [if_pos q] at h1 ⊢; exact h1
 ·rw [if_neg q] at h1 ⊢; exact (joI _ _ _).trans h1
theorem LfI.lt {f:List Nat} {B₀:List Tm} {LF:List Nat×List Tm} {B:List Tm} {p r:List Nat} (h:LfI f B₀ LF B p r):B.length<=LF.2.length:=h.b▸(jdr r B f).len
noncomputable abbrev jp1 (o:Op) (f:List Nat) (S:Addr):Ls:=[("self",.rw),("other",.str o.str),("found",.fd f),("kept",.v (.ref S))]
theorem jqy {o:Op} {f:List Nat} {S:Addr} {a:AV}:Wk (jp1 o f S) (("t",a)::jp1 o f S):=wk4 rfl rfl rfl rfl
inductive ThJ (o:Op) (f:List Nat) (TH:List Nat×List Tm) (TC:List (List Tm×List Nat)) (S:Addr) (lx:Led) (i:Nat):Ls->List Tm->Led->Prop
 | mk (B':List Tm) (kept:List Nat) (wf:Wf B') (h:ThI o f TH TC B' kept ((jaf f).drop i)) (hlt:∀ t∈jaf f,t<B'.length) (hkl:kept.length<=i):ThJ o f TH TC S lx i (jp1 o f S) B' ((S,.lns kept)::lx)
inductive LfJ (f:List Nat) (B₀:List Tm) (LF:List Nat×List Tm) (l:List Nat) (lz:Led) (j:Nat):List AV->List Tm->Led->Prop
 | mk (B₁:List Tm) (p:List Nat) (h:LfI f B₀ LF B₁ p (l.drop j)) (hpl:p.length<=j):LfJ f B₀ LF l lz j (p.map .nat) B₁ lz
inductive AnJ (f l:List Nat) (B₀:List Tm) (lz:Led) (j:Nat):List AV->List Tm->Led->Prop
 | mk:AnJ f l B₀ lz j ((l.take j).map λ s=>AV.bool (decide (s∈f))) B₀ lz
theorem AnJ.next {f l:List Nat} {B₀:List Tm} {lz:Led} {j s:Nat} (hj:l[j]? = some s):AnJ f l B₀ lz (j+1) (((l.take j).map λ s=>AV.bool (decide (s∈f)))++[AV.bool (decide (s∈f))]) B₀ lz:=by
 refine rwl (jkJ (f:=λ s=>AV.bool (decide (s∈f))) hj) ?_; exact .mk
theorem LfJ.next {f l p:List Nat} {B₀ B₁:List Tm} {LF:List Nat×List Tm} {lz:Led} {j s:Nat} (h:LfI f B₀ LF B₁ (p++[s]) (l.drop (j+1))) (hpl:p.length<=j):LfJ f B₀ LF l lz (j+1) (p.map .nat++[.nat s]) B₁ lz:=by
 refine rwr (show p.map AV.nat++[.nat s]=(p++[s]).map .nat by refine rwr List.map_append ?_; rfl) ?_
 exact .mk _ _ h (Ja0 (Jb7 Jd3) (Jc1 hpl))
theorem jbP {β:Type} {g:Nat->β} {l:List Nat} {i:Nat} {v:β} (h:(l.map g)[i]? = some v):∃ t,l[i]? = some t/\v=g t:=by
 rw [List.getElem?_map] at h
 refine jam (Jd4 h) λ t e1 e2=>?_
 exact ja2 t e1 e2.symm
section
variable {c:WC} {sc:Scope} {ls:Ls} {B:List Tm} {led:Led} {K:KA}
theorem jos (C:CO c sc) {j:Nat} (r:Rm c.A (j+4)) {o:Op} {f:List Nat} (wf:Wf B) (ho:o=.con\/o=.dis) (hl:∀ t∈f,t<B.length) (h63:f.length<=63) (hA:∀ (i:Nat) (t:Tm),(jal B o f (jaf f)).2[i]? = some t->t.args.length<=63) (hb:(jal B o f (jaf f)).2.length<=15000000)
  (hJ:∀ p∈jao B o f (jaf f),JC j o p.1 p.2 (jaA p.1 o p.2)) (k:K (.lns (jal B o f (jaf f)).1) (jal B o f (jaf f)).2 led):CF c 430 [.rw,.str o.str,.fd f] ls B led K:=by
 obtain ⟨TH,hTH⟩:∃ y,y=jal B o f (jaf f):=⟨_,rfl⟩
 obtain ⟨TC,hTC⟩:∃ y,y=jao B o f (jaf f):=⟨_,rfl⟩
 rw [<- hTH] at hA hb k
 rw [<- hTC] at hJ
 refine jaF ‹_› ‹_› (by k_is) (by k_is) (by exact λ U U U=>rfl) (by decide +kernel) (by rfl) ?_
 intro c' x cl C' r'
 refine jaj C' 30 _ _ _ _ _ ?_
 refine jkV rfl λ S=>jgZ C' h63 ?_
 refine jc8 C' rfl (by decide +kernel) (ThJ o f TH TC S (x::(led++cl))) _ (wk4 rfl rfl rfl rfl) (.mk B [] wf ⟨by refine rwr hTH ?_; rfl,by refine rwr hTH ?_; rfl,λ U h=>by refine rwr hTC ?_; exact h⟩ (λ t ht=>hl t ((jas f).mem_iff.mp ht)) (Jc4 _)) ?_ ?_
 ·intro i v ls' B' led' hv h z
  refine jam (jbP hv) λ t hi e=>?_
  subst e
  refine h.rec λ B' kept wf' h hlt hkl=>?_
  have ht:=hlt t (List.mem_of_getElem? hi)
  have hi63:i<63:=Ja1 (Jc0 hi).1 ((jas f).length_eq▸h63)
  have hk63:kept.length<=1000:=Ja0 hkl (Ja0 (Jb6 hi63) (by decide))
  have hkl1:∀ {y:Nat},(kept++[y]).length<=i+1:=λ {y}=>Ja0 (Jb7 Jd3) (Jc1 hkl)
  rw [jbT hi] at h
  replace h:=h
  refine jaj C' 30 _ _ _ _ _ ?_
  refine jhK C' (r'.le (Jc7 _ _)) ht ?_
  by_cases hop:jad B' t=o
  rotate_left
  ·refine jaR (by rw [Bool.not_eq_true']; exact Bool.eq_false_iff.mpr (opF o rfl hop)) (jdf C' (.inl ⟨_,.tail _ (.head _)⟩) (jeb C' (Ja0 hk63 (by decide)) (.tail .head) ?_))
   exact ⟨_,_,jqy,rfl,.mk _ _ wf' (h.skip hop) hlt hkl1⟩
  refine jaP (by refine rwr (opT o rfl hop) ?_; decide) (jbK C' (r'.le (Jc7 _ _)) ht ?_)
  have hal:(jaa B' t).length<=63:=by
   have hg:=List.getElem?_eq_getElem ht
   refine rwr (jai hg) ?_; exact hA t _ (h.ext.get hg)
  have hal2:((jaa B' t).map AV.nat).length<=16000000:=by rw [Jc6]; exact Ja0 hal (by decide)
  refine jlw C' rfl rfl (.inl rfl) hal2 (by decide +kernel) (AnJ f (jaa B' t) B' (z::(S,.lns kept)::x::(led++cl))) .mk ?_ ?_ ?_
  ·intro j ys B₁ led₁ h
   refine h.rec ?_
   rw [Jc6]; refine rwr List.length_take ?_; exact Nat.min_le_left _ _
  ·intro c2 C2 r2 j v ys B₁ led₁ pre hv h
   refine jam (jbP hv) λ s hj e=>?_
   subst e
   refine h.rec ?_
   refine ja2 _ rfl (ja8 C2 10 _ _ _ _ ?_)
   exact jps C2 ⟨_,rfl,AnJ.next hj⟩
  intro ys B₁ led₁ h2
  refine h2.rec ?_
  rw [Jc6]
  refine rwr List.take_length ?_
  refine rwr (show ((jaa B' t).map λ s=>AV.bool (decide (s∈f)))=((jaa B' t).map λ s=>decide (s∈f)).map .bool by refine rwr List.map_map ?_; rfl) ?_
  refine jo4 C' ?_
  refine rwr List.any_map ?_
  by_cases hany:(jaa B' t).any (λ x=>decide (x∈f))=true
  ·refine jaR hany ?_
   exact ⟨_,_,jqy,rfl,.mk _ _ wf' (h.out hop hany) hlt (Jd8 hkl)⟩
  refine jaP hany (jbK C' (r'.le (Jc7 _ _)) ht ?_)
  refine jni C' (by decide +kernel) rfl rfl (.inl rfl) hal2 (by decide +kernel) (LfJ f B' (jaE B' f (jaa B' t)) (jaa B' t) (z::(S,.lns kept)::x::(led++cl))) (.mk B' [] ⟨rfl,rfl,wf',Ext.refl _⟩ (Jc4 _)) ?_ ?_ ?_
  ·intro j ys B₁ led₁ h
   refine h.rec λ B₁ p h hpl=>?_
   rw [Jc6]; exact hpl
  ·intro c2 C2 r2 j v ys B₁ led₁ pre hv h2
   refine jam (jbP hv) λ s hj e=>?_
   subst e
   refine h2.rec λ B₁ p h2 hpl=>?_
   have hs:s<B₁.length:=Ja1 (Jd1 (jaL wf' (List.mem_of_getElem? hj)) ht) h2.x.len
   rw [jbT hj] at h2
   replace h2:=h2
   have h3:=h2.step hs
   refine ja2 _ rfl (jcb C2 10 _ _ _ _ ?_)
   refine jeD C2 (r2 _ (r'.le (Jc7 _ _))) h2.w hs (Ja0 h3.lt (Ja0 (h.left hop hany).len (Ja0 hb (by decide)))) (jko C2 ?_)
   by_cases hin:(jab B₁ s).1∈f
   ·rw [if_pos hin] at h3
    exact jaP (by refine rwr (dT hin) ?_; decide) ⟨_,rfl,.mk _ p h3 (Jd8 hpl)⟩
   ·rw [if_neg hin] at h3
    refine jaR (by refine rwr (decide_eq_false hin) ?_; rfl) (ja8 C2 10 _ _ _ _ ?_)
    exact ja2 _ rfl (LfJ.next h3 hpl)
  intro ys B₁ led₁ h2
  refine h2.rec λ B₁ p h2 hpl=>?_
  rw [Jc6,List.drop_length] at h2
  replace h2:=h2
  have l1:p=(jaE B' f (jaa B' t)).1:=(List.append_nil p).symm.trans h2.a
  have l2:B₁=(jaE B' f (jaa B' t)).2:=h2.b
  subst l1 l2
  rw [Jc6] at hpl
  rw [jez]
  have x1:=h2.x
  have ht2:t<(jaE B' f (jaa B' t)).2.length:=Ja1 ht x1.len
  have hlt2:∀ u∈jaf f,u<(jaE B' f (jaa B' t)).2.length:=λ u hu=>Ja1 (hlt u hu) x1.len
  refine jdf C' (.inl ⟨_,.tail _ (.head _)⟩) (jbx C' (Ja0 hpl (Ja0 hal (by decide))) (jbK C' (r'.le (Jc7 _ _)) ht2 (jmo C' (by refine rwr (x1.args ht) ?_; exact Ja0 hal (by decide)) ?_)))
  by_cases hll:(jaE B' f (jaa B' t)).1.length=(jaa (jaE B' f (jaa B' t)).2 t).length
  ·refine jaR (dT hll) (jeb C' (Ja0 hk63 (by decide)) (.tail .head) ?_)
   exact ⟨_,_,wk4 rfl rfl rfl rfl,rfl,.mk _ _ h2.w (h.keep hop hany hll) hlt2 hkl1⟩
  ·have hargs:∀ s∈jaa B' t,s<B'.length:=λ s hs=>Jd1 (jaL wf' hs) ht
   have hc:=h.call hop hany hll
   refine jaP (dF hll) (hJ _ hc.2 C' (r'.le (Jb5 _ _)) (jeb C' (Ja0 hk63 (by decide)) (.tail .head) ?_))
   exact ⟨_,_,wk4 rfl rfl rfl rfl,rfl,.mk _ _ (jgq (o:=o) (l:=(jaE B' f (jaa B' t)).1) h2.w λ s hs=>Ja1 (hargs s ((jgH (jaa B' t) (f:=f) wf' hargs).2.subset hs)) x1.len).1 hc.1 (λ u hu=>Ja1 (hlt2 u hu) (jaD _ _ _).len) hkl1⟩
 ·intro ls' B' led' h
  refine h.rec λ B' kept wf' h hlt hkl=>?_
  rw [Jc6,List.drop_length] at h
  replace h:=h
  have e1:kept=TH.1:=(List.append_nil kept).symm.trans h.a
  have e2:B'=TH.2:=h.b
  subst e1 e2
  exact .list led (Jd0 _) k
end
end
section
section
variable {c:WC} {sc:Scope} {ls:Ls} {B:List Tm} {led:Led} {K:KA}
theorem jnC (C:CO c sc) (r:Rm c.A 1) {a b:List Nat} {K:Bool->List Tm->Led->Prop} (k:K (decide (a=b)) B led):CM c (.lns a) .Eq (.lns b) ls B led K:=by
 refine ⟨λ T s E x y Q hs ha hb hk=>?_⟩
 refine ha.lnsE λ xa va na h1 h2=>?_
 refine hb.lnsE λ xb vb nb h3 h4=>?_
 refine hs.elim0 λ h tk m σ cl lr hs0 W O hT hB hL hC hK=>?_
 exact jrd jiA W (jar hT h1) (jar hT h3) (Carry.nats h2) (Carry.nats h4) r.units (hk _ _ _ _ _ (λ U h=>h) hs0 k)
inductive JStep (n:Nat) (B:List Tm) (o:Op) (f:List Nat) (r:Nat×List Tm) (Cs:List (List Tm×List Nat)):Prop
 | done (e:(jal B (jaC o) f (jaf f)).1=jaf f) (h:jaA (jal B (jaC o) f (jaf f)).2 o (jal B (jaC o) f (jaf f)).1=r) (x:Ext (jal B (jaC o) f (jaf f)).2 r.2)
 | more (fr:Option (List Nat)) (B2:List Tm) (e:¬ (jal B (jaC o) f (jaf f)).1=jaf f) (hF:jat n (jal B (jaC o) f (jaf f)).2 o [] (jal B (jaC o) f (jaf f)).1=some (fr,B2)) (hR:ja0 n B2 o fr=some r) (x:Ext (jal B (jaC o) f (jaf f)).2 r.2) (hC:∀ p∈jaJ n B2 o fr,p∈Cs)
theorem jpv {n:Nat} {o:Op} {f:List Nat} {r:Nat×List Tm} (h:ja0 (n+1) B o (some f)=some r):f.length<=63/\(∀ p∈jao B (jaC o) f (jaf f),p∈jaJ (n+1) B o (some f))/\JStep n B o f r (jaJ (n+1) B o (some f)):=by
 dsimp only [ja0] at h
 unfold jaJ
 by_cases h64:63<f.length
 ·rw [if_pos h64] at h; exact nomatch h
 rw [if_neg h64] at h
 replace h:=h
 refine ⟨Jd2 h64,λ p hp=>Ja7 _ hp,?_⟩
 dsimp only at h ⊢
 by_cases he:(jal B (jaC o) f (jaf f)).1=jaf f
 ·rw [if_pos he] at h
  have h:=Jb0 h
  exact .done he h (h▸jaD _ _ _)
 rw [if_neg he] at h ⊢
 replace h:=h
 cases hF:jat n (jal B (jaC o) f (jaf f)).2 o [] (jal B (jaC o) f (jaf f)).1 with
 | none=>rw [hF] at h; exact nomatch h
 | some q =>
  rw [hF] at h
  exact .more q.1 q.2 he hF h ((jaz _ hF).trans (jaO _ h)) λ p hp=>Ja6 _ hp
theorem jhn {n:Nat} {o:Op} {l:List Nat} {r:Nat×List Tm} (h:jaT n B o l=some r):∃ fr B1,jat n B o [] l=some (fr,B1)/\ja0 n B1 o fr=some r/\jcs n B o l=jaJ n B1 o fr:=by
 unfold jaT at h
 unfold jcs
 cases hF:jat n B o [] l with
 | none=>rw [hF] at h; exact nomatch h
 | some q=>rw [hF] at h; exact jdS q.1 q.2 rfl h rfl
noncomputable abbrev jqQ (o:Op) (fo:Option (List Nat)):Ls:=[("self",.rw),("op",.str o.str),("settling",.nat (jaU o)),("other",.str (jaC o).str),("found",jqi fo)]
inductive JoJ (j:Nat) (o:Op) (res:Nat×List Tm) (lx:Led) (n':Nat):Ls->List Tm->Led->Prop
 | mk (B₁:List Tm) (fo:Option (List Nat)) (wf:Wf B₁) (hf:∀ f,fo=some f->∀ t∈f,t<B₁.length) (hR:ja0 n' B₁ o fo=some res) (hC:∀ p∈jaJ n' B₁ o fo,JC j (jaC o) p.1 p.2 (jaA p.1 (jaC o) p.2)) (hn:n'<=100000):JoJ j o res lx n' (jqQ o fo) B₁ lx
theorem jk6 {o:Op} {l:List Nat} {n j:Nat} {res:Nat×List Tm} (wf:Wf B) (ho:o=.con\/o=.dis) (hl:∀ t∈l,t<B.length) (hll:l.length<=1000) (hR:jaT n B o l=some res) (hn:n<=100000)
  (hA:∀ (i:Nat) (t:Tm),res.2[i]? = some t->t.args.length<=63) (hb:res.2.length<=15000000) (hC:∀ p∈jcs n B o l,JC j (jaC o) p.1 p.2 (jaA p.1 (jaC o) p.2)):JC (j+5) o B l res:=by
 intro c sc ls led K C r k
 refine jci (jhn hR) λ fr B1 hF hR e=>?_
 rw [e] at hC
 replace hC:=hC
 have hx1:=jaO n hR
 have hf1:=jgx n wf hl (λ U h=>absurd h Jb2) hF
 have r:Rm c.A ((j+4)+1):=r
 refine jaF ‹_› ‹_› (by k_is) (by k_is) (by exact λ U U U=>rfl) (by decide +kernel) (by rfl) ?_
 intro c' x cl C' r'
 refine jb5 C' 20 (Now [("self",.rw),("op",.str o.str),("some",.lns l),("settling",.nat (jaU o)),("other",.str (jaC o).str)] B (x::(led++cl))) ?_ ?_
 ·refine Jc8 ho (λ e_8=>?_) λ e_9=>?_
  ·subst e_8; exact ⟨rfl,_,wk5 rfl rfl rfl rfl rfl,.mk⟩
  ·subst e_9; exact ⟨rfl,_,wk5 rfl rfl rfl rfl rfl,.mk⟩
 refine Now.el ?_
 refine jaj C' 30 _ _ _ _ _ ?_
 refine jk2 C' (r'.le (Jc7 _ _)) wf ho hl hll hF hn (λ i t e=>hA i t (hx1.get e)) (Ja0 hx1.len hb) ?_
 refine jcW C' (JoJ j o res (x::(led++cl))) n _ (wk5 rfl rfl rfl rfl rfl) (.mk B1 fr hf1.1 hf1.2 hR hC hn) ?_
 clear hR hC hF hf1 hx1 hl hll e
 intro n' ls' B₁ led' h
 refine h.rec λ B₁ fo wf1 hf1 hR hC hn'=>?_
 clear h
 refine jcb C' 20 _ _ _ _ ?_
 cases n' with
 | zero=>exact nomatch (hR:none=some res)
 | succ n' =>
 cases fo with
 | none =>
  obtain rfl:=Jb0 hR
  exact .end0 k
 | some f =>
 refine jaj C' 30 _ _ _ _ _ ?_
 refine jbq (jpv hR) λ h63 ht hs=>?_
 have hfl:=hf1 f rfl
 have hxk:Ext (jal B₁ (jaC o) f (jaf f)).2 res.2:=hs.rec (λ U U x=>x) λ U U U U U x U=>x
 have hk:=jkK (jaf f) (o:=jaC o) (f:=f) wf1 (λ t ht=>hfl t ((jas f).mem_iff.mp ht))
 refine jos C' r' wf1 (jaw o) hfl h63 (λ i t e=>hA i t (hxk.get e)) (Ja0 hxk.len hb) (λ p hp=>hC p (ht p hp)) ?_
 have hkn:=Ja0 hk.2.2 ((jas f).length_eq▸h63)
 refine jgZ C' h63 (jnC C' (r'.le (Jc7 _ _)) ?_)
 refine hs.rec (λ he h x=>?_) λ fr2 B2 he hF2 hR2 x hC2=>?_
 ·subst h
  refine jaR (dT he) ?_
  refine Jc8 ho (λ e_10=>?_) λ e_11=>?_
  ·subst e_10; exact jo3 C' (r'.le (Jc7 _ _)) hk.2.1 (Ja0 hkn (by decide)) (Ja0 hb (by decide)) (.end0 k)
  ·subst e_11; exact jq9 C' (r'.le (Jc7 _ _)) hk.2.1 (Ja0 hkn (by decide)) (Ja0 hb (by decide)) (.end0 k)
 refine jaP (dF he) ?_
 have hx2:=jaO n' hR2
 have hf2:=jgx n' hk.1 hk.2.1 (λ U h=>absurd h Jb2) hF2
 refine jk2 C' (r'.le (Jc7 _ _)) hk.1 ho hk.2.1 (Ja0 hkn (by decide)) hF2 (Nat.le_of_succ_le hn') (λ i t e=>hA i t (hx2.get e)) (Ja0 hx2.len hb) ?_
 exact ⟨_,wk5 rfl rfl rfl rfl rfl,n',Jd5 _,.mk _ fr2 hf2.1 hf2.2 hR2 (λ p hp=>hC p (hC2 p hp)) (Nat.le_of_succ_le hn')⟩
theorem jb7 {o:Op} {l:List Nat} {n:Nat} {res:Nat×List Tm} (g:Gb B) (ho:o=.con\/o=.dis) (hl:∀ t∈l,t<B.length/\1<=t) (hll:l.length<=1000) (hR:jaT n B o l=some res) (hn:n<=100000) (hb:res.2.length<=15000000):JC 10 o B l res:=by
 refine jcV (jgD ho g hl hR) λ U g2 U hc=>?_
 refine jk6 (j:=5) g.wf ho (λ t ht=>(hl t ht).1) hll hR hn g2.sz hb λ p hp=>?_
 refine jcV (hc p hp) λ e1 e2 e3 e4=>?_
 obtain ⟨q1,q2⟩:=jhm (jaw o) (hc p hp)
 exact jk6 (j:=0) e1.wf (jaw o) (λ t ht=>(e3 t ht).1) (Ja0 ‹_› (by decide)) q1 (by decide) (Easy.gb (hc p hp) (jaw o)).sz (Ja0 (jhl hR p hp).len hb) λ p' hp'=>by rw [q2] at hp'; exact absurd hp' Jb2
end
end
section
section
variable {c:WC} {sc:Scope} {ls:Ls} {B:List Tm} {led:Led} {K:KA}
theorem jcE {n:Nat} {B:List Tm} {o:Op} {l:List Nat} {r:Nat×List Tm} (h:jaT n B o l=some r):Ext B r.2:=by
 unfold jaT at h
 cases hfl:jat n B o [] l with
 | none=>rw [hfl] at h; replace h:=h; cases h
 | some q =>
  obtain ⟨f2,B2⟩:=q
  rw [hfl] at h
  exact (jaz n hfl).trans (jaO n h)
theorem jjL (C:CO c sc) (r:Rm c.A 11) {t a b n:Nat} {res:Nat×List Tm} (g:Gb B) (ht:t<B.length/\1<=t) (ha:a<B.length/\1<=a) (hb:b<B.length/\1<=b) (hR:chB n B t a b=some res) (hn:n<=100000) (hbd:res.2.length<=15000000)
  (k:K (.nat res.1) res.2 led):CF c 465 [.rw,.nat t,.nat a,.nat b] ls B led K:=by
 refine jbq (jau g ht.1 ht.2) λ g1 n1 l1=>?_
 have nn:jab (jab B t).2 t=((jab B t).1,(jab B t).2):=jaQ g.wf g1.wf g1.nd ht.1 (Ext.refl _)
 have up:∀ {z:Nat},z<B.length/\1<=z->z<(jab B t).2.length/\1<=z:=λ h=>⟨Ja1 h.1 (jag B t).len,h.2⟩
 dsimp only [chB] at hR
 refine jaF ‹_› ‹_› (by k_is) (by k_is) (by exact λ U U U U=>rfl) (by decide +kernel) (by rfl) ?_
 intro c' x cl C' r'
 have r4:Rm c'.A 4:=r'.le (by decide)
 refine jaj C' 30 _ _ _ _ _ ?_
 have two:∀ {D:List Tm} {x y:Nat},x<D.length/\1<=x->y<D.length/\1<=y->∀ z∈[x,y],z<D.length/\1<=z:=λ hx hy z hz=>by
  simp only [Ja3,Jb2,or_false] at hz
  replace hz:=hz
  rcases hz with rfl | rfl
  ·exact hx
  ·exact hy
 have hr2:(jab B t).2.length<=15000000->∀ {P:Prop},((jab B t).2.length<=16000000->P)->P:=λ h U f=>f (Ja0 h (by decide))
 by_cases a1:a=1
 ·rw [if_pos (.inl a1)] at hR
  replace hR:=hR
  exact jaR (dT a1) (jb4 (jb7 g (.inr rfl) (two ht hb) (show [t,b].length<=1000 from (show 2<=1000 by decide)) hR hn hbd C' r' (.end0 k)))
 by_cases ac:a=t
 ·rw [if_pos (.inr ac)] at hR
  replace hR:=hR
  exact jaP (dF a1) (jaR (dT ac) (jb4 (jb7 g (.inr rfl) (two ht hb) (show [t,b].length<=1000 from (show 2<=1000 by decide)) hR hn hbd C' r' (.end0 k))))
 rw [if_neg (λ h=>h.elim a1 ac)] at hR
 replace hR:=hR
 refine jaP (dF a1) (jaP (dF ac) ?_)
 have hxr:Ext (jab B t).2 res.2:=by
  repeat' split at hR
  ·exact jcE hR
  ·exact jcE hR
  ·exact jcE hR
  ·refine rwl (Jb0 hR) ?_; exact (jag _ _).trans (jaX _ _ _)
  ·refine rwl (Jb0 hR) ?_; exact (jag _ _).trans (ja9 _ _)
 have hb1:(jab B t).2.length<=16000000:=Ja0 hxr.len (Ja0 hbd (by decide))
 by_cases a2:a=2
 ·rw [if_pos (.inl a2)] at hR
  replace hR:=hR
  exact jaR (dT a2) (jbs C' r4 g.wf ht.1 hb1 (jb4 (jb7 g1 (.inl rfl) (two ⟨l1,n1⟩ (up hb)) (show [(jab B t).1,b].length<=1000 from (show 2<=1000 by decide)) hR hn hbd C' r' (.end0 k))))
 refine jaP (dF a2) (jbs C' r4 g.wf ht.1 hb1 ?_)
 by_cases an:a=(jab B t).1
 ·rw [if_pos (.inr an)] at hR
  replace hR:=hR
  refine jaR (dT an) (jbs C' r4 g1.wf (up ht).1 (by refine rwr nn ?_; exact hb1) ?_)
  refine rwr nn ?_
  exact jb4 (jb7 g1 (.inl rfl) (two ⟨l1,n1⟩ (up hb)) (show [(jab B t).1,b].length<=1000 from (show 2<=1000 by decide)) hR hn hbd C' r' (.end0 k))
 rw [if_neg (λ h=>h.elim a2 an)] at hR
 replace hR:=hR
 refine jaP (dF an) ?_
 by_cases b1:b=1
 ·rw [if_pos (.inl b1)] at hR
  replace hR:=hR
  refine jaR (dT b1) (jbs C' r4 g1.wf (up ht).1 (by refine rwr nn ?_; exact hb1) ?_)
  refine rwr nn ?_
  exact jb4 (jb7 g1 (.inr rfl) (two ⟨l1,n1⟩ (up ha)) (show [(jab B t).1,a].length<=1000 from (show 2<=1000 by decide)) hR hn hbd C' r' (.end0 k))
 refine jaP (dF b1) (jbs C' r4 g1.wf (up ht).1 (by refine rwr nn ?_; exact hb1) ?_)
 refine rwr nn ?_
 by_cases bn:b=(jab B t).1
 ·rw [if_pos (.inr bn)] at hR
  replace hR:=hR
  refine jaR (dT bn) (jbs C' r4 g1.wf (up ht).1 (by refine rwr nn ?_; exact hb1) ?_)
  refine rwr nn ?_
  exact jb4 (jb7 g1 (.inr rfl) (two ⟨l1,n1⟩ (up ha)) (show [(jab B t).1,a].length<=1000 from (show 2<=1000 by decide)) hR hn hbd C' r' (.end0 k))
 rw [if_neg (λ h=>h.elim b1 bn)] at hR
 replace hR:=hR
 refine jaP (dF bn) ?_
 by_cases b2:b=2
 ·rw [if_pos (.inl b2)] at hR
  replace hR:=hR
  exact jaR (dT b2) (jb4 (jb7 g1 (.inl rfl) (two (up ht) (up ha)) (show [t,a].length<=1000 from (show 2<=1000 by decide)) hR hn hbd C' r' (.end0 k)))
 by_cases bc:b=t
 ·rw [if_pos (.inr bc)] at hR
  replace hR:=hR
  exact jaP (dF b2) (jaR (dT bc) (jb4 (jb7 g1 (.inl rfl) (two (up ht) (up ha)) (show [t,a].length<=1000 from (show 2<=1000 by decide)) hR hn hbd C' r' (.end0 k))))
 rw [if_neg (λ h=>h.elim b2 bc)] at hR
 replace hR:=hR
 have up2:∀ {z:Nat},z<(jab B t).2.length/\1<=z->z<(jab (jab B t).2 b).2.length:=λ h=>Ja1 h.1 (jag (jab B t).2 b).len
 have hxr2:Ext (jab (jab B t).2 b).2 res.2:=by
  refine ith hR (λ q_3 hR=>?_) λ q_4 hR=>?_
  ·refine rwl (Jb0 hR) ?_; exact jaX _ _ _
  ·refine rwl (Jb0 hR) ?_; exact ja9 _ _
 have hb3:res.2.length<=16000000:=Ja0 hbd (by decide)
 refine jaP (dF b2) (jaP (dF bc) (jbs C' r4 g1.wf (up hb).1 (Ja0 hxr2.len (Ja0 hbd (by decide))) ?_))
 refine ith hR (λ ab hR=>?_) λ ab hR=>?_
 ·have:=Jb0 hR
  subst this
  exact jaR (dT ab) (jli C' (r'.le (by decide)) ((jau g1 (up hb).1 hb.2).1).wf (up2 (up ht)) (up2 (up ha)) hb3 (.end0 k))
 ·have:=Jb0 hR
  subst this
  exact jaP (dF ab) (jpu C' (r'.le (by decide)) (up2 (up ht)) (up2 (up ha)) (up2 (up hb)) hb3 (.end0 k))
theorem jl9 {l:List Nat} {i:Nat} (h:i<l.length):∃ z,l[i]? = some z/\l.getD i 0=z:=⟨l[i],List.getElem?_eq_getElem h,by simp [h]⟩
theorem jfT {B:List Tm} (g:Gb B) {x:Nat} (h:jad B x=.ite):(jaa B x).length=3:=by
 have hx:x<B.length:=jaN (by refine rwr h ?_; exact λ e=>nomatch e)
 have hg:=List.getElem?_eq_getElem hx
 rw [jan hg] at h
 refine rwr (jai hg) ?_
 have:=g.ar x _ hg
 rw [h] at this
 simpa [jbL] using this
theorem jlj {B:List Tm} (g:Gb B) {a:Nat} (ha:a<B.length/\1<=a) (c i:Nat):i<3->sel B c a i<B.length/\1<=sel B c a i:=by
 intro hi
 unfold sel; split
 ·rename_i h
  refine jam (jl9 (l:=jaa B a) (i:=i) (by refine rwr (jfT g h.1) ?_; exact hi)) λ z e1 e2=>?_
  refine rwr e2 ?_
  have hm:=List.mem_of_getElem? e1
  have hg:=List.getElem?_eq_getElem ha.1
  exact ⟨Jd1 (jaL g.wf hm) ha.1,by rw [jai hg] at hm; exact g.ps a _ hg z hm⟩
 ·exact ha
inductive ChJ (n:Nat) (B:List Tm) (res:Nat×List Tm) (lx:Led):Ls->List Tm->Led->Prop
 | mk (t a b:Nat) (hR:chs n B t a b=some res) (ht:t<B.length/\1<=t) (ha:a<B.length/\1<=a) (hb:b<B.length/\1<=b):ChJ n B res lx [("self",.rw),("c",.nat t),("a",.nat a),("b",.nat b)] B lx
theorem jjM (C:CO c sc) (r:Rm c.A 12) {t a b n:Nat} {res:Nat×List Tm} (g:Gb B) (ht:t<B.length/\1<=t) (ha:a<B.length/\1<=a) (hb:b<B.length/\1<=b) (hR:chO n B t a b=some res) (hn:n<=100000) (hbB:B.length<=15000000) (hbd:res.2.length<=15000000)
  (k:K (.nat res.1) res.2 led):CF c 472 [.rw,.nat t,.nat a,.nat b] ls B led K:=by
 have hB1:B.length<=16000000:=Ja0 hbB (by decide)
 have item:∀ {z:Nat},jad B z=.ite->∀ {i:Nat},i<3->(jaa B z)[i]? = some ((jaa B z).getD i 0):=λ h i hi=>by
  have hl:=jfT g h
  refine rwr (List.getD_eq_getElem?_getD) ?_; refine rwr (List.getElem?_eq_getElem (Nat.lt_of_lt_of_eq ‹_› (Eq.symm ‹_›))) ?_; rfl
 have hd:∀ {z:Nat},jad B z=.ite->(jaa B z).getD 0 0=(jaa B z).headD 0:=λ {z} h=>by
  have hl:=jfT g h
  cases e:jaa B z with
  | nil=>rw [e] at hl; replace hl:=hl; exact absurd hl (by decide)
  | cons x y=>rfl
 refine jaF ‹_› ‹_› (by k_is) (by k_is) (by exact λ U U U U=>rfl) (by decide +kernel) (by rfl) ?_
 intro c' x cl C' r'
 have r1:Rm c'.A 1:=r'.le (by decide)
 refine jb5 C' 20 (ChJ n B res (x::(led++cl))) ?_ ?_
 ·refine jhK C' r1 ht.1 ?_
  unfold chO at hR
  refine ith hR (λ h hR=>?_) λ h hR=>?_
  ·replace hR:=hR
   refine jjo (ja5 g.wf h) λ s e1 e2 e3 U=>?_
   have eb:jac B t=s:=by unfold jac; refine rwr (if_pos h) ?_; refine rwr e2 ?_; rfl
   refine jaR (opT .neg rfl h) (jbs C' (r'.le (by decide)) g.wf ht.1 (by refine rwr (jbB h) ?_; exact hB1) ?_)
   refine rwr (jbB h) ?_
   exact ⟨rfl,_,wk4 rfl rfl rfl rfl,.mk _ _ _ hR (by refine rwr eb ?_; exact (⟨Jd1 e3 ht.1,g.ps t _ e1 s (.head _)⟩)) hb ha⟩
  ·replace hR:=hR
   exact jaP (opF .neg rfl h) ⟨_,wk4 rfl rfl rfl rfl,.mk _ _ _ hR ht ha hb⟩
 clear hR ht ha hb hbB
 intro ls' B' led' h
 refine h.rec λ t1 a1 b1 hR ht ha hb=>?_
 clear h
 refine jb5 C' 20 (Now [("self",.rw),("c",.nat t1),("a",.nat (sel B t1 a1 1)),("b",.nat b1)] B (x::(led++cl))) ?_ ?_
 ·refine jhK C' r1 ha.1 ?_
  unfold sel
  by_cases h:jad B a1=.ite
  ·refine jaR (opT .ite rfl h) (jbK C' r1 ha.1 (jb1 rfl (item h (by decide)) (by decide) ?_))
   refine rwr (hd h) ?_
   by_cases h2:(jaa B a1).headD 0=t1
   ·refine rwr (if_pos ⟨h,h2⟩) ?_
    exact jaR (dT h2) (jbK C' r1 ha.1 (jb1 rfl (item h (by decide)) (by decide) ⟨_,wk4 rfl rfl rfl rfl,.mk⟩))
   ·refine rwr (if_neg λ q=>h2 q.2) ?_
    exact jaP (dF h2) ⟨_,wk4 rfl rfl rfl rfl,.mk⟩
  ·refine rwr (if_neg λ q=>h q.1) ?_
   exact jaP (opF .ite rfl h) ⟨_,wk4 rfl rfl rfl rfl,.mk⟩
 refine Now.el ?_
 refine jb5 C' 20 (Now [("self",.rw),("c",.nat t1),("a",.nat (sel B t1 a1 1)),("b",.nat (sel B t1 b1 2))] B (x::(led++cl))) ?_ ?_
 ·refine jhK C' r1 hb.1 ?_
  refine rwr (show sel B t1 b1 2=if jad B b1=.ite/\(jaa B b1).headD 0=t1 then (jaa B b1).getD 2 0 else b1 from rfl) ?_
  by_cases h:jad B b1=.ite
  ·refine jaR (opT .ite rfl h) (jbK C' r1 hb.1 (jb1 rfl (item h (by decide)) (by decide) ?_))
   refine rwr (hd h) ?_
   by_cases h2:(jaa B b1).headD 0=t1
   ·refine rwr (if_pos ⟨h,h2⟩) ?_
    exact jaR (dT h2) (jbK C' r1 hb.1 (jb1 rfl (item h (by decide)) (by decide) ⟨_,wk4 rfl rfl rfl rfl,.mk⟩))
   ·refine rwr (if_neg λ q=>h2 q.2) ?_
    exact jaP (dF h2) ⟨_,wk4 rfl rfl rfl rfl,.mk⟩
  ·refine rwr (if_neg λ q=>h q.1) ?_
   exact jaP (opF .ite rfl h) ⟨_,wk4 rfl rfl rfl rfl,.mk⟩
 refine Now.el ?_
 refine jaj C' 30 _ _ _ _ _ ?_
 have sa:=jlj g ha t1 1 (by decide)
 have sb:=jlj g hb t1 2 (by decide)
 unfold chs at hR
 generalize sel B t1 a1 1=a2 at hR sa
 generalize sel B t1 b1 2=b2 at hR sb
 by_cases h1:t1=1
 ·rw [if_pos (.inl h1)] at hR
  replace hR:=hR
  obtain rfl:=Jb0 hR
  exact jaR (dT h1) (.end0 k)
 by_cases h2:a2=b2
 ·rw [if_pos (.inr h2)] at hR
  replace hR:=hR
  obtain rfl:=Jb0 hR
  exact jaP (dF h1) (jaR (dT h2) (.end0 k))
 rw [if_neg (λ q=>q.elim h1 h2)] at hR
 replace hR:=hR
 refine jaP (dF h1) (jaP (dF h2) ?_)
 by_cases h3:t1=2
 ·rw [if_pos h3] at hR
  replace hR:=hR
  obtain rfl:=Jb0 hR
  exact jaR (dT h3) (.end0 k)
 rw [if_neg h3] at hR
 replace hR:=hR
 exact jaP (dF h3) (jol C' r1 sa.1 (jjL C' r' g ht sa sb hR hn hbd (.end0 k)))
end
end
section
noncomputable def jdB (x:Str):Value->Bool
 | .str y _=>y == x
 | _=>false
theorem jbR (x:Str) (t:Tok) {A:Around} {s:Shared} {y:Str} {u:Tok}:EqAt A s (.str y u) (.str x t) (jdB x (.str y u)):=EqAt.str_str y u x t
theorem ji7 {o a b:Op} {ta tb:Tok}:([Value.str a.str ta,.str b.str tb].any (jdB o.str))=decide (o=a\/o=b):=by
 simp only [List.any_cons,List.any_nil,jdB,Bool.or_false]
 refine rwr (jlc a o _ rfl) ?_
 refine rwr (jlc b o _ rfl) ?_
 by_cases h1:o=a <;> by_cases h2:o=b <;> simp [h1,h2,eq_comm]
 all_goals simp_all [eq_comm]
section
variable {c:WC} {sc:Scope} {ls:Ls} {B:List Tm} {led:Led} {K:KA}
theorem jon {g:WG} {T:List (Addr×Obj)} {a b:Str} {vs:List Value} (h:Hass g T [.str a,.str b] vs):∃ t t',vs=[.str a t,.str b t'] :=
 h.consE λ U U h1 h=>h.consE λ U U h2 h=>h.nilE (h1.strE λ t=>h2.strE λ t'=>⟨t,t',rfl⟩)
theorem jdi (C:CO c sc) {o:Op} (a b:Op) {xa xb:Str} (ea:xa=a.str) (eb:xb=b.str) {K:Bool->List Tm->Led->Prop} (k:K (decide (o=a\/o=b)) B led):CM c (.str o.str) .In (.tup [.str xa,.str xb]) ls B led K:=by
 subst ea eb
 refine ⟨λ T s E x y Q hs ha hb hk=>?_⟩
 refine ha.strE λ to=>?_
 refine hb.tupE λ l vs hm has=>?_
 refine jjx (jon has) λ U U e_1=>?_
 subst e_1
 refine hs.elim0 λ h tk m σ cl lr hs0 W O hT hB hL hC hK=>?_
 refine jqt (jdB o.str) W (jar hT hm) (λ y hy A s=>?_) (by refine rwr ji7 ?_; exact hk _ _ _ _ _ (λ U h=>h) hs0 k)
 rcases Ja3.mp hy with rfl | hy
 ·exact jbR _ _
 ·refine rwr (Ja2.mp hy) ?_; exact jbR _ _
theorem jhv (C:CO c sc) {o:Op} (a b:Op) {xa xb:Str} (ea:xa=a.str) (eb:xb=b.str) {K:Bool->List Tm->Led->Prop} (k:K (!decide (o=a\/o=b)) B led):CM c (.str o.str) .NotIn (.tup [.str xa,.str xb]) ls B led K:=by
 subst ea eb
 refine ⟨λ T s E x y Q hs ha hb hk=>?_⟩
 refine ha.strE λ to=>?_
 refine hb.tupE λ l vs hm has=>?_
 refine jjx (jon has) λ U U e_3=>?_
 subst e_3
 refine hs.elim0 λ h tk m σ cl lr hs0 W O hT hB hL hC hK=>?_
 refine jiW (jdB o.str) W (jar hT hm) (λ y hy A s=>?_) (by refine rwr ji7 ?_; exact hk _ _ _ _ _ (λ U h=>h) hs0 k)
 rcases Ja3.mp hy with rfl | hy
 ·exact jbR _ _
 ·refine rwr (Ja2.mp hy) ?_; exact jbR _ _
theorem jhE (C:CO c sc) {f:List Nat} {F:Addr} (hf:f.length<=63) (hm:(F,AO.fd f)∈led) (k:K (.lns (jaf f)) B led):BI c "sorted" [.v (.ref F)] ls B led K:=by
 refine jcR C.G λ U U U G=>?_
 refine ⟨λ T s E vs Q hs has hk=>?_⟩
 refine has.consE λ U U h1 has=>?_
 refine has.nilE ?_
 refine h1.vE ?_
 refine hs.elim λ h tk m σ cl lr W O hT hB hL hC hK=>?_
 refine jam (hL.get hm) λ o h2 h3=>?_
 have hd:=h3.fdO
 refine jgT C.hh G.T.nolimit W (ja4 h2) hd (by rw [Jc6]; exact Nat.lt_succ_of_le ‹_›) λ x h' tk' vs' ns' e W' hi hp hs=>?_
 rw [je5] at hp
 rw [jft hp hs] at hi
 exact hk (.lns (jaf f)) _ B led _ _ (λ p hp=>.tail _ hp) (St.frz (h:=h) (tk:=tk) W' O hT hB hL hC hK) (.lns _ x vs' e (.head _) hi) k
theorem jig {l:List Int} {vs:List Value} (n:Nat) (h:IntsAre vs l):IntsAre (vs.drop n) (l.drop n):=by
 induction h generalizing n with
 | nil=>rw [List.drop_nil,List.drop_nil]; exact .nil
 | cons z t r ih=>exact Nat.rec (motive:=λ n=>IntsAre (List.drop n (_::_)) (List.drop n (_::_))) (.cons z t r) (λ n U=>ih n) n
theorem jlA (C:CO c sc) {l:List Nat} {x:Str} {xp p pos kp:Pos} (y:Nat) {kk:Nat} (hx:ls.lookup x=some (.lns l)) (hk:sc.names.lookup x=some .local) (hl:l.length<=16000000) (k:K (.lns (l.drop y)) B led) :
  VE c (.Subscript (.Name x xp) (.Slice (some (.Constant (.int (y:Int)) kk kp)) Option.none Option.none p) pos) ls B led K:=by
 refine ⟨λ T s E Q hs hk2=>?_⟩
 refine hs.elim λ h tk m σ cl lr W O hT hB hL hC hK=>?_
 refine jam (hK x _ hx) λ v hv rd=>?_
 cases hv with | lns _ a us n hm hi =>
 rcases rd with ⟨-,hmx⟩ | ⟨h1,-⟩
 ·refine jhB W hmx (jar hT hm) (by refine rwr (jds hi) ?_; exact Ja0 ‹_› (by decide)) (λ S h' tk' W'=>?_) C.hl C.fk ((C.kind x).trans hk) (C.db x _ hk)
  exact hk2 _ _ _ _ _ _ (λ p hp=>.tail _ hp) (St.frz (h:=h) (tk:=tk) W' O hT hB hL hC hK) (.lns (l.drop y) S (us.drop y) 0 (.head _) (by refine rwr List.map_drop ?_; exact jig y hi)) k
 ·rw [C.kind,hk] at h1; exact absurd h1 (by decide)
theorem jjY (C:CO c sc) {val sl:Expr} {l:List Nat} (hsl:jaY sl=true) (h:K (.nat (l.headD 2)) B led):if decide (l.length=0) then K (.nat 2) B led else SU c val sl (.lns l) (.nat 0) ls B led K:=by
 cases l with
 | nil=>exact h
 | cons t r=>exact jaH hsl (t:=t) rfl (by decide) h
noncomputable abbrev jqq (F S:Addr) (odd:Bool):Ls:=[("self",.rw),("is_odd",.bool odd),("found",.v (.ref F)),("stack",.v (.ref S))]
noncomputable abbrev jqr (F S:Addr) (odd:Bool) (a b:AV):Ls:=[("self",.rw),("is_odd",.bool odd),("found",.v (.ref F)),("stack",.v (.ref S)),("t",a),("kind",b)]
theorem joP {F S:Addr} {odd:Bool} {a b:AV}:Wk (jqq F S odd) (jqr F S odd a b):=wk4 rfl rfl rfl rfl
inductive PaJ (B:List Tm) (F S:Addr) (lx:Led) (m n:Nat) (f:List Nat) (odd:Bool) (n':Nat):Ls->List Tm->Led->Prop
 | mk (f' st:List Nat) (odd':Bool) (hst:∀ t∈st,t<B.length) (hf:∀ t∈f',t<B.length) (hc:st.length+63*n'<=m) (hF:jdJ n' B f' odd' st=some (f,odd)) (hfn:f'.length+n'<=n):PaJ B F S lx m n f odd n' (jqq F S odd') B ((S,.lns st.reverse)::(F,.fd f')::lx)
inductive XoJ (E:Nat×List Tm) (L:List Nat) (odd:Bool) (lx:Led) (i:Nat):Ls->List Tm->Led->Prop
 | mk (B':List Tm) (r:Nat) (e:jc7 B' r ((L.drop 1).drop i)=E) (hr:r<B'.length) (hL:∀ t∈L,t<B'.length):XoJ E L odd lx i [("self",.rw),("is_odd",.bool odd),("result",.nat r)] B' lx
theorem jiL {n:Nat} {l:List Nat} {res:Nat×List Tm} (h:jhL n B l=some res):∃ f odd,jdJ n B [] false l.reverse=some (f,odd)/\f.length<=63/\(if odd=true then jab (jbr B (jaf f)).2 (jbr B (jaf f)).1 else jbr B (jaf f))=res:=by
 unfold jhL at h
 cases hF:jdJ n B [] false l.reverse with
 | none=>rw [hF] at h; exact nomatch h
 | some p =>
  rw [hF] at h
  replace h:(if 63<p.1.length then none else if p.2 then some (jab (jbr B (jaf p.1)).2 (jbr B (jaf p.1)).1) else some (jbr B (jaf p.1)))=some res:=h
  by_cases h6:63<p.1.length
  ·rw [if_pos h6] at h; exact nomatch h
  rw [if_neg h6] at h
  refine jdS p.1 p.2 rfl (Jd2 h6) ?_
  by_cases h7:p.2=true
  ·rw [if_pos h7] at h ⊢; exact Jb0 h
  ·rw [if_neg h7] at h ⊢; exact Jb0 h
theorem jpF (C:CO c sc) (r:Rm c.A 5) {l:List Nat} {n:Nat} {res:Nat×List Tm} (wf:Wf B) (hA:∀ (i:Nat) (t:Tm),B[i]? = some t->t.args.length<=63) (h2:2<B.length) (hAr:∀ x,jad B x=.neg\/jad B x=.xr->jaa B x≠[]) (hl:∀ t∈l,t<B.length) (hll:l.length<=1000)
  (hR:jhL n B l=some res) (hn:n<=100000) (hb:res.2.length<=15000000) (k:K (.nat res.1) res.2 led):CF c 451 [.rw,.lns l] ls B led K:=by
 refine jci (jiL hR) λ f odd hF h63 hR=>?_
 have hxE:Ext (jbr B (jaf f)).2 res.2:=by
  refine rwl hR ?_; cases odd
  ·exact Ext.refl _
  ·exact jag _ _
 have hE:(jbr B (jaf f)).2.length<=16000000:=Ja0 hxE.len (Ja0 hb (by decide))
 have hbB:B.length<=16000000:=Ja0 (jc6 B (jaf f)).len hE
 refine jaF ‹_› ‹_› (by k_is) (by k_is) (by exact λ U U=>rfl) (by decide +kernel) (by rfl) ?_
 intro c' x cl C' r'
 have r1:Rm c'.A 1:=r'.le (by decide)
 refine jaj C' 30 _ _ _ _ _ ?_
 intro F
 refine jj9 C' (Ja0 ‹_› (by decide)) λ S=>⟨rfl,?_⟩
 have hM:l.length+63*n<=10000000:=Ja0 (Nat.add_le_add (by assumption:l.length<=1000) (Jc2 63 hn)) (by decide)
 refine jcW C' (PaJ B F S (x::(led++cl)) (l.length+63*n) n f odd) n _ (wk4 rfl rfl rfl rfl) (by refine rwl (List.reverse_reverse l) ?_; exact .mk [] l.reverse false (λ t ht=>hl t (List.mem_reverse.mp ht)) nofun (by simp) hF (by simp)) ?_
 clear hF hl
 intro n' ls' B₁ led' h
 refine h.rec λ f' st odd' hst hf' hc hF hfn=>?_
 clear h
 refine jcb C' 20 _ _ _ _ ?_
 refine jfV C' (.head _) (by refine rwr List.length_reverse ?_; exact Ja0 (Jb5 _ _) (Ja0 hc (Ja0 hM (by decide)))) ?_
 cases n' with
 | zero=>exact nomatch (hF:none=some (f,odd))
 | succ n' =>
 cases st with
 | nil =>
  have hF:(f',odd')=(f,odd):=Jb0 hF
  obtain rfl:f'=f:=congrArg Prod.fst hF
  obtain rfl:odd'=odd:=congrArg Prod.snd hF
  refine jhE C' h63 (.tail _ (.head _)) ?_
  have hmem:∀ t∈jaf f',t<B.length:=λ t ht=>hf' t ((jas f').mem_iff.mp ht)
  have hlen:(jaf f').length<=63:=(jas f').length_eq▸h63
  have hE0:=jjp wf hmem
  have h0:(jaf f').headD 2<B.length:=by
   cases e:jaf f' with
   | nil=>exact h2
   | cons x r=>exact hmem x (e▸.head _)
  refine jbx C' (Ja0 hlen (by decide)) (jjY C' rfl (jlA C' 1 rfl rfl (Ja0 hlen (by decide)) ?_))
  refine jc8 C' rfl rfl (XoJ (jbr B (jaf f')) (jaf f') odd' ((S,.lns [])::(F,.fd f')::x::(led++cl))) _ (wk3 rfl rfl rfl) (.mk B _ (jm8 B _).symm h0 hmem) ?_ ?_
  ·intro i v ls' B' led' hv h z
   refine jam (jbP hv) λ t hi e=>?_
   subst e
   refine h.rec λ B' r he hr hL=>?_
   rw [jbT hi] at he
   replace he:=he
   refine jaj C' 30 _ _ _ _ _ ?_
   exact jp7 C' (r'.le (by decide)) hr (hL t (List.mem_of_mem_drop (List.mem_of_getElem? hi))) (Ja0 (jcB _ _ _).len (Ja0 (Jb7 (congrArg (λ q=>q.2.length) he)) hE)) ⟨_,_,wk3 rfl rfl rfl,rfl,.mk _ _ he (jcT _ _) λ y hy=>Ja1 (hL y hy) (ja9 B' ⟨.xr,[r,t],0⟩).len⟩
  intro ls' B' led' h
  refine h.rec λ B' r he hr hL=>?_
  rw [Jc6,List.drop_length] at he
  replace he:(r,B')=jbr B (jaf f'):=he
  rw [<- he] at hR hE0
  cases odd' with
  | false =>
   replace hR:(r,B')=res:=hR
   subst hR
   exact .plain led (.cons _ (.cons _ (Jd0 _))) k
  | true =>
   replace hR:jab B' r=res:=hR
   subst hR
   exact jbs C' (r'.le (by decide)) hE0.1 hE0.2 (Ja0 hb (by decide)) (.plain led (.cons _ (.cons _ (Jd0 _))) k)
 | cons t st =>
 have e0:∀ {y:Nat} {r:List Nat},(y::r).length=r.length+1:=rfl
 refine jaR (by simp) ?_
 have ht:=hst t (.head _)
 have hst':∀ y∈st,y<B.length:=λ y hy=>hst y (.tail _ hy)
 rw [e0] at hc
 replace hc:=hc
 refine jaj C' 30 _ _ _ _ _ ?_
 refine jk4 C' (.head _) (jiP C' (l:=st.reverse) (t:=t) (by refine rwr List.length_reverse ?_; exact Ja0 (Nat.le_succ _) (Ja0 (Jb5 _ _) (Ja0 hc (Ja0 hM (by decide))))) (by refine rwr List.reverse_cons ?_; exact .head) (jhK C' r1 ht ?_))
 unfold jdJ at hF
 dsimp only at hF
 refine jb5 C' 20 (Now (jqr F S (odd' != decide (jad B t=.tru\/jad B t=.neg)) (.nat t) (.str (jad B t).str)) B ((S,.lns st.reverse)::(F,.fd f')::x::(led++cl))) ?_ ?_
 ·refine jdi C' .tru .neg rfl rfl ?_
  by_cases h:jad B t=.tru\/jad B t=.neg
  ·exact jaR (dT h) ⟨_,.cons rfl (.cons (by refine rwr (dT h) ?_; rw [Bool.bne_true]; rfl) (wk4 rfl rfl rfl rfl)),.mk⟩
  ·exact jaP (dF h) ⟨_,.cons rfl (.cons (by refine rwr (decide_eq_false h) ?_; rw [Bool.bne_false]; rfl) (wk4 rfl rfl rfl rfl)),.mk⟩
 refine Now.el ?_
 generalize (odd' != decide (jad B t=.tru\/jad B t=.neg))=o2 at hF
 refine jaj C' 30 _ _ _ _ _ ?_
 refine jdi C' .neg .xr rfl rfl ?_
 by_cases hnx:jad B t=.neg\/jad B t=.xr
 ·rw [if_pos hnx] at hF
  have hal:(jaa B t).length<=63:=by
   have hg:=List.getElem?_eq_getElem ht
   refine rwr (jai hg) ?_; exact hA t _ hg
  refine jaR (dT hnx) (jk3 C' (.head _) (jbK C' r1 ht (jlZ C' (by refine rwr List.length_reverse ?_; exact Ja0 (Jb4 (Nat.le_succ _) _) (Ja0 (jpZ hc hal) (Ja0 hM (by decide)))) (hAr t hnx) .head ?_)))
  have e2:st.reverse++jaa B t=((jaa B t).reverse++st).reverse:=by refine rwr List.reverse_append ?_; rw [List.reverse_reverse]
  refine rwr e2 ?_
  exact ⟨_,joP,n',Jd5 _,.mk f' _ o2 (λ y hy=>(Ja9.mp hy).elim (λ q=>Jd1 (jaL wf (List.mem_reverse.mp q)) ht) (hst' y)) hf' (by refine rwr Jd3 ?_; refine rwr List.length_reverse ?_; exact stp hc hal) hF (Jb6 hfn)⟩
 rw [if_neg hnx] at hF
 refine jaP (dF hnx) (jif C' (.tail _ (.head _)) ?_)
 by_cases hin:t∈f'
 ·rw [if_pos hin] at hF
  have hfl:=List.length_filter_le (λ x=>decide (x≠t)) f'
  refine jaR (dT hin) (jlU C' (Ja0 (Jb5 _ _) (Ja0 hfn (Ja0 hn (by decide)))) hin (.tail .head) ?_)
  exact ⟨_,joP,n',Jd5 _,.mk _ st o2 hst' (λ y hy=>hf' y (List.mem_filter.mp hy).1) (jmY hc) hF (Ja0 (Jb4 hfl n') (Jb6 hfn))⟩
 rw [if_neg hin] at hF
 refine jaP (dF hin) (jhv C' .tru .fls rfl rfl ?_)
 by_cases htf:jad B t=.tru\/jad B t=.fls
 ·rw [if_pos htf] at hF
  replace hF:=hF
  exact jaP (by refine rwr (dT htf) ?_; decide) ⟨_,joP,n',Jd5 _,.mk f' st o2 hst' hf' (jmY hc) hF (Jb6 hfn)⟩
 ·rw [if_neg htf] at hF
  replace hF:=hF
  have hi:ins t f'=f'++[t]:=if_neg hin
  refine jaR (by refine rwr (decide_eq_false htf) ?_; rfl) (jf7 C' (Ja0 (Jb5 _ _) (Ja0 hfn (Ja0 hn (by decide)))) (.tail .head) ?_)
  refine rwr hi ?_
  exact ⟨_,joP,n',Jd5 _,.mk (f'++[t]) st o2 hst' (λ y hy=>(Ja9.mp hy).elim (hf' y) λ q=>Ja2.mp q▸ht) (jmY hc) hF (by refine rwr Jd3 ?_; exact Ja0 (Jb7 (Nat.add_right_comm f'.length 1 n')) hfn)⟩
end
end
section
section
variable {c:WC} {sc:Scope} {ls:Ls} {B:List Tm} {led led':Led} {K:KA} {S:Addr}
theorem jma (C:CO c sc) {P:String->Prop} {l:List AV} (hm:(S,AO.lst l)∈led) (k:P "list.pop"):GM c (.v (.ref S)) "pop" ls B led P:=by
 refine ⟨λ T s E v pl Q hs hr hk=>?_⟩
 revert hk
 refine hr.vE ?_
 refine hs.elim λ h tk m σ cl lr W O hT hB hL hC hK hk=>?_
 refine jam (hL.get hm) λ o h1 h2=>?_
 revert h1
 refine h2.lstE λ U U U h1=>?_
 exact jgS W (ja4 h1) (hk _ k)
theorem jhg {g:WG} {T:List (Addr×Obj)} {a b:List AV} {vs:List Value}:Hass g T (a++b) vs->∃ va vb,vs=va++vb/\Hass g T a va/\Hass g T b vb:=by
 induction a generalizing vs with
 | nil=>exact λ h=>jdS [] vs rfl .nil h
 | cons x a ih=>exact λ h=>h.consE λ v r h1 h2=>jci (ih h2) λ va vb e_1 h3 h4=>jdS (v::va) vb (congrArg (List.cons v) e_1) (.cons h1 h3) h4
theorem jkx (C:CO c sc) {a:AV} {l:List AV} (hl:l.length<=16000000) (p:PtA S (.lst (l++[a])) (.lst l) led led') (k:K a B led'):BI c "list.pop" [.v (.ref S)] ls B led K:=by
 refine ⟨λ T s E vs Q hs has hk=>?_⟩
 refine has.consE λ U U h1 has=>?_
 refine has.nilE ?_
 refine h1.vE ?_
 refine hs.elim λ h tk m σ cl lr W O hT hB hL hC hK=>?_
 refine jci (hL.pt p) λ o f h1 h2 h3=>?_
 revert h2
 refine h1.lstE λ us n hi h2=>?_
 refine jci (jhg hi) λ va vb e_2 ha hb=>?_
 subst e_2
 cases hb with | cons hx hb =>
 cases hb
 refine jod (W:=W) (((h2 _).appR cl).appR _) (by refine rwr ha.len ?_; exact Jb1 ‹_› (by decide)) λ h' W'=>?_
 exact hk _ _ _ _ _ _ (λ U h=>h) (.mk h' tk m σ cl _ W' O hT hB (h3 _ T (λ U h=>h) (.lst _ _ _ ha)) hC hK) hx k
theorem jiD (C:CO c sc) {t:Nat} {l:List Nat} {K:Bool->List Tm->Led->Prop} (hm:(S,AO.fd l)∈led) (k:K (!decide (t∈l)) B led):CM c (.nat t) .NotIn (.v (.ref S)) ls B led K:=by
 refine jcR C.G λ U U U G=>?_
 refine ⟨λ T s E x y Q hs ha hb hk=>?_⟩
 refine ha.natE λ tv=>?_
 refine hb.vE ?_
 refine hs.elim λ h tk m σ cl lr W O hT hB hL hC hK=>?_
 refine jam (hL.get hm) λ o h1 h2=>?_
 have hd:=h2.fdO
 refine jiV G.T.nolimit W (ja4 h1) hd (jet _ _ _) λ tk'=>?_
 rw [jco]
 exact hk _ _ _ _ _ (λ U h=>h) (.mk h tk' m σ cl lr W O hT hB hL hC hK) k
theorem St.drop {T:List (Addr×Obj)} {s:Shared} (h:St c ls B led T s) (hs:led'.Sublist led):St c ls B led' T s:=by
 cases h with | mk h tk m σ cl lr W O hT hB hL hC hK =>
 refine jam (hL.sub hs) λ lr1 q hL1=>?_
 exact .mk h tk m σ cl lr1 (W.sub ((q.append (Jd0 _)).append (Jd0 _))) O hT hB hL1 hC hK
noncomputable def DropK (K:KF):KF:=λ fl ls B led'=>∃ led,led.Sublist led'/\K fl ls B led
theorem DropK.intro {K:KF} {fl:Fl} {ls:Ls} {B:List Tm} {led led':Led} (h:led.Sublist led') (k:K fl ls B led):DropK K fl ls B led':=⟨led,h,k⟩
theorem jlB {b:List Stmt} {K:KF} (h:VS c b ls B led (DropK K)):VS c b ls B led K :=
 ⟨λ T s E Q hs hk=>h.run T s E Q hs λ fl f ls' B' led' T' s' hsub hs' hf hh_3=>jam hh_3 λ led2 hd hK=>hk fl f ls' B' led2 T' s' hsub (hs'.drop hd) hf hK⟩
set_option tactic.hygienic true in
theorem jo1 (C:CO c sc) {x:Str} {body:List Stmt} {I:Addr} {l:List Nat} {K:KF} (hll:l.length<=16000000) (hx:sc.names.lookup x=some .local) (J:Nat->Ls->List Tm->Led->Prop) (ls0:Ls) (hw:Wk ls0 ls) (h0:J 0 ls0 B led)
  (step:∀ i t ls B led,l.reverse[i]? = some t->J i ls B led->∀ z,VS c body ((x,.nat t)::ls) B (z::led) (jjA z (J (i+1)) K)) (fin:∀ ls B led,J l.length ls B led->K .next ls B led):FO c x body (.v (.ref I)) ls B ((I,.rvt l)::led) K:=by
 refine ⟨λ T s E y xp R hs ha hk=>?_⟩
 refine ha.vE ?_
 refine hs.elim λ h tk m σ cl lr W O hT hB hL hC hK=>?_
 cases hL with | cons ho hL =>
 rename_i lr0
 cases ho with | rvt _ t vs hm hi =>
 have W':Fx c.b₀ h c.env.locals m ((I,jkE t ((vs.length:Int) - 1))::((lr0++cl)++jak c.w.params 388 c.α σ)):=by refine rwr C.hl ?_; exact W
 have hlen:=jds hi
 have keep:∀ i m led,RawJ c T (J i) m led->(t,ja1 vs)∈led:=by
  rintro i m led ⟨σ1,cl1,lr1,T1,ls1,B1,led1,rfl,O1,hT1,hs1,hB1,hL1,hC1,hK1,j⟩
  exact jar hT1 (hs1 _ hm)
 refine jjV C.hh W' (jar hT hm) (by refine rwr hlen ?_; exact Ja0 ‹_› (by decide)) (λ i=>RawJ c T (J i)) (.mk σ cl _ T ls0 B led rfl O hT (λ U h=>h) hB hL hC (λ y b e=>hK y b (hw.at y b e)) h0) keep ?_ ?_ ((C.kind x).trans hx) C.hp
 ·rintro i v m₁ led₁ hv ⟨σ1,cl1,lr1,T1,ls1,B1,led1,he,O1,hT1,hs1,hB1,hL1,hC1,hK1,j⟩
  refine jdR (jbU (jf5 hi) hv) λ nz tv e_4 hn'=>?_
  subst e_4
  rw [List.getElem?_map] at hn'
  replace hn':=hn'
  refine jam (Jd4 hn') λ n hn e_5=>?_
  subst e_5
  exact jlp C hx (.nat n tv) he O1 hT1 hs1 hB1 hL1 hC1 hK1 (step i n _ _ _ hn j) hk
 ·rintro h' tk' m' led' Wn ⟨σ1,cl1,lr1,T1,ls1,B1,led1,rfl,O1,hT1,hs1,hB1,hL1,hC1,hK1,j⟩
  rw [C.hl] at Wn
  replace Wn:=Wn
  exact hk .next .next ls1 B1 led1 T1 _ hs1 (.mk h' tk' m' σ1 cl1 lr1 Wn O1 hT1 hB1 hL1 hC1 hK1) .next (fin _ _ _ (by refine rwl hlen ?_; exact j))
noncomputable def prA (p:Nat×Bool):AV:=.tup [.nat p.1,.bool p.2]
noncomputable abbrev jra (D F:Addr):Ls:=[("self",.bank),("done",.v (.ref D)),("found",.v (.ref F))]
noncomputable abbrev jmD (D F S:Addr):Ls:=[("self",.bank),("done",.v (.ref D)),("found",.v (.ref F)),("stack",.v (.ref S))]
theorem jqs {D F S:Addr} {a b:AV}:Wk (jmD D F S) (("t",a)::("is_open",b)::jmD D F S):=wk4 rfl rfl rfl rfl
inductive PoJ (B:List Tm) (roots:List Nat) (n:Nat) (fin:List Nat) (D F:Addr) (lx:Led) (i:Nat):Ls->List Tm->Led->Prop
 | mk (f:List Nat) (hF:jbb n B f (roots.drop i)=some fin) (h:f.length+(roots.drop i).length*n<=300000):PoJ B roots n fin D F lx i (jra D F) B ((D,.fd f)::(F,.lns f)::lx)
inductive PwJ (B:List Tm) (D F S:Addr) (z:Addr×AO) (lx:Led) (f':List Nat) (m h:Nat) (n':Nat):Ls->List Tm->Led->Prop
 | mk (g:List Nat) (st:List (Nat×Bool)) (hst:∀ p∈st,p.1<B.length) (hF:jcg n' B g st=some f') (hc:st.length+64*n'<=m) (hfn:g.length+n'<=h):PwJ B D F S z lx f' m h n' (jmD D F S) B ((S,.lst (st.reverse.map prA))::z::(D,.fd g)::(F,.lns g)::lx)
inductive PrJ (B:List Tm) (D F S:Addr) (lz:Led) (g ar:List Nat) (to:List (Nat×Bool)) (m:Nat) (i:Nat):Ls->List Tm->Led->Prop
 | mk (s2:List (Nat×Bool)) (hs:∀ p∈s2,p.1<B.length) (hp:jky g (ar.reverse.drop i) s2=to) (hl:s2.length<=m+i):PrJ B D F S lz g ar to m i (jmD D F S) B ((S,.lst (s2.reverse.map prA))::lz)
theorem jeF (p:Nat×Bool) (l:List (Nat×Bool)):(p::l).reverse.map prA=l.reverse.map prA++[prA p]:=by refine rwr List.reverse_cons ?_; refine rwr List.map_append ?_; rfl
theorem jir {b:Nat} {p:Nat×Bool} {l:List (Nat×Bool)} (h:p.1<b) (k:∀ q∈l,q.1<b):∀ q∈p::l,q.1<b:=λ q hq=>(Ja3.mp hq).elim (λ e=>e▸h) (k q)
theorem jfY {n:Nat} {f r fin:List Nat} {t:Nat} (h:jbb n B f (t::r)=some fin):∃ f',jcg n B f [(t,false)]=some f'/\jbb n B f' r=some fin:=by
 dsimp only [jbb] at h
 cases hq:jcg n B f [(t,false)] with
 | none=>rw [hq] at h; exact nomatch h
 | some f'=>rw [hq] at h; exact ja2 f' rfl h
theorem jb9 (C:CO c sc) (r:Rm c.A 2) {roots:List Nat} {n:Nat} {fin:List Nat} (wf:Wf B) (hA:∀ (i:Nat) (t:Tm),B[i]? = some t->t.args.length<=63) (hl:∀ t∈roots,t<B.length) (hrl:roots.length<=3) (hR:jbb n B [] roots=some fin) (hn:n<=100000)
  (k:K (.lns fin) B led):CF c 280 [.bank,.tup (roots.map .nat)] ls B led K:=by
 refine jaF ‹_› ‹_› (by k_is) (by k_is) (by exact λ U U=>rfl) (by decide +kernel) (by rfl) ?_
 intro c' x cl C' r'
 refine jaj C' 30 _ _ _ _ _ ?_
 refine jkV (l:=[]) rfl λ F D=>⟨rfl,?_⟩
 refine jc8 C' rfl rfl (PoJ B roots n fin D F (x::(led++cl))) _ (wk3 rfl rfl rfl) (.mk [] hR (by have:=Nat.mul_le_mul hrl hn; refine rwr List.drop_zero ?_; refine rwr List.length_nil ?_; rw [Nat.zero_add]; exact this)) ?_ ?_
 ·intro i v ls' B₁ led' hv h z
  refine jam (jbP hv) λ t ht e=>?_
  subst e
  refine h.rec λ f hF hn1=>?_
  clear h
  have htB:=hl t (List.mem_of_getElem? ht)
  rw [jbT ht] at hF hn1
  refine jam (jfY hF) λ f' hq hF=>?_
  have hnm:f.length+n+(roots.drop (i+1)).length*n<=300000:=by
   rw [List.length_cons,Nat.succ_mul] at hn1; exact Ja0 (Jb7 (by rw [Nat.add_assoc,Nat.add_comm n])) hn1
  clear hn1 hv hR hl hrl
  refine jlB (jaj C' 30 _ _ _ _ _ ?_)
  refine jnk λ S=>?_
  have hM:1+64*n<=10000000:=Ja0 (Jb3 (Jc2 64 hn) 1) (by decide)
  refine jcW C' (PwJ B D F S z (x::(led++cl)) f' (1+64*n) (f.length+n)) n _ (wk4 rfl rfl rfl rfl) (.mk f [(t,false)] (λ p hp=>by refine rwr (Ja2.mp hp) ?_; exact htB) hq (Jc4 _) (Jc4 _)) ?_
  intro n' ls' B₁ led' h
  refine h.rec λ g st hst hF2 hc hfn=>?_
  clear h
  have hgl:g.length<=300000:=Ja0 (Jb5 _ _) (Ja0 hfn (Ja0 (Jb5 _ _) hnm))
  refine jcb C' 20 _ _ _ _ (jc0 C' (.head _) (by refine rwr (show (st.reverse.map prA).length=st.length from by rw [Jc6,List.length_reverse]) ?_; exact Ja0 (Jb5 _ _) (Ja0 hc (Ja0 hM (by decide)))) ?_)
  cases n' with
  | zero=>exact nomatch (hF2:none=some f')
  | succ n' =>
  cases st with
  | nil =>
   obtain rfl:g=f':=Jb0 hF2
   refine DropK.intro (.cons _ (Jd0 _)) ?_
   exact ⟨_,_,wk3 rfl rfl rfl,rfl,.mk g hF (Ja0 (Jb4 (Ja0 (Jb5 _ _) hfn) _) hnm)⟩
  | cons p st =>
  obtain ⟨u,o⟩:=p
  refine jaR (by simp) ?_
  have hu:=hst _ (.head _)
  have hst':∀ p∈st,p.1<B.length:=λ p hp=>hst p (.tail _ hp)
  have hl2:(st.reverse.map prA).length=st.length:=by rw [Jc6,List.length_reverse]
  rw [List.length_cons] at hc
  replace hc:=hc
  refine jaj C' 30 _ _ _ _ _ ?_
  refine jma C' (.head _) (jkx C' (a:=prA (u,o)) (l:=st.reverse.map prA) (by refine rwr hl2 ?_; exact Ja0 (Nat.le_succ _) (Ja0 (Jb5 _ _) (Ja0 hc (Ja0 hM (by decide))))) (by rw [jeF]; exact .head) ?_)
  refine ⟨rfl,?_⟩
  dsimp only [jcg] at hF2
  refine jif C' (l:=g) (.tail _ (.tail _ (.head _))) ?_
  by_cases hin:u∈g
  ·rw [if_pos hin] at hF2
   refine jaR (dT hin) ?_
   exact ⟨_,jqs,n',Jd5 _,.mk g st hst' hF2 (jmY hc) (Jb6 hfn)⟩
  refine jaP (dF hin) ?_
  rw [if_neg hin] at hF2
  replace hF2:=hF2
  cases o with
  | true =>
   rw [if_pos rfl] at hF2
   replace hF2:=hF2
   have hi0:ins u g=g++[u]:=if_neg hin
   refine jf7 C' (Ja0 hgl (by decide)) (.tail (.tail .head)) ?_
   refine rwr hi0 ?_
   refine jdf C' (.inl ⟨g,.tail _ (.tail _ (.tail _ (.head _)))⟩) (jeb C' (Ja0 hgl (by decide)) (.tail (.tail (.tail .head))) ?_)
   exact ⟨_,jqs,n',Jd5 _,.mk (g++[u]) st hst' hF2 (jmY hc) (by refine rwr Jd3 ?_; exact Ja0 (Jb7 (Nat.add_right_comm g.length 1 n')) hfn)⟩
  | false =>
   rw [if_neg (by decide)] at hF2
   have hal:(jaa B u).length<=63:=by
    have hg:=List.getElem?_eq_getElem hu
    refine rwr (jai hg) ?_; exact hA u _ hg
   have hal2:(jaa B u).length<=16000000:=Ja0 hal (by decide)
   refine jdf C' (.inr ⟨_,.head _⟩) (jcX C' (by refine rwr hl2 ?_; exact Ja0 (show st.length<=10000000 from Ja0 (Nat.le_succ _) (Ja0 (Jb5 _ _) (Ja0 hc hM))) (by decide)) .head ?_)
   refine ⟨hu,?_⟩
   have h0:PrJ B D F S (z::(D,.fd g)::(F,.lns g)::x::(led++cl)) g (jaa B u) (jmG B g u++(u,true)::st) (st.length+1) 0 (jmD D F S) B ((S,.lst (st.reverse.map prA++[prA (u,true)]))::z::(D,.fd g)::(F,.lns g)::x::(led++cl)):=by
    rw [<- jeF]; exact .mk ((u,true)::st) (jir hu hst') (jfo g _ _) (Jc4 _)
   refine jiY C' (l:=jaa B u) hal2 λ I=>?_
   refine jo1 C' (l:=jaa B u) hal2 rfl (PrJ B D F S (z::(D,.fd g)::(F,.lns g)::x::(led++cl)) g (jaa B u) (jmG B g u++(u,true)::st) (st.length+1)) (jmD D F S) (wk4 rfl rfl rfl rfl) h0 ?_ ?_
   ·intro i t2 ls' B₁ led' ht2 h z2
    refine h.rec λ s2 hs2 hp hsl2=>?_
    rw [jbT ht2] at hp
    replace hp:jky g ((jaa B u).reverse.drop (i+1)) (if t2∈g then s2 else (t2,false)::s2)=_:=hp
    have hi2:i<(jaa B u).length:=List.length_reverse▸(Jc0 ht2).1
    refine jaj C' 30 _ _ _ _ _ ?_
    refine jiD C' (l:=g) (.tail _ (.tail _ (.tail _ (.head _)))) ?_
    by_cases hx:t2∈g
    ·rw [if_pos hx] at hp
     replace hp:=hp
     refine jaP (by refine rwr (dT hx) ?_; decide) ?_
     exact ⟨_,_,wk4 rfl rfl rfl rfl,rfl,.mk s2 hs2 hp (Jd8 hsl2)⟩
    ·rw [if_neg hx] at hp
     refine jaR (by refine rwr (decide_eq_false hx) ?_; rfl) ?_
     have hl3:(s2.reverse.map prA).length<=16000000:=by rw [Jc6]; refine rwr List.length_reverse ?_; exact Ja0 hsl2 (Ja0 (jpZ hc (Ja0 (Jb6 hi2) (Jd8 hal))) (Ja0 hM (by decide)))
     refine jdf C' (.inr ⟨_,.tail _ (.head _)⟩) (jcX C' hl3 (.tail .head) ?_)
     refine ⟨jmD D F S,_,wk4 rfl rfl rfl rfl,rfl,?_⟩
     refine rwr (show s2.reverse.map prA++[AV.tup [AV.nat t2,AV.bool false]]=_ from (jeF (t2,false) s2).symm) ?_
     exact .mk _ (jir (Jd1 (jaL wf (List.mem_reverse.mp (List.mem_of_getElem? ht2))) hu) hs2) hp (Jc1 hsl2)
   ·intro ls' B₁ led' h
    refine h.rec λ s2 hs2 hp hsl2=>?_
    rw [List.drop_of_length_le (Jb7 List.length_reverse)] at hp
    replace hp:s2=_:=hp
    exact ⟨_,wk4 rfl rfl rfl rfl,n',Jd5 _,.mk g s2 hs2 (hp▸hF2) (jqv hc hsl2 (Jd8 hal)) (Jb6 hfn)⟩
 ·intro ls' B₁ led' h
  refine h.rec λ f hF U=>?_
  rw [List.drop_of_length_le (by rw [Jc6]; exact Jc4 _)] at hF
  replace hF:=hF
  obtain rfl:f=fin:=Jb0 hF
  exact .list led (.cons _ (Jd0 _)) k
end
end
section
section
variable {c:WC} {sc:Scope} {ls:Ls} {B:List Tm} {led:Led} {K:KA}
theorem jfQ (C:CO c sc) (r:Rm c.A 2) {o:Op} {a:AV} {l:List Nat} (e:jfh a=some l) (ho:o≠.nil) (k:K (.nat (jhw B ⟨o,l,0⟩)) B led):CF c 224 [.bank,.str o.str,a,.nat 0,.nat 0] ls B led K:=by
 refine jcR C.G λ me mg mb G=>?_
 refine ⟨λ T s E vs Q hs has hk=>?_⟩
 refine has.consE λ U U h1 has=>?_
 refine has.consE λ U U h2 has=>?_
 refine has.consE λ U U h3 has=>?_
 refine has.consE λ U U h4 has=>?_
 refine has.consE λ U U h5 has=>?_
 refine has.nilE ?_
 refine h1.bankE ?_
 refine h2.strE λ U=>?_
 refine h4.natE λ U=>?_
 refine h5.natE λ U=>?_
 refine jci (jd1 e h3) λ x us e_1 hm hi=>?_
 subst e_1
 refine hs.elim λ h tk m σ cl lr W O hT hB hL hC hK=>?_
 exact jfP (t:=⟨o,l,0⟩) G r W O ho (jar hT hm) hi hB.1 λ h' tk' tn W'=>hk _ _ _ led T _ (λ U h=>h) (.mk h' tk' m σ cl lr W' O hT hB hL hC hK) (.nat _ _) k
end
end
section
theorem jmX (w:World) (x:Str) (t:Tok):(PySem.strKind prg w).is x (.str x t)=true:=by simp [PySem.strKind,Value.isStrOf]
theorem ji6 (c v v':Value):stored [(Str.ofString "cells",c),(Str.ofString "at",v)] (Str.ofString "at") v'=[(Str.ofString "cells",c),(Str.ofString "at",v')]:=by
 have h1:(Str.ofString "cells" = Str.ofString "at")=False:=by decide +kernel
 rfl
theorem joB (c v:Value):valueAt [(Str.ofString "cells",c),(Str.ofString "at",v)] (Str.ofString "at")=some v:=by
 have h1:(Str.ofString "cells" = Str.ofString "at")=False:=by decide +kernel
 rfl
theorem jjh (c v:Value):valueAt [(Str.ofString "cells",c),(Str.ofString "at",v)] (Str.ofString "cells")=some c:=rfl
theorem jjg {w:World}:(kk.heap_1 w.params).lookup 70=some (ja1 [.str (Str.ofString "true") 261,.str (Str.ofString "false") 262,.str (Str.ofString "num") 263,.str (Str.ofString "bvnum") 264]):=by k_is
theorem jkR {w:World}:nsIn (kk.heap_1 w.params) mainGlobals "VALUE_OPS" = some (some (.ref 70)):=by k_is
noncomputable def jhi (o:Op):Bool:=decide (o=.tru\/o=.fls)
section
variable {c:WC} {sc:Scope} {ls:Ls} {B:List Tm} {led led':Led} {K:KA} {S D Cl:Addr}
theorem jo2 (C:CO c sc) {x:Str} {p:Pos} {v:Value} (e:nsIn (kk.heap_1 c.w.params) mainGlobals x=some (some v)) (hn:sc.names.lookup x=some .globalImplicit) (k:K (.v v) B led):VE c (.Name x p) ls B led K:=by
 refine jcR C.G λ U U U G=>?_
 refine ⟨λ T s E Q hs hk=>?_⟩
 refine hs.elim λ h' tk m σ cl lr W O hT hB hL hC hK=>?_
 exact jf1 W G.X G.T e (hk _ v B led T _ (λ U h=>h) (.mk h' tk m σ cl lr W O hT hB hL hC hK) (.v v) k) C.hg C.fk ((C.kind x).trans hn) (C.db x _ hn)
theorem jmd (C:CO c sc) {o:Op} {K:Bool->List Tm->Led->Prop} (k:K (jhi o) B led):CM c (.str o.str) .In (.v (.ref 70)) ls B led K:=by
 refine jcR C.G λ U U U G=>?_
 refine ⟨λ T s E x y Q hs ha hb hk=>?_⟩
 refine ha.strE λ to=>?_
 refine hb.vE ?_
 refine hs.elim0 λ h tk m σ cl lr hs0 W O hT hB hL hC hK=>?_
 refine in_tupleAt (jdB o.str) ⟨_,(G.X.keeps W.C.stays) _ _ jjg,rfl,0,rfl⟩ (λ y hy=>?_) ?_
 ·simp only [List.mem_toArray,Ja3,Jb2,or_false] at hy
  rcases hy with rfl | rfl | rfl | rfl <;> exact jbR _ _
 ·have e:((#[Value.str (Str.ofString "true") 261,.str (Str.ofString "false") 262,.str (Str.ofString "num") 263,.str (Str.ofString "bvnum") 264]:Array Value).any (jdB o.str))=jhi o:=by
   refine rwr List.any_toArray ?_
   cases o <;> decide
  show Q (.bool (Array.any _ _)) _
  refine rwr e ?_
  exact hk _ _ _ _ _ (λ U h=>h) hs0 k
theorem jmn (C:CO c sc) (k:B.length<=16000000->K (.nat B.length) B led):BI c "len" [.bl 0] ls B led K:=by
 refine ⟨λ T s E vs Q hs has hk=>?_⟩
 refine has.consE λ U U h1 has=>?_
 refine has.nilE ?_
 cases h1
 refine hs.elim λ h tk m σ cl lr W O hT hB hL hC hK=>?_
 have hl:σ.opV.size=B.length:=O.nop
 refine jhA W (Ja6 _ (.tail _ (.tail _ (.tail _ (.tail _ (.tail _ (.head _)))))) ) (by refine rwr hl ?_; have:=hB.1; exact Jb1 ‹_› (by decide)) λ t tk'=>?_
 refine rwr hl ?_
 exact hk _ _ B led T _ (λ U h=>h) (.mk h tk' m σ cl lr W O hT hB hL hC hK) (.nat _ _) (k hB.1)
theorem jkj {a b:Nat} (hb:b<=65536) (k:K (.nat (a*b)) B led):BN c .Mult (.nat a) (.nat b) ls B led K:=by
 refine ⟨λ T s E x y Q hs ha hb' hk=>?_⟩
 refine ha.natE λ ta=>?_
 cases hb' with | nat _ tb =>
 refine hs.elim λ h tk m σ cl lr W O hT hB hL hC hK=>?_
 refine PySem.P.mul_int ?_ (IntMulOk.of_right (PySem.intBits_le_64 (Int.natCast_nonneg _) (by lia)))
 exact hk (.nat (a*b)) _ _ _ T _ (λ U h=>h) (.mk h _ m σ cl lr W O hT hB hL hC hK) (by refine rwr (show (a:Int)*(b:Int)=((a*b:Nat):Int) from (Int.natCast_mul a b).symm) ?_; exact .nat _ _) k
theorem jke {a b:Nat} (hb:0<b) (k:K (.nat (a % b)) B led):BN c .Mod (.nat a) (.nat b) ls B led K:=by
 refine ⟨λ T s E x y Q hs ha hb' hk=>?_⟩
 refine ha.natE λ ta=>?_
 cases hb' with | nat _ tb =>
 refine hs.elim λ h tk m σ cl lr W O hT hB hL hC hK=>?_
 refine mod_int' (by lia) ?_
 exact hk (.nat (a % b)) _ _ _ T _ (λ U h=>h) (.mk h _ m σ cl lr W O hT hB hL hC hK) (by refine rwr (Int.fmod_eq_emod_of_nonneg _ (by exact Int.natCast_nonneg _:(0:Int)<=b)) ?_; refine rwr (show ((a:Int) % (b:Int))=((a % b:Nat):Int) from rfl) ?_; exact .nat _ _) k
theorem jks {val sl:Expr} {l:List Nat} {n t:Nat} (hsl:jaY sl=true) (hm:(S,AO.lns l)∈led) (hx:l[n]? = some t) (hn:n<1000) (h:K (.nat t) B led):SU c val sl (.v (.ref S)) (.nat n) ls B led K:=by
 refine ⟨λ T s E u v Q hs ha hb hk=>?_⟩
 refine ha.vE ?_
 refine hb.natE λ t'=>?_
 refine hs.elim0 λ h' tk m σ cl lr hs0 W O hT hB hL hC hK=>?_
 refine jam (hL.get hm) λ o h1 h2=>?_
 revert h1
 refine h2.lnsE λ vs e hi h1=>?_
 have hlt:=(Jc0 hx).1
 refine jdR (jbU hi (List.getElem?_eq_getElem (by refine rwr (jds hi) ?_; exact hlt))) λ y ty e1 e2=>?_
 rw [List.getElem?_map,hx] at e2
 obtain rfl:=Jb0 e2
 exact jdx (i:=n) W (ja4 h1) (by simpa using (List.getElem?_eq_getElem _).trans (congrArg some e1)) (by lia) (hk _ _ _ _ T _ (λ U h=>h) hs0 (.nat _ _) h) (jbC hsl)
theorem jid {g:WG} {T:List (Addr×Obj)} {l:List AV} {vs:List Value} {n:Nat} {a:AV} (h:Hass g T l vs):l[n]? = some a->∃ v,vs[n]? = some v/\Has g T a v:=by
 revert n
 refine jcp (P:=λ l vs=>∀ {n:Nat},l[n]? = some a->∃ v,vs[n]? = some v/\Has g T a v) (λ h=>nomatch h) (λ {b v l vs} h _ ih n=>?_) h
 exact Nat.rec (motive:=λ n=>(b::l)[n]? = some a->∃ u,(v::vs)[n]? = some u/\Has g T a u) (λ e=>⟨v,rfl,Jb0 e▸h⟩) (λ n U=>ih) n
theorem jbQ {val sl:Expr} {l:List AV} {n:Nat} {a:AV} (hsl:jaY sl=true) (hm:(S,AO.lst l)∈led) (hx:l[n]? = some a) (hn:n<1000) (h:K a B led):SU c val sl (.v (.ref S)) (.nat n) ls B led K:=by
 refine ⟨λ T s E u v Q hs ha hb hk=>?_⟩
 refine ha.vE ?_
 refine hb.natE λ t'=>?_
 refine hs.elim0 λ h' tk m σ cl lr hs0 W O hT hB hL hC hK=>?_
 refine jam (hL.get hm) λ o h1 h2=>?_
 revert h1
 refine h2.lstE λ vs e hi h1=>?_
 refine jam (jid hi hx) λ v e1 e2=>?_
 exact jdx (i:=n) W (ja4 h1) (by simpa using e1) (by lia) (hk _ _ _ _ T _ (λ U h=>h) hs0 (by subst hT; exact e2) h) (jbC hsl)
theorem jey {val sl:Expr} {l:List AV} {n:Nat} {a:AV} (hsl:jaY sl=true) (hx:l[n]? = some a) (hn:n<1000) (h:K a B led):SU c val sl (.lst l) (.nat n) ls B led K:=by
 refine ⟨λ T s E u v Q hs ha hb hk=>?_⟩
 refine ha.lstE λ x vs e hm hi=>?_
 refine hb.natE λ t'=>?_
 refine hs.elim0 λ h' tk m σ cl lr hs0 W O hT hB hL hC hK=>?_
 refine jam (jid hi hx) λ v e1 e2=>?_
 exact jdx (i:=n) W (jar hT hm) (by simpa using e1) (by lia) (hk _ _ _ _ T _ (λ U h=>h) hs0 e2 h) (jbC hsl)
theorem jow {val sl:Expr} {aT:Nat} (hm:(D,AO.tub Cl aT)∈led) (k:K (.nat aT) B led) (hsl:jaY sl=true):SU c val sl (.v (.ref D)) (.str "at") ls B led K:=by
 refine ⟨λ T s E u v Q hs ha hb hk=>?_⟩
 refine ha.vE ?_
 refine hb.strE λ t'=>?_
 refine hs.elim λ h' tk m σ cl lr W O hT' hB hL hC hK=>?_
 refine jam (hL.get hm) λ o h1 h2=>?_
 refine jbh h2.tubO λ t0 hT=>?_
 exact jiU W (ja4 h1) hT (jmX c.w _ _) (joB _ _) (λ tk'=>hk _ _ _ _ T _ (λ U h=>h) (.mk h' tk' m σ cl lr W O hT' hB hL hC hK) (.nat aT t0) k) (jbC hsl)
theorem jfy {val sl:Expr} {aT:Nat} (hm:(D,AO.tub Cl aT)∈led) (k:K (.v (.ref Cl)) B led) (hsl:jaY sl=true):SU c val sl (.v (.ref D)) (.str "cells") ls B led K:=by
 refine ⟨λ T s E u v Q hs ha hb hk=>?_⟩
 refine ha.vE ?_
 refine hb.strE λ t'=>?_
 refine hs.elim λ h' tk m σ cl lr W O hT' hB hL hC hK=>?_
 refine jam (hL.get hm) λ o h1 h2=>?_
 refine jbh h2.tubO λ t0 hT=>?_
 exact jiU W (ja4 h1) hT (jmX c.w _ _) (jjh _ _) (λ tk'=>hk _ _ _ _ T _ (λ U h=>h) (.mk h' tk' m σ cl lr W O hT' hB hL hC hK) (.v _) k) (jbC hsl)
theorem jm5 {aT n:Nat} {K:List Tm->Led->Prop} (p:PtA D (.tub Cl aT) (.tub Cl n) led led') (k:K B led'):SI c (.v (.ref D)) (.str "at") (.nat n) ls B led K:=by
 refine ⟨λ T s E x y z Q hs ha hb hc hk=>?_⟩
 refine ha.vE ?_
 refine hb.strE λ tv=>?_
 refine hc.natE λ tn=>?_
 refine hs.elim λ h tk m σ cl lr W O hT' hB hL hC hK=>?_
 refine jci (hL.pt p) λ o f h1 h2 h3=>?_
 refine jbh h1.tubO λ t0 hT=>?_
 refine jmN W (λ o'=>((h2 o').appR cl).appR _) hT (jmX c.w _ _) (by simp) λ h' o' tk' W' hd'=>?_
 rw [ji6] at hd'
 exact hk _ _ _ _ (λ U h=>h) (.mk h' tk' m σ cl _ W' O hT' hB (h3 _ T (λ U h=>h) (.tub _ _ _ _ hd')) hC hK) k
theorem jiN (C:CO c sc) (r:Rm c.A 3) {t n:Nat} {fin:List Nat} (wf:Wf B) (hA:∀ (i:Nat) (t:Tm),B[i]? = some t->t.args.length<=63) (hl:t<B.length) (hR:jbb n B [] [t]=some fin) (hn:n<=100000)
  (k:K (.lns fin) B led):CF c 273 [.bank,.nat t] ls B led K:=by
 refine jaF ‹_› ‹_› (by k_is) (by k_is) (by exact λ U U=>rfl) (by decide +kernel) (by rfl) ?_
 intro c' x cl C' r'
 refine jaj C' 30 _ _ _ _ _ ?_
 exact jb9 C' (roots:=[t]) r' wf hA (λ u hu=>by refine rwr (Ja2.mp hu) ?_; exact hl) (by show 1<=3; decide) hR hn (.end0 k)
theorem jhj (C:CO c sc) (r:Rm c.A 1) {t:Nat} (ht:t<B.length) (k:K (.bool (jhi (jad B t))) B led):CF c 231 [.bank,.nat t] ls B led K:=by
 refine jaF ‹_› ‹_› (by k_is) (by k_is) (by exact λ U U=>rfl) (by decide +kernel) (by rfl) ?_
 intro c' x cl C' r'
 refine jaj C' 30 _ _ _ _ _ ⟨ht,?_⟩
 exact jo2 C' jkR rfl (jmd C' (.end0 k))
theorem jlk (C:CO c sc) (r:Rm c.A 1) (hb:0<B.length) (k:K (.nat (B.length - 1)) B led):CF c 210 [.bank] ls B led K:=by
 refine jaF ‹_› ‹_› (by k_is) (by k_is) (by exact λ U=>rfl) (by decide +kernel) (by rfl) ?_
 intro c' x cl C' r'
 refine jaj C' 30 _ _ _ _ _ ?_
 exact jmn C' λ U=>⟨hb,.end0 k⟩
theorem jd4 (C:CO c sc) (r:Rm c.A 1) {aT many:Nat} {cells:List Nat} (p:PtA D (.tub Cl aT) (.tub Cl (aT+1)) led led') (hc:(Cl,AO.lns cells)∈led') (hl:cells.length<=100) (hat:aT<=999) (hm:0<many)
  (k:∀ v,v<many->K (.nat v) B led'):CF c 524 [.v (.ref D),.nat many] ls B led K:=by
 refine jaF ‹_› ‹_› (by k_is) (by k_is) (by exact λ U U=>rfl) (by decide +kernel) (by rfl) ?_
 intro c' x cl C' r'
 refine jaj C' 30 _ _ _ _ _ ?_
 refine jow (aT:=aT) (.tail _ (Ja7 _ p.mem)) ?_ rfl
 refine jm5 (.tail (p.app cl)) ?_
 refine jfy (.tail _ (Ja7 _ p.mem')) ?_ rfl
 refine jfV C' (l:=cells) (.tail _ (Ja7 _ hc)) (Ja0 ‹_› (by decide)) ?_
 refine Jc8 (Jc9 (aT<cells.length)) (λ hlt=>?_) λ hlt=>?_
 ·refine jaR (dT hlt) ?_
  refine jfy (.tail _ (Ja7 _ p.mem')) ?_ rfl
  refine jks rfl (.tail _ (Ja7 _ hc)) (List.getElem?_eq_getElem hlt) (Nat.lt_succ_of_le ‹_›) ?_
  exact jke hm (.end0 (k _ (Nat.mod_lt _ hm)))
 ·refine jaP (dF hlt) ?_
  refine jkj (Ja0 ‹_› (by decide)) (jkj (Ja0 ‹_› (by decide)) (jkj (Ja0 ‹_› (by decide)) ?_))
  exact jke (by decide) (jke hm (.end0 (k _ (Nat.mod_lt _ hm))))
end
end
section
noncomputable abbrev prN (p:Nat×Nat):AV:=.tup [.nat p.1,.nat p.2]
noncomputable def jgg (B:List Tm) (pool:List (Nat×Nat)) (c o:Nat×Nat) (p:Nat×Nat) (B':List Tm):Prop :=
 (p=(1,65535)/\B'=B)\/(p=(2,0)/\B'=B)\/(p=c/\B'=B)\/(∃ q,(q=c\/q=o)/\p=((jab B q.1).1,65535 - q.2)/\B'=(jab B q.1).2)\/(p∈pool/\B'=B)
structure Own (D Cl Pl:Addr) (cells:List Nat) (pool:List (Nat×Nat)) (f:Nat->Led):Prop where
 p:∀ a,PtA D (.tub Cl a) (.tub Cl (a+1)) (f a) (f (a+1))
 c:∀ a,(Cl,AO.lns cells)∈f a
 l:∀ a,(Pl,AO.lst (pool.map prN))∈f a
theorem Own.app {D Cl Pl:Addr} {cells:List Nat} {pool:List (Nat×Nat)} {f:Nat->Led} (h:Own D Cl Pl cells pool f) (x:Addr×AO) (r:Led):Own D Cl Pl cells pool (λ a=>x::(f a++r)) :=
 ⟨λ a=>.tail ((h.p a).app r),λ a=>.tail _ (Ja7 _ (h.c a)),λ a=>.tail _ (Ja7 _ (h.l a))⟩
section
variable {c:WC} {sc:Scope} {ls:Ls} {B:List Tm} {led led':Led} {K:KA} {D Cl Pl:Addr}
theorem jgn (C:CO c sc) (r:Rm c.A 5) {aT:Nat} {cells:List Nat} {pool:List (Nat×Nat)} {f:Nat->Led} {q o:Nat×Nat} (hf:Own D Cl Pl cells pool f) (wf:Wf B) (hb:B.length<=15000000) (hl:cells.length<=100) (hat:aT<=900) (hpl:0<pool.length/\pool.length<=100) (lq:q.1<B.length) (lo:o.1<B.length)
  (wq:q.2<=65535) (wo:o.2<=65535) (k:∀ aT' p B',aT'<=aT+2->jgg B pool q o p B'->K (prN p) B' (f aT')):CF c 541 [.v (.ref D),.bank,.v (.ref Pl),prN q,prN o] ls B (f aT) K:=by
 refine jaF ‹_› ‹_› (by k_is) (by k_is) (by exact λ U U U U U=>rfl) (by decide +kernel) (by rfl) ?_
 intro c' x cl C' r'
 have r1:Rm c'.A 1:=r'.le (by decide)
 have hf':=hf.app x cl
 refine jaj C' 30 _ _ _ _ _ ?_
 refine jd4 C' r1 (hf'.p aT) (hf'.c _) hl (Ja0 ‹_› (by decide)) (by decide) λ way hw=>?_
 by_cases h2:way<2
 ·refine jaR (dT h2) (jnt C' r1 ?_)
  refine ⟨Nat.le_of_lt_succ h2,jkj (Ja0 (Nat.sub_le _ _) (by decide)) ?_⟩
  obtain rfl | rfl:way=0\/way=1:=by lia
  ·exact .end0 (k _ (1,65535) _ (Jb3 ‹_› _) (.inl ⟨rfl,rfl⟩))
  ·exact .end0 (k _ (2,0) _ (by lia) (.inr (.inl ⟨rfl,rfl⟩)))
 refine jaP (dF h2) ?_
 by_cases h3:way=2
 ·exact jaR (dT h3) (.end0 (k _ q _ (by lia) (.inr (.inr (.inl ⟨rfl,rfl⟩)))))
 refine jaP (dF h3) ?_
 by_cases h6:way<6
 ·have hx:=jag
  have key:∀ s:Nat×Nat,(s=q\/s=o)->s.1<B.length->(jab B s.1).2.length<=16000000:=λ s U hs=>by
   have:=jaK B s.1; exact upN ‹_› ‹_› (by decide)
  refine jaR (dT h6) ?_
  by_cases h4:way=3
  ·refine jaR (dT h4) ⟨rfl,?_⟩
   refine jeD C' (r'.le (by decide)) wf lq (key q (.inl rfl) lq) ⟨wq,?_⟩
   exact .end0 (k _ (_,_) _ (by lia) (.inr (.inr (.inr (.inl ⟨q,.inl rfl,rfl,rfl⟩)))))
  ·refine jaP (dF h4) ⟨rfl,?_⟩
   refine jeD C' (r'.le (by decide)) wf lo (key o (.inr rfl) lo) ⟨wo,?_⟩
   exact .end0 (k _ (_,_) _ (by lia) (.inr (.inr (.inr (.inl ⟨o,.inr rfl,rfl,rfl⟩)))))
 ·refine jaP (dF h6) ?_
  refine jc0 C' (hf'.l _) (by rw [Jc6]; lia) ?_
  refine jd4 C' r1 (hf'.p _) (hf'.c _) hl (Jb1 ‹_› (by decide)) (by rw [Jc6]; exact hpl.1) λ i hi=>?_
  rw [Jc6] at hi
  replace hi:=hi
  refine jbQ rfl (hf'.l _) (a:=prN pool[i]) (by refine rwr (List.getElem?_map) ?_; refine rwr (List.getElem?_eq_getElem hi) ?_; rfl) (by lia) ?_
  exact .end0 (k _ _ _ (Jc4 _) (.inr (.inr (.inr (.inr ⟨List.getElem_mem _,rfl⟩)))))
end
end
section
theorem jeB {a:Nat} {b:Nat} {l:List (Nat×Nat)} (t:Nat):((a,b)::l).lookup t=if t=a then some b else l.lookup t:=by
 refine rwr List.lookup_cons ?_
 by_cases h:t=a
 ·refine rwr (if_pos h) ?_
  refine rwr (beq_iff_eq.mpr h) ?_
  rfl
 ·refine rwr (if_neg h) ?_
  refine rwr (beq_eq_false_iff_ne.mpr h) ?_
  rfl
theorem joy {k:Int} {v:Value} {kvs:List (Int×Value)}:valueAt ((k,v)::kvs) k=some v:=by
 unfold valueAt; rw [List.find?_cons_of_pos (by exact Jd6 rfl)]; rfl
theorem jlr {n t:Nat} {v:Value} {kvs:List (Int×Value)} (e:¬ t=n):valueAt (((n:Int),v)::kvs) (t:Int)=valueAt kvs (t:Int):=by
 unfold valueAt; rw [List.find?_cons_of_neg]; exact λ q=>e (Int.ofNat.inj (of_decide_eq_true q)).symm
theorem DnR.at {kvs:List (Int×Value)} {l:List (Nat×Nat)} (hr:DnR kvs l) {t m:Nat}:l.lookup t=some m->∃ tk,valueAt kvs (t:Int)=some (.int m tk):=by
 induction hr with
 | nil=>exact λ h=>nomatch h
 | cons n m' tk r ih =>
  intro h
  rw [jeB] at h
  refine ith h (λ e h=>?_) λ e h=>jbh (ih h) λ tk2 h2=>⟨tk2,(jlr e).trans h2⟩
  rw [e,<- Jb0 h]; exact ⟨tk,joy⟩
theorem DnR.no {kvs:List (Int×Value)} {l:List (Nat×Nat)} (hr:DnR kvs l) {t:Nat}:l.lookup t=none->valueAt kvs (t:Int)=none:=by
 induction hr with
 | nil=>exact λ h=>rfl
 | cons n m tk r ih =>
  intro h
  rw [jeB] at h
  exact ith h (λ e h=>nomatch h) λ e h=>(jlr e).trans (ih h)
theorem DnR.isS {kvs:List (Int×Value)} {l:List (Nat×Nat)} (h:DnR kvs l) (t:Nat):(valueAt kvs (t:Int)).isSome=(l.lookup t).isSome:=by
 cases e:l.lookup t with
 | none=>refine rwr (h.no e) ?_; rfl
 | some m =>
  obtain ⟨tk,h2⟩:=h.at e
  refine rwr h2 ?_; rfl
theorem DnR.len {kvs:List (Int×Value)} {l:List (Nat×Nat)} (h:DnR kvs l):kvs.length=l.length:=by
 induction h with
 | nil=>rfl
 | cons _ _ _ _ ih=>refine rwr List.length_cons ?_; refine rwr List.length_cons ?_; refine rwr ih ?_; rfl
noncomputable def putN (l:List (Nat×Nat)) (t m:Nat):List (Nat×Nat):=if l.any (λ p=>p.1=t) then l.map (λ p=>if p.1=t then (p.1,m) else p) else l++[(t,m)]
theorem DnR.put {kvs:List (Int×Value)} {l:List (Nat×Nat)} (h:DnR kvs l) (t m:Nat) (tk:Tok):DnR (stored kvs (t:Int) (.int m tk)) (putN l t m):=by
 unfold stored putN
 have ha:kvs.any (λ kv=>kv.1=(t:Int))=l.any (λ p=>p.1=t):=by
  induction h with
  | nil=>rfl
  | cons n m' tk' r ih =>
   refine rwr List.any_cons ?_
   refine rwr List.any_cons ?_
   refine rwr ih ?_
   congr 1
   exact decide_eq_decide.mpr (by lia)
 refine rwr ha ?_
 clear ha
 split <;> rename_i hh <;> clear hh
 ·induction h with
  | nil=>exact .nil
  | cons n m' tk' r ih =>
   refine rwr Ja8 ?_
   refine rwr Ja8 ?_
   by_cases e:n=t
   ·subst e
    refine rwr (if_pos rfl) ?_
    refine rwr (if_pos rfl) ?_
    exact .cons _ _ _ ih
   ·refine rwr (if_neg (by lia)) ?_
    refine rwr (if_neg e) ?_
    exact .cons _ _ _ ih
 ·induction h with
  | nil=>exact .cons _ _ _ .nil
  | cons n m' tk' r ih=>exact .cons _ _ _ ih
section
variable {c:WC} {sc scope:Scope} {ls:Ls} {B:List Tm} {led led':Led} {K:KA} {S D Cl:Addr} {l:List (Nat×Nat)}
theorem jem {val sl:Expr} {t m:Nat} (hsl:jaY sl=true) (hm:(S,AO.dn l)∈led) (hx:l.lookup t=some m) (h:K (.nat m) B led):SU c val sl (.v (.ref S)) (.nat t) ls B led K:=by
 refine ⟨λ T s E u v Q hs ha hb hk=>?_⟩
 refine ha.vE ?_
 refine hb.natE λ t'=>?_
 refine hs.elim λ h' tk m σ cl lr W O hT hB hL hC hK=>?_
 refine jam (hL.get hm) λ o h1 h2=>?_
 refine jam h2.dnO λ kvs hd hr=>?_
 obtain ⟨t0,hv⟩:=hr.at hx
 exact jiU W (ja4 h1) hd (jet c.w _ _) hv (λ tk'=>hk _ _ _ _ T _ (λ U h=>h) (.mk h' tk' m σ cl lr W O hT hB hL hC hK) (.nat _ t0) h) (jbC hsl)
theorem jpr (C:CO c sc) {t:Nat} {K:Bool->List Tm->Led->Prop} (hm:(S,AO.dn l)∈led) (k:K ((l.lookup t).isSome) B led):CM c (.nat t) .In (.v (.ref S)) ls B led K:=by
 refine jcR C.G λ U U U G=>?_
 refine ⟨λ T s E x y Q hs ha hb hk=>?_⟩
 refine ha.natE λ tv=>?_
 refine hb.vE ?_
 refine hs.elim λ h tk m σ cl lr W O hT hB hL hC hK=>?_
 refine jam (hL.get hm) λ o h1 h2=>?_
 refine jam h2.dnO λ kvs hd hr=>?_
 refine jpP G.T.nolimit W (ja4 h1) hd (jet _ _ _) λ tk'=>?_
 rw [hr.isS]
 exact hk _ _ _ _ _ (λ U h=>h) (.mk h tk' m σ cl lr W O hT hB hL hC hK) k
theorem jcQ {t n:Nat} {K:List Tm->Led->Prop} (hl:l.length<=16000000) (p:PtA S (.dn l) (.dn (putN l t n)) led led') (k:K B led'):SI c (.v (.ref S)) (.nat t) (.nat n) ls B led K:=by
 refine ⟨λ T s E x y z Q hs ha hb hc hk=>?_⟩
 refine ha.vE ?_
 refine hb.natE λ tv=>?_
 refine hc.natE λ tn=>?_
 refine hs.elim λ h tk m σ cl lr W O hT hB hL hC hK=>?_
 refine jci (hL.pt p) λ o f h1 h2 h3=>?_
 refine jam h1.dnO λ kvs hd hr=>?_
 refine jmN W (λ o'=>((h2 o').appR cl).appR _) hd (jet _ _ _) (by refine rwr hr.len ?_; exact Ja0 ‹_› (by decide)) λ h' o' tk' W' hd'=>?_
 exact hk _ _ _ _ (λ U h=>h) (.mk h' tk' m σ cl _ W' O hT hB (h3 _ T (λ U h=>h) (.dn _ _ _ hd' (hr.put _ _ _))) hC hK) k
theorem jlV (C:CO c sc) (hm:(D,AO.dn l)∈led) (hl:l.length<=16000000) (k:∀ S,K (.v (.ref S)) B ((S,.dn l)::led)):TY c "dict" [.v (.ref D)] ls B led K:=by
 refine jcR C.G λ U U U G=>?_
 refine ⟨λ T s E vs Q hs has hk=>?_⟩
 refine has.consE λ U U h1 has=>?_
 refine has.nilE ?_
 refine h1.vE ?_
 refine hs.elim λ h tk m σ cl lr W O hT hB hL hC hK=>?_
 refine jam (hL.get hm) λ o h1 h2=>?_
 refine jam h2.dnO λ kvs hd hr=>?_
 refine kt_call_dict (s:=⟨h,_,_,tk,_⟩) (jfl G.T.nolimit W.C (ja4 h1)) (dictAt W.C (ja4 h1) hd) (by refine rwr hr.len ?_; show _<=16777216; exact Ja0 ‹_› (by decide)) λ h' hD hs=>?_
 refine jam (Heap.dictOf_iff.mp hD) λ o' ho' hd'=>?_
 exact hk _ _ _ _ _ _ (λ U h=>h) (St.own (h':=h') (tk':=tk) (ao:=.dn l) ((W.push { cls:=.type "dict",data:=.dict #[] }).put (.head (o':=o')) hs ho') O hT hB hL hC hK (.dn l o' kvs hd' hr)) (.v _) (k _)
theorem VE.mono {e:Expr} {K K':KA} (h:VE c e ls B led K) (m:∀ a B led,K a B led->K' a B led):VE c e ls B led K':=⟨λ T s E Q hs hk=>h.run T s E Q hs λ a v B' led' T' s' h1 h2 h3 h4=>hk a v B' led' T' s' h1 h2 h3 (m _ _ _ h4)⟩
theorem TurnP.mono {ifs:List Expr} {elt:Expr} {P P':Option AV->List Tm->Led->Prop} (h:TurnP c ifs elt ls B led P) (m:∀ o B led,P o B led->P' o B led):TurnP c ifs elt ls B led P':=by
 match ifs,h with
 | [],h=>exact VE.mono h λ a B led=>m _ B led
 | [e],h =>
  refine ⟨λ T s E Q hs hk=>VT.run h T s E Q hs λ b B' led' T' s' h1 h2 h3=>hk b B' led' T' s' h1 h2 ?_⟩
  cases b with
  | true=>exact VE.mono h3 λ a B led=>m _ B led
  | false=>exact m _ _ _ h3
 | _::_::_,h=>exact h.elim
theorem jd7 (C:CO c sc) {elt t iter:Expr} {ifs:List Expr} {pos:Pos} {a:AV} {items:List AV} {tg:Tg} (ht:jcJ t=some tg) (he:jdY a=some items) (ho:jdl t=true\/∃ l,a=.lst l) (hn:items.length<=16000000) (chk:jhJ scope sc tg=true) (g:AV->Option AV)
  (turn:∀ c':WC,CO c' (rel scope sc)->(∀ k,Rm c.A k->Rm c'.A k)->∀ v∈items,∀ pre,∃ l,jhG tg v=some l/\TurnP c' ifs elt (l++cap scope ls) B (pre++led) λ o B' led'=>o=g v/\B'=B/\led'=pre++led)
  {res:AV} (hres:mkL (items.filterMap g)=res) (fin:K res B led):CP c elt t iter ifs scope pos a ls B led K:=by
 refine jlw C ht he ho hn chk (λ i ys B' led'=>ys=(items.take i).filterMap g/\B'=B/\led'=led) ⟨by simp,rfl,rfl⟩ ?_ ?_ ?_
 ·rintro i ys B' led' ⟨rfl,-,-⟩
  exact Ja0 (List.length_filterMap_le _ _) (by refine rwr List.length_take ?_; exact Nat.min_le_left _ _)
 ·rintro c' C' hr i v ys B' led' pre hv ⟨rfl,rfl,rfl⟩
  refine jam (turn c' C' hr v (List.mem_of_getElem? hv) pre) λ l h1 h2=>?_
  have hi:=(Jc0 hv).1
  have et:(items.take (i+1)).filterMap g=more ((items.take i).filterMap g) (g v):=by
   refine rwr List.take_add_one ?_
   refine rwr hv ?_
   refine rwr List.filterMap_append ?_
   cases h:g v <;> simp [h,more]
  exact ja2 l h1 (h2.mono λ o B' led' hh_11=>jbq hh_11 λ q1 q2 q3=>⟨_,q3,by rw [q1,et],q2,rfl⟩)
 ·rintro ys B' led' ⟨rfl,rfl,rfl⟩
  refine rwr List.take_length ?_; refine rwr hres ?_; exact fin
end
end
section
theorem jff {H:List (Nat×Nat)} {t:Nat} (h:H.lookup t=none):∀ p∈H,¬ p.1=t:=by
 induction H with
 | nil=>exact λ U hp=>(absurd hp Jb2)
 | cons q H ih =>
  rw [jeB] at h
  refine Jc8 (Jc9 (t=q.1)) (λ e=>?_) λ e=>?_
  ·rw [if_pos e] at h; replace h:=h; exact nomatch h
  ·rw [if_neg e] at h
   replace h:=h
   intro p hp
   refine Jc8 (Ja3.mp hp) (λ e_1=>?_) λ hp=>?_
   ·subst e_1; exact λ e2=>e e2.symm
   ·exact ih h p hp
theorem jcu {H:List (Nat×Nat)} {t m:Nat} (h:H.lookup t=none):putN H t m=H++[(t,m)]:=by
 unfold putN
 rw [if_neg]
 intro e
 refine jam (List.any_eq_true.mp e) λ p hp e=>?_
 exact jff h p hp (of_decide_eq_true e)
theorem jiS {H:List (Nat×Nat)} {t m n:Nat} (h:H.lookup t=none):putN (H++[(t,n)]) t m=H++[(t,m)]:=by
 unfold putN
 refine rwr (if_pos (List.any_eq_true.mpr ⟨(t,n),Ja6 _ (.head _),by simp⟩)) ?_
 refine rwr List.map_append ?_
 congr 1
 ·conv=>rhs; rw [<- List.map_id H]
  refine List.map_congr_left λ p hp=>?_
  refine rwr (if_neg (jff h p hp)) ?_; rfl
 ·simp
theorem jfe {H:List (Nat×Nat)} {t n:Nat} (h:H.lookup t=none):(H++[(t,n)]).lookup t=some n:=by
 refine rwr List.lookup_append ?_; refine rwr h ?_; simp
theorem jhe {f:Nat->Nat->Nat} {a:Nat} {l:List Nat} {i x:Nat} (h:l[i]? = some x):(l.take (i+1)).foldl f a=f ((l.take i).foldl f a) x:=by
 refine rwr List.take_add_one ?_; refine rwr h ?_; refine rwr List.foldl_append ?_; rfl
theorem jdN {α β γ:Type} {f:α->β} {g:β->Option γ} {k:α->γ} (h:∀ x,g (f x)=some (k x)) (l:List α):(l.map f).filterMap g=l.map k:=by
 refine rwr List.filterMap_map ?_
 refine rwr (show g ∘ f=some ∘ k from funext h) ?_
 refine rwl List.filterMap_eq_map ?_
 rfl
theorem jbv {L:List Nat} {j:Nat} (h:j<L.length):L[j]? = some (L.getD j 0):=by
 refine rwr (List.getD_eq_getElem?_getD) ?_; refine rwr (List.getElem?_eq_getElem h) ?_; rfl
theorem jl8 {L:List Nat} (h:∀ m∈L,m<=65535) (j:Nat):L.getD j 0<=65535:=by
 by_cases hj:j<L.length
 ·exact h _ (List.mem_of_getElem? (jbv hj))
 ·refine rwr (List.getD_eq_getElem?_getD) ?_; refine rwr (List.getElem?_eq_none (Jd2 ‹_›)) ?_; decide
noncomputable def jjC (B:List Tm) (H:List (Nat×Nat)) (t:Nat):List Nat:=(jaa B t).map λ s=>(H.lookup s).getD 0
noncomputable def jby (B:List Tm):List (Nat×Nat)->List Nat->Prop
 | _,[]=>True
 | H,t::r=>t<B.length/\(∀ s∈jaa B t,(H.lookup s).isSome)/\(∀ m∈jjC B H t,m<=65535)/\(if (H.lookup t).isSome then jby B H r else jad B t≠.app/\jbL (jad B t) (jaa B t).length=true/\jad B t≠.imp/\jad B t≠.nil/\jby B (H++[(t,opM (jad B t) (jjC B H t))]) r)
section
variable {c:WC} {sc:Scope} {ls:Ls} {B:List Tm} {led led':Led} {K:KA} {D Cl Pl Cd:Addr}
noncomputable abbrev joR (t:Nat) (Hd:Addr):Ls:=[("bank",.bank),("t",.nat t),("held",.v (.ref Hd))]
noncomputable abbrev jmQ (t:Nat) (Hd:Addr) (one:Nat):Ls:=[("bank",.bank),("t",.nat t),("held",.v (.ref Hd)),("one",.nat one)]
inductive ReJ (B:List Tm) (t:Nat) (Hd:Addr) (parts:List Nat) (F:List (Nat×Nat)) (N:Nat) (lx:Led) (i:Nat):Ls->List Tm->Led->Prop
 | mk (H:List (Nat×Nat)) (hF:jbJ B H (parts.drop i)=F) (hO:jby B H (parts.drop i)) (hl:H.length<=N+i):ReJ B t Hd parts F N lx i (joR t Hd) B ((Hd,.dn H)::lx)
inductive AcJ (B:List Tm) (t:Nat) (Hd:Addr) (one:Nat) (H:List (Nat×Nat)) (L:List Nat) (f:Nat->Nat->Nat) (a:Nat) (z:Addr×AO) (lx:Led) (j:Nat):Ls->List Tm->Led->Prop
 | mk:AcJ B t Hd one H L f a z lx j (jmQ t Hd one) B (z::(Hd,.dn (H++[(one,(L.take j).foldl f a)]))::lx)
theorem AcJ.next {t:Nat} {Hd:Addr} {one:Nat} {H:List (Nat×Nat)} {L:List Nat} {f:Nat->Nat->Nat} {a:Nat} {z:Addr×AO} {lx:Led} {j y:Nat} (h:L[j]? = some y):AcJ B t Hd one H L f a z lx (j+1) (jmQ t Hd one) B (z::(Hd,.dn (H++[(one,f ((L.take j).foldl f a) y)]))::lx):=by
 refine rwl (jhe (f:=f) (a:=a) h) ?_; exact .mk
structure RdAt (B:List Tm) (H:List (Nat×Nat)) (one:Nat) (r:List Nat) (F:List (Nat×Nat)):Prop where
 lt:one<B.length
 a:∀ s∈jaa B one,(H.lookup s).isSome
 m:∀ m∈jjC B H one,m<=65535
 old:(H.lookup one).isSome->jbJ B H r=F/\jby B H r
 new:¬ (H.lookup one).isSome->(jad B one≠.app/\jbL (jad B one) (jaa B one).length=true/\jad B one≠.imp/\jad B one≠.nil)/\∀ {v:Nat},opM (jad B one) (jjC B H one)=v->jbJ B (H++[(one,v)]) r=F/\jby B (H++[(one,v)]) r
theorem jrf {H:List (Nat×Nat)} {one:Nat} {r:List Nat} {F:List (Nat×Nat)} (hF:jbJ B H (one::r)=F) (hO:jby B H (one::r)):RdAt B H one r F:=by
 dsimp only [jby] at hO
 replace hF:(if (H.lookup one).isSome=true then jbJ B H r else jbJ B (H++[(one,opM (jad B one) (jjC B H one))]) r)=F:=hF
 refine ⟨hO.1,hO.2.1,hO.2.2.1,λ h=>?_,λ h=>?_⟩
 ·have h4:=hO.2.2.2
  rw [if_pos h] at hF h4; exact ⟨hF,h4⟩
 ·have h4:=hO.2.2.2
  rw [if_neg h] at hF h4
  exact ⟨⟨h4.1,h4.2.1,h4.2.2.1,h4.2.2.2.1⟩,λ e=>e▸⟨hF,h4.2.2.2.2⟩⟩
theorem joh (C:CO c sc) (r:Rm c.A 4) {t n v:Nat} {parts:List Nat} {cols:List (Nat×Nat)} (wf:Wf B) (hA:∀ (i:Nat) (t:Tm),B[i]? = some t->t.args.length<=63) (ht:t<B.length) (hR:jbb n B [] [t]=some parts) (hn:n<=100000) (hm:(Cd,AO.dn cols)∈led)
  (hl:cols.length+parts.length<=1000000) (ok:jby B cols parts) (hv:(jbJ B cols parts).lookup t=some v) (k:K (.nat v) B led):CF c 529 [.bank,.nat t,.v (.ref Cd)] ls B led K:=by
 refine jaF ‹_› ‹_› (by k_is) (by k_is) (by exact λ U U U=>rfl) (by decide +kernel) (by rfl) ?_
 intro c' x cl C' r'
 have r1:Rm c'.A 1:=r'.le (by decide)
 refine jaj C' 30 _ _ _ _ _ ?_
 refine jlV C' (.tail _ (Ja7 _ hm)) (by lia) λ Hd=>?_
 refine jiN C' r' wf hA ht hR hn ?_
 refine jc8 C' rfl rfl (ReJ B t Hd parts (jbJ B cols parts) cols.length (x::(led++cl))) _ (wk3 rfl rfl rfl) (.mk cols rfl ok (Jc4 _)) ?_ ?_
 ·intro i vv ls' B₁ led' hvv h z
  refine jam (jbP hvv) λ one ho e=>?_
  subst e
  refine h.rec λ H hF hO hHl=>?_
  clear h
  have hip:=(Jc0 ho).1
  rw [jbT ho] at hF hO
  have R:=jrf hF hO
  clear hF hO
  have hHb:H.length<=1000000:=Ja0 ‹_› (Ja0 (Jb3 (Jb6 ‹_›) _) ‹_›)
  have hH1:∀ {v:Nat},(H++[(one,v)]).length<=cols.length+(i+1):=λ {v}=>Ja0 (Jb7 Jd3) (Jc1 hHl)
  refine jaj C' 30 _ _ _ _ _ ?_
  refine jhK C' r1 R.lt (jbK C' r1 R.lt ?_)
  have hal:(jaa B one).length<=63:=by
   have hg:=List.getElem?_eq_getElem R.lt
   refine rwr (jai hg) ?_; exact hA one _ hg
  have eM:((jaa B one).map AV.nat).filterMap (λ a=>match a with | .nat s=>some (AV.nat ((H.lookup s).getD 0)) | _=>none)=(jjC B H one).map .nat:=by
   rw [jjC]
   refine rwr List.map_map ?_
   refine jdN ?_ _
   exact λ U=>rfl
  refine jd7 C' rfl rfl (.inl rfl) (by rw [Jc6]; exact Ja0 hal (by decide)) (by decide +kernel) _ (λ c2 C2 hr2 v hv pre=>?_) ((congrArg mkL eM).trans (jez _)) ?_
  ·refine jam (Jb8 hv) λ s hs e_3=>?_
   subst e_3
   refine jbh (Option.isSome_iff_exists.mp (R.a s hs)) λ m hm=>?_
   refine ja2 _ rfl (ja8 C2 10 _ _ _ _ ?_)
   exact jem rfl (Ja6 _ (.tail _ (.head _))) hm ⟨by show some (AV.nat m)=some (AV.nat ((H.lookup s).getD 0)); refine rwr hm ?_; rfl,rfl,rfl⟩
  clear eM
  refine And.intro rfl ?_
  refine jpr C' (l:=H) (.tail _ (.head _)) ?_
  by_cases hs:(H.lookup one).isSome
  ·refine jaR hs ?_
   exact ⟨_,_,wk3 rfl rfl rfl,rfl,.mk H (R.old hs).1 (R.old hs).2 (Jd8 hHl)⟩
  refine jaP hs ?_
  have hnone:H.lookup one=none:=Option.not_isSome_iff_eq_none.mp hs
  have hLl:(jjC B H one).length=(jaa B one).length:=Jc6 ..
  refine jbi (R.new hs) λ hp hN=>?_
  refine jcV hp λ p1 p2 p3 p4=>?_
  have hLe:=jl8 R.m
  clear R hs hp hal
  generalize jjC B H one=L at hLl hN hLe ⊢
  rw [<- hLl] at p2
  replace p2:=p2
  have fin:∀ {w:Nat} {ls2:Ls},opM (jad B one) L=w->Wk (joR t Hd) ls2->LoopOk z (ReJ B t Hd parts (jbJ B cols parts) cols.length (x::(led++cl)) (i+1)) ls2 B (z::(Hd,.dn (putN H one w))::x::(led++cl)):=λ e wk=>by
   refine rwr (jcu hnone) ?_; exact ⟨_,_,wk,rfl,.mk _ (hN e).1 (hN e).2 hH1⟩
  have put:∀ {f:Nat->Nat->Nat} {a:Nat} {ls2:Ls} {y:Nat} {j:Nat},L[j]? = some y->Wk (jmQ t Hd one) ls2->∀ z2,LoopOk z2 (AcJ B t Hd one H L f a z (x::(led++cl)) (j+1)) ls2 B (z2::z::(Hd,.dn (putN (H++[(one,(L.take j).foldl f a)]) one (f ((L.take j).foldl f a) y)))::x::(led++cl)):=λ hy wk z2=>by
   refine rwr (jiS hnone) ?_; exact ⟨_,_,wk,rfl,.next hy⟩
  have hH2:∀ {v:Nat},(H++[(one,v)]).length<=16000000:=λ {v}=>Ja0 hH1 (by lia)
  have hH3:H.length<=16000000:=Ja0 hHb (by decide)
  clear hHl hHb
  have hw3:Wk (joR t Hd) (jmQ t Hd one):=wk3 rfl rfl rfl
  refine jdi C' .tru .con rfl rfl ?_
  by_cases h1:jad B one=.tru\/jad B one=.con
  ·refine jaR (dT h1) (jcQ hH3 (.tail .head) ?_)
   refine jc8 C' (a:=.lns L) rfl rfl (AcJ B t Hd one H L (λ a b=>a &&& b) 65535 z (x::(led++cl))) (jmQ t Hd one) (wk4 rfl rfl rfl rfl) (by refine rwr (jcu hnone) ?_; exact .mk) ?_ ?_
   ·intro j vv ls' B₁ led' hvv h z2
    refine jam (jbP hvv) λ y hy e=>?_
    subst e
    refine h.rec ?_
    refine jaj C' 30 _ _ _ _ _ ?_
    refine jem rfl (.tail _ (.tail _ (.head _))) (jfe hnone) (jcQ hH2 (.tail (.tail .head)) ?_)
    exact put hy (wk4 rfl rfl rfl rfl) z2
   ·intro ls' B₁ led' h
    refine h.rec ?_
    rw [Jc6,List.take_length]
    refine rwl (jcu hnone) ?_
    exact fin (by rcases h1 with h | h <;> refine rwr h ?_ <;> rfl) hw3
  refine jaP (dF h1) (jdi C' .fls .dis rfl rfl ?_)
  by_cases h2:jad B one=.fls\/jad B one=.dis
  ·refine jaR (dT h2) (jcQ hH3 (.tail .head) ?_)
   refine jc8 C' (a:=.lns L) rfl rfl (AcJ B t Hd one H L (λ a b=>a ||| b) 0 z (x::(led++cl))) (jmQ t Hd one) (wk4 rfl rfl rfl rfl) (by refine rwr (jcu hnone) ?_; exact .mk) ?_ ?_
   ·intro j vv ls' B₁ led' hvv h z2
    refine jam (jbP hvv) λ y hy e=>?_
    subst e
    refine h.rec ?_
    refine jaj C' 30 _ _ _ _ _ ?_
    refine jem rfl (.tail _ (.tail _ (.head _))) (jfe hnone) (jcQ hH2 (.tail (.tail .head)) ?_)
    exact put hy (wk4 rfl rfl rfl rfl) z2
   ·intro ls' B₁ led' h
    refine h.rec ?_
    rw [Jc6,List.take_length]
    refine rwl (jcu hnone) ?_
    exact fin (by rcases h2 with h | h <;> refine rwr h ?_ <;> rfl) hw3
  refine jaP (dF h2) ?_
  have wk4:∀ {a b:AV},Wk (joR t Hd) (jmQ t Hd one):=λ {_ _}=>hw3
  by_cases h3:jad B one=.neg
  ·rw [h3] at p2
   replace p2:=p2
   have l1:L.length=1:=of_decide_eq_true p2
   exact jaR (opT .neg rfl h3) (jaH rfl (jbv (j:=0) (by refine rwr l1 ?_; decide)) (by decide) ⟨hLe 0,jcQ hH3 (.tail .head) (fin (h3▸rfl) (wk3 rfl rfl rfl))⟩)
  refine jaP (opF .neg rfl h3) ?_
  by_cases h4:jad B one=.ite
  ·rw [h4] at p2
   have l1:L.length=3:=of_decide_eq_true p2
   exact jaR (opT .ite rfl h4) (jaH rfl (jbv (j:=0) (by rw [l1]; decide)) (by decide) (jaH rfl (jbv (j:=1) (by rw [l1]; decide)) (by decide) (jaH rfl (jbv (j:=0) (by rw [l1]; decide)) (by decide) ⟨hLe 0,jaH rfl (jbv (j:=2) (by rw [l1]; decide)) (by decide) (jcQ hH3 (.tail .head) (fin (h4▸rfl) (wk3 rfl rfl rfl)))⟩)))
  refine jaP (opF .ite rfl h4) ?_
  by_cases h5:jad B one=.xr
  ·rw [h5] at p2
   replace p2:=p2
   have l1:L.length=2:=of_decide_eq_true p2
   exact jaR (opT .xr rfl h5) (jaH rfl (jbv (j:=0) (by rw [l1]; decide)) (by decide) (jaH rfl (jbv (j:=1) (by rw [l1]; decide)) (by decide) (jcQ hH3 (.tail .head) (fin (h5▸rfl) (wk3 rfl rfl rfl)))))
  refine jaP (opF .xr rfl h5) ?_
  have h6:jad B one=.eq:=by
   clear fin put hN p2
   revert h1 h2 h3 h4 h5 p1 p3 p4
   generalize jad B one=o
   cases o <;> decide
  rw [h6] at p2
  have l1:L.length=2:=of_decide_eq_true p2
  exact jaH rfl (jbv (j:=0) (by rw [l1]; decide)) (by decide) (jaH rfl (jbv (j:=1) (by rw [l1]; decide)) (by decide) ⟨Nat.le_of_lt_succ (Nat.xor_lt_two_pow (n:=16) (Nat.lt_succ_of_le (hLe 0)) (Nat.lt_succ_of_le (hLe 1))),jcQ hH3 (.tail .head) (fin (h6▸rfl) (wk3 rfl rfl rfl))⟩)
 ·intro ls' B₁ led' h
  refine h.rec λ H hF U U=>?_
  rw [List.drop_of_length_le (by rw [Jc6]; exact Jc4 _)] at hF
  replace hF:=hF
  replace hF:H=_:=hF
  subst hF
  exact jem rfl (.head _) hv (.plain led (.cons _ (Jd0 _)) k)
end
end
section
noncomputable def jct (n:Nat) (B:List Tm) (way:Nat) (p q r:Nat×Nat):Option ((Nat×Nat)×List Tm) :=
 if way=0 then some (((jab B p.1).1,65535 - p.2),(jab B p.1).2)
 else if way=1 then (jaT n B .con [p.1,q.1,r.1]).map λ z=>((z.1,p.2 &&& q.2 &&& r.2),z.2)
 else if way=2 then (jaT n B .dis [p.1,q.1]).map λ z=>((z.1,p.2 ||| q.2),z.2)
 else if way=3 then some (((jaG B p.1 q.1).1,65535 - (p.2 ^^^ q.2)),(jaG B p.1 q.1).2)
 else if way=4 then (jhL n B [p.1,q.1]).map λ z=>((z.1,p.2 ^^^ q.2),z.2)
 else (chO n B p.1 q.1 r.1).map λ z=>((z.1,(p.2 &&& q.2) ||| ((65535 - p.2) &&& r.2)),z.2)
theorem jpA {α:Type} {l:List α} (h:l.length=3):∃ a b c,l=[a,b,c]:=jdR (jnV h) λ a r e h=>jdR (jnV h) λ b r2 e2 h=>jbh (joO h) λ c e3=>⟨a,b,c,by rw [e,e2,e3]⟩
theorem Gb.ne {B:List Tm} (g:Gb B) (x:Nat) (h:jad B x=.neg\/jad B x=.xr):jaa B x≠[]:=λ e=>by
 have hx:x<B.length:=jaN (by rcases h with h | h <;> refine rwr h ?_<;> exact λ e=>nomatch e)
 have hg:=List.getElem?_eq_getElem hx
 have ha:=g.ar x _ hg
 rw [<- jai hg,<- jan hg,e] at ha
 rcases h with h | h <;> rw [h] at ha <;> exact absurd ha (by decide)
theorem Own.pre {D Cl Pl:Addr} {cells:List Nat} {pool:List (Nat×Nat)} {f:Nat->Led} (h:Own D Cl Pl cells pool f):∀ pre:Led,Own D Cl Pl cells pool (λ a=>pre++f a)
 | []=>h
 | x::pre=>⟨λ a=>.tail ((h.pre pre).p a),λ a=>.tail _ ((h.pre pre).c a),λ a=>.tail _ ((h.pre pre).l a)⟩
section
variable {c:WC} {sc:Scope} {ls:Ls} {B:List Tm} {led led':Led} {K:KA} {D Cl Pl Cd:Addr}
theorem jdz {n:Nat} (k:K (.rng n) B led):TY c "range" [.nat n] ls B led K:=by
 refine ⟨λ T s E vs Q hs has hk=>?_⟩
 refine has.consE λ U U h1 has=>?_
 refine has.nilE ?_
 refine h1.natE λ t=>?_
 refine hs.elim λ h tk m σ cl lr W O hT hB hL hC hK=>?_
 exact joe W λ x h' u v tk' W'=>hk (.rng n) _ B led _ _ (λ p hp=>.tail _ hp) (St.frz (h:=h) (tk:=tk) W' O hT hB hL hC hK) (.rng n x t u v (.head _)) k
theorem jnm (C:CO c sc) {l:List Nat} {x:Str} {xp p pos kp:Pos} (y:Nat) {kk:Nat} (hx:ls.lookup x=some (.lns l)) (hk:sc.names.lookup x=some .local) (hl:l.length<=1000) (k:K (.lns (l.take y)) B led) :
  VE c (.Subscript (.Name x xp) (.Slice Option.none (some (.Constant (.int (y:Int)) kk kp)) Option.none p) pos) ls B led K:=by
 refine ⟨λ T s E Q hs hk2=>?_⟩
 refine hs.elim λ h tk m σ cl lr W O hT hB hL hC hK=>?_
 refine jam (hK x _ hx) λ v hv rd=>?_
 cases hv with | lns _ a us n hm hi =>
 rcases rd with ⟨-,hmx⟩ | ⟨h1,-⟩
 ·have hll:=jds hi
  refine wpAny_Subscript_list_slice ?_ (by intros; rfl)
  refine jfr W hmx ?_ C.hl C.fk ((C.kind x).trans hk) (C.db x _ hk)
  refine wpAny_of_eq (evalPart_none c.env) ?_
  rw [evalPart_some]
  refine jfq λ t tk'=>?_
  refine jp8 a us.toArray none (some (y:Int)) rfl (jaq W.C (jar hT hm)) (by refine rwr Jc5 ?_; refine rwr hll ?_; show _<=16777216; exact Ja0 ‹_› (by decide)) (.none) (.int _ _) ?_
  have W2:=(W.push { cls:=.type "slice",data:=.fields #[.none,.int y t,.none] }).push { cls:=.type "list",data:=.seq (slicePick us.toArray none (some (y:Int)) none) }
  rw [Heap.size_push] at W2
  have hi2:IntsAre (slicePick us.toArray none (some (y:Int)) none).toList ((l.map λ n:Nat=>(n:Int)).take y):=slice_ints_uptoW hi (Int.natCast_nonneg _)
  rw [<- List.map_take] at hi2
  exact hk2 (.lns (l.take y)) _ B led _ _ (λ p hp=>.tail _ hp) (St.frz (h:=h) (tk:=tk) (W2.sub (.cons_cons _ (.cons _ (Jd0 _)))) O hT hB hL hC hK) (.lns _ _ _ 0 (.head _) hi2) k
 ·rw [C.kind,hk] at h1; replace h1:=h1; exact absurd h1 (by decide)
inductive MoJ (pool:List (Nat×Nat)) (B:List Tm) (f:Nat->Led) (aT:Nat) (x:Addr×AO) (cl:Led) (i:Nat):List AV->List Tm->Led->Prop
 | mk (l:List (Nat×Nat)) (hl:∀ p∈l,p∈pool) (hi:l.length=i):MoJ pool B f aT x cl i (l.map prN) B (x::(f (aT+1+i)++cl))
theorem MoJ.next {pool:List (Nat×Nat)} {f:Nat->Led} {aT:Nat} {x:Addr×AO} {cl:Led} {l:List (Nat×Nat)} {q:Nat×Nat} (hl:∀ p∈l,p∈pool) (hq:q∈pool):MoJ pool B f aT x cl (l.length+1) (l.map prN++[prN q]) B (x::(f (aT+1+(l.length+1))++cl)):=by
 refine rwr (show l.map prN++[prN q]=(l++[q]).map prN by refine rwr List.map_append ?_; rfl) ?_
 exact .mk _ (λ p hp=>(Ja9.mp hp).elim (hl p) λ h=>Ja2.mp h▸hq) Jd3
theorem jn1 (C:CO c sc) (r:Rm c.A 14) {aT n:Nat} {cells:List Nat} {pool:List (Nat×Nat)} {f:Nat->Led} (hf:Own D Cl Pl cells pool f) (g:Gb B) (hb:B.length<=15000000) (hl:cells.length<=100) (hat:aT<=900)
  (hpl:0<pool.length/\pool.length<=100) (hp:∀ p∈pool,(p.1<B.length/\1<=p.1)/\p.2<=65535) (hn:n<=100000) (hR:∀ way,way<6->∀ p∈pool,∀ q∈pool,∀ s∈pool,∃ res,jct n B way p q s=some res/\res.2.length<=15000000)
  (k:∀ way p q s res,way<6->p∈pool->q∈pool->s∈pool->jct n B way p q s=some res->K (prN res.1) res.2 (f (aT+4))):CF c 534 [.v (.ref D),.rw,.v (.ref Pl)] ls B (f aT) K:=by
 refine jaF ‹_› ‹_› (by k_is) (by k_is) (by exact λ U U U=>rfl) (by decide +kernel) (by rfl) ?_
 intro c' x cl C' r'
 have r1:Rm c'.A 1:=r'.le (by decide)
 have hf':=hf.app x cl
 refine jaj C' 2 _ _ _ _ _ ?_
 refine jd4 C' r1 (hf'.p aT) (hf'.c _) hl (Ja0 ‹_› (by decide)) (by decide) λ way hw=>?_
 refine jdz ?_
 refine jlw C' rfl rfl (.inl rfl) (by decide) (by decide +kernel) (MoJ pool B f aT x cl) (.mk [] nofun rfl) ?_ ?_ ?_
 ·intro i ys B' led' h
  refine h.rec λ l U e=>?_
  rw [Jc6]; exact Jb7 e
 ·intro c2 C2 r2 i v ys B' led' pre hv h
  refine h.rec λ l hl2 e=>?_
  clear h
  subst e
  have hi3:l.length<3:=(Jc0 hv).1
  rw [List.getElem?_map] at hv
  refine jam (Jd4 hv) λ v0 hv0 e_1=>?_
  subst e_1
  have hf2:=hf'.pre pre
  refine ja2 _ rfl (ja8 C2 20 _ _ _ _ ?_)
  refine jc0 C2 (hf2.l _) (by rw [Jc6]; lia) ?_
  refine jd4 C2 (r2 _ r1) (hf2.p _) (hf2.c _) hl (by lia) (by rw [Jc6]; exact hpl.1) λ i hi=>?_
  rw [Jc6] at hi
  replace hi:=hi
  refine jbQ rfl (hf2.l _) (a:=prN pool[i]) (by refine rwr (List.getElem?_map) ?_; refine rwr (List.getElem?_eq_getElem hi) ?_; rfl) (by lia) ?_
  exact ja2 _ rfl (MoJ.next hl2 (List.getElem_mem _))
 intro ys B' led' h
 refine h.rec λ l hl2 hl3=>?_
 clear h
 refine jcR (jpA hl3) λ p q s e=>?_
 subst e
 have mp:=hl2 p (.head _)
 have mq:=hl2 q (.tail _ (.head _))
 have ms:=hl2 s (.tail _ (.tail _ (.head _)))
 refine jam (hR way hw p mp q mq s ms) λ res hres hrb=>?_
 have k:=k way p q s res hw mp mq ms hres
 refine jbi (hp p mp) λ lp wp=>?_
 refine jbi (hp q mq) λ lq wq=>?_
 refine jbi (hp s ms) λ lS ws=>?_
 refine And.intro rfl ?_
 refine jd7 C' rfl rfl (.inr ⟨_,rfl⟩) (by show 3<=16000000; decide) (by decide +kernel) (λ a=>match a with | .tup (x::_)=>some x | _=>none) (λ c2 C2 hr2 v hv pre=>?_) rfl ?_
 ·refine jam (Jb8 hv) λ u U e_1=>?_
  subst e_1
  exact ja2 _ rfl (ja8 C2 10 _ _ _ _ ⟨rfl,rfl,rfl⟩)
 refine jey rfl rfl (by decide) ⟨by decide,jey rfl rfl (by decide) ⟨by decide,jey rfl rfl (by decide) ⟨by decide,And.intro rfl ?_⟩⟩⟩
 dsimp only [jct] at hres
 refine Jc8 (Jc9 (way=0)) (λ h0=>?_) λ h0=>?_
 ·rw [if_pos h0] at hres
  obtain rfl:=Jb0 hres
  refine jaj C' 1 _ _ _ _ _ (jaR (dT h0) (jaj C' 2 _ _ _ _ _ (jaH rfl rfl (by decide) (jbs C' (r'.le (by decide)) g.wf lp.1 (Ja0 hrb (by decide)) ⟨wp,.end0 k⟩))))
 rw [if_neg h0] at hres
 replace hres:=hres
 refine jaj C' 1 _ _ _ _ _ (jaP (dF h0) (jaj C' 1 _ _ _ _ _ ?_))
 show VS c' _ _ _ _ _
 by_cases h1:way=1
 ·rw [if_pos h1] at hres
  replace hres:=hres
  refine jam (Jd4 hres) λ z hz e_2=>?_
  subst e_2
  refine jaj C' 1 _ _ _ _ _ (jaR (dT h1) (jaj C' 2 _ _ _ _ _ ((jb7 (o:=.con) g (.inl rfl) (λ t ht=>?_) (by show 3<=1000; decide) hz hn hrb) C' (r'.le (by decide)) (.end0 k))))
  simp only [Ja3,Jb2,or_false] at ht
  rcases ht with rfl | rfl | rfl
  ·exact lp
  ·exact lq
  ·exact lS
 rw [if_neg h1] at hres
 replace hres:=hres
 refine jaj C' 1 _ _ _ _ _ (jaP (dF h1) (jaj C' 1 _ _ _ _ _ ?_))
 show VS c' _ _ _ _ _
 by_cases h2:way=2
 ·rw [if_pos h2] at hres
  refine jam (Jd4 hres) λ z hz e_3=>?_
  subst e_3
  refine jaj C' 1 _ _ _ _ _ (jaR (dT h2) (jaj C' 2 _ _ _ _ _ (jnm C' 2 rfl rfl (by show 3<=1000; decide) ((jb7 (o:=.dis) g (.inr rfl) (λ t ht=>?_) (by show 2<=1000; decide) hz hn hrb) C' (r'.le (by decide)) (.end0 k)))))
  simp only [Ja3,Jb2,or_false] at ht
  rcases ht with rfl | rfl
  ·exact lp
  ·exact lq
 rw [if_neg h2] at hres
 replace hres:=hres
 refine jaj C' 1 _ _ _ _ _ (jaP (dF h2) (jaj C' 1 _ _ _ _ _ ?_))
 show VS c' _ _ _ _ _
 by_cases h3:way=3
 ·rw [if_pos h3] at hres
  replace hres:=hres
  obtain rfl:=Jb0 hres
  refine jaj C' 1 _ _ _ _ _ (jaR (dT h3) (jaj C' 2 _ _ _ _ _ (jaH rfl rfl (by decide) (jaH rfl rfl (by decide) (jli C' (r'.le (by decide)) g.wf lp.1 lq.1 (Ja0 hrb (by decide)) ⟨?_,.end0 k⟩)))))
  exact Nat.le_of_lt_succ (Nat.xor_lt_two_pow (n:=16) (Nat.lt_succ_of_le wp) (Nat.lt_succ_of_le wq))
 rw [if_neg h3] at hres
 replace hres:=hres
 refine jaj C' 1 _ _ _ _ _ (jaP (dF h3) (jaj C' 1 _ _ _ _ _ ?_))
 show VS c' _ _ _ _ _
 by_cases h4:way=4
 ·rw [if_pos h4] at hres
  obtain ⟨z,hz,rfl⟩:=Jd4 hres
  refine jaj C' 1 _ _ _ _ _ (jaR (dT h4) (jaj C' 2 _ _ _ _ _ (jnm C' 2 rfl rfl (by show 3<=1000; decide) (jpF C' (l:=[p.1,q.1]) (r'.le (by decide)) g.wf g.sz g.wf.len g.ne (λ t ht=>?_) (by show 2<=1000; decide) hz hn hrb (.end0 k)))))
  simp only [Ja3,Jb2,or_false] at ht
  rcases ht with rfl | rfl
  ·exact lp.1
  ·exact lq.1
 rw [if_neg h4] at hres
 refine jaj C' 1 _ _ _ _ _ (jaP (dF h4) (jaj C' 1 _ _ _ _ _ ?_))
 show VS c' _ _ _ _ _
 refine jaj C' 2 _ _ _ _ _ ?_
 obtain ⟨z,hz,rfl⟩:=Jd4 hres
 exact jaH rfl rfl (by decide) (jaH rfl rfl (by decide) (jaH rfl rfl (by decide) (jjM C' (r'.le (by decide)) g lp lq lS hz hn hb hrb ⟨wp,.end0 k⟩)))
end
end
section
noncomputable def jdu (x:Nat):Value->Bool
 | .int y _=>y == (x:Int)
 | _=>false
theorem jcH {l:List Nat} {vs:List Value} (h:IntsAre vs (l.map λ n:Nat=>(n:Int))) (x:Nat):vs.any (jdu x)=decide (x∈l):=by
 induction l generalizing vs with
 | nil=>cases h; rfl
 | cons y r ih =>
  cases h with | cons _ t h =>
  refine rwr List.any_cons ?_
  refine rwr (ih h) ?_
  by_cases e:x=y
  ·subst e; simp [jdu]
  ·have:(((y:Int) == (x:Int))=false):=beq_eq_false_iff_ne.mpr (by lia)
   simp [jdu,this,e]
theorem jdv {l:List Int} {vs:List Value} (h:IntsAre vs l) (x:Nat) (t:Tok):∀ y∈vs,∀ A s,EqAt A s y (.int x t) (jdu x y):=by
 induction h with
 | nil=>exact λ U h=>(absurd h Jb2)
 | cons n u _ ih =>
  intro y hy A s
  refine Jc8 (Ja3.mp hy) (λ e_1=>?_) λ hy=>?_
  ·subst e_1; exact EqAt.int_int _ _ _ _
  ·exact ih y hy A s
noncomputable def jbf (nc c a b:Nat):List Nat:=[a,b].filter λ x=>decide (x∉[1,2,c,nc])
structure RightA (n:Nat) (B:List Tm) (cols:List (Nat×Nat)) (c a b:Nat×Nat) (told:Nat) (B1:List Tm):Prop where
 g:Gb B
 g1:Gb B1
 hc:c.1<B.length/\1<=c.1
 ha:a.1<B.length/\1<=a.1
 hb:b.1<B.length/\1<=b.1
 m:c.2<=65535
 x:Ext B B1
 hn:n<=100000
 l:B1.length<=14000000
 h:chB n B c.1 a.1 b.1=some (told,B1)
 t:told<B1.length/\1<=told
 again:chB n B1 c.1 a.1 b.1=some (told,B1)
 read:∃ parts,jbb n B1 [] [told]=some parts/\cols.length+parts.length<=1000000/\jby B1 cols parts/\(jbJ B1 cols parts).lookup told=some ((c.2 &&& a.2) ||| ((65535 - c.2) &&& b.2))
structure NoNew (n:Nat) (B:List Tm) (c a b told:Nat):Prop where
 run:∃ old pt,jbb n B [] [c,a,b]=some old/\jbb n B [] [told]=some pt/\(∀ u∈pt,u<B.length)/\old.length<=1000000/\pt.length<=1000000/\∀ u∈pt,jad B u=.ite->u∈old
inductive RightEnd (n nc:Nat) (B2:List Tm) (c a b told:Nat) (B1:List Tm):List Tm->Prop
 | fresh:(jbf nc c a b).length=2->a≠(jab B2 b).1->told=jhw (jab B2 b).2 ⟨.ite,[c,a,b],0⟩->RightEnd n nc B2 c a b told B1 (jab B2 b).2
 | contra (t2:Nat) (B4:List Tm):(jbf nc c a b).length=2->a=(jab B2 b).1->NoNew n (jab B2 b).2 c a b told->chB n (jab B2 b).2 c b a=some (t2,B4)->Gb B4->Ext B1 B4->B4.length<=15000000->t2=(jab B4 told).1->RightEnd n nc B2 c a b told B1 (jab B4 told).2
 | plain:(jbf nc c a b).length≠2->NoNew n B2 c a b told->(jbf nc c a b≠[]\/(jad B2 c=.con\/jad B2 c=.dis)\/told∈[1,2,c,nc])->RightEnd n nc B2 c a b told B1 B2
noncomputable def jhM (n:Nat) (B:List Tm) (cols:List (Nat×Nat)) (c a b:Nat×Nat) (B':List Tm):Prop:=∃ told B1,RightA n B cols c a b told B1/\RightEnd n (jab B1 c.1).1 (jab B1 c.1).2 c.1 a.1 b.1 told B1 B'
section
variable {c:WC} {sc scope:Scope} {ls:Ls} {B:List Tm} {led led':Led} {K:KA} {D Cl Pl Cd:Addr}
theorem jnK (C:CO c sc) {t:Nat} (l:List Nat) {K:Bool->List Tm->Led->Prop} (k:K (decide (t∈l)) B led):CM c (.nat t) .In (.tup (l.map .nat)) ls B led K:=by
 refine ⟨λ T s E x y Q hs ha hb hk=>?_⟩
 refine ha.natE λ tv=>?_
 refine hb.tupE λ a vs hm has=>?_
 have hi:=jbZ has (jc1 l)
 refine hs.elim0 λ h tk m σ cl lr hs0 W O hT hB hL hC hK=>?_
 exact jqt (jdu t) W (jar hT hm) (jdv hi t tv) (by rw [jcH hi]; exact hk _ _ _ _ _ (λ U h=>h) hs0 k)
theorem jiE (C:CO c sc) {t:Nat} (l:List Nat) {K:Bool->List Tm->Led->Prop} (k:K (!decide (t∈l)) B led):CM c (.nat t) .NotIn (.tup (l.map .nat)) ls B led K:=by
 refine ⟨λ T s E x y Q hs ha hb hk=>?_⟩
 refine ha.natE λ tv=>?_
 refine hb.tupE λ a vs hm has=>?_
 have hi:=jbZ has (jc1 l)
 refine hs.elim0 λ h tk m σ cl lr hs0 W O hT hB hL hC hK=>?_
 exact jiW (jdu t) W (jar hT hm) (jdv hi t tv) (by rw [jcH hi]; exact hk _ _ _ _ _ (λ U h=>h) hs0 k)
theorem jiC (C:CO c sc) {t:Nat} {l:List Nat} {K:Bool->List Tm->Led->Prop} (k:K (!decide (t∈l)) B led):CM c (.nat t) .NotIn (.lns l) ls B led K:=by
 refine ⟨λ T s E x y Q hs ha hb hk=>?_⟩
 refine ha.natE λ tv=>?_
 refine hb.lnsE λ a vs n hm hi=>?_
 refine hs.elim0 λ h tk m σ cl lr hs0 W O hT hB hL hC hK=>?_
 exact jmL (jdu t) W (jar hT hm) (jdv hi t tv) (by rw [jcH hi]; exact hk _ _ _ _ _ (λ U h=>h) hs0 k)
theorem jla (C:CO c sc) (r:Rm c.A 1) {a b:List Nat} {K:Bool->List Tm->Led->Prop} (k:K (decide (a≠b)) B led):CM c (.lns a) .NotEq (.lns b) ls B led K:=by
 refine ⟨λ T s E x y Q hs ha hb hk=>?_⟩
 refine ha.lnsE λ xa va na h1 h2=>?_
 refine hb.lnsE λ xb vb nb h3 h4=>?_
 refine hs.elim0 λ h tk m σ cl lr hs0 W O hT hB hL hC hK=>?_
 exact jre jiA W (jar hT h1) (jar hT h3) (Carry.nats h2) (Carry.nats h4) r.units (hk _ _ _ _ _ (λ U h=>h) hs0 k)
theorem jly (C:CO c sc) {yv:Str} {elt t iter:Expr} {ifs:List Expr} {pos:Pos} {a:AV} {items:List AV} {tg:Tg} (hy:sc.names.lookup yv=some .local) (ht:jcJ t=some tg) (he:jdY a=some items) (ho:jdl t=true\/∃ l,a=.lst l) (hn:items.length<=16000000) (chk:jhJ scope sc tg=true) (g:AV->Option AV)
  (turn:∀ c':WC,CO c' (rel scope sc)->(∀ k,Rm c.A k->Rm c'.A k)->∀ v∈items,∀ pre,∃ l,jhG tg v=some l/\TurnP c' ifs elt (l++cap scope ls) B (pre++led) λ o B' led'=>o=g v/\B'=B/\led'=pre++led)
  {res:AV} (hres:mkL (items.filterMap g)=res) (fin:K res B led):CU c yv elt t iter ifs scope pos a ls B led K:=by
 refine jni C hy ht he ho hn chk (λ i ys B' led'=>ys=(items.take i).filterMap g/\B'=B/\led'=led) ⟨by simp,rfl,rfl⟩ ?_ ?_ ?_
 ·rintro i ys B' led' ⟨rfl,-,-⟩
  exact Ja0 (List.length_filterMap_le _ _) (by refine rwr List.length_take ?_; exact Nat.min_le_left _ _)
 ·rintro c' C' hr i v ys B' led' pre hv ⟨rfl,rfl,rfl⟩
  refine jam (turn c' C' hr v (List.mem_of_getElem? hv) pre) λ l h1 h2=>?_
  have et:(items.take (i+1)).filterMap g=more ((items.take i).filterMap g) (g v):=by
   refine rwr List.take_add_one ?_
   refine rwr hv ?_
   refine rwr List.filterMap_append ?_
   cases h:g v <;> simp [h,more]
  exact ja2 l h1 (h2.mono λ o B' led' hh_11=>jbq hh_11 λ q1 q2 q3=>⟨_,q3,by rw [q1,et],q2,rfl⟩)
 ·rintro ys B' led' ⟨rfl,rfl,rfl⟩
  refine rwr List.take_length ?_; refine rwr hres ?_; exact fin
theorem filter_map {p:Nat->Bool} {g:AV->Option AV} (h:∀ x,g (.nat x)=if p x then some (.nat x) else none) (l:List Nat):(l.map AV.nat).filterMap g=(l.filter p).map .nat:=by
 induction l with
 | nil=>rfl
 | cons x r ih =>
  refine rwr Ja8 ?_
  refine rwr List.filterMap_cons ?_
  rw [h]
  refine rwr List.filter_cons ?_
  by_cases hp:p x=true
  ·refine rwr (if_pos hp) ?_; refine rwr (if_pos hp) ?_; simp [ih]
  ·refine rwr (if_neg hp) ?_; refine rwr (if_neg hp) ?_; exact ih
noncomputable abbrev jrg (q a b told nc:Nat):Ls:=[("bank",.bank),("rewriter",.rw),("c",.nat q),("a",.nat a),("b",.nat b),("told",.nat told),("ends",.tup ([1,2,q,nc].map .nat)),("plain",.lns (jbf nc q a b))]
inductive RiC (n:Nat) (B1 B₁:List Tm) (q a b told nc:Nat) (B':List Tm):Prop
 | swap (t2:Nat) (B4:List Tm) (h1:(jbf nc q a b).length=2) (h4:chB n B₁ q b a=some (t2,B4)) (h5:Gb B4) (h6:Ext B1 B4) (h7:B4.length<=15000000) (h8:t2=(jab B4 told).1) (e:B'=(jab B4 told).2)
 | same (h1:(jbf nc q a b).length≠2) (h2:jbf nc q a b≠[]\/(jad B₁ q=.con\/jad B₁ q=.dis)\/told∈[1,2,q,nc]) (e:B'=B₁)
inductive RiJ (n:Nat) (B1:List Tm) (q a b told nc:Nat) (B':List Tm) (lx:Led):Ls->List Tm->Led->Prop
 | mk (B₁:List Tm) (g:Gb B₁) (x:Ext B1 B₁) (nn:NoNew n B₁ q a b told) (h:RiC n B1 B₁ q a b told nc B'):RiJ n B1 q a b told nc B' lx (jrg q a b told nc) B₁ lx
theorem jq4 {a b c:Nat} {P:Nat->Prop} (h1:P a) (h2:P b) (h3:P c):∀ t∈[a,b,c],P t:=λ t ht=>by
 simp only [Ja3,Jb2,or_false] at ht
 rcases ht with rfl | rfl | rfl
 ·exact h1
 ·exact h2
 ·exact h3
theorem jmU (C:CO c sc) (r:Rm c.A 14) {n:Nat} {cols:List (Nat×Nat)} {q a b:Nat×Nat} {B':List Tm} (hm:(Cd,AO.dn cols)∈led) (ok:jhM n B cols q a b B') (k:K (.bool true) B' led):CF c 546 [.bank,.rw,.v (.ref Cd),prN q,prN a,prN b] ls B led K:=by
 obtain ⟨told,B1,A,hB'⟩:∃ told B1,RightA n B cols q a b told B1/\RightEnd n (jab B1 q.1).1 (jab B1 q.1).2 q.1 a.1 b.1 told B1 B':=ok
 have lq:=Ja1 A.hc.1 A.x.len
 have la:=Ja1 A.ha.1 A.x.len
 have lb:=Ja1 A.hb.1 A.x.len
 refine jbq (jau A.g1 lq A.hc.2) λ G2 o2 l2=>?_
 have x2:=jag B1 q.1
 have n2:=jaK B1 q.1
 have hBl:=A.l
 have hB1:B1.length<=15000000:=Ja0 A.l (by decide)
 refine jjo A.read λ parts e1 e2 e3 e4=>?_
 refine jaF ‹_› ‹_› (by k_is) (by k_is) (by exact λ U U U U U U=>rfl) (by decide +kernel) (by rfl) ?_
 intro c' x cl C' r'
 have r1:Rm c'.A 1:=r'.le (by decide)
 have r11:Rm c'.A 11:=r'.le (by decide)
 refine jaj C' 6 _ _ _ _ _ ?_
 refine And.intro (by decide) (And.intro (by decide) (And.intro (by decide) (And.intro rfl ?_)))
 refine And.intro (by decide) (And.intro (by decide) (And.intro (by decide) (And.intro A.m (And.intro (by decide) ?_))))
 refine jjL C' r11 A.g A.hc A.ha A.hb A.h A.hn hB1 (jlk C' r1 (Jb1 (Nat.zero_le _) A.t.1) (And.intro rfl ?_))
 refine joh C' (r'.le (by decide)) A.g1.wf A.g1.sz A.t.1 e1 A.hn (.tail _ (Ja7 _ hm)) e2 e3 e4 ?_
 refine jaP (by simp) ?_
 refine jjL C' r11 A.g1 ⟨lq,A.hc.2⟩ ⟨la,A.ha.2⟩ ⟨lb,A.hb.2⟩ A.again A.hn hB1 ?_
 refine jaP (by simp) ?_
 refine jlk C' r1 (Jb1 (Nat.zero_le _) A.t.1) ?_
 refine jaP (by simp) ?_
 refine jov C' r1 (jl1 C' r1 (jeD C' (r'.le (by decide)) A.g1.wf lq (upN ‹_› ‹_› (by decide)) ?_))
 obtain ⟨nc,hnc⟩:∃ nc,(jab B1 q.1).1=nc:=⟨_,rfl⟩
 obtain ⟨B2,hB2⟩:∃ B2,(jab B1 q.1).2=B2:=⟨_,rfl⟩
 rw [hnc] at o2 l2
 rw [hB2] at G2 l2 x2 n2
 replace G2:=G2
 replace l2:=l2
 replace x2:=x2
 replace n2:=n2
 refine rwr hnc ?_
 refine rwr hB2 ?_
 have hE:RightEnd n nc B2 q.1 a.1 b.1 told B1 B':=by
  refine rwl hnc ?_; refine rwl hB2 ?_; exact hB'
 clear hB' hnc hB2 e4 e3 e2 e1
 refine jly C' (by decide +kernel) rfl rfl (.inl rfl) (by show 2<=16000000; decide) (by decide +kernel) (λ v=>match v with | .nat x=>if decide (x∉[1,2,q.1,nc]) then some (.nat x) else none | _=>none) (λ c2 C2 hr2 v hv pre=>?_) ((congrArg mkL (filter_map (λ U=>rfl) [a.1,b.1])).trans (jez (jbf nc q.1 a.1 b.1))) ?_
 ·refine jam (Jb8 (show v∈[a.1,b.1].map AV.nat from hv)) λ u U e_11=>?_
  subst e_11
  refine ja2 _ rfl (jcb C2 10 _ _ _ _ (jiE C2 [1,2,q.1,nc] ?_))
  by_cases h:u∈[1,2,q.1,nc]
  ·exact jaP (by refine rwr (dT h) ?_; decide) ⟨(if_neg (by rw [decide_eq_true_iff]; exact λ e=>e h)).symm,rfl,rfl⟩
  ·exact jaR (by refine rwr (decide_eq_false h) ?_; rfl) (ja8 C2 5 _ _ _ _ ⟨(if_pos (Jd6 h)).symm,rfl,rfl⟩)
 have hpl:(jbf nc q.1 a.1 b.1).length<=2:=List.length_filter_le _ _
 have nb:=jaK B2 b.1
 have xb:=jag B2 b.1
 have lb2:=Ja1 lb x2.len
 refine jb5 C' 20 (RiJ n B1 q.1 a.1 b.1 told nc B' (x::(led++cl))) ?_ ?_
 ·refine jbx C' (Ja0 ‹_› (by decide)) ?_
  cases hE with
  | fresh h1 h2 h3 =>
   refine jaR (dT h1) (jeD C' (r'.le (by decide)) G2.wf lb2 (by lia) ?_)
   refine jaR (by refine rwr (decide_eq_false h2) ?_; rfl) (jfQ C' (o:=.ite) (l:=[q.1,a.1,b.1]) (r'.le (by decide)) rfl (λ e=>nomatch e) ?_)
   exact .end0 (by show K (.bool (decide _)) _ _; refine rwr (dT h3) ?_; exact k)
  | contra t2 B4 h1 h2 h3 h4 h5 h6 h7 h8 =>
   refine jaR (dT h1) (jeD C' (r'.le (by decide)) G2.wf lb2 (by lia) ?_)
   refine jaP (by refine rwr (dT h2) ?_; decide) ?_
   exact ⟨_,wk8 rfl rfl rfl rfl rfl rfl rfl rfl,.mk _ (jau G2 lb2 A.hb.2).1 (x2.trans xb) h3 (.swap t2 B4 h1 h4 h5 h6 h7 h8 rfl)⟩
  | plain h1 h2 h3 =>
   refine jaP (dF h1) ?_
   exact ⟨_,wk8 rfl rfl rfl rfl rfl rfl rfl rfl,.mk _ G2 x2 h2 (.same h1 h3 rfl)⟩
 clear hE G2 o2 l2 x2 n2 nb xb lb2
 intro ls' B₃ led' h
 refine h.rec λ B₃ G3 x3 nn hc=>?_
 clear h
 obtain ⟨old,pt,m1,m2,m3,m4,m5,m6⟩:=nn
 have lq3:=Ja1 lq x3.len
 have la3:=Ja1 la x3.len
 have lb3:=Ja1 lb x3.len
 refine jaj C' 30 _ _ _ _ _ ?_
 refine jb9 C' (roots:=[q.1,a.1,b.1]) (r'.le (by decide)) G3.wf G3.sz (jq4 lq3 la3 lb3) (by show 3<=3; decide) m1 A.hn ?_
 refine jiN C' (r'.le (by decide)) G3.wf G3.sz (Ja1 A.t.1 x3.len) m2 A.hn ?_
 refine jd7 C' rfl rfl (.inl rfl) (by rw [Jc6]; exact Ja0 ‹_› (by decide)) (by decide +kernel) (λ U=>none) (λ c2 C2 hr2 v hv pre=>?_) (res:=.lns []) (by refine rwr (show (pt.map AV.nat).filterMap (λ U=>(none:Option AV))=[] by simp) ?_; rfl) ?_
 ·refine jam (Jb8 hv) λ u hu e_12=>?_
  subst e_12
  refine ja2 _ rfl (jcb C2 10 _ _ _ _ (jhK C2 (hr2 _ r1) (m3 u hu) ?_))
  by_cases h:jad B₃ u=.ite
  ·refine jaR (opT .ite rfl h) (jiC C2 ?_)
   exact jaP (by refine rwr (dT (m6 u hu h)) ?_; decide) ⟨rfl,rfl,rfl⟩
  ·refine jaP (opF .ite rfl h) ?_
   exact And.intro rfl (And.intro rfl rfl)
 refine jb4 (jla C' r1 ?_)
 refine jaP (by decide) (jbx C' (Ja0 ‹_› (by decide)) ?_)
 refine hc.rec (λ t2 B4 h1 h4 h5 h6 h7 h8 e=>?_) λ h1 h2 e=>?_
 ·subst e
  have n4:=jaK B4 told
  refine jaR (dT h1) (jjL C' r11 G3 ⟨lq3,A.hc.2⟩ ⟨lb3,A.hb.2⟩ ⟨la3,A.ha.2⟩ h4 A.hn h7 (jeD C' (r'.le (by decide)) h5.wf (Ja1 A.t.1 h6.len) (by show (jab B4 told).2.length<=16000000; exact upN ‹_› ‹_› (by decide)) ?_))
  exact .end0 (by show K (.bool (decide _)) _ _; refine rwr (dT h8) ?_; exact k)
 ·subst e
  refine jaP (dF h1) (jb4 (jla C' r1 ?_))
  by_cases hp:jbf nc q.1 a.1 b.1≠[]
  ·exact jaR (dT hp) (.end0 k)
  refine jaP (dF hp) (jhK C' r1 lq3 (jdi C' .con .dis rfl rfl ?_))
  by_cases hcd:jad B' q.1=.con\/jad B' q.1=.dis
  ·exact jaR (dT hcd) (.end0 k)
  refine jaP (dF hcd) (jnK C' [1,2,q.1,nc] ?_)
  exact .end0 (by show K (.bool (decide _)) _ _; refine rwr (dT ((h2.resolve_left hp).resolve_left hcd)) ?_; exact k)
end
end
section
section
variable {c:WC} {sc scope:Scope} {ls:Ls} {B:List Tm} {led led':Led} {K:KA} {D Cl Pl Cd:Addr}
theorem jlz (C:CO c sc) {x:Str} {body:List Stmt} {a:AV} {items:List AV} {K:KF} (e:jdY a=some items) (hn:items.length<=16000000) (hx:okN sc x=true) (J:Nat->Ls->List Tm->Led->Prop) (ls0:Ls) (hw:Wk ls0 ls) (h0:J 0 ls0 B led)
  (step:∀ i v ls B led,items[i]? = some v->J i ls B led->∀ z,VS c body ((x,v)::ls) B (z::led) (jjA z (J (i+1)) K)) (fin:∀ ls B led,J items.length ls B led->K .next ls B led):FO c x body a ls B led K:=by
 refine ⟨λ T s E y xp R hs ha hk=>?_⟩
 refine hs.elim λ h tk m σ cl lr W O hT hB hL hC hK=>?_
 refine jfU (target:=.Name x xp) (tg:=.one x) C.hh W (λ p hp=>jar hT hp) rfl e (.inl rfl) hn ha λ h' i0 it src P I hsrc hP=>?_
 rw [<- C.hl] at I
 refine jew (env:=c.env) I (λ i=>RawJ c T (J i)) (.mk σ cl lr T ls0 B led rfl O hT (λ U h=>h) hB hL hC (λ y b e=>hK y b (hw.at y b e)) h0) ?_ ?_ ?_
 ·rintro i m led ⟨σ1,cl1,lr1,T1,ls1,B1,led1,rfl,O1,hT1,hs1,hB1,hL1,hC1,hK1,j⟩ p hp
  exact jar hT1 (hs1 p (hsrc p hp))
 ·rintro i v m₁ led₁ h₁ tk₁ its₁ E' hi hPv ⟨σ1,cl1,lr1,T1,ls1,B1,led1,rfl,O1,hT1,hs1,hB1,hL1,hC1,hK1,j⟩ hits W1
  refine jam (hP i v h₁ hi hPv) λ b hb hbv=>?_
  obtain ⟨z,rfl⟩:∃ z,its₁=[z]:=joO (by have:=congrArg List.length hits; simpa using this)
  rw [C.hl] at W1
  have hs':St c ls1 B1 ((z.1,AO.obj z.2)::led1) T1 ⟨h₁,c.gs,c.dr,tk₁,c.os⟩:=.mk h₁ tk₁ m₁ σ1 cl1 (z::lr1) W1 O1 hT1 hB1 (.cons (.obj _) hL1) hC1 hK1
  refine wpAny_assign_Name (jcw C hx hs' (hbv.mono hs1) λ s2 hs2=>?_)
  refine (step i b _ _ _ hb j (z.1,.obj z.2)).run T1 s2 E' _ hs2 λ fl f ls' B' led' T' s' hsub hs3 hf hKK=>?_
  have fin:LoopOk (z.1,AO.obj z.2) (J (i+1)) ls' B' led'->jdK c.b₀ c.env.locals c.gs c.dr c.os [z] (RawJ c T (J (i+1))) s':=by
   rintro ⟨ls2,led2,hw,rfl,hj⟩
   refine hs3.elim λ h2 tk2 m2 σ2 cl2 lr2 W2 O2 hT2 hB2 hL2 hC2 hK2=>?_
   cases hL2 with | cons ho hL2 =>
   cases ho
   exact joZ h2 tk2 m2 _ rfl (by refine rwr C.hl ?_; exact W2) (.mk σ2 cl2 _ T' ls2 B' led2 rfl O2 hT2 (λ p hp=>hsub p (hs1 p hp)) hB2 hL2 hC2 (λ y b e=>hK2 y b (hw.at y b e)) hj)
  cases hf with
  | ret hv=>exact hk (.ret _) (.ret _) _ _ _ T' s' (λ p hp=>hsub p (hs1 p hp)) hs3 (.ret hv) hKK
  | brk=>exact hKK.elim
  | next=>exact fin hKK
  | cont=>exact fin hKK
 ·rintro h' tk' m' led' Wn ⟨σ1,cl1,lr1,T1,ls1,B1,led1,rfl,O1,hT1,hs1,hB1,hL1,hC1,hK1,j⟩
  rw [C.hl] at Wn
  exact hk .next .next ls1 B1 led1 T1 _ hs1 (.mk h' tk' m' σ1 cl1 lr1 Wn O1 hT1 hB1 hL1 hC1 hK1) .next (fin _ _ _ j)
theorem jl6 (C:CO c sc) (r:Rm c.A 4) {s:Str} (hb:B.length<=100) (hf:(⟨.app,[],jfG B⟩:Tm)∉B) (k:K (.nat B.length) (B++[⟨.app,[],jfG B⟩]) led):CF c 140 [.bank,.str s,.nat 0] ls B led K:=by
 refine jcR C.G λ me mg mb G=>?_
 refine ⟨λ T s E vs Q hs has hk=>?_⟩
 refine has.consE λ U U h1 has=>?_
 refine has.consE λ U U h2 has=>?_
 refine has.consE λ U U h3 has=>?_
 refine has.nilE ?_
 refine h1.bankE ?_
 refine h2.strE λ U=>?_
 refine h3.natE λ U=>?_
 refine hs.elim λ h tk m σ cl lr W O hT hB hL hC hK=>?_
 subst hT
 refine jcV hB λ b1 b2 b3 b4=>?_
 have hap:jfG B<=B.length:=List.countP_le_length
 refine jl5 G r W O (by lia) b1 λ h' tk' σ' tn O' hsub hh_9 W'=>jbq hh_9 λ e1 e2 e3=>?_
 have em:(mk B ⟨.app,[],σ.fnV.size⟩:Nat×List Tm)=(B.length,B++[⟨.app,[],jfG B⟩]):=by
  refine rwr b2 ?_; unfold mk; refine rwr (if_neg hf) ?_; rfl
 rw [em] at O' ⊢
 have ea:jfG (B++[⟨.app,[],jfG B⟩])=jfG B+1:=by unfold jfG; refine rwr List.countP_append ?_; rfl
 exact hk _ _ _ led σ'.tups _ hsub (.mk h' tk' m σ' cl lr W' O' rfl ⟨by refine rwr Jd3 ?_; show _+1<=_; lia,by rw [ea]; lia,by rw [ea]; lia,by rw [ea]; lia⟩ (hL.mono hsub) hC (hK.mono hsub)) (.nat _ _) k
theorem jkI (l:List Nat):(l.map λ n:Nat=>(n:Int)).sum=((l.sum:Nat):Int):=by
 induction l with
 | nil=>rfl
 | cons x r ih=>refine rwr Ja8 ?_; refine rwr List.sum_cons ?_; refine rwr List.sum_cons ?_; refine rwr ih ?_; exact (Int.natCast_add x r.sum).symm
theorem jmZ (C:CO c sc) {l:List Nat} (k:K (.nat l.sum) B led):BI c "sum" [.lns l] ls B led K:=by
 refine ⟨λ T s E vs Q hs has hk=>?_⟩
 refine has.consE λ U U h1 has=>?_
 refine has.nilE ?_
 refine h1.lnsE λ a us n hm hi=>?_
 refine hs.elim λ h tk m σ cl lr W O hT hB hL hC hK=>?_
 refine jpV C.hh W (jar hT hm) hi λ h' tk' t' W'=>?_
 rw [jkI]
 exact hk _ _ B led T _ (λ U h=>h) (.mk h' tk' m σ cl lr W' O hT hB hL hC hK) (.nat _ _) k
theorem jnF {a b:Nat} (hb:0<b/\b<1073741824) (k:K (.nat (a / b)) B led):BN c .FloorDiv (.nat a) (.nat b) ls B led K:=by
 refine ⟨λ T s E x y Q hs ha' hb' hk=>?_⟩
 cases ha' with | nat _ ta =>
 cases hb' with | nat _ tb =>
 refine hs.elim λ h tk m σ cl lr W O hT hB hL hC hK=>?_
 have d2:(a:Int).fdiv (b:Int)=((a / b:Nat):Int):=by refine rwr (Int.fdiv_eq_ediv_of_nonneg _ (by exact Int.natCast_nonneg _:(0:Int)<=b)) ?_; rfl
 refine AutoIntOps.floordiv_1 (by simp; lia) (by refine rwr (PyProof.noPylong_small (by simpa using hb.2)) ?_; decide) ?_
 refine rwr d2 ?_
 exact hk (.nat (a / b)) _ _ _ T _ (λ U h=>h) (.mk h _ m σ cl lr W O hT hB hL hC hK) (.nat _ _) k
theorem jot:∀ b:Nat,b<16->¬ Builtin.Int.intTooBig (((Builtin.Int.intBits 2:Nat):Int)*(b:Int))=true:=by decide +kernel
theorem jn8 {b:Nat} (hb:b<16) (k:K (.nat (2 ^ b)) B led):BN c .Pow (.nat 2) (.nat b) ls B led K:=by
 refine ⟨λ T s E x y Q hs ha' hb' hk=>?_⟩
 cases ha' with | nat _ ta =>
 cases hb' with | nat _ tb =>
 refine hs.elim λ h tk m σ cl lr W O hT hB hL hC hK=>?_
 by_cases h0:b=0
 ·subst h0
  refine AutoIntOps.pow_0 (by decide) (by decide) ?_
  exact hk (.nat (2 ^ 0)) _ _ _ T _ (λ U h=>h) (.mk h _ m σ cl lr W O hT hB hL hC hK) (.nat 1 _) k
 ·refine AutoIntOps.pow_4 (a:=2) (b:=(b:Int)) (by simp) (by simpa using h0) (by decide) (by decide) (jot b hb) ?_
  have e:(2:Int) ^ ((b:Nat):Int).toNat=((2 ^ b:Nat):Int):=by rw [Int.toNat_natCast]; exact (Int.natCast_pow 2 b).symm
  refine rwr e ?_
  exact hk (.nat (2 ^ b)) _ _ _ T _ (λ U h=>h) (.mk h _ m σ cl lr W O hT hB hL hC hK) (.nat _ _) k
theorem jkH {val sl:Expr} {s:Str} {n:Nat} (hsl:jaY sl=true) (hr:fitsSsize (n:Int)=true) (hin:(Txt.charAt s (n:Int)).isSome=true) (h:∀ s',K (.str s') B led):SU c val sl (.str s) (.nat n) ls B led K:=by
 refine ⟨λ T sh E u v Q hs ha hb hk=>?_⟩
 refine ha.strE λ ts=>?_
 refine hb.natE λ tn=>?_
 refine hs.elim λ h' tk m σ cl lr W O hT hB hL hC hK=>?_
 refine tail_any (typeIs_str _ _ _) PySem.F.slot_str_getitem.lookup ?_ (jbC hsl)
 refine PySem.SB.getItem hr hin ?_
 exact hk _ _ _ _ T _ (λ U h=>h) (.mk h' _ m σ cl lr W O hT hB hL hC hK) (.str _ _) (h _)
end
end
section
section
variable {c:WC} {sc scope:Scope} {ls:Ls} {B:List Tm} {led led':Led} {K:KA} {D Cl Pl Cd:Addr}
noncomputable def jkz:List (Nat×Nat)->List (Nat×Nat)->List (Nat×Nat)
 | d,[]=>d
 | d,p::l=>jkz (putN d p.1 p.2) l
theorem jiJ {g:WG} {T:List (Addr×Obj)}:∀ {l:List (Nat×Nat)} {vs:List Value},Hass g T (l.map prN) vs->∃ ps:List (Int×Value),(∀ (j:Nat) (p:Int×Value),ps[j]? = some p->∃ (a:Addr) (t:Tok),vs[j]? = some (Value.ref a)/\(a,ja1 [Value.int p.1 t,p.2])∈T)/\vs.length=ps.length/\ps.length=l.length /\
  ∀ kvs d,DnR kvs d->DnR (jiR kvs ps) (jkz d l):=by
 intro l
 induction l with
 | nil =>
  intro vs h
  refine h.nilE ?_
  exact ⟨[],(λ U U h=>nomatch h),rfl,rfl,λ U U h=>h⟩
 | cons p l ih =>
  intro vs h
  refine h.consE λ v vs hp r=>?_
  refine jjo (ih r) λ ps h1 h2 h3 h4=>?_
  refine hp.tupE λ a us hm hu=>?_
  revert hm
  refine hu.consE λ u1 us1 k1 hu=>?_
  refine hu.consE λ u2 us2 k2 hu=>?_
  refine hu.nilE ?_
  refine k1.natE λ t=>?_
  refine k2.natE λ t' hm=>?_
  refine ⟨((p.1:Int),.int p.2 t')::ps,λ j q hq=>?_,congrArg Nat.succ h2,congrArg Nat.succ h3,λ kvs d hd=>h4 _ _ (hd.put p.1 p.2 t')⟩
  cases j with
  | zero=>rw [<- Jb0 hq]; exact ⟨a,t,rfl,hm⟩
  | succ j=>exact h1 j q hq
theorem jhc (C:CO c sc) {l:List (Nat×Nat)} (hm:(Pl,AO.lst (l.map prN))∈led) (hl:l.length<=10000) (k:∀ S,K (.v (.ref S)) B ((S,.dn (jkz [] l))::led)):TY c "dict" [.v (.ref Pl)] ls B led K:=by
 refine ⟨λ T s E vs Q hs has hk=>?_⟩
 refine has.consE λ U U h1 has=>?_
 refine has.nilE ?_
 refine h1.vE ?_
 refine hs.elim λ h tk m σ cl lr W O hT hB hL hC hK=>?_
 refine jam (hL.get hm) λ o h1 h2=>?_
 revert h1
 refine h2.lstE λ us n hu h1=>?_
 refine jjo (jiJ hu) λ ps q1 q2 q3 q4=>?_
 refine jfp C.hh W (ja4 h1) (λ j p hj=>?_) q2 (by refine rwr q3 ?_; exact hl) λ x h' o' tk' W' hd=>?_
 ·refine jdR (q1 j p hj) λ a t e1 e2=>?_
  exact jjy a t e1 (jar hT e2)
 ·exact hk _ _ _ _ _ _ (λ U h=>h) (St.own W' O hT hB hL hC hK (.dn _ o' _ hd (q4 _ _ .nil))) (.v _) (k _)
end
end
section
section
variable {α:Type} (F:Op->List α->α) (d:α)
noncomputable def evs (B:List Tm):List α:=B.foldl (λ acc t=>acc++[F t.op (t.args.map λ s=>acc.getD s d)]) []
noncomputable def ev (B:List Tm) (i:Nat):α:=(evs F d B).getD i d
theorem jgs:∀ (R:List Tm) (acc:List α),∃ r,R.foldl (λ acc t=>acc++[F t.op (t.args.map λ s=>acc.getD s d)]) acc=acc++r/\r.length=R.length:=by
 intro R
 induction R with
 | nil =>
  intro acc
  exact ⟨[],by simp,rfl⟩
 | cons t R ih =>
  intro acc
  refine jam (ih (acc++[F t.op (t.args.map λ s=>acc.getD s d)])) λ r e hl=>?_
  exact ⟨F t.op (t.args.map λ s=>acc.getD s d)::r,by refine rwr List.foldl_cons ?_; refine rwr e ?_; simp,by simp [hl]⟩
theorem jep (B:List Tm):(evs F d B).length=B.length:=by
 refine jam (jgs F d B []) λ r e hl=>?_
 unfold evs; refine rwr e ?_; simpa using hl
theorem jh5 {B B':List Tm} (x:Ext B B') {i:Nat} (h:i<B.length):ev F d B' i=ev F d B i:=by
 obtain ⟨R,rfl⟩:=x
 refine jam (jgs F d R (evs F d B)) λ r e U=>?_
 have e2:evs F d (B++R)=evs F d B++r:=by unfold evs at e ⊢; refine rwr List.foldl_append ?_; exact e
 unfold ev
 refine rwr e2 ?_
 refine rwr (List.getD_eq_getElem?_getD) ?_
 refine rwr (List.getD_eq_getElem?_getD) ?_
 refine rwr (List.getElem?_append_left (by rw [jep]; exact h)) ?_
 rfl
theorem jcD {B:List Tm} (w:Wf B) {i:Nat} (hi:i<B.length):ev F d B i=F (jad B i) ((jaa B i).map (ev F d B)):=by
 have h:=List.getElem?_eq_getElem hi
 generalize he:B[i]=t at h
 have e1:B=B.take i++t::B.drop (i+1):=by refine rwl he ?_; simp
 have e2:B=(B.take i++[t])++B.drop (i+1):=by rw [List.append_assoc]; exact e1
 have hl:(B.take i).length=i:=by simp; lia
 have x0:Ext (B.take i) B:=⟨_,e1⟩
 refine rwr (jan h) ?_
 refine rwr (jai h) ?_
 refine rwr (jh5 F d (⟨_,e2⟩) (by refine rwr Jd3 ?_; refine rwr hl ?_; exact Jd5 i)) ?_
 have e3:evs F d (B.take i++[t])=evs F d (B.take i)++[F t.op (t.args.map λ s=>(evs F d (B.take i)).getD s d)]:=by unfold evs; refine rwr List.foldl_append ?_; rfl
 unfold ev
 refine rwr e3 ?_
 refine rwr (List.getD_eq_getElem?_getD) ?_
 refine rwr (List.getElem?_append_right (by rw [jep]; refine rwr hl ?_; exact Jc4 _)) ?_
 rw [jep,hl]
 simp only [Nat.sub_self,List.getElem?_cons_zero,Option.getD_some]
 congr 1
 refine List.map_congr_left λ s hs=>?_
 have:s<i:=w.lt i t h s hs
 exact (jh5 F d x0 (by refine rwr hl ?_; exact this)).symm
theorem je4 {B:List Tm} {i:Nat} (h:B.length<=i):ev F d B i=d:=by
 unfold ev; refine rwr (List.getD_eq_getElem?_getD) ?_; refine rwr (List.getElem?_eq_none (by rw [jep]; exact h)) ?_; rfl
end
noncomputable def mx (l:List Nat):Nat:=l.foldr max 0
theorem jhq {x:Nat}:∀ {l:List Nat},x∈l->x<=mx l
 | y::l,h=>by
  show x<=max y (mx l)
  rcases Ja3.mp h with rfl | h
  ·exact Nat.le_max_left _ _
  ·exact Ja0 (jhq h) (Nat.le_max_right _ _)
theorem jfW {n:Nat}:∀ {l:List Nat},(∀ x∈l,x<=n)->mx l<=n
 | [],_=>Nat.zero_le _
 | y::l,h=>Nat.max_le.mpr ⟨h y (.head _),jfW λ x hx=>h x (.tail _ hx)⟩
structure Wt where
 ap:Bool
 e:Op->Nat
 p:Nat
 h:Nat
 z:Nat
noncomputable def wt0:Wt:=⟨false,λ U=>1,1,1,1⟩
noncomputable def isJ (o:Op):Bool:=decide (o=.con\/o=.dis)
noncomputable def jjv (o:Op) (as:List Wt):Bool:=decide (o=.app) || (decide (o=.neg) && (as.headD wt0).ap)
noncomputable def wtF (o:Op) (as:List Wt):Wt where
 ap:=decide (o=.app)
 e:=λ q=>if jjv o as then 0 else if isJ o then (if q=o then (as.map (·.e q)).sum else max 1 (mx (as.map (·.e q)))) else 1
 p:=if o=.app then 0 else if o=.neg\/o=.xr then (as.map (·.p)).sum else 1
 h:=if jjv o as then 0 else max 1 (max (mx (as.map (·.h))) (if isJ o then (as.map (·.e o)).sum else if o=.xr then (as.map (·.p)).sum else 0))
 z:=max 1 (as.map (·.z)).sum
noncomputable abbrev wt (B:List Tm) (t:Nat):Wt:=ev wtF wt0 B t
noncomputable def we (B:List Tm) (o:Op) (t:Nat):Nat:=(wt B t).e o
noncomputable def wp (B:List Tm) (t:Nat):Nat:=(wt B t).p
noncomputable def wh (B:List Tm) (t:Nat):Nat:=(wt B t).h
noncomputable def wz (B:List Tm) (t:Nat):Nat:=(wt B t).z
noncomputable def Lit (B:List Tm) (t:Nat):Prop:=jad B t=.app\/(jad B t=.neg/\jad B ((jaa B t).headD 0)=.app)
section
variable {B:List Tm}
theorem jbg {B':List Tm} (x:Ext B B') {i:Nat} (h:i<B.length):wt B' i=wt B i:=jh5 _ _ x h
theorem jp6 (w:Wf B) (t:Nat):(wt B t).ap=decide (jad B t=.app):=by
 by_cases h:t<B.length
 ·refine rwr (show wt B t=_ from jcD wtF wt0 w h) ?_; rfl
 ·refine rwr (show wt B t=_ from je4 wtF wt0 (Jd2 h)) ?_; refine rwr (Classical.byContradiction λ e=>h (jaN e)) ?_; rfl
theorem jdZ (w:Wf B) {t:Nat} (h:t<B.length):jjv (jad B t) ((jaa B t).map (wt B))=true↔Lit B t:=by
 unfold jjv Lit
 rw [Bool.or_eq_true,Bool.and_eq_true,decide_eq_true_iff,decide_eq_true_iff]
 refine or_congr Iff.rfl (and_congr_right λ hn=>?_)
 refine jdI (ja5 w hn) λ s U e U=>?_
 refine rwr e ?_
 show (wt B s).ap=true↔_
 rw [jp6 w,decide_eq_true_iff]; rfl
theorem jge (w:Wf B) {t:Nat} {o:Op} (ho:o=.con\/o=.dis) (h:jad B t=o):we B o t=((jaa B t).map (we B o)).sum:=by
 have ht:t<B.length:=jaN (by refine rwr h ?_; rcases ho with rfl | rfl <;> exact λ e=>nomatch e)
 unfold we
 refine rwr (show wt B t=_ from jcD wtF wt0 w ht) ?_
 refine rwr h ?_
 have hl:jjv o ((jaa B t).map (wt B))=false:=by rcases ho with rfl | rfl <;> rfl
 have hj:isJ o=true:=by rcases ho with rfl | rfl <;> rfl
 simp only [wtF,hl,hj,Bool.false_eq_true,if_false,if_true]
 refine rwr List.map_map ?_; rfl
theorem jjm (w:Wf B) {t:Nat} {o:Op} (ho:o=.con\/o=.dis) (h:jad B t=jaC o):we B o t=max 1 (mx ((jaa B t).map (we B o))):=by
 have hd:=jaw o
 have ht:t<B.length:=jaN (by refine rwr h ?_; rcases hd with e | e <;> refine rwr e ?_<;> exact λ e=>nomatch e)
 unfold we
 refine rwr (show wt B t=_ from jcD wtF wt0 w ht) ?_
 refine rwr h ?_
 have hl:jjv (jaC o) ((jaa B t).map (wt B))=false:=by rcases hd with e | e <;> refine rwr e ?_<;> rfl
 have hj:isJ (jaC o)=true:=by rcases hd with e | e <;> refine rwr e ?_<;> rfl
 simp only [wtF,hl,hj,Bool.false_eq_true,if_false,if_true]
 refine rwr (if_neg λ e=>jlW o e.symm) ?_; refine rwr List.map_map ?_; rfl
theorem joE (w:Wf B) {t:Nat} {o:Op} (ht:t<B.length) (h:jad B t≠o) (hz:we B o t=0):Lit B t:=by
 dsimp only [we] at hz
 rw [show wt B t=_ from jcD wtF wt0 w ht] at hz
 refine Jc8 (Jc9 (jjv (jad B t) ((jaa B t).map (wt B))=true)) (λ hl=>?_) λ hl=>?_
 ·exact (jdZ w ht).mp hl
 ·exfalso
  simp only [wtF,hl,if_false] at hz
  rw [if_neg (by decide)] at hz
  split at hz
  ·rw [if_neg λ e=>h e.symm] at hz; exact absurd hz (Nat.ne_of_gt (Nat.le_max_left _ _))
  ·exact nomatch hz
theorem jdH (w:Wf B) {t:Nat} (h:jad B t=.neg\/jad B t=.xr):wp B t=((jaa B t).map (wp B)).sum:=by
 have ht:t<B.length:=jaN (by rcases h with h | h <;> refine rwr h ?_<;> exact λ e=>nomatch e)
 unfold wp
 refine rwr (show wt B t=_ from jcD wtF wt0 w ht) ?_
 simp only [wtF]
 refine rwr (if_neg (by rcases h with h | h <;> refine rwr h ?_<;> exact λ e=>nomatch e)) ?_; refine rwr (if_pos h) ?_; refine rwr List.map_map ?_; rfl
theorem jg3 (w:Wf B) {t:Nat} (h1:jad B t≠.neg) (h2:jad B t≠.xr):wp B t=if jad B t=.app then 0 else 1:=by
 refine Jc8 (Jc9 (t<B.length)) (λ ht=>?_) λ ht=>?_
 ·unfold wp
  refine rwr (show wt B t=_ from jcD wtF wt0 w ht) ?_
  dsimp only [wtF]
  split
  ·rfl
  ·refine rwr (if_neg (by rintro (e | e); exact h1 e; exact h2 e)) ?_
   rfl
 ·unfold wp
  refine rwr (show wt B t=_ from je4 wtF wt0 (Jd2 ht)) ?_; refine rwr (Classical.byContradiction λ e=>ht (jaN e)) ?_; rfl
theorem jcM (w:Wf B) {t:Nat} (ht:t<B.length):wz B t=max 1 ((jaa B t).map (wz B)).sum:=by
 unfold wz
 refine rwr (show wt B t=_ from jcD wtF wt0 w ht) ?_
 simp only [wtF]
 refine rwr List.map_map ?_; rfl
theorem jbp (w:Wf B) (t:Nat):1<=wz B t:=by
 refine Jc8 (Jc9 (t<B.length)) (λ ht=>?_) λ ht=>?_
 ·refine rwr (jcM w ht) ?_; exact Nat.le_max_left _ _
 ·unfold wz; refine rwr (show wt B t=_ from je4 wtF wt0 (Jd2 ht)) ?_; exact Jc4 _
theorem jm0 {l:List Nat} {f:Nat->Nat} {s:Nat} (h:s∈l):f s<=(l.map f).sum:=by
 induction l with
 | nil=>exact absurd h Jb2
 | cons x l ih =>
  refine rwr Ja8 ?_
  refine rwr List.sum_cons ?_
  rcases Ja3.mp h with rfl | h
  ·exact Jb5 _ _
  ·exact Ja0 (ih h) (Jc7 _ _)
theorem jeN (w:Wf B) (t:Nat):((jaa B t).map (wz B)).sum<=wz B t:=by
 refine Jc8 (Jc9 (t<B.length)) (λ ht=>?_) λ ht=>?_
 ·refine rwr (jcM w ht) ?_; exact Nat.le_max_right _ _
 ·have:jaa B t=[]:=by unfold jaa; refine rwr (List.getElem?_eq_none (Jd2 ht)) ?_; rfl
  refine rwr this ?_; simp
theorem joF (w:Wf B) {t s:Nat} (h:s∈jaa B t):wz B s<=wz B t:=Ja0 (jm0 h) (jeN w t)
theorem jcL (w:Wf B) {t:Nat} (ht:t<B.length) (hn:¬ Lit B t):wh B t=max 1 (max (mx ((jaa B t).map (wh B))) (if isJ (jad B t) then ((jaa B t).map (we B (jad B t))).sum else if jad B t=.xr then ((jaa B t).map (wp B)).sum else 0)):=by
 unfold wh
 refine rwr (show wt B t=_ from jcD wtF wt0 w ht) ?_
 simp only [wtF,(show ¬ jjv (jad B t) ((jaa B t).map (wt B))=true from λ e=>hn ((jdZ w ht).mp e)),if_false]
 refine rwr List.map_map ?_; refine rwr List.map_map ?_; refine rwr List.map_map ?_; rfl
theorem jka (w:Wf B) {t:Nat} (hn:Lit B t) (o:Op):wh B t=0/\we B o t=0/\wp B t=0:=by
 have ht:t<B.length:=jaN (by rcases hn with h | ⟨h,_⟩ <;> refine rwr h ?_<;> exact λ e=>nomatch e)
 refine ⟨?_,?_,?_⟩
 ·unfold wh
  refine rwr (show wt B t=_ from jcD wtF wt0 w ht) ?_
  simp only [wtF,(jdZ w ht).mpr hn,if_true]
 ·unfold we
  refine rwr (show wt B t=_ from jcD wtF wt0 w ht) ?_
  simp only [wtF,(jdZ w ht).mpr hn,if_true]
 ·rcases hn with h | ⟨h,h2⟩
  ·refine rwr (jg3 w (by refine rwr h ?_; exact λ e=>nomatch e) (by refine rwr h ?_; exact λ e=>nomatch e)) ?_
   refine rwr (if_pos h) ?_
   rfl
  ·refine jdI (ja5 w h) λ s U e U=>?_
   rw [e] at h2
   have h2:jad B s=.app:=h2
   refine rwr (jdH w (.inl h)) ?_
   refine rwr e ?_
   simp only [Ja8,List.map_nil,List.sum_cons,List.sum_nil]
   refine rwr (jg3 w (by refine rwr h2 ?_; exact λ e=>nomatch e) (by refine rwr h2 ?_; exact λ e=>nomatch e)) ?_; refine rwr (if_pos h2) ?_; rfl
theorem jlt (w:Wf B) {t:Nat} (hn:¬ Lit B t):1<=wh B t:=by
 refine Jc8 (Jc9 (t<B.length)) (λ ht=>?_) λ ht=>?_
 ·refine rwr (jcL w ht hn) ?_; exact Nat.le_max_left _ _
 ·unfold wh; refine rwr (show wt B t=_ from je4 wtF wt0 (Jd2 ht)) ?_; exact Jc4 _
theorem jck (g:Gb B) {t:Nat} (h:jad B t=.app\/jad B t=.nil\/jad B t=.tru\/jad B t=.fls):jaa B t=[]:=by
 by_cases ht:t<B.length
 ·have hg:=List.getElem?_eq_getElem ht
  have:=g.ar t _ hg
  rw [<- jan hg,<- jai hg] at this
  replace this:=this
  apply List.length_eq_zero_iff.mp
  rcases h with h | h | h | h <;> rw [h] at this <;> exact eq_of_beq this
 ·unfold jaa; refine rwr (List.getElem?_eq_none (Jd2 ht)) ?_; rfl
theorem jdE (g:Gb B) {t s:Nat} (h:s∈jaa B t):wh B s<=wh B t:=by
 have w:=g.wf
 have ht:t<B.length:=by
  refine Classical.byContradiction λ hn=>?_
  have:jaa B t=[]:=by unfold jaa; refine rwr (List.getElem?_eq_none (Jd2 hn)) ?_; rfl
  rw [this] at h; replace h:=h; exact absurd h Jb2
 refine Jc8 (Jc9 (Lit B t)) (λ hn=>?_) λ hn=>?_
 ·rcases hn with e | ⟨e,e2⟩
  ·rw [jck g (.inl e)] at h; exact (absurd h Jb2)
  ·refine jdI (ja5 w e) λ s' U e3 U=>?_
   rw [e3] at h e2
   obtain rfl:=Ja2.mp h
   refine rwr ((jka w (.inl (e2)) .con).1) ?_; exact Nat.zero_le _
 ·refine rwr (jcL w ht hn) ?_
  have:=jhq (Jb9 ⟨s,h,rfl⟩:wh B s∈(jaa B t).map (wh B))
  exact Ja0 this (Ja0 (Nat.le_max_left _ _) (Nat.le_max_right _ _))
theorem jnX {l:List Nat} {f g:Nat->Nat} (h:∀ x∈l,f x<=g x):mx (l.map f)<=mx (l.map g):=jfW λ y hy=>by
 refine jam (Jb8 hy) λ x hx e_4=>?_
 subst e_4
 exact Ja0 (h x hx) (jhq (Jb9 ⟨x,hx,rfl⟩))
theorem jnU (g:Gb B) {o:Op} (n t:Nat):t<n->we B o t<=wh B t/\wp B t<=wh B t:=by
 induction n generalizing t with
 | zero=>exact λ h=>absurd h (Nat.not_lt_zero _)
 | succ n ih0 =>
  intro h
  have w:=g.wf
  refine Jc8 (Jc9 (Lit B t)) (λ hn=>?_) λ hn=>?_
  ·refine jbq (jka w hn o) λ a b c=>?_
   refine rwr a ?_; refine rwr b ?_; refine rwr c ?_; exact ⟨Jc4 _,Jc4 _⟩
  ·refine Jc8 (Jc9 (t<B.length)) (λ ht=>?_) λ ht=>?_
   ·have ih:∀ s∈jaa B t,we B o s<=wh B s/\wp B s<=wh B s:=λ s hs=>ih0 s (Ja1 (jaL w hs) (Nat.le_of_lt_succ h))
    have hh:=jcL w ht hn
    constructor
    ·refine Jc8 (Jc9 (jad B t=.con\/jad B t=.dis)) (λ hj=>?_) λ hj=>?_
     ·refine Jc8 (Jc9 (jad B t=o)) (λ ho=>?_) λ ho=>?_
      ·refine rwr (jge w (ho▸hj) ho) ?_
       refine rwr hh ?_
       have:isJ (jad B t)=true:=Jd6 hj
       refine rwr this ?_; refine rwr (if_pos rfl) ?_; refine rwr ho ?_; exact Ja0 (Nat.le_max_right _ _) (Nat.le_max_right _ _)
      ·have hd:we B o t=max 1 (mx ((jaa B t).map (we B o))):=by
        unfold we
        refine rwr (show wt B t=_ from jcD wtF wt0 w ht) ?_
        have hl:¬ jjv (jad B t) ((jaa B t).map (wt B))=true:=λ e=>hn ((jdZ w ht).mp e)
        have:isJ (jad B t)=true:=Jd6 hj
        simp only [wtF,hl,this]
        refine rwr (if_neg (by decide)) ?_; refine rwr (if_pos trivial) ?_; refine rwr (if_neg λ e=>ho e.symm) ?_; refine rwr List.map_map ?_; rfl
       refine rwr hd ?_
       refine rwr hh ?_
       have:=jnX λ x hx=>(ih x hx).1
       exact Nat.max_le.mpr ⟨Nat.le_max_left _ _,Ja0 this (Ja0 (Nat.le_max_left _ _) (Nat.le_max_right _ _))⟩
     ·have hd:we B o t=1:=by
       unfold we
       refine rwr (show wt B t=_ from jcD wtF wt0 w ht) ?_
       have hl:¬ jjv (jad B t) ((jaa B t).map (wt B))=true:=λ e=>hn ((jdZ w ht).mp e)
       have:isJ (jad B t)=false:=decide_eq_false hj
       simp only [wtF,hl,this]
       refine rwr (if_neg (by decide)) ?_
       refine rwr (if_neg (by decide)) ?_
       rfl
      refine rwr hd ?_; exact jlt w hn
    ·by_cases hx:jad B t=.xr
     ·refine rwr (jdH w (.inr hx)) ?_
      refine rwr hh ?_
      refine rwr hx ?_
      show _<=max 1 (max _ (if isJ .xr=true then _ else if Op.xr=Op.xr then _ else 0))
      refine rwr (if_neg (by decide)) ?_; refine rwr (if_pos rfl) ?_; exact Ja0 (Nat.le_max_right _ _) (Nat.le_max_right _ _)
     ·by_cases hg:jad B t=.neg
      ·refine jdI (ja5 w hg) λ s U e3 U=>?_
       have h1:=(ih s (by refine rwr e3 ?_; exact .head _)).2
       have h2:=jdE g (t:=t) (s:=s) (by refine rwr e3 ?_; exact .head _)
       refine rwr (jdH w (.inl hg)) ?_
       refine rwr e3 ?_
       simp only [Ja8,List.map_nil,List.sum_cons,List.sum_nil]
       exact Ja0 ‹_› ‹_›
      ·refine rwr (jg3 w hg hx) ?_
       have:=jlt w hn
       exact itg (p:=λ z=>z<=_) (λ U=>Nat.zero_le _) λ U=>this
   ·have h1:wt B t=wt0:=je4 wtF wt0 (Jd2 ht)
    unfold we wp wh
    refine rwr h1 ?_; exact ⟨Jc4 _,Jc4 _⟩
theorem jdD (g:Gb B) (o:Op) (t:Nat):we B o t<=wh B t:=(jnU g (t+1) t (Jd5 t)).1
theorem jp5 (g:Gb B) (t:Nat):wp B t<=wh B t:=(jnU (o:=.con) g (t+1) t (Jd5 t)).2
end
end
section
inductive XA (B:List Tm) (q:Op->Bool):Nat->Nat->Prop
 | leaf {t:Nat}:q (jad B t)=false->XA B q t t
 | arg {t s x:Nat}:q (jad B t)=true->s∈jaa B t->XA B q s x->XA B q t x
theorem jfv (e:Nat->Nat) (p:Nat->Bool):∀ l:List Nat,(l.map e).sum=((l.filter p).map e).sum+((l.filter λ x=>!p x).map e).sum
 | []=>rfl
 | x::l=>by
  have:=jfv e p l
  cases h:p x <;> simp [List.filter_cons,h,this] <;> lia
theorem jkq (e:Nat->Nat) {t:Nat} {f:List Nat} (hall:∀ x∈f,x=t) (hn:f.Nodup):(f.map e).sum<=e t:=by
 rcases f with _ | ⟨x,_ | ⟨y,r⟩⟩
 ·exact Nat.zero_le _
 ·rw [hall x (.head _)]; exact Jc4 _
 ·exact absurd (by rw [hall x (.head _),<- hall y (.tail _ (.head _))]; exact .head _) (Jd9.mp hn).1
theorem jgM (e:Nat->Nat) {P:Nat->Prop} {f:List Nat} {m:Nat} (h:∀ x∈f,P x) (k:∀ x,¬ P x):(f.map e).sum<=m:=by
 rcases f with _ | ⟨x,f⟩
 ·exact Nat.zero_le _
 ·exact absurd (h x (.head _)) (k x)
theorem XA.of_not {B:List Tm} {q:Op->Bool} {t x:Nat} (h:XA B q t x) (hq:¬ q (jad B t)=true):x=t:=by
 cases h with
 | leaf _=>rfl
 | arg h _ _=>exact absurd h hq
theorem XA.of_yes {B:List Tm} {q:Op->Bool} {t x:Nat} (h:XA B q t x) (hq:q (jad B t)=true):∃ s∈jaa B t,XA B q s x:=by
 cases h with
 | leaf h=>rw [hq] at h; exact nomatch h
 | arg _ hs hx=>exact ⟨_,hs,hx⟩
open Classical in
theorem jhb {B:List Tm} (w:Wf B) {q:Op->Bool} {e:Nat->Nat} (he:∀ t,q (jad B t)=true->((jaa B t).map e).sum<=e t) (N:Nat):∀ (l f:List Nat),(∀ t∈l,t<N)->f.Nodup->(∀ x∈f,∃ t∈l,XA B q t x)->(f.map e).sum<=(l.map e).sum:=by
 induction N with
 | zero =>
  intro l f hl _ h
  exact jgM e h λ x k=>jam k λ t ht U=>absurd (hl t ht) (Nat.not_lt_zero _)
 | succ N ihN =>
  intro l
  induction l with
  | nil =>
   intro f _ _ h
   exact jgM e h λ x k=>jam k λ t ht U=>absurd ht Jb2
  | cons t l ihl =>
   intro f hl hf h
   have mf:∀ {x:Nat},x∈f.filter (λ x=>decide (XA B q t x))->XA B q t x:=λ hx=>of_decide_eq_true (List.mem_filter.mp hx).2
   rw [jfv e (λ x=>decide (XA B q t x)) f,Ja8,List.sum_cons]
   refine Nat.add_le_add ?_ (ihl _ (λ z hz=>hl z (.tail _ hz)) (hf.sublist List.filter_sublist) λ x hx=>?_)
   ·refine Jc8 (Jc9 (q (jad B t)=true)) (λ hq=>?_) λ hq=>jkq e (λ x hx=>(mf hx).of_not hq) (hf.sublist List.filter_sublist)
    exact Ja0 (ihN (jaa B t) _ (λ z hz=>Ja1 (jaL w hz) (Nat.le_of_lt_succ (hl t (.head _)))) (hf.sublist List.filter_sublist) λ x hx=>(mf hx).of_yes hq) (he t hq)
   ·refine jbi (List.mem_filter.mp hx) λ h1 h2=>jam (h x h1) λ z hz hzx=>?_
    refine Jc8 (Ja3.mp hz) (λ e=>?_) λ hz=>⟨z,hz,hzx⟩
    subst e
    rw [Jd6 hzx] at h2; exact nomatch h2
theorem ji8 (e:Nat->Nat) {a b:List Nat} (h:a.Sublist b):(a.map e).sum<=(b.map e).sum:=by
 induction h with
 | slnil=>exact Jc4 _
 | cons x _ ih=>exact Ja0 ih (Jc7 _ _)
 | cons_cons x _ ih=>exact Jb3 ih _
inductive Der (B:List Tm) (S:Nat->Prop):Nat->Prop
 | base {t:Nat}:S t->Der B S t
 | arg {t s:Nat}:Der B S t->jad B t=.con\/jad B t=.dis->s∈jaa B t->Der B S s
 | sub {t u:Nat}:Der B S t->jad B t=.con\/jad B t=.dis->jad B u=jad B t->(jaa B u).Sublist (jaa B t)->Der B S u
 | tru:Der B S 1
 | fls:Der B S 2
theorem jhQ {o:Op} (h:o=.con\/o=.dis):o≠.nil:=by rcases h with rfl | rfl <;> exact λ e=>(Op.noConfusion e)
theorem Der.ext {B B':List Tm} {S:Nat->Prop} (x:Ext B B') {t:Nat} (h:Der B S t):Der B' S t:=by
 induction h with
 | base h=>exact .base h
 | arg _ ho hs ih =>
  have:=jaN (jhQ ho)
  exact .arg ih (by refine rwr (x.op this) ?_; exact ho) (by refine rwr (x.args this) ?_; exact hs)
 | sub _ ho he hs ih =>
  have h1:=jaN (jhQ ho)
  have h2:=jaN (by refine rwr he ?_; exact jhQ ho)
  exact .sub ih (by refine rwr (x.op h1) ?_; exact ho) (by refine rwr (x.op h1) ?_; refine rwr (x.op h2) ?_; exact he) (by refine rwr (x.args h1) ?_; refine rwr (x.args h2) ?_; exact hs)
 | tru=>exact .tru
 | fls=>exact .fls
theorem Der.trans {B:List Tm} {S S':Nat->Prop} (k:∀ t,S t->Der B S' t) {t:Nat} (h:Der B S t):Der B S' t:=by
 induction h with
 | base h=>exact k _ h
 | arg _ ho hs ih=>exact .arg ih ho hs
 | sub _ ho he hs ih=>exact .sub ih ho he hs
 | tru=>exact .tru
 | fls=>exact .fls
theorem Der.wh {B:List Tm} (g:Gb B) {S:Nat->Prop} {H:Nat} (h1:1<=H) (k:∀ t,S t->wh B t<=H) {t:Nat} (h:Der B S t):wh B t<=H:=by
 have w:=g.wf
 induction h with
 | base h=>exact k _ h
 | arg _ ho hs ih=>exact Ja0 (jdE g hs) ih
 | @sub t u _ ho he hs ih =>
  have hu:=jaN (by rw [he]; exact jhQ ho)
  have nl:∀ {z},jad B z=.con\/jad B z=.dis->¬ Lit B z:=λ hz hl=>by
   rcases hl with e | ⟨e,_⟩ <;> rcases hz with h | h <;> rw [h] at e <;> cases e
  rw [jcL w hu (nl (he▸ho)),he]
  have hj:isJ (jad B t)=true:=Jd6 ho
  rw [hj,if_pos rfl]
  have s1:mx ((jaa B u).map (Mine.wh B))<=mx ((jaa B t).map (Mine.wh B)):=jfW λ y hy=>by
   obtain ⟨x,hx,rfl⟩:=Jb8 hy
   exact jhq (Jb9 ⟨x,hs.subset hx,rfl⟩)
  have s2:=ji8 (we B (jad B t)) hs
  have:=jcL w (jaN (jhQ ho)) (nl ho)
  rw [hj,if_pos rfl] at this
  exact Ja0 (jiu (jmr s1 s2)) (Ja0 (Jb7 this.symm) ih)
 | tru =>
  have e:jad B 1=.tru:=op1 w
  rw [jcL w (jaN (by rw [e]; exact λ e=>nomatch e)) (by rintro (h | ⟨h,_⟩) <;> rw [e] at h <;> cases h),e,jck g (.inr (.inr (.inl e)))]
  exact h1
 | fls =>
  have e:jad B 2=.fls:=op2 w
  rw [jcL w (jaN (by rw [e]; exact λ e=>nomatch e)) (by rintro (h | ⟨h,_⟩) <;> rw [e] at h <;> cases h),e,jck g (.inr (.inr (.inr e)))]
  exact h1
inductive Und (B:List Tm):List Nat->Nat->Prop
 | nil:Und B [] 0
 | dn {t k:Nat} {st:List Nat}:Dn B t->Und B st k->Und B (t::st) k
 | new {t k:Nat} {st:List Nat}:Und B st k->Und B (t::st) (k+1)
theorem Und.ext {B B':List Tm} (x:Ext B B') {st:List Nat} {k:Nat} (h:Und B st k):Und B' st k:=by
 induction h with
 | nil=>exact .nil
 | dn h _ ih=>exact .dn (h.ext x) ih
 | new _ ih=>exact .new ih
theorem Und.app {B:List Tm} {st:List Nat} {k:Nat} (h:Und B st k):∀ l:List Nat,(∀ t∈l,Dn B t)->Und B (l++st) k
 | [],_=>h
 | x::l,hl=>.dn (hl x (.head _)) (Und.app h l λ t ht=>hl t (.tail _ ht))
theorem Und.len {B:List Tm}:∀ st:List Nat,Und B st st.length
 | []=>.nil
 | _::st=>.new (Und.len st)
theorem je7 {o:Op} (ho:o=.con\/o=.dis):∀ (n:Nat) {B B':List Tm} {f st:List Nat} {fr:Option (List Nat)} {k:Nat},Gb B->(∀ t∈st,t<B.length/\1<=t)->Und B st k->jat n B o f st=some (fr,B')->B'.length<=B.length+k:=by
 intro n
 induction n with
 | zero =>
  intro _ _ _ _ _ _ _ _ _ h
  simp [jat] at h
 | succ n ih =>
  intro B B' f w_2
  cases w_2 with
  | nil =>
   intro _ k g _ _ h
   simp only [jat,Option.some.injEq,Prod.mk.injEq] at h
   obtain ⟨rfl,rfl⟩:=h
   exact Jb5 _ _
  | cons t st =>
   intro fr k g hs hu h
   have ht:=hs t (.head _)
   have hst:∀ x∈st,x<B.length/\1<=x:=λ x hx=>hs x (.tail _ hx)
   have hx:=jag B t
   have g2:=(jau g ht.1 ht.2).1
   have hst2:∀ x∈st,x<(jab B t).2.length/\1<=x:=λ x hx'=>⟨Ja1 (hst x hx').1 hx.len,(hst x hx').2⟩
   obtain ⟨k',hk1,hk2,hk3⟩:∃ k',Und B st k'/\(jab B t).2.length+k'<=B.length+k/\k'<=k:=by
    cases hu with
    | dn hd hu =>
     refine jam (hd.not g.wf g.nd ht.1) λ y U e=>?_
     exact jfE k hu (by refine rwr e ?_; exact Jc4 _) (Jc4 _)
    | @new _ k1 _ hu=>exact jfE k1 hu (by have:=jaK B t; lia) (Jb5 _ _)
   dsimp only [jat] at h
   split at h
   ·have:=ih g hst hk1 h; exact Ja0 ‹_› (Jb3 ‹_› _)
   ·split at h
    ·simp only [Option.some.injEq,Prod.mk.injEq] at h; replace h:=h; obtain ⟨rfl,rfl⟩:=h; exact Jb5 _ _
    ·split at h
     ·simp only [Option.some.injEq,Prod.mk.injEq] at h; obtain ⟨rfl,rfl⟩:=h; exact Ja0 (Jb5 _ _) ‹_›
     ·refine ith h (λ hop h=>?_) λ q_15 h=>?_
      ·refine jcV (g2.at hop ho) λ a1 a2 a3 U=>?_
       have:=ih g2 (λ x hx'=>by
        refine Jc8 (Ja9.mp hx') (λ q=>?_) λ q=>?_
        ·exact ⟨Jd1 (a3 x q).1 a2,(a3 x q).2⟩
        ·exact hst2 x q) ((hk1.ext hx).app _ a1.dn) h
       exact Ja0 ‹_› ‹_›
      ·have:=ih g2 hst2 (hk1.ext hx) h
       exact Ja0 ‹_› ‹_›
noncomputable def pot (B:List Tm) (o:Op) (st:List Nat):Nat:=(st.map λ t=>if jad B t=o then 64 else 1).sum
theorem jmF {B B':List Tm} (x:Ext B B') {o:Op} {st:List Nat} (h:∀ t∈st,t<B.length):pot B' o st=pot B o st:=by
 unfold pot; congr 1
 exact List.map_congr_left λ t ht=>by refine rwr (x.op (h t ht)) ?_; rfl
theorem jiQ (B:List Tm) (o:Op):∀ st:List Nat,pot B o st<=64*st.length
 | []=>Jc4 _
 | t::st=>by
  have:=jiQ B o st
  dsimp only [pot] at this ⊢
  rw [Ja8,List.sum_cons,List.length_cons,Nat.mul_succ,Nat.add_comm]
  exact Nat.add_le_add this (itg (p:=λ z=>z<=64) (λ U=>Jc4 _) λ U=>by decide)
theorem jgQ {B:List Tm} {o:Op}:∀ l:List Nat,(∀ z∈l,jad B z≠o)->pot B o l=l.length
 | [],_=>rfl
 | x::l,h=>by
  have:=jgQ l λ z hz=>h z (.tail _ hz)
  unfold pot at this ⊢
  simp only [Ja8,List.sum_cons,List.length_cons,this]
  refine rwr (if_neg (h x (.head _))) ?_; exact Nat.add_comm _ _
theorem jmE (B:List Tm) (o:Op) (a b:List Nat):pot B o (a++b)=pot B o a+pot B o b:=by unfold pot; simp
theorem je8 {o:Op} (ho:o=.con\/o=.dis):∀ (n:Nat) {B:List Tm} {f st:List Nat},Gb B->(∀ t∈st,t<B.length/\1<=t)->pot B o st<n->∃ q,jat n B o f st=some q:=by
 intro n
 induction n with
 | zero =>
  intro _ _ _ _ _ h
  exact absurd ‹_› (Nat.not_lt_zero _)
 | succ n ih =>
  intro B f w_3
  cases w_3 with
  | nil =>
   intro _ _ _
   exact ⟨_,rfl⟩
  | cons t st =>
   intro g hs h
   have ht:=hs t (.head _)
   have hst:∀ x∈st,x<B.length/\1<=x:=λ x hx=>hs x (.tail _ hx)
   have hx:=jag B t
   have g2:=(jau g ht.1 ht.2).1
   have hst2:∀ x∈st,x<(jab B t).2.length/\1<=x:=λ x hx'=>⟨Ja1 (hst x hx').1 hx.len,(hst x hx').2⟩
   have hp:pot B o (t::st)=(if jad B t=o then 64 else 1)+pot B o st:=rfl
   have hpe:=jmF hx (o:=o) λ z hz=>(hst z hz).1
   have hge:1<=(if jad B t=o then 64 else 1):=itg (p:=λ z=>1<=z) (λ U=>by decide) λ U=>Jc4 _
   unfold jat
   refine itg (λ q_16=>?_) λ q_17=>?_
   ·exact ih g hst (jqe hp hge h)
   ·refine itg (λ q_18=>?_) λ q_19=>?_
    ·exact ⟨_,rfl⟩
    ·refine itg (λ q_20=>?_) λ q_21=>?_
     ·exact ⟨_,rfl⟩
     ·refine itg (λ hop=>?_) λ q_22=>?_
      ·refine jg4 (g2.at hop ho) λ a1 a2 a3 U a5=>?_
       refine ih g2 (λ x hx'=>?_) ?_
       ·refine Jc8 (Ja9.mp hx') (λ q=>?_) λ q=>?_
        ·exact ⟨Jd1 (a3 x q).1 a2,(a3 x q).2⟩
        ·exact hst2 x q
       ·rw [jmE]
        refine rwr (jgQ _ λ z hz=>(a1.ne z hz).2.2) ?_
        refine rwr hpe ?_
        rw [hx.op ht.1] at hop
        rw [if_pos hop] at hp
        lia
      ·exact ih g2 hst2 (by refine rwr hpe ?_; exact jqe hp hge h)
theorem je6 {Bf:List Tm} {o:Op} (ho:o=.con\/o=.dis):∀ (n:Nat) {B B':List Tm} {f f' st:List Nat},Gb B->(∀ t∈st,t<B.length/\1<=t)->jat n B o f st=some (some f',B')->Ext B' Bf ->
  ∀ x∈f',x∈f\/∃ t∈st,XA Bf (λ p=>decide (p=o)) t x:=by
 intro n
 induction n with
 | zero =>
  intro _ _ _ _ _ _ _ h _
  simp [jat] at h
 | succ n ih =>
  intro B B' f f' w_4
  cases w_4 with
  | nil =>
   intro _ _ h _
   simp only [jat,Option.some.injEq,Prod.mk.injEq] at h
   obtain ⟨rfl,rfl⟩:=h
   exact λ x hx=>.inl hx
  | cons t st =>
   intro g hs h xf
   have ht:=hs t (.head _)
   have hst:∀ x∈st,x<B.length/\1<=x:=λ x hx=>hs x (.tail _ hx)
   have hx:=jag B t
   have g2:=(jau g ht.1 ht.2).1
   have hst2:∀ x∈st,x<(jab B t).2.length/\1<=x:=λ x hx'=>⟨Ja1 (hst x hx').1 hx.len,(hst x hx').2⟩
   have up:∀ {x:Nat},x∈f\/(∃ t∈st,XA Bf (λ p=>decide (p=o)) t x)->x∈f\/∃ z∈t::st,XA Bf (λ p=>decide (p=o)) z x:=λ h=>by
    rcases h with h | ⟨z,hz,h⟩
    ·exact .inl h
    ·exact .inr ⟨z,.tail _ hz,h⟩
   dsimp only [jat] at h
   split at h
   ·exact λ x hx=>up (ih g hst h xf x hx)
   ·split at h
    ·simp at h
    ·split at h
     ·simp at h
     ·refine ith h (λ hop h=>?_) λ hop h=>?_
      ·have xb:Ext (jab B t).2 Bf:=(jaz n h).trans xf
       refine jcV (g2.at hop ho) λ a1 a2 a3 U=>?_
       intro x hx'
       rcases ih g2 (λ x hx'=>by
        rcases Ja9.mp hx' with q | q
        ·exact ⟨Jd1 (a3 x q).1 a2,(a3 x q).2⟩
        ·exact hst2 x q) h xf x hx' with q | ⟨z,hz,q⟩
       ·exact .inl q
       ·rcases Ja9.mp hz with hz | hz
        ·exact .inr ⟨t,.head _,.arg (by refine rwr (xb.op a2) ?_; refine rwr hop ?_; exact Jd6 rfl) (by refine rwr (xb.args a2) ?_; exact hz) q⟩
        ·exact .inr ⟨z,.tail _ hz,q⟩
      ·intro x hx'
       rcases ih g2 hst2 h xf x hx' with q | q
       ·refine Jc8 (jiv.mp q) (λ q=>?_) λ e_11=>?_
        ·exact .inl q
        ·subst e_11; exact .inr ⟨x,.head _,.leaf (by refine rwr (((jaz n h).trans xf).op (Ja1 ht.1 hx.len)) ?_; exact decide_eq_false hop)⟩
       ·exact up (.inr q)
theorem XA.der {B:List Tm} {o:Op} (ho:o=.con\/o=.dis) {S:Nat->Prop} {t x:Nat} (h:XA B (λ p=>decide (p=o)) t x):Der B S t->Der B S x:=by
 induction h with
 | leaf _=>exact id
 | arg hq hs _ ih=>exact λ d=>ih (.arg d (by refine rwr (of_decide_eq_true hq) ?_; exact ho) hs)
end
section
section
variable {B Bf:List Tm}
theorem jed (g:Gb B) {t:Nat} (h:t=1\/t=2):jaa B t=[]/\t<B.length/\¬ Lit B t:=by
 have hl:=g.wf.len
 rcases h with rfl | rfl
 ·exact ⟨jck g (.inr (.inr (.inl (op1 g.wf)))),Jb6 ‹_›,by rintro (h | ⟨h,_⟩) <;> rw [op1 g.wf] at h <;> exact absurd h (by decide)⟩
 ·exact ⟨jck g (.inr (.inr (.inr (op2 g.wf)))),by assumption,by rintro (h | ⟨h,_⟩) <;> rw [op2 g.wf] at h <;> exact absurd h (by decide)⟩
theorem jcd (g:Gb B) {t:Nat} (h:t=1\/t=2):wz B t=1:=by
 refine jbq (jed g h) λ a b U=>?_
 refine rwr (jcM g.wf b) ?_; refine rwr a ?_; rfl
theorem jcc (g:Gb B) {t:Nat} (h:t=1\/t=2):wh B t=1:=by
 refine jbq (jed g h) λ a b c=>?_
 refine rwr (jcL g.wf b c) ?_
 refine rwr a ?_
 rcases h with rfl | rfl
 ·refine rwr (op1 g.wf) ?_; rfl
 ·refine rwr (op2 g.wf) ?_; rfl
theorem joo (e:Nat->Nat) (he:∀ t,1<=e t) {a b:List Nat} (h:a.Sublist b) (hn:a≠b):(a.map e).sum+1<=(b.map e).sum:=by
 induction h with
 | slnil=>exact absurd rfl hn
 | cons x h _=>exact Ja0 (Jb7 (Nat.add_comm _ _)) (Nat.add_le_add (he x) (ji8 e h))
 | cons_cons x _ ih =>
  exact Jb3 (ih λ e=>hn (by refine rwr e ?_; rfl)) _
theorem jga (e:Nat->Nat) (he:∀ t,1<=e t):∀ l:List Nat,l.length<=(l.map e).sum
 | []=>Jc4 _
 | x::l=>Ja0 (Jb7 (Nat.add_comm _ _)) (Nat.add_le_add (he x) (jga e he l))
theorem jbd {e e':Nat->Nat} {l:List Nat} (h:∀ x∈l,e x=e' x):(l.map e).sum=(l.map e').sum:=by refine rwr (List.map_congr_left h) ?_; rfl
theorem jh3 {o:Op} (ho:o=.con\/o=.dis) {t:Nat} {p:Nat->Bool} (g:Gb B) (gf:Gb Bf) (h:jad B t=o) (hp:(jaa B t).filter p≠jaa B t) (x:Ext (jaA B o ((jaa B t).filter p)).2 Bf) :
  wz Bf (jaA B o ((jaa B t).filter p)).1+1<=wz Bf t/\we Bf (jaC o) (jaA B o ((jaa B t).filter p)).1<=we Bf (jaC o) t/\(jaA B o ((jaa B t).filter p)).2.length<=B.length+1/\∀ S,Der Bf S t->Der Bf S (jaA B o ((jaa B t).filter p)).1:=by
 refine jg4 (g.at h ho) λ U h2 h3 h4 U=>?_
 have wf:=gf.wf
 have xB:Ext B Bf:=(jaD B o _).trans x
 have hof:jad Bf t=o:=by refine rwr (xB.op h2) ?_; refine rwr h ?_; rfl
 have haf:jaa Bf t=jaa B t:=xB.args h2
 have hz:=jcM wf (Ja1 h2 xB.len)
 have hzl:=jga (wz Bf) (jbp wf) (jaa B t)
 have hsub:((jaa B t).filter p).Sublist (jaa B t):=List.filter_sublist
 have hlt:=joo (wz Bf) (jbp wf) hsub hp
 have hd:=jjm wf (jaw o) (t:=t) (by refine rwr (jdd ho) ?_; exact hof)
 rw [haf] at hz hd
 have hof':jad Bf t=.con\/jad Bf t=.dis:=by refine rwr hof ?_; exact ho
 have up:∀ {n:Nat},n+1<=((jaa B t).map (wz Bf)).sum->n+1<=wz Bf t:=λ h=>Ja0 h (Ja0 (Nat.le_max_right _ _) (Jb7 hz.symm))
 have two:∀ (a b:Nat) (r:List Nat),(jaa B t).filter p=a::b::r->Ext (mk B ⟨o,a::b::r,0⟩).2 Bf->wz Bf (mk B ⟨o,a::b::r,0⟩).1+1<=wz Bf t/\we Bf (jaC o) (mk B ⟨o,a::b::r,0⟩).1<=we Bf (jaC o) t/\(mk B ⟨o,a::b::r,0⟩).2.length<=B.length+1/\∀ S,Der Bf S t->Der Bf S (mk B ⟨o,a::b::r,0⟩).1:=λ a b r hl x=>by
  have hg:=x.get (jba B ⟨o,a::b::r,0⟩)
  have ho':jad Bf (mk B ⟨o,a::b::r,0⟩).1=o:=jan hg
  have ha':jaa Bf (mk B ⟨o,a::b::r,0⟩).1=(jaa B t).filter p:=by refine rwr hl ?_; exact jai hg
  have hz2:=jcM wf ((Jc0 hg).1)
  have hd2:=jjm wf (jaw o) (t:=(mk B ⟨o,a::b::r,0⟩).1) (by refine rwr (jdd ho) ?_; exact ho')
  rw [ha'] at hz2 hd2
  refine ⟨Ja0 (Jc1 (Jb7 hz2)) (up (Nat.max_lt.mpr ⟨Ja0 ‹_› hzl,hlt⟩)),?_,?_,λ S d=>.sub d hof' (by refine rwr ho' ?_; refine rwr hof ?_; rfl) (by refine rwr ha' ?_; refine rwr haf ?_; exact hsub)⟩
  ·refine rwr hd ?_
   refine rwr hd2 ?_
   have:mx (((jaa B t).filter p).map (we Bf (jaC o)))<=mx ((jaa B t).map (we Bf (jaC o))):=jfW λ y hy=>by
    refine jam (Jb8 hy) λ z hz e_5=>?_
    subst e_5
    exact jhq (Jb9 ⟨z,hsub.subset hz,rfl⟩)
   exact jiu this
  ·unfold mk; split <;> simp
 have one:∀ a,(jaa B t).filter p=[a]->wz Bf a+1<=wz Bf t/\we Bf (jaC o) a<=we Bf (jaC o) t/\B.length<=B.length+1/\∀ S,Der Bf S t->Der Bf S a:=λ a hl=>by
  have hm:a∈jaa B t:=hsub.subset (by refine rwr hl ?_; exact .head _)
  rw [hl] at hlt
  simp only [Ja8,List.map_nil,List.sum_cons,List.sum_nil] at hlt
  refine ⟨up hlt,?_,Nat.le_succ _,λ S d=>.arg d hof' (by refine rwr haf ?_; exact hm)⟩
  refine rwr hd ?_
  exact Ja0 (jhq (Jb9 ⟨a,hm,rfl⟩:we Bf (jaC o) a∈(jaa B t).map (we Bf (jaC o)))) (Nat.le_max_right _ _)
 have nul:∀ a,a=1\/a=2->(∀ S,Der Bf S a)->wz Bf a+1<=wz Bf t/\we Bf (jaC o) a<=we Bf (jaC o) t/\B.length<=B.length+1/\∀ S,Der Bf S t->Der Bf S a:=λ a ha hS=>by
  refine ⟨by refine rwr (jcd gf ha) ?_; exact up (Ja0 ‹_› hzl),?_,Nat.le_succ _,λ S U=>hS S⟩
  have:=jdD gf (jaC o) a
  rw [jcc gf ha] at this
  refine rwr hd ?_; exact Ja0 this (Nat.le_max_left _ _)
 rcases hl:(jaa B t).filter p with _ | ⟨a,_ | ⟨b,r⟩⟩
 ·refine Jc8 ho (λ e_5=>?_) λ e_6=>?_
  ·subst e_5; exact nul 1 (.inl rfl) λ U=>.tru
  ·subst e_6; exact nul 2 (.inr rfl) λ U=>.fls
 ·refine Jc8 ho (λ e_8=>?_) λ e_9=>?_
  ·subst e_8; exact one a hl
  ·subst e_9; exact one a hl
 ·rw [hl] at x
  rcases ho with rfl | rfl
  ·exact two a b r hl x
  ·exact two a b r hl x
structure ThinIs (Bf:List Tm) (o:Op) (n:Nat) (l:List Nat) (q:List Nat×List Tm) (k:Nat):Prop where
 len:q.2.length<=n+k
 und:Und q.2 q.1 k
 z:(q.1.map (wz Bf)).sum+k<=(l.map (wz Bf)).sum
 st:q.1=l\/(q.1.map (wz Bf)).sum<(l.map (wz Bf)).sum
 e:(q.1.map (we Bf (jaC o))).sum<=(l.map (we Bf (jaC o))).sum
 d:∀ S,(∀ t∈l,Der Bf S t)->∀ x∈q.1,Der Bf S x
theorem jhH {o:Op} (ho:o=.con\/o=.dis) (f:List Nat) (gf:Gb Bf) (l:List Nat) {B:List Tm} (g:Gb B) (hl:∀ t∈l,t<B.length/\1<=t) (hd:∀ t∈l,Dn B t) (x:Ext (jal B o f l).2 Bf):∃ k,ThinIs Bf o B.length l (jal B o f l) k:=by
 refine jcz ho (M:=λ B l k' B' U=>(∀ t∈l,Dn B t)->Ext B' Bf->∃ k,ThinIs Bf o B.length l (k',B') k) ?_ ?_ ?_ ?_ l g hl hd x
 ·exact λ B g U U=>⟨0,Jc4 _,.nil,Jc4 _,.inl rfl,Jc4 _,λ U U U h=>(absurd h Jb2)⟩
 ·intro B t r k' B' C g ht xe _ m hd x
  refine jbh (m (λ z hz=>hd z (.tail _ hz)) x) λ k h=>?_
  have hp:=jbp gf.wf t
  have h1:=h.z
  have h2:=h.e
  refine ⟨k,h.len,.dn ((hd t (.head _)).ext xe) h.und,?_,h.st.elim (λ e=>.inl (congrArg (List.cons t) e)) (λ e=>.inr ?_),?_,λ S hS=>all_cons (hS _ (.head _)) λ z hz=>h.d S (λ z hz=>hS z (.tail _ hz)) z hz⟩
  ·exact Ja0 (Jb7 (Nat.add_assoc _ _ _)) (Jb3 h1 _)
  ·exact Nat.add_lt_add_left e _
  ·exact Jb3 h2 _
 ·intro B t r k' B' C g ht xe _ _ m hd x
  refine jbh (m (λ z hz=>hd z (.tail _ hz)) x) λ k h=>?_
  have hp:=jbp gf.wf t
  have h1:=h.z
  have h2:=h.e
  refine ⟨k,h.len,h.und,?_,.inr ?_,?_,λ S hS z hz=>h.d S (λ z hz=>hS z (.tail _ hz)) z hz⟩
  ·exact Ja0 h1 (Jc7 _ _)
  ·exact Jb1 (Ja0 (Jb5 _ _) h1) (Nat.lt_add_of_pos_left hp)
  ·exact Ja0 h2 (Jc7 _ _)
 ·intro B t r k' B' C g ht hop _ _ hne xe m hd x
  refine jcV (jh3 ho g gf hop hne (xe.trans x)) λ f1 f2 f3 f4=>?_
  refine jbh (m (λ z hz=>(hd z (.tail _ hz)).ext (jaD _ _ _)) x) λ k h=>?_
  have hp:=jbp gf.wf t
  have h1:=h.z
  have h2:=h.e
  have h3:=h.len
  refine ⟨k+1,?_,.new h.und,?_,.inr ?_,?_,λ S hS=>all_cons (f4 S (hS _ (.head _))) λ z hz=>h.d S (λ z hz=>hS z (.tail _ hz)) z hz⟩
  ·exact Ja0 h3 (Ja0 (Jb4 f3 _) (Jb7 (by rw [Nat.add_assoc,Nat.add_comm 1])))
  ·exact Ja0 (Jb7 (by rw [Nat.add_comm k,Ja8,List.sum_cons,Nat.add_add_add_comm])) (Nat.add_le_add f1 h1)
  ·exact Ja1 (Nat.add_lt_add_right f1 _) (Jb3 (Ja0 (Jb5 _ _) h1) _)
  ·exact Nat.add_le_add f2 h2
theorem jjH (w:Wn B) {x y:Nat} (h:jac B x=jac B y):x=y\/Neg B x y:=by
 unfold jac at h
 by_cases hx:jad B x=.neg
 ·refine joW (ja5 w.wf hx) λ s e1 e2 e3 e4 U=>?_
  rw [if_pos hx,e2] at h
  replace h:=h
  have h:s=_:=h
  by_cases hy:jad B y=.neg
  ·refine jjo (ja5 w.wf hy) λ s' f1 f2 f3 U=>?_
   rw [if_pos hy,f2] at h
   replace h:=h
   have h:s=s':=h
   subst h
   exact .inl (jc3 w.nd e1 f1)
  ·rw [if_neg hy] at h
   replace h:=h
   subst h
   exact .inr (.inr (.inr (.inr e1)))
 ·rw [if_neg hx] at h
  by_cases hy:jad B y=.neg
  ·refine jjo (ja5 w.wf hy) λ s' f1 f2 f3 U=>?_
   rw [if_pos hy,f2] at h
   replace h:=h
   have h:x=s':=h
   subst h
   exact .inr (.inr (.inr (.inl f1)))
  ·rw [if_neg hy] at h; exact .inl h
theorem jgJ (g:Gb B) {t:Nat} (h:Lit B t):3<=jac B t/\jac B t<7:=by
 have hb:jad B (jac B t)=.app:=by
  unfold jac
  rcases h with h | ⟨h,h2⟩
  ·refine rwr (if_neg (by refine rwr h ?_; exact λ e=>nomatch e)) ?_; exact h
  ·refine rwr (if_pos h) ?_; exact h2
 generalize jac B t=x at hb
 have hx:x<B.length:=jaN (by refine rwr hb ?_; exact λ e=>nomatch e)
 have hg:=List.getElem?_eq_getElem hx
 have h7:=g.ap x _ hg (by refine rwl (jan hg) ?_; exact hb)
 refine ⟨?_,h7⟩
 rcases x with _ | _ | _ | x
 ·rw [jan g.z0] at hb; exact absurd hb (by decide)
 ·rw [op1 g.wf] at hb; replace hb:=hb; exact absurd hb (by decide)
 ·rw [op2 g.wf] at hb; replace hb:=hb; exact absurd hb (by decide)
 ·exact Jc7 _ _
theorem jmq (g:Gb B) {l:List Nat} (hn:l.Nodup) (hl:∀ x∈l,Lit B x) (hc:∀ x∈l,∀ y,Neg B x y->y∉l):l.length<=4:=by
 have h1:(l.map λ x=>((jac B x:Nat):Int) - 3).Nodup:=by
  rw [List.nodup_iff_pairwise_ne] at hn ⊢
  rw [List.pairwise_map]
  refine hn.imp_of_mem λ {x y} hx hy hxy e=>?_
  refine Jc8 (jjH g.wn (show jac B x=jac B y from by lia)) (λ h=>?_) λ h=>?_
  ·exact hxy h
  ·exact hc x hx y h hy
 have:=jdw 4 h1 λ z hz=>by
  refine jam (Jb8 hz) λ x hx e_14=>?_
  subst e_14
  refine jbi (jgJ g (hl x hx)) λ a b=>?_
  exact ja2 (jac B x - 3) (by lia) (by omega)
 simpa using this
theorem jgA (g:Gb B) {l:List Nat} {e:Nat->Nat} (hn:l.Nodup) (hl:∀ x∈l,e x=0->Lit B x) (hc:∀ x∈l,∀ y,Neg B x y->y∉l):l.length<=4+(l.map e).sum:=by
 have h1:(l.filter λ x=>decide (e x=0)).length<=4:=jmq g (hn.sublist List.filter_sublist) (λ x hx=>hl x (List.mem_filter.mp hx).1 (of_decide_eq_true (List.mem_filter.mp hx).2)) λ x hx y hy hm=>hc x (List.mem_filter.mp hx).1 y hy (List.mem_filter.mp hm).1
 have h2:∀ l:List Nat,l.length<=(l.filter λ x=>decide (e x=0)).length+(l.map e).sum:=λ l=>by
  induction l with
  | nil=>exact Jc4 _
  | cons x l ih =>
   refine Jc8 (Jc9 (e x=0)) (λ h=>?_) λ h=>?_
   ·refine rwr (List.filter_cons_of_pos (by simpa using h)) ?_; simp only [List.length_cons,Ja8,List.sum_cons]; lia
   ·refine rwr (List.filter_cons_of_neg (by simpa using h)) ?_; simp only [List.length_cons,Ja8,List.sum_cons]; lia
 have:=h2 l
 exact Ja0 ‹_› (Jb4 ‹_› _)
end
noncomputable def Out (B B':List Tm) (o:Op) (r E Z:Nat) (S:Nat->Prop):Prop:=r=jaU o\/∃ Bk kept,Ext B Bk/\Gb Bk/\Sta Bk o kept/\(∀ t∈kept,t<Bk.length/\1<=t)/\kept.length<=63/\jaA Bk o kept=(r,B')/\(kept.map (we Bk o)).sum<=E/\(kept.map (wz Bk)).sum<=Z/\∀ x∈kept,Der Bk S x
theorem Out.mono {B0 B B':List Tm} {o:Op} {r E Z E2 Z2:Nat} {S S2:Nat->Prop} (h:Out B B' o r E Z S) (x:Ext B0 B) (he:E<=E2) (hz:Z<=Z2) (hs:∀ Bk,Ext B Bk->Gb Bk->∀ t,S t->Der Bk S2 t):Out B0 B' o r E2 Z2 S2:=by
 rcases h with h | ⟨Bk,kept,h0,h1,h2,h3,h4,h5,h6,h7,h8⟩
 ·exact .inl h
 ·exact .inr ⟨Bk,kept,x.trans h0,h1,h2,h3,h4,h5,Ja0 h6 he,Ja0 h7 hz,λ x hx=>(h8 x hx).trans λ t ht=>hs Bk h0 h1 t ht⟩
theorem jh2 (Q:List Tm) (o:Op) (l:List Nat):(jaA Q o l).2.length<=Q.length+1:=by
 unfold jaA jfF jmy mk; repeat' split
 all_goals simp
theorem jnG {B:List Tm} {o:Op} {f:List Nat} (g:Gb B) (fi:FI B o f):f.length<=4+(f.map (we B o)).sum :=
 jgA g fi.nd (λ x hx h=>joE g.wf (fi.lt x hx).1 (fi.ne x hx).2.2 h) fi.nn
theorem jik {o:Op} (ho:o=.con\/o=.dis):∀ (n:Nat) {B:List Tm} {f:List Nat},Gb B->FI B o f->(f.map (we B o)).sum<=59->(f.map (wz B)).sum+5000<=n ->
  ∃ r B',ja0 n B o (some f)=some (r,B')/\B'.length<=B.length+2*(f.map (wz B)).sum+1/\Out B B' o r (f.map (we B o)).sum (f.map (wz B)).sum (λ x=>x∈f):=by
 intro n
 induction n with
 | zero =>
  exact λ U U U h=>absurd (Ja0 (Jc7 _ _) h) (by decide)
 | succ n ih =>
  intro B f g fi he hz
  have h63:f.length<=63:=Ja0 (jnG g fi) (Jb3 he 4)
  have hs:∀ t∈jaf f,t<B.length/\1<=t:=λ t ht=>fi.lt t (jaV.mp ht)
  refine jcV (jeJ (jaw o) f (jaf f) g hs) λ g1 k1 k2 k3=>?_
  obtain ⟨k,T⟩:=jhH (jaw o) f g1 (jaf f) g hs (λ t ht=>fi.dn t (jaV.mp ht)) (Ext.refl _)
  have hx:=jaZ (jaf f) B (jaC o) f
  have pw:((jaf f).map (we (jal B (jaC o) f (jaf f)).2 o)).sum=(f.map (we B o)).sum:=by
   refine rwr ((List.Perm.map _ (jas f)).sum_nat) ?_
   exact jbd λ x hx'=>by show (wt _ x).e o=_; refine rwr (jbg hx (fi.lt x hx').1) ?_; rfl
  have pz:((jaf f).map (wz (jal B (jaC o) f (jaf f)).2)).sum=(f.map (wz B)).sum:=by
   refine rwr ((List.Perm.map _ (jas f)).sum_nat) ?_
   exact jbd λ x hx'=>by show (wt _ x).z=_; refine rwr (jbg hx (fi.lt x hx').1) ?_; rfl
  have Te:=T.e
  have Tz:=T.z
  have Ts:=T.st
  rw [jdd ho,pw] at Te
  replace Te:=Te
  rw [pz] at Tz Ts
  replace Tz:=Tz
  replace Ts:=Ts
  have Td:=T.d (λ x=>x∈f) λ t ht=>.base (jaV.mp ht)
  have Tl:=T.len
  have hsl:(jaf f).length=f.length:=(jas f).length_eq
  unfold ja0
  refine rwr (if_neg (Nat.not_lt.mpr h63)) ?_
  dsimp only
  refine itg (λ hk=>?_) λ hk=>?_
  ·refine jbi (jfw (jaw o) f (jaf f) g hs hk) λ e1 e2=>?_
   refine jdS _ _ rfl ?_ (.inr ⟨_,_,hx,g1,by refine rwr hk ?_; refine rwr e1 ?_; exact (jll g fi e2),k1,by rw [hk,hsl]; exact h63,rfl,Te,?_,Td⟩)
   ·have h1:=jh2 (jal B (jaC o) f (jaf f)).2 o (jal B (jaC o) f (jaf f)).1
    have h2:(jal B (jaC o) f (jaf f)).2.length=B.length:=by refine rwr e1 ?_; rfl
    rw [h2] at h1
    exact Ja0 h1 (Jc1 (Jb5 _ _))
   ·exact Ja0 (Jb5 _ _) Tz
  ·have Ts:=Ts.resolve_left hk
   refine jbh (je8 ho n (f:=[]) g1 k1 (Jb1 (Ja0 (jiQ _ o _) (Jc2 64 (Ja0 ‹_› (Ja0 (Jb7 hsl) h63)))) (Nat.lt_of_succ_lt_succ (Ja1 (by decide) (Ja0 (Jc7 _ _) hz))))) λ n_9 hq=>?_
   obtain ⟨fr,B2⟩:=n_9
   refine rwr hq ?_
   dsimp only
   refine jbi (jbO ho n g1 k1 (FI.nil _ _) hq) λ g2 f2=>?_
   have hx2:=jaz n hq
   have hgr:=je7 ho n g1 k1 (T.und) hq
   cases fr with
   | none =>
    cases n with
    | zero=>exact absurd (Ja0 (Jc7 _ _) hz) (by decide)
    | succ n=>exact jdS _ _ rfl (Ja0 (Jb5 _ _) (Jd8 (gr2 Tl hgr Tz))) (.inl rfl)
   | some f' =>
    have fi2:=f2 f' rfl
    have cov:∀ x∈f',∃ t∈(jal B (jaC o) f (jaf f)).1,XA B2 (λ p=>decide (p=o)) t x:=λ x hx=>((je6 ho n g1 k1 hq (Ext.refl B2)) x hx).resolve_left λ h=>(absurd h Jb2)
    have ce:(f'.map (we B2 o)).sum<=((jal B (jaC o) f (jaf f)).1.map (we (jal B (jaC o) f (jaf f)).2 o)).sum:=by
     refine Ja0 (jhb g2.wf (λ t ht=>by refine rwr (jge g2.wf ho (of_decide_eq_true ht)) ?_; exact Jc4 _) B2.length _ f' (λ t ht=>Ja1 (k1 t ht).1 hx2.len) fi2.nd cov) (Jb7 ?_)
     exact jbd λ x hx'=>by show (wt _ x).e o=_; refine rwr (jbg hx2 (k1 x hx').1) ?_; rfl
    have cz:(f'.map (wz B2)).sum<=((jal B (jaC o) f (jaf f)).1.map (wz (jal B (jaC o) f (jaf f)).2)).sum:=by
     refine Ja0 (jhb g2.wf (λ t U=>jeN g2.wf t) B2.length _ f' (λ t ht=>Ja1 (k1 t ht).1 hx2.len) fi2.nd cov) (Jb7 ?_)
     exact jbd λ x hx'=>by show (wt _ x).z=_; refine rwr (jbg hx2 (k1 x hx').1) ?_; rfl
    refine jci (ih g2 fi2 (Ja0 ce (Ja0 Te he)) (Nat.le_of_lt_succ (Ja1 (Nat.add_lt_add_right (Jb1 cz Ts) 5000) hz))) λ r B' h1 h2 h3=>?_
    refine jdS r B' h1 (Ja0 h2 (Jc1 (Ja0 (Jb3 (Jc2 2 cz) _) (gr2 Tl hgr Tz)))) (h3.mono (hx.trans hx2) (Ja0 ‹_› ‹_›) (Ja0 cz (Jb6 Ts)) λ Bk hbk gk t ht=>?_)
    refine jam (cov t ht) λ z hz' hzx=>?_
    exact (hzx.der ho ((Td z hz').ext hx2)).ext hbk
end
section
theorem jim {o:Op} (ho:o=.con\/o=.dis) {n:Nat} {B:List Tm} {some' l:List Nat} {Z:Nat} (g:Gb B) (hs:∀ t∈some',t<B.length/\1<=t) (h3:some'.length<=3) (hc:∀ t∈some',t∈l) (hl:∀ t∈l,t<B.length) (he:(l.map (we B o)).sum<=59) (hz:(l.map (wz B)).sum<=Z) (hn:Z+6000<=n) :
  ∃ r B',jaT n B o some'=some (r,B')/\Ext B B'/\Gb B'/\(r<B'.length/\1<=r)/\B'.length<=B.length+2*Z+4/\Out B B' o r (l.map (we B o)).sum Z (λ x=>x∈some'):=by
 refine jbh (je8 ho n (f:=[]) g hs (by have:=jiQ B o some'; lia)) λ n_1 hq=>?_
 obtain ⟨fr,B2⟩:=n_1
 obtain ⟨g2,f2⟩:=jbO ho n g hs (FI.nil _ _) hq
 have hx2:=jaz n hq
 have hgr:=je7 ho n g hs (Und.len some') hq
 have main:∃ r B',ja0 n B2 o fr=some (r,B')/\B'.length<=B2.length+2*Z+1/\Out B B' o r (l.map (we B o)).sum Z (λ x=>x∈some'):=by
  cases fr with
  | none =>
   cases n with
   | zero=>exact absurd ‹_› (Nat.not_lt_zero _)
   | succ n=>exact jdS _ _ rfl (by lia) (.inl rfl)
  | some f' =>
   have fi2:=f2 f' rfl
   have cov:∀ x∈f',∃ t∈some',XA B2 (λ p=>decide (p=o)) t x:=λ x hx=>((je6 ho n g hs hq (Ext.refl B2)) x hx).resolve_left λ h=>(absurd h Jb2)
   have cov2:∀ x∈f',∃ t∈l,XA B2 (λ p=>decide (p=o)) t x:=λ x hx=>let ⟨t,ht,h⟩:=cov x hx; ⟨t,hc t ht,h⟩
   have ce:(f'.map (we B2 o)).sum<=(l.map (we B o)).sum:=by
    refine Ja0 (jhb g2.wf (λ t ht=>by refine rwr (jge g2.wf ho (of_decide_eq_true ht)) ?_; exact Jc4 _) B2.length _ f' (λ t ht=>Ja1 (hl t ht) hx2.len) fi2.nd cov2) (Jb7 ?_)
    exact jbd λ x hx'=>by show (wt _ x).e o=_; refine rwr (jbg hx2 (hl x hx')) ?_; rfl
   have cz:(f'.map (wz B2)).sum<=(l.map (wz B)).sum:=by
    refine Ja0 (jhb g2.wf (λ t U=>jeN g2.wf t) B2.length _ f' (λ t ht=>Ja1 (hl t ht) hx2.len) fi2.nd cov2) (Jb7 ?_)
    exact jbd λ x hx'=>by show (wt _ x).z=_; refine rwr (jbg hx2 (hl x hx')) ?_; rfl
   refine jci (jik ho n g2 fi2 (Ja0 ‹_› ‹_›) (by lia)) λ r B' h1 h2 h3=>?_
   refine jdS r B' h1 (by lia) (h3.mono hx2 ce (Ja0 ‹_› ‹_›) λ Bk hbk gk t ht=>?_)
   refine jam (cov t ht) λ z hz' hzx=>?_
   exact (hzx.der ho (.base hz')).ext hbk
 refine jci main λ r B' h1 h2 h3'=>?_
 have hR:jaT n B o some'=some (r,B'):=by unfold jaT; refine rwr hq ?_; exact h1
 refine jcV (jgD ho g hs hR) λ a1 a2 a3 U=>?_
 exact jqG r B' hR a1 a2 a3 (by lia) h3'
inductive Sub (B:List Tm):Nat->Nat->Prop
 | refl {t:Nat}:Sub B t t
 | arg {t s u:Nat}:s∈jaa B t->Sub B s u->Sub B t u
noncomputable def Her (B:List Tm) (N:Nat->Op->Prop) (t:Nat):Prop:=∀ u,Sub B t u->N u (jad B u)
noncomputable def jju (N:Nat->Op->Prop):Prop:=∀ u o,o=.con\/o=.dis\/o=.tru\/o=.fls\/o=.neg\/o=.eq\/o=.xr->N u o
section
variable {B B':List Tm} {N:Nat->Op->Prop}
theorem Her.arg {t s:Nat} (h:Her B N t) (hs:s∈jaa B t):Her B N s:=λ u hu=>h u (.arg hs hu)
theorem Her.mk {t:Nat} (h:N t (jad B t)) (k:∀ s∈jaa B t,Her B N s):Her B N t:=λ u hu=>by
 cases hu with
 | refl=>exact h
 | arg hs hu=>exact k _ hs u hu
theorem Sub.ext (w:Wf B) (x:Ext B B') {t u:Nat} (h:Sub B' t u):t<B.length->Sub B t u/\u<B.length:=by
 induction h with
 | refl=>exact λ h=>⟨.refl,h⟩
 | arg hs _ ih =>
  intro ht
  rw [x.args ht] at hs
  replace hs:=hs
  obtain ⟨a,b⟩:=ih (Jd1 (jaL w hs) ht)
  exact ⟨.arg hs a,b⟩
theorem Her.ext (w:Wf B) (x:Ext B B') {t:Nat} (ht:t<B.length) (h:Her B N t):Her B' N t:=λ u hu=>by
 obtain ⟨a,b⟩:=Sub.ext w x hu ht
 refine rwr (x.op b) ?_; exact h u a
theorem jbw (g:Gb B) (hN:jju N) {t:Nat} (h:t=1\/t=2):Her B N t:=by
 refine jbq (jed g h) λ a U U=>?_
 refine .mk ?_ (by refine rwr a ?_; exact λ U h=>nomatch h)
 rcases h with rfl | rfl
 ·refine rwr (op1 g.wf) ?_; exact hN _ _ (.inr (.inr (.inl rfl)))
 ·refine rwr (op2 g.wf) ?_; exact hN _ _ (.inr (.inr (.inr (.inl rfl))))
theorem Der.her (g:Gb B) (hN:jju N) {S:Nat->Prop} (k:∀ t,S t->Her B N t) {t:Nat} (h:Der B S t):Her B N t:=by
 induction h with
 | base h=>exact k _ h
 | arg _ _ hs ih=>exact ih.arg hs
 | sub _ ho he hs ih=>exact .mk (by refine rwr he ?_; exact hN _ _ (by rcases ho with h | h <;> refine rwr h ?_<;> simp)) λ s hs'=>ih.arg (hs.subset hs')
 | tru=>exact jbw g hN (.inl rfl)
 | fls=>exact jbw g hN (.inr rfl)
theorem Neg.her (g:Gb B) (hN:jju N) {x y:Nat} (h:Neg B x y) (k:Her B N x):Her B N y:=by
 rcases h with ⟨_,rfl⟩ | ⟨_,rfl⟩ | h | h
 ·exact jbw g hN (.inr rfl)
 ·exact jbw g hN (.inl rfl)
 ·refine .mk (by refine rwr (jan h) ?_; exact hN _ _ (by simp)) λ s hs=>?_
  rw [jai h] at hs
  refine rwr (Ja2.mp hs) ?_; exact k
 ·exact k.arg (by refine rwr (jai h) ?_; exact .head _)
theorem Neg.wz (g:Gb B) {x y:Nat} (h:Neg B x y):Mine.wz B y=Mine.wz B x:=by
 have one:∀ {i s:Nat},B[i]? = some ⟨.neg,[s],0⟩->Mine.wz B i=Mine.wz B s:=λ {i s} h=>by
  refine rwr (jcM g.wf (Jc0 h).1) ?_
  refine rwr (jai h) ?_
  have:=jbp g.wf s
  exact Nat.max_eq_right this
 rcases h with ⟨rfl,rfl⟩ | ⟨rfl,rfl⟩ | h | h
 ·refine rwr (jcd g (.inl rfl)) ?_
  refine rwr (jcd g (.inr rfl)) ?_
  rfl
 ·refine rwr (jcd g (.inl rfl)) ?_
  refine rwr (jcd g (.inr rfl)) ?_
  rfl
 ·exact one h
 ·exact (one h).symm
theorem Neg.wh (g:Gb B) {x y:Nat} (h:Neg B x y):wh B y<=max 1 (wh B x)/\(B[y]? = some ⟨.neg,[x],0⟩\/x=1\/x=2\/wh B y<=wh B x):=by
 rcases h with ⟨h1,rfl⟩ | ⟨h1,rfl⟩ | h | h
 ·rw [jcc g (.inr rfl)]; exact ⟨Nat.le_max_left _ _,.inr (.inl h1)⟩
 ·rw [jcc g (.inl rfl)]; exact ⟨Nat.le_max_left _ _,.inr (.inr (.inl h1))⟩
 ·refine ⟨?_,.inl h⟩
  by_cases hl:Lit B y
  ·rw [(jka g.wf hl .con).1]; exact Nat.zero_le _
  ·rw [jcL g.wf (Jc0 h).1 hl,jai h,jan h]
   show max 1 (max (max (Mine.wh B x) 0) (if false=true then _ else if Op.neg=.xr then _ else 0))<=_
   rw [if_neg (by decide),if_neg (by decide),Nat.max_zero,Nat.max_zero]; exact Jc4 _
 ·have:=jdE g (t:=x) (s:=y) (by rw [jai h]; exact .head _)
  exact ⟨Ja0 this (Nat.le_max_right _ _),.inr (.inr (.inr this))⟩
theorem Neg.we (g:Gb B) {x y:Nat} {o:Op} (ho:o=.con\/o=.dis) (h:Neg B x y):Mine.we B o y<=max 1 (Mine.wh B x)/\(jad B x≠.neg->Mine.we B o y<=1):=by
 have key:B[y]? = some ⟨.neg,[x],0⟩->Mine.we B o y<=1:=λ h=>by
  unfold Mine.we
  refine rwr (show wt B y=_ from jcD wtF wt0 g.wf (Jc0 h).1) ?_
  refine rwr (jan h) ?_
  dsimp only [wtF]
  refine itg (λ q_3=>?_) λ q_4=>?_
  ·exact Nat.zero_le _
  ·refine rwr (if_neg (by decide)) ?_; exact Jc4 _
 have hend:∀ t,t=1\/t=2->Mine.we B o t<=1:=λ t ht=>by
  have:=jdD g o t; rw [jcc g ht] at this; replace this:=this; exact this
 rcases h with ⟨_,rfl⟩ | ⟨_,rfl⟩ | h | h
 ·have:=hend 2 (.inr rfl); exact ⟨Ja0 this (Nat.le_max_left _ _),λ U=>this⟩
 ·have:=hend 1 (.inl rfl); exact ⟨Ja0 this (Nat.le_max_left _ _),λ U=>this⟩
 ·have:=key h; exact ⟨Ja0 this (Nat.le_max_left _ _),λ U=>this⟩
 ·have h1:=jdD g o y
  have h2:=jdE g (t:=x) (s:=y) (by refine rwr (jai h) ?_; exact .head _)
  exact ⟨Ja0 h1 (Ja0 h2 (Nat.le_max_right _ _)),λ e=>absurd (jan h) e⟩
theorem jiI {o:Op} (ho:o=.con\/o=.dis) {r E Z H:Nat} {S:Nat->Prop} (g:Gb B) (g':Gb B') (h:Out B B' o r E Z S) (h1:1<=H) (hE:E<=H) (hS:∀ t,S t->t<B.length/\wh B t<=H) :
  wz B' r<=max 1 Z/\wh B' r<=H:=by
 rcases h with rfl | ⟨Bk,kept,x,gk,st,kr,k63,e,ke,kz,kd⟩
 ·have hr:jaU o=1\/jaU o=2:=by rcases ho with rfl | rfl <;> decide
  refine rwr (jcd g' hr) ?_; refine rwr (jcc g' hr) ?_; exact ⟨Nat.le_max_left _ _,h1⟩
 ·have xk:Ext Bk B':=by have:=jaD Bk o kept; rw [e] at this; exact this
  have kw:∀ z∈kept,wh B' z<=H:=λ z hz=>by
   have:=(kd z hz).wh gk h1 λ t ht=>by show (wt Bk t).h<=H; refine rwr (jbg x (hS t ht).1) ?_; exact (hS t ht).2
   show (wt B' z).h<=H
   refine rwr (jbg xk (kr z hz).1) ?_; exact this
  have ez:(kept.map (wz B')).sum=(kept.map (wz Bk)).sum:=jbd λ z hz=>by show (wt B' z).z=_; refine rwr (jbg xk (kr z hz).1) ?_; rfl
  have ee:(kept.map (we B' o)).sum=(kept.map (we Bk o)).sum:=jbd λ z hz=>by show (wt B' z).e o=_; refine rwr (jbg xk (kr z hz).1) ?_; rfl
  have two:∀ (a b:Nat) (t:List Nat),kept=a::b::t->B'[r]? = some ⟨o,kept,0⟩->wz B' r<=max 1 Z/\wh B' r<=H:=λ a b t hk hg=>by
   have hr:=(Jc0 hg).1
   have hop:jad B' r=o:=jan hg
   have hl:¬ Lit B' r:=by rintro (h | ⟨h,_⟩) <;> rw [hop] at h <;> rcases ho with e | e <;> rw [e] at h <;> exact absurd h (by decide)
   have hj:isJ o=true:=Jd6 ho
   refine rwr (jcM g'.wf hr) ?_
   refine rwr (jcL g'.wf hr hl) ?_
   refine rwr (jai hg) ?_
   refine rwr hop ?_
   refine rwr hj ?_
   refine rwr (if_pos rfl) ?_
   dsimp only
   refine rwr ez ?_
   refine rwr ee ?_
   refine ⟨jiu kz,?_⟩
   have:mx (kept.map (wh B'))<=H:=jfW λ y hy=>by
    refine jam (Jb8 hy) λ z hz e_4=>?_
    subst e_4
    exact kw z hz
   exact Nat.max_le.mpr ⟨h1,Nat.max_le.mpr ⟨this,Ja0 ke hE⟩⟩
  have one:∀ a,kept=[a]->wz B' a<=max 1 Z/\wh B' a<=H:=λ a hk=>by
   rw [hk] at ez kz
   simp only [Ja8,List.map_nil,List.sum_cons,List.sum_nil] at ez kz
   exact ⟨Ja0 (Jb7 ez) (Ja0 kz (Nat.le_max_right _ _)),kw a (by refine rwr hk ?_; exact .head _)⟩
  have nul:∀ a,a=1\/a=2->wz B' a<=max 1 Z/\wh B' a<=H:=λ a ha=>by
   refine rwr (jcd g' ha) ?_; refine rwr (jcc g' ha) ?_; exact ⟨Nat.le_max_left _ _,h1⟩
  rcases hk:kept with _ | ⟨a,_ | ⟨b,t⟩⟩
  ·rw [hk] at e
   rcases ho with rfl | rfl
   ·cases e; exact nul _ (.inl rfl)
   ·cases e; exact nul _ (.inr rfl)
  ·rw [hk] at e
   replace e:=e
   rcases ho with rfl | rfl
   ·cases e; exact one _ hk
   ·cases e; exact one _ hk
  ·rw [hk] at e
   rcases ho with rfl | rfl
   ·have e:mk Bk ⟨.con,a::b::t,0⟩=(r,B'):=e
    have:=jba Bk ⟨.con,a::b::t,0⟩
    rw [e] at this
    exact two a b t hk (by refine rwr hk ?_; exact this)
   ·have e:mk Bk ⟨.dis,a::b::t,0⟩=(r,B'):=e
    have:=jba Bk ⟨.dis,a::b::t,0⟩
    rw [e] at this
    exact two a b t hk (by refine rwr hk ?_; exact this)
theorem jmz {Bf:List Tm} {o:Op} (ho:o=.con\/o=.dis) {r E Z:Nat} {S:Nat->Prop} (hN:jju N) (gf:Gb Bf) (xf:Ext B' Bf) (h:Out B B' o r E Z S) (hS:∀ t,S t->Her Bf N t):Her Bf N r:=by
 rcases h with rfl | ⟨Bk,kept,x,gk,st,kr,k63,e,ke,kz,kd⟩
 ·exact jbw gf hN (by rcases ho with rfl | rfl <;> simp [jaU])
 ·have xk:Ext Bk B':=by have:=jaD Bk o kept; rw [e] at this; exact this
  have kw:∀ z∈kept,Her Bf N z:=λ z hz=>((kd z hz).ext (xk.trans xf)).her gf hN hS
  have two:B'[r]? = some ⟨o,kept,0⟩->Her Bf N r:=λ hg=>by
   have hg:=xf.get hg
   refine .mk ?_ (by refine rwr (jai hg) ?_; exact kw)
   refine rwr (jan hg) ?_; exact hN _ _ (by rcases ho with rfl | rfl <;> simp)
  rcases hk:kept with _ | ⟨a,_ | ⟨b,t⟩⟩
  ·rw [hk] at e
   rcases ho with rfl | rfl
   ·cases e; exact jbw gf hN (.inl rfl)
   ·cases e; exact jbw gf hN (.inr rfl)
  ·rw [hk] at e
   replace e:=e
   have:=kw a (by refine rwr hk ?_; exact .head _)
   rcases ho with rfl | rfl
   ·cases e; exact this
   ·cases e; exact this
  ·rw [hk] at e
   rcases ho with rfl | rfl
   ·have e:mk Bk ⟨.con,a::b::t,0⟩=(r,B'):=e
    have:=jba Bk ⟨.con,a::b::t,0⟩
    rw [e] at this
    exact two (by refine rwr hk ?_; exact this)
   ·have e:mk Bk ⟨.dis,a::b::t,0⟩=(r,B'):=e
    have:=jba Bk ⟨.dis,a::b::t,0⟩
    rw [e] at this
    exact two (by refine rwr hk ?_; exact this)
end
end
section
section
variable {B:List Tm}
noncomputable def sz (B:List Tm) (t:Nat):Nat:=4*wz B t - (if jad B t=.neg then 2 else 3)
theorem sz0 {a w:Nat} (h:1<=w) (h2:2<=a):4*w - a+2<=4*w :=
 Ja0 (Jb4 (Nat.sub_le_sub_left h2 _) _) (Jb7 (Nat.sub_add_cancel (Ja0 (by decide) (Jc2 4 h))))
theorem sz2 (w:Wf B) (t:Nat):sz B t+2<=4*wz B t:=sz0 (jbp w t) (itg (p:=λ z=>2<=z) (λ U=>by decide) λ U=>by decide)
theorem sz3 {w:Nat} (h:1<=w):1+(4*w - 3)<=4*w - 2:=by omega
theorem sz4 {S n W:Nat} (h:S+2*n<=4*W) (hl:2<=n):1+S<=4*W - 3:=by omega
theorem jln (w:Wf B):∀ l:List Nat,(l.map (sz B)).sum+2*l.length<=4*(l.map (wz B)).sum
 | []=>Jc4 _
 | x::l=>by
  rw [Ja8,Ja8,List.sum_cons,List.sum_cons,List.length_cons,Nat.mul_succ,Nat.mul_add,Nat.add_comm _ 2,Nat.add_add_add_comm]
  exact Nat.add_le_add (sz2 w x) (jln w l)
theorem jkN {o:Op} {k:Nat} (h1:o≠.neg) (h2:jbL o k=true) (h3:1<=k):2<=k:=by
 cases o <;> simp [jbL] at h1 h2 <;> lia
theorem ji9 (g:Gb B) (t:Nat):1+((jaa B t).map (sz B)).sum<=sz B t:=by
 have w:=g.wf
 have hp:=jbp w t
 by_cases hn:jad B t=.neg
 ·refine joW (ja5 w hn) λ s e1 e2 e3 e4 U=>?_
  have hz:=jcM w (jaN (by refine rwr hn ?_; exact λ e=>nomatch e):t<B.length)
  rw [e2] at hz ⊢
  have:=jbp w s
  simp only [Ja8,List.map_nil,List.sum_cons,List.sum_nil] at hz ⊢
  unfold sz
  refine rwr (if_pos hn) ?_; refine rwr (if_neg e4) ?_; rw [hz,Nat.add_zero,Nat.add_zero,Nat.max_eq_right this]; exact sz3 this
 ·by_cases h0:jaa B t=[]
  ·refine rwr h0 ?_; unfold sz; refine rwr (if_neg hn) ?_; simp; lia
  ·have ht:t<B.length:=by
    refine Classical.byContradiction λ h=>h0 ?_
    unfold jaa; refine rwr (List.getElem?_eq_none (Jd2 h)) ?_; rfl
   have hl:2<=(jaa B t).length:=by
    have hg:=List.getElem?_eq_getElem ht
    have:=g.ar t _ hg
    rw [<- jan hg,<- jai hg] at this
    have h1:1<=(jaa B t).length:=List.length_pos_iff.mpr h0
    exact jkN hn this h1
   have:=jln w (jaa B t)
   have h2:=jga (wz B) (jbp w) (jaa B t)
   have hz:=jcM w ht
   unfold sz
   refine rwr (if_neg hn) ?_
   have:((jaa B t).map (λ t=>4*wz B t - if jad B t=.neg then 2 else 3)).sum=((jaa B t).map (sz B)).sum:=rfl
   rw [this,hz,Nat.max_eq_right (Ja0 (by decide) (Ja0 hl h2))]
   exact sz4 ‹_› hl
theorem jm2 (t:Nat):sz B t<=4*wz B t:=Nat.sub_le _ _
noncomputable def isP (o:Op):Bool:=decide (o=.neg\/o=.xr)
theorem jiK {f:List Nat} (g:Gb B):∀ (n:Nat) (f st:List Nat) (odd:Bool),(st.map (sz B)).sum<n->∃ q,jdJ n B f odd st=some q:=by
 intro n
 induction n with
 | zero =>
  exact λ U U U h=>absurd h (Nat.not_lt_zero _)
 | succ n ih =>
  intro f w_1
  cases w_1 with
  | nil =>
   intro odd _
   exact ⟨_,rfl⟩
  | cons t st =>
   intro odd h
   have h1:=ji9 g t
   simp only [Ja8,List.sum_cons] at h
   replace h:=h
   unfold jdJ
   dsimp only
   refine itg (λ q_1=>?_) λ q_2=>?_
   ·refine ih _ _ _ ?_
    refine rwr List.map_append ?_; refine rwr List.sum_append_nat ?_; refine rwr ((List.Perm.map (sz B) (List.reverse_perm (jaa B t))).sum_nat) ?_; exact joJ h1 h
   ·refine itg (λ q_3=>?_) λ q_4=>?_
    ·exact ih _ _ _ (Jb1 (Jc7 _ _) (joJ h1 h))
    ·refine itg (λ q_5=>?_) λ q_6=>?_
     ·exact ih _ _ _ (Jb1 (Jc7 _ _) (joJ h1 h))
     ·exact ih _ _ _ (Jb1 (Jc7 _ _) (joJ h1 h))
structure ParIs (B:List Tm) (f:List Nat):Prop where
 nd:f.Nodup
 op:∀ x∈f,jad B x≠.neg/\jad B x≠.xr/\jad B x≠.tru/\jad B x≠.fls
 lt:∀ x∈f,x<B.length/\1<=x
theorem jmA (g:Gb B):∀ (n:Nat) (f st:List Nat) (odd:Bool) (q:List Nat×Bool),ParIs B f->(∀ t∈st,t<B.length/\1<=t)->jdJ n B f odd st=some q->ParIs B q.1/\∀ x∈q.1,x∈f\/∃ t∈st,XA B isP t x:=by
 intro n
 induction n with
 | zero =>
  intro _ _ _ _ _ _ h
  simp [jdJ] at h
 | succ n ih =>
  intro f w_2
  cases w_2 with
  | nil =>
   intro odd q hf _ h
   simp only [jdJ,Option.some.injEq] at h
   refine rwl h ?_; exact ⟨hf,λ x hx=>.inl hx⟩
  | cons t st =>
   intro odd q hf hs h
   have ht:=hs t (.head _)
   have hst:∀ x∈st,x<B.length/\1<=x:=λ x hx=>hs x (.tail _ hx)
   have up:∀ {f':List Nat} {x:Nat},(x∈f'->x∈f\/x=t/\isP (jad B t)=false)->x∈f'\/(∃ t∈st,XA B isP t x)->x∈f\/∃ z∈t::st,XA B isP z x:=λ k h=>by
    rcases h with h | ⟨z,hz,h⟩
    ·rcases k h with h | ⟨rfl,h⟩
     ·exact .inl h
     ·exact .inr ⟨_,.head _,.leaf h⟩
    ·exact .inr ⟨z,.tail _ hz,h⟩
   unfold jdJ at h
   dsimp only at h
   split at h
   ·rename_i hp
    obtain ⟨a,b⟩:=ih f _ _ q hf (λ z hz=>by
     refine Jc8 (Ja9.mp hz) (λ hz=>?_) λ hz=>?_
     ·have hz:=List.mem_reverse.mp hz
      have hg:=List.getElem?_eq_getElem ht.1
      exact ⟨Jd1 (jaL g.wf hz) ht.1,g.ps t _ hg z (by refine rwl (jai hg) ?_; exact hz)⟩
     ·exact hst z hz) h
    refine ⟨a,λ x hx=>?_⟩
    rcases b x hx with h | ⟨z,hz,h⟩
    ·exact .inl h
    ·rcases Ja9.mp hz with hz | hz
     ·exact .inr ⟨t,.head _,.arg (Jd6 hp) (List.mem_reverse.mp hz) h⟩
     ·exact .inr ⟨z,.tail _ hz,h⟩
   ·rename_i hp
    refine ith h (λ q_7 h=>?_) λ hm h=>?_
    ·refine jbi (ih _ st _ q ⟨hf.nd.sublist List.filter_sublist,λ x hx=>hf.op x (List.mem_filter.mp hx).1,λ x hx=>hf.lt x (List.mem_filter.mp hx).1⟩ hst h) λ a b=>?_
     exact ⟨a,λ x hx=>up (λ h=>.inl (List.mem_filter.mp h).1) (b x hx)⟩
    ·refine ith h (λ q_8 h=>?_) λ hq h=>?_
     ·obtain ⟨a,b⟩:=ih f st _ q hf hst h
      exact ⟨a,λ x hx=>up (λ h=>.inl h) (b x hx)⟩
     ·obtain ⟨a,b⟩:=ih (f++[t]) st _ q ⟨List.nodup_append.mpr ⟨hf.nd,by simp,λ x hx y hy e=>hm (by refine rwl (Ja2.mp hy) ?_; refine rwl e ?_; exact hx)⟩,λ x hx=>by
        rcases Ja9.mp hx with hx | hx
        ·exact hf.op x hx
        ·refine rwr (Ja2.mp hx) ?_
         exact ⟨λ e=>hp (.inl e),λ e=>hp (.inr e),λ e=>hq (.inl e),λ e=>hq (.inr e)⟩,λ x hx=>by
        rcases Ja9.mp hx with hx | hx
        ·exact hf.lt x hx
        ·refine rwr (Ja2.mp hx) ?_; exact ht⟩ hst h
      exact ⟨a,λ x hx=>up (λ h=>by
       rcases Ja9.mp h with h | h
       ·exact .inl h
       ·exact .inr ⟨Ja2.mp h,decide_eq_false hp⟩) (b x hx)⟩
theorem Sub.trans {p q r:Nat} (h1:Sub B p q) (h2:Sub B q r):Sub B p r:=by
 induction h1 with
 | refl=>exact h2
 | arg hs' _ ih=>exact .arg hs' (ih h2)
theorem Sub.up {B':List Tm} (w:Wf B) (x:Ext B B') {t u:Nat} (h:Sub B t u):t<B.length->Sub B' t u:=by
 induction h with
 | refl=>exact λ U=>.refl
 | arg hs _ ih=>exact λ ht=>.arg (by refine rwr (x.args ht) ?_; exact hs) (ih (Jd1 (jaL w hs) ht))
theorem XA.sub {q:Op->Bool} {t x:Nat} (h:XA B q t x):Sub B t x:=by
 induction h with
 | leaf _=>exact .refl
 | arg _ hs _ ih=>exact .arg hs ih
theorem XA.wh (g:Gb B) {q:Op->Bool} {t x:Nat} (h:XA B q t x):Mine.wh B x<=Mine.wh B t:=by
 induction h with
 | leaf _=>exact Jc4 _
 | arg _ hs _ ih=>exact Ja0 ih (jdE g hs)
theorem jm9:∀ (l:List Nat) {B:List Tm} {r:Nat},Gb B->r<B.length/\1<=r->(∀ t∈l,t<B.length/\1<=t)->Gb (jc7 B r l).2/\((jc7 B r l).1<(jc7 B r l).2.length/\1<=(jc7 B r l).1)/\(jc7 B r l).2.length<=B.length+l.length:=by
 intro l
 induction l with
 | nil =>
  intro B r g hr _
  exact ⟨g,hr,Jc4 _⟩
 | cons t l ih =>
  intro B r g hr hl
  have ht:=hl t (.head _)
  have g2:=jhs g (t:=⟨.xr,[r,t],0⟩) (λ s hs=>jcK (P:=(· < B.length)) hs hr.1 ht.1) (λ s hs=>jcK (P:=(1 <= ·)) hs hr.2 ht.2) (λ e=>nomatch e) rfl (λ e=>nomatch e) (by simp) (λ e=>by rcases e with e | e <;> exact nomatch e)
  have x2:=ja9 B ⟨.xr,[r,t],0⟩
  have hp:1<=(mk B ⟨.xr,[r,t],0⟩).1:=by
   cases e:(mk B ⟨.xr,[r,t],0⟩).1 with
   | succ n=>exact Jc7 _ _
   | zero =>
    have h1:=jba B ⟨.xr,[r,t],0⟩
    rw [e,x2.get g.z0] at h1; replace h1:=h1; exact nomatch h1
  refine jbq (ih g2 ⟨jcT B _,hp⟩ λ z hz=>⟨Ja1 (hl z (.tail _ hz)).1 x2.len,(hl z (.tail _ hz)).2⟩) λ a b c=>?_
  refine ⟨a,b,?_⟩
  have:(mk B ⟨.xr,[r,t],0⟩).2.length<=B.length+1:=by unfold mk; split <;> simp
  show (jc7 _ _ l).2.length<=_
  refine rwr List.length_cons ?_; lia
theorem jlv {Bf:List Tm} (gf:Gb Bf) {N:Nat->Op->Prop} (hN:jju N) {H:Nat} (h1:1<=H):∀ (l:List Nat) {B:List Tm} {r:Nat},Ext (jc7 B r l).2 Bf->wp Bf r+(l.map (wp Bf)).sum<=H->wh Bf r<=H->(∀ t∈l,wh Bf t<=H) ->
  wz Bf (jc7 B r l).1<=wz Bf r+(l.map (wz Bf)).sum/\wh Bf (jc7 B r l).1<=H/\(Her Bf N r->(∀ t∈l,Her Bf N t)->Her Bf N (jc7 B r l).1):=by
 intro l
 induction l with
 | nil =>
  intro B r x _ hr _
  exact ⟨Jc4 _,hr,λ h U=>h⟩
 | cons t l ih =>
  intro B r x hs hr hl
  have hg:=((jcB l (mk B ⟨.xr,[r,t],0⟩).2 (mk B ⟨.xr,[r,t],0⟩).1).trans x).get (jba B ⟨.xr,[r,t],0⟩)
  have hu:=(Jc0 hg).1
  have hop:jad Bf (mk B ⟨.xr,[r,t],0⟩).1=.xr:=jan hg
  have har:jaa Bf (mk B ⟨.xr,[r,t],0⟩).1=[r,t]:=jai hg
  have hnl:¬ Lit Bf (mk B ⟨.xr,[r,t],0⟩).1:=by rintro (h | ⟨h,_⟩) <;> rw [hop] at h <;> exact absurd h (by decide)
  have ep:=jdH gf.wf (.inr hop)
  have ez:=jcM gf.wf hu
  have eh:=jcL gf.wf hu hnl
  rw [har] at ep ez eh
  rw [hop] at eh
  replace eh:=eh
  simp only [Ja8,List.map_nil,List.sum_cons,List.sum_nil] at ep ez eh hs
  replace ep:=ep
  replace ez:=ez
  replace eh:=eh
  replace hs:=hs
  rw [if_neg (by decide),if_pos trivial] at eh
  have hm:mx [wh Bf r,wh Bf t]=max (wh Bf r) (max (wh Bf t) 0):=rfl
  rw [hm] at eh
  replace eh:=eh
  have ht:=hl t (.head _)
  have p1:=jbp gf.wf r
  refine jbq (ih (B:=(mk B ⟨.xr,[r,t],0⟩).2) (r:=(mk B ⟨.xr,[r,t],0⟩).1) x (by rw [ep,Nat.add_assoc]; exact hs) (Ja0 (Jb7 eh) (Nat.max_le.mpr ⟨h1,Nat.max_le.mpr ⟨Nat.max_le.mpr ⟨hr,Nat.max_le.mpr ⟨ht,Nat.zero_le _⟩⟩,Ja0 (Jb3 (Jb3 (Nat.zero_le _) _) _) hs⟩⟩)) λ z hz=>hl z (.tail _ hz)) λ a b c=>?_
  refine ⟨?_,b,λ k1 k2=>c (.mk (by refine rwr hop ?_; exact hN _ _ (by decide)) λ s hs=>?_) λ z hz=>k2 z (.tail _ hz)⟩
  ·show wz Bf (jc7 _ _ l).1<=_
   rw [Ja8,List.sum_cons,<- Nat.add_assoc]
   exact Ja0 a (Jb4 (Jb7 (ez.trans (Nat.max_eq_right (Ja0 p1 (Jb5 _ _))))) _)
  ·rw [har] at hs
   replace hs:=hs
   simp only [Ja3,Jb2,or_false] at hs
   rcases hs with rfl | rfl
   ·exact k1
   ·exact k2 _ (.head _)
theorem jku {n:Nat} {some' l:List Nat} {Z H:Nat} (g:Gb B) (hs:∀ t∈some',t<B.length/\1<=t) (hc:∀ t∈some',t∈l) (hl:∀ t∈l,t<B.length) (he:(l.map (wp B)).sum<=59) (heH:(l.map (wp B)).sum<=H) (h1:1<=H) (hH:∀ t∈some',wh B t<=H) (hz:(l.map (wz B)).sum<=Z) (h0:1<=Z) (hn:(some'.map (sz B)).sum<n) :
  ∃ r B',jhL n B some'=some (r,B')/\Ext B B'/\Gb B'/\(r<B'.length/\1<=r)/\B'.length<=B.length+64/\wz B' r<=Z/\wh B' r<=H/\∀ (Bf:List Tm) (N:Nat->Op->Prop),Gb Bf->Ext B' Bf->jju N->(∀ t∈some',Her Bf N t)->Her Bf N r:=by
 refine jbh (jiK (f:=[]) g n [] some'.reverse false (by refine rwr ((List.Perm.map (sz B) (List.reverse_perm some')).sum_nat) ?_; exact hn)) λ n_7 hq=>?_
 obtain ⟨f,odd⟩:=n_7
 obtain ⟨pi,hx⟩:=jmA g n [] some'.reverse false _ ⟨.nil,(λ U h=>nomatch h),λ U h=>nomatch h⟩ (λ t ht=>hs t (List.mem_reverse.mp ht)) hq
 have cov:∀ x∈f,∃ t∈some',XA B isP t x:=λ x hx'=>by
  refine jam ((hx x hx').resolve_left λ h=>nomatch h) λ t ht h=>?_
  exact ⟨t,List.mem_reverse.mp ht,h⟩
 have cov2:∀ x∈f,∃ t∈l,XA B isP t x:=λ x hx=>let ⟨t,ht,h⟩:=cov x hx; ⟨t,hc t ht,h⟩
 have ce:(f.map (wp B)).sum<=(l.map (wp B)).sum:=jhb g.wf (λ t ht=>by refine rwr (jdH g.wf (of_decide_eq_true ht)) ?_; exact Jc4 _) B.length _ f hl pi.nd cov2
 have cz:(f.map (wz B)).sum<=(l.map (wz B)).sum:=jhb g.wf (λ t U=>jeN g.wf t) B.length _ f hl pi.nd cov2
 have f63:f.length<=63:=Ja0 (m:=4+(f.map (wp B)).sum) (jgA g pi.nd (λ x hx' h0=>by
   refine jbq (pi.op x hx') λ a b U=>?_
   rw [jg3 g.wf a b] at h0
   by_cases ha:jad B x=.app
   ·exact .inl ha
   ·rw [if_neg ha] at h0; replace h0:=h0; exact absurd h0 (by decide)) λ x hx' y hy hm=>by
  refine jcV (pi.op x hx') λ a1 a2 a3 a4=>?_
  refine jcV (pi.op y hm) λ b1 b2 b3 b4=>?_
  rcases hy with ⟨rfl,_⟩ | ⟨rfl,_⟩ | h | h
  ·exact a3 (op1 g.wf)
  ·exact a4 (op2 g.wf)
  ·exact b1 (jan h)
  ·exact a1 (jan h)) (Jb3 (Ja0 ce he) 4)
 have hsl:(jaf f).length=f.length:=(jas f).length_eq
 have hsr:∀ t∈jaf f,t<B.length/\1<=t:=λ t ht=>pi.lt t (jaV.mp ht)
 have wlen:=g.wf.len
 have chain:Gb (jbr B (jaf f)).2/\((jbr B (jaf f)).1<(jbr B (jaf f)).2.length/\1<=(jbr B (jaf f)).1)/\(jbr B (jaf f)).2.length<=B.length+63 /\
   ∀ Bf,Gb Bf->Ext (jbr B (jaf f)).2 Bf->wz Bf (jbr B (jaf f)).1<=Z/\wh Bf (jbr B (jaf f)).1<=H/\∀ (N:Nat->Op->Prop),jju N->(∀ t∈some',Her Bf N t)->Her Bf N (jbr B (jaf f)).1:=by
  have pp:∀ e:Nat->Nat,((jaf f).map e).sum=(f.map e).sum:=λ e=>(List.Perm.map e (jas f)).sum_nat
  rcases hS:jaf f with _ | ⟨a,s⟩
  ·refine ⟨g,⟨wlen,(by decide:1<=2)⟩,Jb5 _ _,λ Bf gf x=>⟨?_,?_,λ N hN U=>jbw gf hN (.inr rfl)⟩⟩
   ·show wz Bf 2<=Z; refine rwr (jcd gf (.inr rfl)) ?_; exact h0
   ·show wh Bf 2<=H; refine rwr (jcc gf (.inr rfl)) ?_; exact h1
  ·rw [hS] at hsr hsl pp
   replace hsr:=hsr
   replace hsl:=hsl
   replace pp:=pp
   rw [List.length_cons] at hsl
   refine jbq (jm9 s g (hsr a (.head _)) λ t ht=>hsr t (.tail _ ht)) λ a1 a2 a3=>?_
   refine ⟨a1,a2,?_,λ Bf gf x=>?_⟩
   ·exact Ja0 a3 (Jb3 (Ja0 (Nat.le_succ _) (Ja0 (Jb7 hsl) f63)) _)
   ·have xb:Ext B Bf:=(jcB s B a).trans x
    have ep:wp Bf a+(s.map (wp Bf)).sum=(f.map (wp B)).sum:=by
     refine rwl (pp (wp B)) ?_
     refine rwr Ja8 ?_
     refine rwr List.sum_cons ?_
     refine rwr (show wp Bf a=wp B a by show (wt Bf a).p=_; refine rwr (jbg xb (hsr a (.head _)).1) ?_; rfl) ?_
     refine rwr (jbd (e:=wp Bf) (e':=wp B) λ z hz=>by show (wt Bf z).p=_; refine rwr (jbg xb (hsr z (.tail _ hz)).1) ?_; rfl) ?_
     rfl
    have ez:wz Bf a+(s.map (wz Bf)).sum=(f.map (wz B)).sum:=by
     refine rwl (pp (wz B)) ?_
     refine rwr Ja8 ?_
     refine rwr List.sum_cons ?_
     refine rwr (show wz Bf a=wz B a by show (wt Bf a).z=_; refine rwr (jbg xb (hsr a (.head _)).1) ?_; rfl) ?_
     refine rwr (jbd (e:=wz Bf) (e':=wz B) λ z hz=>by show (wt Bf z).z=_; refine rwr (jbg xb (hsr z (.tail _ hz)).1) ?_; rfl) ?_
     rfl
    have hfm:∀ z∈a::s,z∈f:=λ z hz=>jaV.mp (by refine rwr hS ?_; exact hz)
    have eh:∀ z∈a::s,wh Bf z<=H:=λ z hz=>by
     refine jam (cov z (hfm z hz)) λ t ht h=>?_
     show (wt Bf z).h<=H
     refine rwr (jbg xb (hsr z hz).1) ?_; exact Ja0 (h.wh g) (hH t ht)
    have hr:∀ (N:Nat->Op->Prop),(∀ t∈some',Her Bf N t)->∀ z∈a::s,Her Bf N z:=λ N hN z hz u hu=>by
     refine jam (cov z (hfm z hz)) λ t ht h=>?_
     exact hN t ht u (((h.sub).up g.wf xb (hs t ht).1).trans hu)
    have w1:=jlv gf (N:=λ U U=>True) (λ U U U=>trivial) h1 s x (Ja0 (Jb7 ep) (Ja0 ce heH)) (eh a (.head _)) λ z hz=>eh z (.tail _ hz)
    refine ⟨Ja0 w1.1 (Ja0 (Jb7 ez) (Ja0 cz hz)),w1.2.1,λ N hN hS'=>?_⟩
    exact (jlv gf hN h1 s x (Ja0 (Jb7 ep) (Ja0 ce heH)) (eh a (.head _)) λ z hz=>eh z (.tail _ hz)).2.2 (hr N hS' a (.head _)) λ t ht=>hr N hS' t (.tail _ ht)
 obtain ⟨g1,r1,l1,k1⟩:=chain
 have x1:=jc6 B (jaf f)
 cases odd with
 | false =>
  have hR:jhL n B some'=some (jbr B (jaf f)):=by unfold jhL; rw [hq]; dsimp only; refine rwr (if_neg (Nat.not_lt.mpr f63)) ?_; refine rwr (if_neg (by decide)) ?_; rfl
  refine jbq (k1 _ g1 (Ext.refl _)) λ a b U=>?_
  exact ⟨(jbr B (jaf f)).1,(jbr B (jaf f)).2,hR,x1,g1,r1,Jd8 l1,a,b,λ Bf N gf xf hN hS=>(k1 Bf gf xf).2.2 N hN hS⟩
 | true =>
  have hR:jhL n B some'=some (jab (jbr B (jaf f)).2 (jbr B (jaf f)).1):=by unfold jhL; rw [hq]; dsimp only; refine rwr (if_neg (Nat.not_lt.mpr f63)) ?_; refine rwr (if_pos rfl) ?_; rfl
  refine jbq (jau g1 r1.1 r1.2) λ g2 n2 l2=>?_
  have x2:=jag (jbr B (jaf f)).2 (jbr B (jaf f)).1
  have hng:=jav g1.wf r1.1
  refine jbq (k1 _ g2 x2) λ a b U=>?_
  have:=jaK (jbr B (jaf f)).2 (jbr B (jaf f)).1
  refine ⟨(jab (jbr B (jaf f)).2 (jbr B (jaf f)).1).1,(jab (jbr B (jaf f)).2 (jbr B (jaf f)).1).2,hR,x1.trans x2,g2,⟨l2,n2⟩,Ja0 this (Jc1 l1),?_,?_,λ Bf N gf xf hN hS=>?_⟩
  ·refine rwr (hng.wz g2) ?_; exact a
  ·exact Ja0 (hng.wh g2).1 (Nat.max_le.mpr ⟨h1,by assumption⟩)
  ·exact (hng.ext xf).her gf hN ((k1 Bf gf (x2.trans xf)).2.2 N hN hS)
end
end
section
section
variable {B:List Tm}
theorem jcm (g:Gb B) {t:Nat} (ht:t<B.length/\1<=t):jac B t<B.length/\1<=jac B t:=by
 refine ⟨jbM g.wf ht.1,?_⟩
 unfold jac; split
 ·rename_i h
  refine jdI (ja5 g.wf h) λ s e1 e2 U=>?_
  refine rwr e2 ?_
  exact g.ps t _ e1 s (.head _)
 ·exact ht.2
theorem jeg (w:Wf B) (t:Nat):(jad B t≠.neg/\jac B t=t)\/(jad B t=.neg/\Neg B (jac B t) t/\jad B (jac B t)≠.neg/\jac B t<t/\jac B t≠1/\jac B t≠2):=by
 by_cases h:jad B t=.neg
 ·refine jqC (ja5 w h) λ s e1 e2 e3 e4 e5 e6=>?_
  have e:jac B t=s:=by unfold jac; refine rwr (if_pos h) ?_; refine rwr e2 ?_; rfl
  refine rwr e ?_
  exact .inr ⟨h,.inr (.inr (.inl e1)),e4,e3,e5,e6⟩
 ·refine .inl ⟨h,?_⟩
  unfold jac; refine rwr (if_neg h) ?_; rfl
theorem jiy (g:Gb B) {t:Tm} (h:t.op≠.nil):1<=(mk B t).1:=by
 cases e:(mk B t).1 with
 | succ n=>exact Jc1 (Nat.zero_le n)
 | zero =>
  have h1:=jba B t
  rw [e,(ja9 B t).get g.z0] at h1
  exact absurd (by refine rwl (Jb0 h1) ?_; rfl) h
theorem jlX {a b:Nat} (g:Gb B) (ha:a<B.length/\1<=a) (hb:b<B.length/\1<=b):Gb (jcP B a b).2/\((jcP B a b).1<(jcP B a b).2.length/\1<=(jcP B a b).1)/\(jcP B a b).2.length<=B.length+1:=by
 have hl:=g.wf.len
 unfold jcP
 refine itg (λ q_1=>?_) λ q_2=>?_
 ·exact ⟨g,⟨by show 1<B.length; exact Jb6 ‹_›,Jc4 _⟩,Nat.le_succ _⟩
 ·exact ⟨jhs g (λ s hs=>jcK (P:=(· < B.length)) hs (Jb1 (Nat.min_le_left a b) ha.1) (Nat.max_lt.mpr ⟨ha.1,hb.1⟩)) (λ s hs=>jcK (P:=(1 <= ·)) hs (Nat.le_min.mpr ⟨ha.2,hb.2⟩) (Ja0 ha.2 (Nat.le_max_left a b))) (λ e=>nomatch e) rfl (λ e=>nomatch e) (by simp) (λ e=>by rcases e with e | e <;> exact nomatch e),⟨jcT B _,jiy g λ e=>(Op.noConfusion e)⟩,jix B _⟩
theorem jmW {a b:Nat} (g:Gb B) (ha:a<B.length/\1<=a) (hb:b<B.length/\1<=b):Gb (jaG B a b).2/\((jaG B a b).1<(jaG B a b).2.length/\1<=(jaG B a b).1)/\(jaG B a b).2.length<=B.length+2:=by
 have la:=jcm g ha
 have lb:=jcm g hb
 have hm:Gb (jap B (jac B a) (jac B b)).2/\((jap B (jac B a) (jac B b)).1<(jap B (jac B a) (jac B b)).2.length/\1<=(jap B (jac B a) (jac B b)).1)/\(jap B (jac B a) (jac B b)).2.length<=B.length+1:=by
  have neg:∀ {t:Nat},t<B.length/\1<=t->Gb (jab B t).2/\((jab B t).1<(jab B t).2.length/\1<=(jab B t).1)/\(jab B t).2.length<=B.length+1:=λ ht=>by
   refine jbq (jau g ht.1 ht.2) λ x y z=>?_
   exact ⟨x,⟨z,y⟩,jaK _ _⟩
  unfold jap
  repeat' split
  all_goals first | exact ⟨g,la,Nat.le_succ _⟩ | exact ⟨g,lb,Nat.le_succ _⟩ | exact neg la | exact neg lb | exact jlX g la lb
 unfold jaG
 dsimp only
 obtain ⟨g1,r1,l1⟩:=hm
 refine itg (λ q_3=>?_) λ q_4=>?_
 ·refine jbq (jau g1 r1.1 r1.2) λ x y z=>?_
  have:=jaK (jap B (jac B a) (jac B b)).2 (jap B (jac B a) (jac B b)).1
  exact ⟨x,⟨z,y⟩,Ja0 this (Jc1 l1)⟩
 ·exact ⟨g1,r1,Jd8 l1⟩
theorem jnI (w:Wf B) (t:Nat):gnd B t=t\/Neg B (gnd B t) t:=by
 have:=jib w t
 split at this
 ·exact .inr this
 ·exact .inl this
theorem jqp {a b c d:Nat} (h1:a<=d) (h2:b<=d) (h3:c<=d):max a (max b c)<=d:=Nat.max_le.mpr ⟨h1,Nat.max_le.mpr ⟨h2,h3⟩⟩
theorem mx2 {f:Nat->Nat} {a b H:Nat} (h1:f a<=H) (h2:f b<=H):mx ([a,b].map f)<=H:=jfW λ y hy=>by
 rcases Ja3.mp hy with rfl | hy
 ·exact h1
 ·refine rwr (Ja2.mp hy) ?_; exact h2
noncomputable def jnd (B:List Tm) (S:Nat->Prop) (E:Prop) (r:Nat):Prop:=∀ (Bf:List Tm) (N:Nat->Op->Prop),Gb Bf->Ext B Bf->jju N->(∀ t,S t->Her Bf N t)->(E->N r .ite)->Her Bf N r
structure Res (B:List Tm) (G Z H:Nat) (S:Nat->Prop) (E:Prop) (q:Nat×List Tm):Prop where
 x:Ext B q.2
 g:Gb q.2
 r:q.1<q.2.length/\1<=q.1
 l:q.2.length<=B.length+G
 z:wz q.2 q.1<=Z
 h:wh q.2 q.1<=H
 her:jnd q.2 S E q.1
theorem Res.mono {B0:List Tm} {G G' Z H:Nat} {S S':Nat->Prop} {E:Prop} {q:Nat×List Tm} (h:Res B G Z H S False q) (x:Ext B0 B) (hl:B.length+G<=B0.length+G') (hs:∀ t,S t->jnd q.2 S' False t):Res B0 G' Z H S' E q :=
 ⟨x.trans h.x,h.g,h.r,Ja0 h.l hl,h.z,h.h,λ Bf N gf xf hN k U=>h.her Bf N gf xf hN (λ t ht=>hs t ht Bf N gf xf hN k False.elim) False.elim⟩
theorem jdg {S:Nat->Prop} {t:Nat} (h:S t):jnd B S False t:=λ U U U U U k U=>k t h
theorem jgB {S:Nat->Prop} {x y:Nat} (h:S x) (n:Neg B x y):jnd B S False y:=λ U U gf xf hN k U=>(n.ext xf).her gf hN (k x h)
theorem jdp {o:Op} (ho:o=.con\/o=.dis) {n:Nat} {some' l:List Nat} {Z H:Nat} (g:Gb B) (hs:∀ t∈some',t<B.length/\1<=t) (h3:some'.length<=3) (hc:∀ t∈some',t∈l) (hl:∀ t∈l,t<B.length) (he:(l.map (we B o)).sum<=59) (hE:(l.map (we B o)).sum<=H) (h1:1<=H) (hH:∀ t∈some',wh B t<=H) (hz:(l.map (wz B)).sum<=Z) (h0:1<=Z) (hn:Z+6000<=n) :
  ∃ q,jaT n B o some'=some q/\Res B (2*Z+4) Z H (λ t=>t∈some') False q:=by
 refine jqE (jim ho g hs h3 hc hl he hz hn) λ r B' e1 e2 e3 e4 e5 e6=>?_
 obtain ⟨f1,f2⟩:=jiI ho g e3 e6 h1 hE λ t ht=>⟨(hs t ht).1,hH t ht⟩
 rw [Nat.max_eq_right h0] at f1
 exact ⟨(r,B'),e1,e2,e3,e4,e5,f1,f2,λ Bf N gf xf hN k U=>jmz ho hN gf xf e6 k⟩
theorem jkv {n:Nat} {some' l:List Nat} {Z H:Nat} (g:Gb B) (hs:∀ t∈some',t<B.length/\1<=t) (hc:∀ t∈some',t∈l) (hl:∀ t∈l,t<B.length) (he:(l.map (wp B)).sum<=59) (heH:(l.map (wp B)).sum<=H) (h1:1<=H) (hH:∀ t∈some',wh B t<=H) (hz:(l.map (wz B)).sum<=Z) (h0:1<=Z) (hn:(some'.map (sz B)).sum<n) :
  ∃ q,jhL n B some'=some q/\Res B 64 Z H (λ t=>t∈some') False q:=by
 refine jrm (jku g hs hc hl he heH h1 hH hz h0 hn) λ r B' e1 e2 e3 e4 e5 e6 e7 e8=>?_
 exact ⟨(r,B'),e1,e2,e3,e4,e5,e6,e7,λ Bf N gf xf hN k U=>e8 Bf N gf xf hN k⟩
structure Wls (B:List Tm) (Z H:Nat) (S:Nat->Prop) (r:Nat):Prop where
 z:wz B r<=Z
 h:wh B r<=H
 her:jnd B S False r
theorem Wls.neg (g:Gb B) {Z H:Nat} {S:Nat->Prop} {x y:Nat} (h:Wls B Z H S x) (h1:1<=H) (n:Neg B x y):Wls B Z H S y :=
 ⟨by refine rwr (n.wz g) ?_; exact h.z,Ja0 (n.wh g).1 (Nat.max_le.mpr ⟨h1,h.h⟩),λ Bf N gf xf hN k U=>(n.ext xf).her gf hN (h.her Bf N gf xf hN k False.elim)⟩
theorem Wls.up {Z Z' H:Nat} {S S':Nat->Prop} {r:Nat} (h:Wls B Z H S r) (hz:Z<=Z') (hs:∀ t,S t->S' t):Wls B Z' H S' r :=
 ⟨Ja0 h.z hz,h.h,λ Bf N gf xf hN k U=>h.her Bf N gf xf hN (λ t ht=>k t (hs t ht)) False.elim⟩
theorem jg2 {H:Nat} {t:Nat} (h:wh B t<=H):Wls B (wz B t) H (λ x=>x=t) t:=⟨Jc4 _,h,jdg rfl⟩
theorem jjn (g:Gb B) {H t:Nat} (h1:1<=H) (h:wh B t<=H):Wls B (wz B t) H (λ x=>x=t) (gnd B t):=by
 refine Jc8 (jnI g.wf t) (λ e=>?_) λ e=>?_
 ·refine rwr e ?_; exact jg2 h
 ·exact (jg2 h).neg g h1 e.symm
theorem jlu (g:Gb B) {x y m Z Z' H:Nat} {S:Nat->Prop} (h1:1<=H) (hx:Wls B Z H S x) (hy:Wls B Z' H S y) (hm:B[m]? = some ⟨.eq,[x,y],0⟩):Wls B (Z+Z') H S m:=by
 have hu:=(Jc0 hm).1
 have hop:jad B m=.eq:=jan hm
 have har:jaa B m=[x,y]:=jai hm
 have hnl:¬ Lit B m:=by rintro (h | ⟨h,_⟩) <;> rw [hop] at h <;> exact absurd h (by decide)
 refine ⟨?_,?_,λ Bf N gf xf hN k U=>.mk (by refine rwr (xf.op hu) ?_; refine rwr hop ?_; exact hN _ _ (.inr (.inr (.inr (.inr (.inr (.inl rfl))))))) λ s hs=>?_⟩
 ·refine rwr (jcM g.wf hu) ?_
  refine rwr har ?_
  refine Nat.max_le.mpr ⟨Ja0 (jbp g.wf x) (Ja0 hx.z (Jb5 _ _)),?_⟩
  rw [Ja8,Ja8,List.map_nil,List.sum_cons,List.sum_cons,List.sum_nil,Nat.add_zero]
  exact Nat.add_le_add hx.z hy.z
 ·refine rwr (jcL g.wf hu hnl) ?_
  refine rwr har ?_
  refine rwr hop ?_
  refine rwr (if_neg (by decide)) ?_
  refine rwr (if_neg (by decide)) ?_
  exact jqp h1 (mx2 hx.h hy.h) (Nat.zero_le _)
 ·rw [xf.args hu,har] at hs
  replace hs:=hs
  rcases Ja3.mp hs with rfl | hs
  ·exact hx.her Bf N gf xf hN k False.elim
  ·refine rwr (Ja2.mp hs) ?_; exact hy.her Bf N gf xf hN k False.elim
theorem jok (g:Gb B) {a b r H:Nat} (h:Same B a b r) (h1:1<=H) (ha:wh B a<=H) (hb:wh B b<=H):Wls B (wz B a+wz B b) H (λ t=>t=a\/t=b) r:=by
 refine jam h λ m hm hr=>?_
 have mid:Wls B (wz B a+wz B b) H (λ t=>t=a\/t=b) m:=by
  have ka:=jjn g h1 ha
  have kb:=jjn g h1 hb
  have sa:∀ t,t=a->t=a\/t=b:=λ t e=>.inl e
  have sb:∀ t,t=b->t=a\/t=b:=λ t e=>.inr e
  unfold Mid at hm
  split at hm
  ·refine rwr hm ?_; exact kb.up (Jc7 _ _) sb
  ·split at hm
   ·refine rwr hm ?_; exact ka.up (Jb5 _ _) sa
   ·split at hm
    ·refine rwr hm ?_
     exact ⟨by refine rwr (jcd g (.inl rfl)) ?_; exact Ja0 (jbp g.wf a) (Jb5 _ _),by refine rwr (jcc g (.inl rfl)) ?_; exact h1,λ Bf N gf xf hN U U=>jbw gf hN (.inl rfl)⟩
    ·rcases Nat.le_total (gnd B a) (gnd B b) with h | h
     ·rw [Nat.min_eq_left h,Nat.max_eq_right h] at hm
      exact jlu g h1 (ka.up (Jc4 _) sa) (kb.up (Jc4 _) sb) hm
     ·rw [Nat.min_eq_right h,Nat.max_eq_left h] at hm
      exact (jlu g h1 (kb.up (Jc4 _) sb) (ka.up (Jc4 _) sa) hm).up (Jb7 (Nat.add_comm _ _)) λ U h=>h
 split at hr
 ·exact mid.neg g h1 hr
 ·refine rwl hr ?_; exact mid
theorem jeP {B':List Tm} (x:Ext B B') {t:Nat} (h:t<B.length):wz B' t=wz B t:=congrArg Wt.z (jbg x h)
theorem jd6 {B':List Tm} (x:Ext B B') {t:Nat} (h:t<B.length):wh B' t=wh B t:=congrArg Wt.h (jbg x h)
theorem jmw {a H:Nat} (g:Gb B) (ha:a<B.length/\1<=a) (h1:1<=H) (hh:wh B a<=H):Res B 1 (wz B a) H (λ t=>t=a) False (jab B a):=by
 refine jbq (jau g ha.1 ha.2) λ g1 n1 l1=>?_
 have x1:=jag B a
 have hn:=jav g.wf ha.1
 exact ⟨x1,g1,⟨l1,n1⟩,jaK B a,by refine rwr (hn.wz g1) ?_; refine rwr (jeP x1 ha.1) ?_; exact Jc4 _,Ja0 (hn.wh g1).1 (Nat.max_le.mpr ⟨h1,by refine rwr (jd6 x1 ha.1) ?_; exact hh⟩),jgB rfl hn⟩
theorem jeH {a b H:Nat} (g:Gb B) (ha:a<B.length/\1<=a) (hb:b<B.length/\1<=b) (h1:1<=H) (hha:wh B a<=H) (hhb:wh B b<=H):Res B 2 (wz B a+wz B b) H (λ t=>t=a\/t=b) False (jaG B a b):=by
 refine jbq (jmW g ha hb) λ s1 s2 s3=>?_
 have xs:=jaX B a b
 have w:=jok s1 (jbn g.wf s1.wn ha.1 hb.1 (Ext.refl _)) h1 (by refine rwr (jd6 xs ha.1) ?_; exact hha) (by refine rwr (jd6 xs hb.1) ?_; exact hhb)
 exact ⟨xs,s1,s2,s3,by have:=w.z; rw [jeP xs ha.1,jeP xs hb.1] at this; exact this,w.h,w.her⟩
structure Cov1 (B:List Tm) (o:Op) (x y D Z:Nat) (l:List Nat):Prop where
 x:x∈l
 y:y∈l
 lt:∀ t∈l,t<B.length
 e:(l.map (we B o)).sum<=D
 z:(l.map (wz B)).sum<=Z
noncomputable def Cov (B:List Tm) (c a b D Z:Nat):Prop:=∀ B',Ext B B'->Gb B'->∀ x,x=c\/Neg B' c x->∀ y,y=a\/y=b->∀ o,o=.con\/o=.dis->∃ l,Cov1 B' o x y D Z l
structure noEnd (B:List Tm) (c a b:Nat):Prop where
 a1:¬ (a=1\/a=c)
 a2:¬ (a=2\/a=(jab B c).1)
 b1:¬ (b=1\/b=(jab B c).1)
 b2:¬ (b=2\/b=c)
 ab:a≠(jab (jab B c).2 b).1
noncomputable def abc (c a b t:Nat):Prop:=t=c\/t=a\/t=b
structure ChOk (n:Nat) (B:List Tm) (c a b D Z H:Nat):Prop where
 g:Gb B
 kc:c<B.length/\1<=c
 ka:a<B.length/\1<=a
 kb:b<B.length/\1<=b
 cov:Cov B c a b D Z
 d59:D<=59
 zz:wz B c+wz B a+wz B b<=Z
 h1:1<=H
 DH:D<=H
 hc:wh B c<=H
 ha:wh B a<=H
 hb:wh B b<=H
 fu:Z+6000<=n
section
variable {n c a b D Z H:Nat}
theorem ChOk.z1 (k:ChOk n B c a b D Z H):1<=Z:=Ja0 (jbp k.g.wf c) (Ja0 (Jb5 _ _) (Ja0 (Jb5 _ _) k.zz))
theorem jnp {a b z:Nat} (h:a<=b+1):a+(2*z+4)<=b+(2*z+10):=by lia
theorem jej (k:ChOk n B c a b D Z H) {B1:List Tm} {o:Op} {x y:Nat} (ho:o=.con\/o=.dis) (xe:Ext B B1) (ge:Gb B1) (hl:B1.length<=B.length+1) (hx:x<B1.length/\1<=x) (hxc:x=c\/Neg B1 c x) (hy:y=a\/y=b) (E:Prop) :
  ∃ q,jaT n B1 o [x,y]=some q/\Res B (2*Z+10) Z H (abc c a b) E q:=by
 have hyB:y<B.length/\1<=y:=by rcases hy with e | e <;> refine rwr e ?_; exact k.ka; exact k.kb
 have hyw:wh B1 y<=H:=by refine rwr (jd6 xe hyB.1) ?_; rcases hy with e | e <;> refine rwr e ?_; exact k.ha; exact k.hb
 have hcw:wh B1 c<=H:=by refine rwr (jd6 xe k.kc.1) ?_; exact k.hc
 have hxw:wh B1 x<=H:=by
  rcases hxc with e | h
  ·refine rwr e ?_; exact hcw
  ·exact Ja0 (h.wh ge).1 (Nat.max_le.mpr ⟨k.h1,hcw⟩)
 obtain ⟨l,v⟩:=k.cov B1 xe ge x hxc y hy o ho
 have two:∀ P:Nat->Prop,P x->P y->∀ t∈[x,y],P t:=λ P h1 h2 t ht=>by
  rcases Ja3.mp ht with e | ht
  ·rw [e]; exact h1
  ·rw [Ja2.mp ht]; exact h2
 refine jam (jdp (n:=n) (some':=[x,y]) ho ge (two _ hx ⟨Ja1 hyB.1 xe.len,hyB.2⟩) (by show 2<=3; decide) (two _ v.x v.y) v.lt (Ja0 v.e k.d59) (Ja0 v.e k.DH) k.h1 (two _ hxw hyw) v.z k.z1 k.fu) λ q e r=>?_
 refine ja2 q e (r.mono xe (jnp hl) (two _ ?_ ?_))
 ·rcases hxc with e | h
  ·exact jdg (.inl e)
  ·exact jgB (.inl rfl) (h.ext r.x)
 ·exact jdg (.inr hy)
theorem jn3 {t:Tm} {i:Nat} (h:B[i]? = some t) (ht:t.op=.ite):¬ Lit B i:=by rintro (e | ⟨e,_⟩) <;> rw [jan h,ht] at e <;> exact absurd e (by decide)
theorem jcA {P:Nat->Prop} {x y z:Nat} (h1:P x) (h2:P y) (h3:P z):∀ t∈[x,y,z],P t:=λ t ht=>by
 rcases Ja3.mp ht with e | ht
 ·rw [e]; exact h1
 ·rcases Ja3.mp ht with e | ht
  ·rw [e]; exact h2
  ·rw [Ja2.mp ht]; exact h3
theorem jmg (k:ChOk n B c a b D Z H) {B1:List Tm} (xe:Ext B B1) (ge:Gb B1) (hl:B1.length<=B.length+2) {E:Prop} (hE:E):Res B (2*Z+10) Z H (abc c a b) E (mk B1 ⟨.ite,[c,a,b],0⟩):=by
 have up:∀ {z:Nat},z<B.length/\1<=z->z<B1.length:=λ h=>Ja1 h.1 xe.len
 have hm:=jhs ge (t:=⟨.ite,[c,a,b],0⟩) (jcA (up k.kc) (up k.ka) (up k.kb)) (jcA k.kc.2 k.ka.2 k.kb.2) (λ e=>nomatch e) rfl (λ e=>nomatch e) (by show 3<=63; decide) (λ e=>by rcases e with e | e <;> exact nomatch e)
 have hg:=jba B1 ⟨.ite,[c,a,b],0⟩
 have hu:=jcT B1 ⟨.ite,[c,a,b],0⟩
 have har:=jai hg
 have xx:=xe.trans (ja9 B1 ⟨.ite,[c,a,b],0⟩)
 have ez:=jcM hm.wf hu
 have eh:=jcL hm.wf hu (jn3 hg rfl)
 rw [har] at ez eh
 refine ⟨xx,hm,⟨hu,jiy ge λ e=>(Op.noConfusion e)⟩,Ja0 (jix _ _) (by have:=k.z1; lia),?_,?_,λ Bf N gf xf hN ks kE=>.mk ?_ λ s hs=>?_⟩
 ·refine rwr ez ?_
  refine Nat.max_le.mpr ⟨k.z1,?_⟩
  show wz _ c+(wz _ a+(wz _ b+0))<=Z
  refine rwr (jeP xx k.kc.1) ?_; refine rwr (jeP xx k.ka.1) ?_; refine rwr (jeP xx k.kb.1) ?_; rw [Nat.add_zero,<- Nat.add_assoc]; exact k.zz
 ·refine rwr eh ?_
  refine rwr (jan hg) ?_
  refine rwr (if_neg (λ e:isJ .ite=true=>nomatch e)) ?_
  refine rwr (if_neg (λ e:Op.ite=Op.xr=>nomatch e)) ?_
  refine jqp k.h1 (jfW λ y hy=>?_) (Nat.zero_le _)
  refine jam (Jb8 hy) λ z hz e_3=>?_
  subst e_3
  exact jcA (P:=λ z=>wh _ z<=H) (by refine rwr (jd6 xx k.kc.1) ?_; exact k.hc) (by refine rwr (jd6 xx k.ka.1) ?_; exact k.ha) (by refine rwr (jd6 xx k.kb.1) ?_; exact k.hb) z hz
 ·refine rwr (xf.op hu) ?_; refine rwr (jan hg) ?_; exact kE hE
 ·rw [xf.args hu,har] at hs
  exact jcA (P:=λ z=>Her Bf N z) (ks c (.inl rfl)) (ks a (.inr (.inl rfl))) (ks b (.inr (.inr rfl))) s hs
theorem jfK (k:ChOk n B c a b D Z H):∃ q,chB n B c a b=some q/\Res B (2*Z+10) Z H (abc c a b) (noEnd B c a b) q:=by
 refine jbq (jau k.g k.kc.1 k.kc.2) λ g1 n1 l1=>?_
 have x1:=jag B c
 have nl:=jaK B c
 have hng:=jav k.g.wf k.kc.1
 have up:∀ {z:Nat},z<B.length/\1<=z->z<(jab B c).2.length/\1<=z:=λ h=>⟨Ja1 h.1 x1.len,h.2⟩
 unfold chB
 by_cases z1:a=1\/a=c
 ·refine rwr (if_pos z1) ?_; exact jej k (.inr rfl) (Ext.refl _) k.g (Nat.le_succ _) k.kc (.inl rfl) (.inr rfl) _
 refine rwr (if_neg z1) ?_
 by_cases z2:a=2\/a=(jab B c).1
 ·refine rwr (if_pos z2) ?_; exact jej k (.inl rfl) x1 g1 nl ⟨l1,n1⟩ (.inr hng) (.inr rfl) _
 refine rwr (if_neg z2) ?_
 by_cases z3:b=1\/b=(jab B c).1
 ·refine rwr (if_pos z3) ?_; exact jej k (.inr rfl) x1 g1 nl ⟨l1,n1⟩ (.inr hng) (.inl rfl) _
 refine rwr (if_neg z3) ?_
 by_cases z4:b=2\/b=c
 ·refine rwr (if_pos z4) ?_; exact jej k (.inl rfl) x1 g1 nl (up k.kc) (.inl rfl) (.inl rfl) _
 refine rwr (if_neg z4) ?_
 refine jbq (jau g1 (up k.kb).1 k.kb.2) λ g2 n2 l2=>?_
 have x2:=x1.trans (jag (jab B c).2 b)
 have nl2:(jab (jab B c).2 b).2.length<=B.length+2:=Ja0 (jaK _ _) (Jc1 nl)
 by_cases z5:a=(jab (jab B c).2 b).1
 ·refine rwr (if_pos z5) ?_
  have s:=jeH g2 ⟨Ja1 k.kc.1 x2.len,k.kc.2⟩ ⟨Ja1 k.ka.1 x2.len,k.ka.2⟩ k.h1 (by refine rwr (jd6 x2 k.kc.1) ?_; exact k.hc) (by refine rwr (jd6 x2 k.ka.1) ?_; exact k.ha)
  rw [jeP x2 k.kc.1,jeP x2 k.ka.1] at s
  replace s:=s
  refine ⟨_,rfl,x2.trans s.x,s.g,s.r,Ja0 s.l (by lia),Ja0 s.z (Ja0 (Jb5 _ _) k.zz),s.h,λ Bf N gf xf hN ks U=>s.her Bf N gf xf hN (λ t ht=>?_) False.elim⟩
  rcases ht with e | e
  ·exact ks t (.inl e)
  ·exact ks t (.inr (.inl e))
 refine rwr (if_neg z5) ?_
 exact ⟨_,rfl,jmg k x2 g2 nl2 ⟨z1,z2,z3,z4,z5⟩⟩
end
end
end
section
section
variable {B B2:List Tm}
theorem je9 {o:Op} (ho:o=.con\/o=.dis) (g2:Gb B2):∀ (n:Nat) {B B':List Tm} {f st:List Nat} {fr:Option (List Nat)},Gb B->(∀ t∈st,t<B.length/\1<=t)->jat n B o f st=some (fr,B')->Ext B' B2->jat n B2 o f st=some (fr,B2):=by
 intro n
 induction n with
 | zero =>
  intro _ _ _ _ _ _ _ h _
  simp [jat] at h
 | succ n ih =>
  intro B B' f w_1
  cases w_1 with
  | nil =>
   intro _ _ _ h x
   simp only [jat,Option.some.injEq,Prod.mk.injEq] at h
   obtain ⟨rfl,rfl⟩:=h
   rfl
  | cons t st =>
   intro fr g hs h x
   have ht:=hs t (.head _)
   have hst:∀ x∈st,x<B.length/\1<=x:=λ x hx=>hs x (.tail _ hx)
   have hx:=jag B t
   have gn:=(jau g ht.1 ht.2).1
   have hst2:∀ x∈st,x<(jab B t).2.length/\1<=x:=λ x hx'=>⟨Ja1 (hst x hx').1 hx.len,(hst x hx').2⟩
   dsimp only [jat] at h ⊢
   replace h:=h
   refine Jc8 (Jc9 (t=ja7 o)) (λ h1=>?_) λ h1=>?_
   ·rw [if_pos h1] at h ⊢
    replace h:=h
    exact ih g hst h x
   ·rw [if_neg h1] at h ⊢
    replace h:=h
    refine Jc8 (Jc9 (t=jaU o)) (λ h2=>?_) λ h2=>?_
    ·rw [if_pos h2] at h ⊢
     replace h:=h
     refine jbi (Prod.mk.inj (Jb0 h)) λ e_3 e_4=>?_
     subst e_3
     subst e_4
     rfl
    ·rw [if_neg h2] at h ⊢
     replace h:=h
     refine Jc8 (Jc9 ((jab B t).1∈f)) (λ h3=>?_) λ h3=>?_
     ·rw [if_pos h3] at h
      replace h:=h
      refine jbi (Prod.mk.inj (Jb0 h)) λ e_5 e_6=>?_
      subst e_5
      subst e_6
      refine rwr (jaQ g.wf g2.wf g2.nd ht.1 x) ?_
      refine rwr (if_pos h3) ?_
      rfl
     ·rw [if_neg h3] at h
      replace h:=h
      have xn:Ext (jab B t).2 B2:=by
       refine ith h (λ q_3 h=>?_) λ q_4 h=>?_
       ·exact (jaz n h).trans x
       ·exact (jaz n h).trans x
      refine rwr (jaQ g.wf g2.wf g2.nd ht.1 xn) ?_
      dsimp only
      refine rwr (if_neg h3) ?_
      have tl:=Ja1 ht.1 hx.len
      refine rwr (xn.op tl) ?_
      refine rwr (xn.args tl) ?_
      by_cases h4:jad (jab B t).2 t=o
      ·rw [if_pos h4] at h ⊢
       replace h:=h
       refine jcV (gn.at h4 ho) λ a1 a2 a3 U=>?_
       exact ih gn (λ x hx'=>by
        refine Jc8 (Ja9.mp hx') (λ q=>?_) λ q=>?_
        ·exact ⟨Jd1 (a3 x q).1 a2,(a3 x q).2⟩
        ·exact hst2 x q) h x
      ·rw [if_neg h4] at h ⊢
       replace h:=h
       exact ih gn hst2 h x
theorem jdW {o:Op} {l:List Nat} (nd:B2.Nodup) (x:Ext (jaA B o l).2 B2):jaA B2 o l=((jaA B o l).1,B2):=by
 unfold jaA at x ⊢
 by_cases h:o=.con
 ·rw [if_pos h] at x
  refine rwr (if_pos h) ?_
  refine rwr (if_pos h) ?_
  rcases l with _ | ⟨a,_ | ⟨b,r⟩⟩
  ·rfl
  ·rfl
  ·exact jeA nd x
 ·rw [if_neg h] at x
  refine rwr (if_neg h) ?_
  refine rwr (if_neg h) ?_
  rcases l with _ | ⟨a,_ | ⟨b,r⟩⟩
  ·rfl
  ·rfl
  ·exact jeA nd x
theorem jgz {o:Op} (ho:o=.con\/o=.dis) (g2:Gb B2) (f:List Nat) {B:List Tm} {t:Nat} (g:Gb B) (ht:t<B.length) (hop:jad B t=o) (xB:Ext B B2):(jaa B2 t).filter (λ z=>decide ((jab B2 z).1∉f))=flt f B t:=by
 rw [xB.args ht]
 apply List.filter_congr
 intro z hz
 refine jbi (g.dnArgs hop ho z hz) λ n_7 hzl=>jbh n_7 λ y hy=>?_
 rw [jaB g.wf g.nd hzl hy,jaB g2.wf g2.nd (Ja1 hzl xB.len) (hy.ext xB)]
theorem jfx {o:Op} (ho:o=.con\/o=.dis) (g2:Gb B2) (f l:List Nat) {B:List Tm} (g:Gb B) (hl:∀ t∈l,t<B.length/\1<=t) (x:Ext (jal B o f l).2 B2):jal B2 o f l=((jal B o f l).1,B2):=by
 refine jcz ho (M:=λ B l k B' U=>Ext B' B2->jal B2 o f l=(k,B2)) (λ U U U=>rfl) ?_ ?_ ?_ l g hl x
 ·intro B t r k B' C g ht xe q m x
  have xB:=xe.trans x
  rw [jbD g2 ho,m x]
  by_cases h1:jad B2 t≠o
  ·rw [if_pos h1]
  have hop:jad B t=o:=(xB.op ht.1).symm.trans (Classical.not_not.mp h1)
  rw [if_neg h1,jgz ho g2 f g ht.1 hop xB,xB.args ht.1,if_neg (q hop).1,if_pos (q hop).2]
 ·intro B t r k B' C g ht xe hop hany m x
  have xB:=xe.trans x
  rw [jbD g2 ho,if_neg (λ h=>h ((xB.op ht.1).trans hop)),xB.args ht.1,if_pos hany,m x]
 ·intro B t r k B' C g ht hop hany e hne xe m x
  have xE:=xe.trans x
  have xB:Ext B B2:=(jaD _ _ _).trans xE
  rw [jbD g2 ho,if_neg (λ h=>h ((xB.op ht.1).trans hop)),jgz ho g2 f g ht.1 hop xB,xB.args ht.1]
  rw [if_neg hany,if_neg hne,jdW g2.nd xE]
  dsimp only
  rw [m x]
theorem jhk {o:Op} (ho:o=.con\/o=.dis) (g2:Gb B2):∀ (n:Nat) {B:List Tm} {fo:Option (List Nat)} {r:Nat×List Tm},Gb B->(∀ f,fo=some f->∀ t∈f,t<B.length/\1<=t)->ja0 n B o fo=some r->Ext r.2 B2->ja0 n B2 o fo=some (r.1,B2):=by
 intro n
 induction n with
 | zero =>
  intro _ _ _ _ _ h _
  simp [ja0] at h
 | succ n ih =>
  intro B w_2
  cases w_2 with
  | none =>
   intro r g _ h x
   simp only [ja0,Option.some.injEq] at h
   subst h; rfl
  | some f =>
   intro r g hf h x
   have hs:∀ t∈jaf f,t<B.length/\1<=t:=λ t ht=>hf f rfl t (jaV.mp ht)
   refine jcV (jeJ (jaw o) f (jaf f) g hs) λ g1 k1 U U=>?_
   unfold ja0 at h ⊢
   replace h:=h
   refine Jc8 (Jc9 (63<f.length)) (λ h0=>?_) λ h0=>?_
   ·rw [if_pos h0] at h; replace h:=h; exact nomatch h
   ·rw [if_neg h0] at h ⊢
    replace h:=h
    dsimp only at h ⊢
    replace h:=h
    refine Jc8 (Jc9 ((jal B (jaC o) f (jaf f)).1=jaf f)) (λ hk=>?_) λ hk=>?_
    ·rw [if_pos hk] at h
     replace h:=h
     have h:=Jb0 h
     rw [<- h] at x ⊢
     refine rwr (jfx (jaw o) g2 f (jaf f) g hs ((jaD _ _ _).trans x)) ?_
     dsimp only
     refine rwr (if_pos hk) ?_
     refine rwr (jdW g2.nd x) ?_
     rfl
    ·rw [if_neg hk] at h
     replace h:=h
     cases hq:jat n (jal B (jaC o) f (jaf f)).2 o [] (jal B (jaC o) f (jaf f)).1 with
     | none=>rw [hq] at h; replace h:=h; exact nomatch h
     | some q =>
      obtain ⟨fr,B3⟩:=q
      rw [hq] at h
      replace h:=h
      dsimp only at h
      replace h:=h
      have x3:Ext B3 B2:=(jaO n h).trans x
      refine rwr (jfx (jaw o) g2 f (jaf f) g hs ((jaz n hq).trans x3)) ?_
      dsimp only
      refine rwr (if_neg hk) ?_
      refine rwr (je9 ho g2 n g1 k1 hq x3) ?_
      dsimp only
      refine jbi (jbO ho n g1 k1 (FI.nil _ _) hq) λ g3 f3=>?_
      exact ih g3 (λ f' e t ht=>(f3 f' e).lt t ht) h x
theorem jbV {o:Op} (ho:o=.con\/o=.dis) (g2:Gb B2) {n:Nat} {l:List Nat} {r:Nat×List Tm} (g:Gb B) (hl:∀ t∈l,t<B.length/\1<=t) (h:jaT n B o l=some r) (x:Ext r.2 B2):jaT n B2 o l=some (r.1,B2):=by
 unfold jaT at h ⊢
 cases hq:jat n B o [] l with
 | none=>rw [hq] at h; replace h:=h; exact nomatch h
 | some q =>
  obtain ⟨fr,B3⟩:=q
  rw [hq] at h
  replace h:=h
  dsimp only at h
  refine rwr (je9 ho g2 n g hl hq ((jaO n h).trans x)) ?_
  dsimp only
  obtain ⟨g3,f3⟩:=jbO ho n g hl (FI.nil _ _) hq
  exact jhk ho g2 n g3 (λ f' e t ht=>(f3 f' e).lt t ht) h x
theorem ji1 (g2:Gb B2) {a b:Nat} (g:Gb B) (ha:a<B.length/\1<=a) (hb:b<B.length/\1<=b) (x:Ext (jaG B a b).2 B2):jaG B2 a b=((jaG B a b).1,B2):=by
 have la:=jcm g ha
 have lb:=jcm g hb
 have x0:Ext B B2:=(jaX B a b).trans x
 have eb:∀ {t:Nat},t<B.length->jac B2 t=jac B t:=λ ht=>by unfold jac; refine rwr (x0.op ht) ?_; refine rwr (x0.args ht) ?_; rfl
 have hm:=jcI g.wf la.1 lb.1
 have mid:Ext (jap B (jac B a) (jac B b)).2 B2->jap B2 (jac B a) (jac B b)=((jap B (jac B a) (jac B b)).1,B2):=λ xm=>by
  unfold jap at xm ⊢
  split
  ·rename_i h1
   rw [if_pos h1] at xm
   replace xm:=xm
   split
   ·rfl
   ·rename_i h2
    rw [if_neg h2] at xm
    replace xm:=xm
    exact jaQ g.wf g2.wf g2.nd lb.1 xm
  ·rename_i h1
   rw [if_neg h1] at xm
   replace xm:=xm
   split
   ·rfl
   ·rename_i h2
    rw [if_neg h2] at xm
    replace xm:=xm
    split
    ·rename_i h3
     rw [if_pos h3] at xm
     exact jaQ g.wf g2.wf g2.nd la.1 xm
    ·rename_i h3
     rw [if_neg h3] at xm
     replace xm:=xm
     dsimp only [jcP] at xm ⊢
     replace xm:=xm
     split
     ·rfl
     ·rename_i h4
      rw [if_neg h4] at xm
      exact jeA g2.nd xm
 unfold jaG at x ⊢
 dsimp only at x ⊢
 refine rwr (eb ha.1) ?_
 refine rwr (eb hb.1) ?_
 refine rwr (x0.op ha.1) ?_
 refine rwr (x0.op hb.1) ?_
 split
 ·rename_i h
  rw [if_pos h] at x
  refine rwr (mid ((jag _ _).trans x)) ?_
  exact jaQ hm.1 g2.wf g2.nd hm.2 x
 ·rename_i h
  rw [if_neg h] at x
  exact mid x
theorem jei (g2:Gb B2) {n c a b:Nat} {r:Nat×List Tm} (g:Gb B) (hc:c<B.length/\1<=c) (ha:a<B.length/\1<=a) (hb:b<B.length/\1<=b) (h:chB n B c a b=some r) (x:Ext r.2 B2):chB n B2 c a b=some (r.1,B2):=by
 refine jbq (jau g hc.1 hc.2) λ g1 n1 l1=>?_
 have x1:=jag B c
 have up:∀ {z:Nat},z<B.length/\1<=z->z<(jab B c).2.length/\1<=z:=λ h=>⟨Ja1 h.1 x1.len,h.2⟩
 have two:∀ {Q:List Tm} {p q:Nat},(p<Q.length/\1<=p)->(q<Q.length/\1<=q)->∀ t∈[p,q],t<Q.length/\1<=t:=λ hp hq t ht=>by
  simp only [Ja3,Jb2,or_false] at ht
  rcases ht with rfl | rfl
  ·exact hp
  ·exact hq
 dsimp only [chB] at h ⊢
 refine Jc8 (Jc9 (a=1\/a=c)) (λ h1=>?_) λ h1=>?_
 ·rw [if_pos h1] at h ⊢
  replace h:=h
  exact jbV (.inr rfl) g2 g (two hc hb) h x
 ·rw [if_neg h1] at h ⊢
  replace h:=h
  have xn:Ext (jab B c).2 B2:=by
   split at h
   ·exact (jbA h).trans x
   ·refine ith h (λ q_12 h=>?_) λ q_13 h=>?_
    ·exact (jbA h).trans x
    ·split at h
     ·exact (jbA h).trans x
     ·split at h
      ·have h:=Jb0 h
       rw [<- h] at x
       exact ((jag _ _).trans (jaX _ _ _)).trans x
      ·have h:=Jb0 h
       rw [<- h] at x
       exact ((jag _ _).trans (ja9 _ _)).trans x
  refine rwr (jaQ g.wf g2.wf g2.nd hc.1 xn) ?_
  dsimp only
  refine Jc8 (Jc9 (a=2\/a=(jab B c).1)) (λ h2=>?_) λ h2=>?_
  ·rw [if_pos h2] at h ⊢
   replace h:=h
   exact jbV (.inl rfl) g2 g1 (two ⟨l1,n1⟩ (up hb)) h x
  ·rw [if_neg h2] at h ⊢
   replace h:=h
   refine Jc8 (Jc9 (b=1\/b=(jab B c).1)) (λ h3=>?_) λ h3=>?_
   ·rw [if_pos h3] at h ⊢
    replace h:=h
    exact jbV (.inr rfl) g2 g1 (two ⟨l1,n1⟩ (up ha)) h x
   ·rw [if_neg h3] at h ⊢
    replace h:=h
    refine Jc8 (Jc9 (b=2\/b=c)) (λ h4=>?_) λ h4=>?_
    ·rw [if_pos h4] at h ⊢
     replace h:=h
     exact jbV (.inl rfl) g2 g1 (two (up hc) (up ha)) h x
    ·rw [if_neg h4] at h ⊢
     replace h:=h
     refine jbq (jau g1 (up hb).1 hb.2) λ gn2 n2 l2=>?_
     have up2:∀ {z:Nat},z<B.length/\1<=z->z<(jab (jab B c).2 b).2.length/\1<=z:=λ h=>⟨Ja1 h.1 (x1.trans (jag (jab B c).2 b)).len,h.2⟩
     have xn2:Ext (jab (jab B c).2 b).2 B2:=by
      split at h
      ·have h:=Jb0 h
       rw [<- h] at x
       replace x:=x
       exact (jaX _ _ _).trans x
      ·have h:=Jb0 h
       rw [<- h] at x
       replace x:=x
       exact (ja9 _ _).trans x
     refine rwr (jaQ g1.wf g2.wf g2.nd (up hb).1 xn2) ?_
     dsimp only
     refine Jc8 (Jc9 (a=(jab (jab B c).2 b).1)) (λ h5=>?_) λ h5=>?_
     ·rw [if_pos h5] at h ⊢
      have h:=Jb0 h
      rw [<- h] at x ⊢
      refine rwr (ji1 g2 gn2 (up2 hc) (up2 ha) x) ?_
      rfl
     ·rw [if_neg h5] at h ⊢
      rw [<- (Jb0 h)] at x ⊢
      refine rwr (jeA g2.nd x) ?_
      rfl
end
end
section
structure PW (B:List Tm) (P:Nat->Prop) (M1 M2 M3:Nat):Prop where
 one:∀ t,P t->wh B t<=M1
 two:∀ t u,P t->P u->t≠u->wh B t+wh B u<=M2
 tri:∀ t u v,P t->P u->P v->t≠u->t≠v->u≠v->wh B t+wh B u+wh B v<=M3
theorem PW.ext {B B':List Tm} {P:Nat->Prop} {M1 M2 M3:Nat} (h:PW B P M1 M2 M3) (x:Ext B B') (hP:∀ t,P t->t<B.length):PW B' P M1 M2 M3 where
 one:=λ t ht=>by refine rwr (jd6 x (hP t ht)) ?_; exact h.one t ht
 two:=λ t u ht hu n=>by refine rwr (jd6 x (hP t ht)) ?_; refine rwr (jd6 x (hP u hu)) ?_; exact h.two t u ht hu n
 tri:=λ t u v ht hu hv a b c=>by refine rwr (jd6 x (hP t ht)) ?_; refine rwr (jd6 x (hP u hu)) ?_; refine rwr (jd6 x (hP v hv)) ?_; exact h.tri t u v ht hu hv a b c
theorem PW.add {B:List Tm} {P:Nat->Prop} {M1 M2 M3 D r:Nat} (h:PW B P M1 M2 M3) (hr:wh B r<=D) (h1:M1<=D) (h2:M2<=D+M1) (h3:M3<=D+M2):PW B (λ t=>P t\/t=r) D (D+M1) (D+M2) where
 one:=λ t ht=>by
  rcases ht with ht | e
  ·exact Ja0 (h.one t ht) h1
  ·refine rwr e ?_; exact hr
 two:=λ t u ht hu n=>by
  rcases ht with ht | e
  ·rcases hu with hu | e
   ·exact Ja0 (h.two t u ht hu n) h2
   ·refine rwr e ?_; rw [Nat.add_comm]; exact Nat.add_le_add hr (h.one t ht)
  ·rcases hu with hu | e'
   ·refine rwr e ?_; exact Nat.add_le_add hr (h.one u hu)
   ·exact absurd (e.trans e'.symm) n
 tri:=λ t u v ht hu hv a b c=>by
  rcases ht with ht | e
  ·rcases hu with hu | e
   ·rcases hv with hv | e
    ·exact Ja0 (h.tri t u v ht hu hv a b c) h3
    ·rw [e,Nat.add_comm]; exact Nat.add_le_add hr (h.two t u ht hu a)
   ·rcases hv with hv | e'
    ·rw [e,Nat.add_comm (wh B t),Nat.add_assoc]; exact Nat.add_le_add hr (h.two t v ht hv b)
    ·exact absurd (e.trans e'.symm) c
  ·rcases hu with hu | e'
   ·rcases hv with hv | e'
    ·rw [e,Nat.add_assoc]; exact Nat.add_le_add hr (h.two u v hu hv c)
    ·exact absurd (e.trans e'.symm) b
   ·exact absurd (e.trans e'.symm) a
section
variable {B:List Tm} {P:Nat->Prop} {M1 M2 M3 D:Nat}
structure CovL (B:List Tm) (D Z:Nat) (s l:List Nat):Prop where
 m:∀ t∈s,t∈l
 lt:∀ t∈l,t<B.length
 e:(l.map (wh B)).sum<=D
 z:(l.map (wz B)).sum<=Z
theorem jgF {e e':Nat->Nat} (h:∀ t,e t<=e' t):∀ l:List Nat,(l.map e).sum<=(l.map e').sum
 | []=>Jc4 _
 | x::l=>by refine rwr Ja8 ?_; refine rwr Ja8 ?_; refine rwr List.sum_cons ?_; refine rwr List.sum_cons ?_; exact Nat.add_le_add (h x) (jgF h l)
theorem joS {e:Nat->Nat} {a D:Nat} (h:e a<=D):([a].map e).sum<=D:=h
theorem joT {e:Nat->Nat} {a b D:Nat} (h:e a+e b<=D):([a,b].map e).sum<=D:=by
 show e a+(e b+0)<=D; rw [Nat.add_zero]; exact h
theorem jqw {e:Nat->Nat} {a b c D:Nat} (h:e a+e b+e c<=D):([a,b,c].map e).sum<=D:=by
 show e a+(e b+(e c+0))<=D; rw [Nat.add_zero,<- Nat.add_assoc]; exact h
theorem jms {Q:Nat->Prop} {a:Nat} (h:Q a):∀ t∈[a],Q t:=λ t ht=>by refine rwr (Ja2.mp ht) ?_; exact h
theorem jjw {Q:Nat->Prop} {a b:Nat} (h1:Q a) (h2:Q b):∀ t∈[a,b],Q t:=λ t ht=>by
 rcases Ja3.mp ht with e | ht
 ·refine rwr e ?_; exact h1
 ·exact jms h2 t ht
theorem PW.cov2 (h:PW B P M1 M2 M3) (hP:∀ t,P t->t<B.length) {p q:Nat} (hp:P p) (hq:P q) (h1:M1<=D) (h2:M2<=D):∃ l,CovL B D (wz B p+wz B q) [p,q] l:=by
 by_cases e:p=q
 ·exact ⟨[p],jjw (.head _) (by refine rwl e ?_; exact .head _),jms (hP p hp),joS (Ja0 (h.one p hp) h1),joS (Jb5 _ _)⟩
 ·exact ⟨[p,q],λ U h=>h,jjw (hP p hp) (hP q hq),joT (Ja0 (h.two p q hp hq e) h2),joT (Jc4 _)⟩
theorem PW.cov3 (h:PW B P M1 M2 M3) (hP:∀ t,P t->t<B.length) {p q r:Nat} (hp:P p) (hq:P q) (hr:P r) (h1:M1<=D) (h2:M2<=D) (h3:M3<=D):∃ l,CovL B D (wz B p+wz B q+wz B r) [p,q,r] l:=by
 have cons:∀ {a b:Nat},P a->P b->wz B a+wz B b<=wz B p+wz B q+wz B r->(∀ t∈[p,q,r],t∈[a,b])->∃ l,CovL B D (wz B p+wz B q+wz B r) [p,q,r] l:=λ ha hb hz hm=>by
  obtain ⟨l,c⟩:=h.cov2 (D:=D) hP ha hb h1 h2
  exact ⟨l,λ t ht=>c.m t (hm t ht),c.lt,c.e,Ja0 c.z hz⟩
 by_cases e1:p=q
 ·exact cons hq hr (Jb4 (Jc7 _ _) _) (jcA (by refine rwr e1 ?_; exact .head _) (.head _) (.tail _ (.head _)))
 ·by_cases e2:p=r
  ·exact cons hp hq (Jb5 _ _) (jcA (.head _) (.tail _ (.head _)) (by refine rwr e2 ?_; exact .head _))
  ·by_cases e3:q=r
   ·exact cons hp hq (Jb5 _ _) (jcA (.head _) (.tail _ (.head _)) (by refine rwr e3 ?_; exact .tail _ (.head _)))
   ·exact ⟨[p,q,r],λ U h=>h,jcA (hP p hp) (hP q hq) (hP r hr),jqw (Ja0 (h.tri p q r hp hq hr e1 e2 e3) h3),jqw (Jc4 _)⟩
theorem jgY (B:List Tm) (c a i:Nat):sel B c a i=a\/(jad B a=.ite/\(jaa B a).headD 0=c/\(sel B c a i∈jaa B a\/sel B c a i=0)/\sel B c a i=(jaa B a).getD i 0):=by
 unfold sel; split
 ·rename_i h
  refine .inr ⟨h.1,h.2,?_,rfl⟩
  by_cases hi:i<(jaa B a).length
  ·rw [List.getD_eq_getElem?_getD]; refine rwr (List.getElem?_eq_getElem hi) ?_; exact .inl (List.getElem_mem _)
  ·rw [List.getD_eq_getElem?_getD]; refine rwr (List.getElem?_eq_none (Jd2 ‹_›)) ?_; exact .inr rfl
 ·exact .inl rfl
theorem jpt (g:Gb B) {a:Nat} (h:jad B a=.ite):∃ x y z,jaa B a=[x,y,z]/\a<B.length:=by
 have ha:a<B.length:=jaN (by refine rwr h ?_; exact λ e=>nomatch e)
 have hg:=List.getElem?_eq_getElem ha
 have:=g.ar a _ hg
 rw [<- jan hg,<- jai hg,h] at this
 refine jcR (jqo (eq_of_beq this)) λ x y z e=>?_
 exact jru x y z e ha
theorem jdA (g:Gb B) {c a i:Nat} (hi:i=1\/i=2) (ha:a<B.length/\1<=a):(sel B c a i<B.length/\1<=sel B c a i)/\wh B (sel B c a i)<=wh B a/\wz B (sel B c a i)<=wz B a/\(sel B c a i=a\/sel B c a i∈jaa B a):=by
 rcases jgY B c a i with e | ⟨h1,h2,_,h4⟩
 ·refine rwr e ?_; exact ⟨ha,Jc4 _,Jc4 _,.inl rfl⟩
 ·have hm:sel B c a i∈jaa B a:=by
   refine joX (jpt g h1) λ x y z e U=>?_
   refine rwr h4 ?_
   refine rwr e ?_
   rcases hi with rfl | rfl
   ·exact .tail _ (.head _)
   ·exact .tail _ (.tail _ (.head _))
  have hg:=List.getElem?_eq_getElem ha.1
  exact ⟨⟨Jd1 (jaL g.wf hm) ha.1,g.ps a _ hg _ (by refine rwl (jai hg) ?_; exact hm)⟩,jdE g hm,joF g.wf hm,.inr hm⟩
theorem jkG (g:Gb B) (c i:Nat):sel B c c i=c:=by
 rcases jgY B c c i with e | ⟨h1,h2,_⟩
 ·exact e
 ·exfalso
  refine joX (jpt g h1) λ x y z e U=>?_
  rw [e] at h2
  have hl:=jaL g.wf (i:=c) (s:=x) (by refine rwr e ?_; exact .head _)
  exact Nat.lt_irrefl _ (show c<c by have h2:x=c:=h2; rw [h2] at hl; exact hl)
structure CondOf (B:List Tm) (p c:Nat):Prop where
 nn:jad B c≠.neg
 h:wh B c<=wh B p
 z:wz B c=wz B p
 or:c=p\/Neg B c p
 r:c<B.length/\1<=c
theorem jgp (g:Gb B) {p:Nat} (hp:p<B.length/\1<=p):CondOf B p (jac B p):=by
 rcases jeg g.wf p with ⟨h1,e⟩ | ⟨h1,h2,h3,h4,_⟩
 ·refine rwr e ?_; exact ⟨h1,Jc4 _,rfl,.inl rfl,hp⟩
 ·have hm:jac B p∈jaa B p:=by
   refine jdI (ja5 g.wf h1) λ s U e2 U=>?_
   unfold jac; refine rwr (if_pos h1) ?_; refine rwr e2 ?_; exact .head _
  exact ⟨h3,jdE g hm,(h2.wz g).symm,.inr h2,jcm g hp⟩
theorem jbN {B':List Tm} {o:Op} {x y D Z α β:Nat} (hx:x<B'.length) (hy:y<B'.length) (h1:we B' o x<=α) (h2:we B' o y<=β) (h:α+β<=D) (hz:wz B' x+wz B' y<=Z):∃ l,Cov1 B' o x y D Z l :=
 ⟨[x,y],.head _,.tail _ (.head _),jjw hx hy,joT (Ja0 (Nat.add_le_add h1 h2) h),joT hz⟩
theorem jel {B':List Tm} {o:Op} {x y D Z:Nat} (hx:x<B'.length) (e:y=x) (h1:we B' o x<=D) (hz:wz B' x<=Z):∃ l,Cov1 B' o x y D Z l :=
 ⟨[x],.head _,by refine rwr e ?_; exact .head _,jms hx,joS h1,joS hz⟩
theorem PW.cov_sel (h:PW B P M1 M2 M3) (hP:∀ t,P t->t<B.length/\1<=t) (g:Gb B) {p c u i:Nat} (hi:i=1\/i=2) (hp:P p) (hu:P u) (k:CondOf B p c) (h1:M1+1<=D) (h2:M2<=D) {B':List Tm} (xe:Ext B B') (g':Gb B') {x:Nat} (hx:x=c\/Neg B' c x) {o:Op} (ho:o=.con\/o=.dis) :
  ∃ l,Cov1 B' o x (sel B c u i) D (wz B p+wz B u) l:=by
 have lc:=Ja1 k.r.1 xe.len
 refine jcV (jdA g (c:=c) hi (hP u hu)) λ ry hy zy U=>?_
 have ly:=Ja1 ry.1 xe.len
 have nc:jad B' c≠.neg:=by refine rwr (xe.op k.r.1) ?_; exact k.nn
 have ec:we B' o c<=wh B p:=Ja0 (jdD g' o c) (by refine rwr (jd6 xe k.r.1) ?_; exact k.h)
 have zc:wz B' c=wz B p:=by refine rwr (jeP xe k.r.1) ?_; exact k.z
 have lx:x<B'.length:=by
  rcases hx with e | n
  ·refine rwr e ?_; exact lc
  ·exact n.lt g'.wf
 have zx:wz B' x=wz B p:=by
  rcases hx with e | n
  ·rw [e]; exact zc
  ·rw [n.wz g']; exact zc
 have ex:we B' o x<=1\/x=c:=by
  rcases hx with e | n
  ·exact .inr e
  ·exact .inl ((n.we g' ho).2 nc)
 have hM:=h.one p hp
 by_cases e:u=p
 ·have hz:wz B' x<=wz B p+wz B u:=by refine rwr zx ?_; exact Jb5 _ _
  have yc:sel B c u i=c\/Neg B' c (sel B c u i):=by
   refine rwr e ?_
   rcases k.or with ec | n
   ·refine rwl ec ?_; rw [jkG g]; exact .inl rfl
   ·rcases jgY B c p i with es | ⟨h1,_⟩
    ·refine rwr es ?_; exact .inr (n.ext xe)
    ·rcases jeg g.wf p with ⟨h3,_⟩ | ⟨h3,_⟩
     ·exfalso
      rcases n with ⟨_,rfl⟩ | ⟨_,rfl⟩ | n | n
      ·rw [op2 g.wf] at h1; replace h1:=h1; exact absurd h1 (by decide)
      ·rw [op1 g.wf] at h1; replace h1:=h1; exact absurd h1 (by decide)
      ·exact h3 (jan n)
      ·exact k.nn (jan n)
     ·rw [h3] at h1; replace h1:=h1; exact absurd h1 (by decide)
  have ey:we B' o (sel B c u i)<=1\/sel B c u i=c:=by
   rcases yc with e | n
   ·exact .inr e
   ·exact .inl ((n.we g' ho).2 nc)
  have hzz:wz B' x+wz B' (sel B c u i)<=wz B p+wz B u:=by
   refine rwr zx ?_; refine rwr (jeP xe ry.1) ?_; exact Jb3 zy _
  rcases hx with ex' | n
  ·rcases yc with ey' | m
   ·refine rwr ex' ?_; refine rwr ey' ?_; rw [ex'] at hz; exact jel lc rfl (Ja0 ec (Ja0 hM (Ja0 (Nat.le_succ _) h1))) hz
   ·exact jbN lx ly (by refine rwr ex' ?_; exact Ja0 ec hM) ((m.we g' ho).2 nc) h1 hzz
  ·rcases yc with ey' | m
   ·exact jbN lx ly ((n.we g' ho).2 nc) (by refine rwr ey' ?_; exact Ja0 ec hM) (by rw [Nat.add_comm]; exact h1) hzz
   ·exact jel lx (m.fun g'.wn n) (Ja0 ((n.we g' ho).2 nc) (Ja0 (Jc7 _ _) h1)) hz
 ·have ey:we B' o (sel B c u i)<=wh B u:=Ja0 (jdD g' o _) (by refine rwr (jd6 xe ry.1) ?_; exact hy)
  have hzz:wz B' x+wz B' (sel B c u i)<=wz B p+wz B u:=by
   refine rwr zx ?_; refine rwr (jeP xe ry.1) ?_; exact Jb3 zy _
  rcases ex with ex | ex
  ·exact jbN lx ly ex (Ja0 ey (h.one u hu)) (by rw [Nat.add_comm]; exact h1) hzz
  ·exact jbN lx ly (by refine rwr ex ?_; exact ec) ey (Ja0 (h.two p u hp hu λ e'=>e e'.symm) h2) hzz
theorem jes {B':List Tm} (g:Gb B) (x:Ext B B') {S:Nat->Prop} {c u i:Nat} (hi:i=1\/i=2) (hu:u<B.length/\1<=u) (hS:S u):jnd B' S False (sel B c u i):=λ Bf N gf xf hN k U=>by
 rcases (jdA g (c:=c) hi hu).2.2.2 with e | hm
 ·refine rwr e ?_; exact k u hS
 ·exact (k u hS).arg (by refine rwr ((x.trans xf).args hu.1) ?_; exact hm)
theorem jhT {n:Nat} (h:PW B P M1 M2 M3) (hP:∀ t,P t->t<B.length/\1<=t) (g:Gb B) {p c a b:Nat} (hp:P p) (ha:P a) (hb:P b) (k:CondOf B p c) (h1:M1+1<=D) (h2:M2<=D) (hD:D<=59) (hn:wz B p+wz B a+wz B b+6000<=n) :
  ∃ q,chs n B c a b=some q/\Res B (2*(wz B p+wz B a+wz B b)+10) (wz B p+wz B a+wz B b) D (abc p a b) True q:=by
 refine jcV (jdA g (c:=c) (i:=1) (.inl rfl) (hP a ha)) λ ra wa za U=>?_
 refine jcV (jdA g (c:=c) (i:=2) (.inr rfl) (hP b hb)) λ rb wb zb U=>?_
 have hM:M1<=D:=Ja0 (Nat.le_succ _) h1
 have triv:∀ {s u i:Nat},(i=1\/i=2)->(u=a\/u=b)->P u->wz B u<=wz B p+wz B a+wz B b->s=sel B c u i->Res B (2*(wz B p+wz B a+wz B b)+10) (wz B p+wz B a+wz B b) D (abc p a b) True (s,B):=λ {s u i} hi hu hPu hz e=>by
  refine jcV (jdA g (c:=c) hi (hP u hPu)) λ r1 w1 z1 U=>?_
  refine rwr e ?_
  exact ⟨Ext.refl _,g,r1,Jb5 _ _,Ja0 z1 hz,Ja0 w1 (Ja0 (h.one u hPu) hM),λ Bf N gf xf hN ks U=>jes g (Ext.refl _) (S:=abc p a b) hi (hP u hPu) (.inr hu) Bf N gf xf hN ks False.elim⟩
 unfold chs
 refine itg (λ e1=>?_) λ e1=>?_
 ·exact ⟨_,rfl,triv (.inl rfl) (.inl rfl) ha (Ja0 (Jc7 _ _) (Jb5 _ _)) rfl⟩
 by_cases e2:c=2
 ·refine rwr (if_pos e2) ?_; exact ⟨_,rfl,triv (.inr rfl) (.inr rfl) hb (Jc7 _ _) rfl⟩
 refine rwr (if_neg e2) ?_
 have cov:Cov B c (sel B c a 1) (sel B c b 2) D (wz B p+wz B a+wz B b):=λ B' xe g' x hx y hy o ho=>by
  rcases hy with e | e
  ·refine rwr e ?_
   obtain ⟨l,v⟩:=h.cov_sel hP g (.inl rfl) hp ha k h1 h2 xe g' hx ho
   exact ⟨l,v.x,v.y,v.lt,v.e,Ja0 v.z (Jb5 _ _)⟩
  ·refine rwr e ?_
   obtain ⟨l,v⟩:=h.cov_sel hP g (.inr rfl) hp hb k h1 h2 xe g' hx ho
   exact ⟨l,v.x,v.y,v.lt,v.e,Ja0 v.z (Jb4 (Jb5 _ _) _)⟩
 refine jam (jfK (n:=n) (H:=D) ⟨g,k.r,ra,rb,cov,hD,by refine rwr k.z ?_; exact Nat.add_le_add (Jb3 za _) zb,Ja0 (Jc7 _ _) h1,Jc4 _,Ja0 k.h (Ja0 (h.one p hp) hM),Ja0 wa (Ja0 (h.one a ha) hM),Ja0 wb (Ja0 (h.one b hb) hM),hn⟩) λ q e r=>?_
 refine ⟨q,e,r.x,r.g,r.r,r.l,r.z,r.h,λ Bf N gf xf hN ks kE=>r.her Bf N gf xf hN (λ t ht=>?_) λ U=>kE trivial⟩
 rcases ht with e | e | e
 ·refine rwr e ?_
  rcases k.or with e | n
  ·refine rwr e ?_; exact ks p (.inl rfl)
  ·exact ((n.symm.ext r.x).ext xf).her gf hN (ks p (.inl rfl))
 ·rw [e]; exact jes g r.x (S:=abc p a b) (.inl rfl) (hP a ha) (.inr (.inl rfl)) Bf N gf xf hN ks False.elim
 ·rw [e]; exact jes g r.x (S:=abc p a b) (.inr rfl) (hP b hb) (.inr (.inr rfl)) Bf N gf xf hN ks False.elim
theorem jnn {p a b t:Nat} (h:abc p b a t):abc p a b t:=by
 rcases h with e | e | e
 ·exact .inl e
 ·exact .inr (.inr e)
 ·exact .inr (.inl e)
theorem jno (a b c:Nat):a+c+b=a+b+c:=by rw [Nat.add_assoc,Nat.add_comm c b,<- Nat.add_assoc]
theorem jlL {n:Nat} (h:PW B P M1 M2 M3) (hP:∀ t,P t->t<B.length/\1<=t) (g:Gb B) {p a b:Nat} (hp:P p) (ha:P a) (hb:P b) (h1:M1+1<=D) (h2:M2<=D) (hD:D<=59) (hn:wz B p+wz B a+wz B b+6000<=n) :
  ∃ q,chO n B p a b=some q/\Res B (2*(wz B p+wz B a+wz B b)+10) (wz B p+wz B a+wz B b) D (abc p a b) True q:=by
 have k:=jgp g (hP p hp)
 unfold chO
 by_cases e:jad B p=.neg
 ·refine rwr (if_pos e) ?_
  have hs:=jno (wz B p) (wz B a) (wz B b)
  refine jam (jhT (n:=n) h hP g hp hb ha k h1 h2 hD (by refine rwr hs ?_; exact hn)) λ q e r=>?_
  rw [hs] at r
  replace r:=r
  exact ⟨q,e,r.x,r.g,r.r,r.l,r.z,r.h,λ Bf N gf xf hN ks kE=>r.her Bf N gf xf hN (λ t ht=>ks t (jnn ht)) kE⟩
 ·refine rwr (if_neg e) ?_
  have e2:jac B p=p:=by unfold jac; refine rwr (if_neg e) ?_; rfl
  rw [e2] at k
  exact jhT h hP g hp ha hb k h1 h2 hD hn
end
end
section
section
variable {B Bf:List Tm}
theorem ji2 (g:Gb B) (u:Nat) {c a i:Nat} (ha:a<B.length) (h:(i=1/\jae B u c=true)\/(i=2/\jae B u c=false)):jae B u (sel B c a i)=jae B u a:=by
 rcases jgY B c a i with e | ⟨h1,h2,_,h4⟩
 ·refine rwr e ?_
  rfl
 ·refine joX (jpt g h1) λ x y z e U=>?_
  rw [e] at h2 h4
  replace h2:=h2
  replace h4:=h4
  have h2:x=c:=h2
  refine rwr h4 ?_
  rw [jbj g.wf ha (by rw [h1]; exact λ e=>nomatch e),h1]
  refine rwr e ?_
  refine rwr h2 ?_
  show jae B u ([c,y,z].getD i 0)=if jae B u c then jae B u y else jae B u z
  rcases h with ⟨rfl,h⟩ | ⟨rfl,h⟩
  ·refine rwr h ?_; rfl
  ·refine rwr h ?_; rfl
theorem jnM {v:Bool} {x y a b:Bool} (h1:v=true->x=a) (h2:v=false->y=b):(if v=true then x else y)=if v=true then a else b:=by
 cases v
 ·exact h2 rfl
 ·exact h1 rfl
theorem jhU {n:Nat} (g:Gb B) (wn:Wn Bf) (u:Nat) {c a b:Nat} {q:Nat×List Tm} (hc:c<B.length/\1<=c) (ha:a<B.length/\1<=a) (hb:b<B.length/\1<=b) (h:chs n B c a b=some q) (x:Ext q.2 Bf) (xb:Ext B Bf) :
  jae Bf u q.1=if jae Bf u c then jae Bf u a else jae Bf u b:=by
 have up:∀ {t:Nat},t<B.length->jae Bf u t=jae B u t:=λ h=>jbo xb h u
 have ra:=(jdA g (c:=c) (i:=1) (.inl rfl) ha).1
 have rb:=(jdA g (c:=c) (i:=2) (.inr rfl) hb).1
 have main:jae Bf u q.1=if jae B u c then jae B u (sel B c a 1) else jae B u (sel B c b 2):=by
  unfold chs at h
  by_cases e1:c=1\/sel B c a 1=sel B c b 2
  ·rw [if_pos e1] at h
   have h:=Jb0 h
   refine rwl h ?_
   show jae Bf u (sel B c a 1)=_
   refine rwr (up ra.1) ?_
   rcases e1 with e | e
   ·refine rwr e ?_; refine rwr ((jkP g.wf u).1) ?_; rfl
   ·refine rwl e ?_; cases jae B u c <;> rfl
  ·rw [if_neg e1] at h
   by_cases e2:c=2
   ·rw [if_pos e2] at h
    have h:=Jb0 h
    refine rwl h ?_
    show jae Bf u (sel B c b 2)=_
    refine rwr (up rb.1) ?_; refine rwr e2 ?_; refine rwr ((jkP g.wf u).2) ?_; rfl
   ·rw [if_neg e2] at h
    refine rwr (jhS wn u g hc ra rb h x) ?_
    refine rwr (up hc.1) ?_
    refine rwr (up ra.1) ?_
    refine rwr (up rb.1) ?_
    rfl
 refine rwr main ?_
 refine rwr (up hc.1) ?_
 refine rwr (up ha.1) ?_
 refine rwr (up hb.1) ?_
 exact jnM (λ e=>ji2 g u ha.1 (.inl ⟨rfl,e⟩)) (λ e=>ji2 g u hb.1 (.inr ⟨rfl,e⟩))
theorem jlM {n:Nat} (g:Gb B) (wn:Wn Bf) (u:Nat) {p a b:Nat} {q:Nat×List Tm} (hp:p<B.length/\1<=p) (ha:a<B.length/\1<=a) (hb:b<B.length/\1<=b) (h:chO n B p a b=some q) (x:Ext q.2 Bf) (xb:Ext B Bf) :
  jae Bf u q.1=if jae Bf u p then jae Bf u a else jae Bf u b:=by
 unfold chO at h
 refine ith h (λ e h=>?_) λ e h=>?_
 ·refine rwr (jhU g wn u (jgp g hp).r hb ha h x xb) ?_
  rcases jeg g.wf p with ⟨h1,_⟩ | ⟨_,h2,_⟩
  ·exact absurd e h1
  ·refine rwr ((h2.ext xb).val wn.wf u) ?_
   cases jae Bf u (jac B p) <;> rfl
 ·exact jhU g wn u hp ha hb h x xb
theorem jqI (wf:Wf Bf) (u:Nat) {n:Nat} {x y z:Nat} {r:Nat×List Tm} (g:Gb B) (hx:x<B.length/\1<=x) (hy:y<B.length/\1<=y) (hz:z<B.length/\1<=z) (h:jaT n B .con [x,y,z]=some r) (e:Ext r.2 Bf):jae Bf u r.1=(jae Bf u x && jae Bf u y && jae Bf u z):=by
 have:=jdq wf u (.inl rfl) g (jcA hx hy hz) h e
 dsimp only [Hold,Ja3,Jb2,or_false,forall_eq_or_imp,forall_eq] at this
 cases h1:jae Bf u r.1 <;> cases h2:jae Bf u x <;> cases h3:jae Bf u y <;> cases h4:jae Bf u z <;> simp [h1,h2,h3,h4] at this ⊢
structure TW (B:List Tm) (p:Nat×Nat):Prop where
 lt:p.1<B.length
 ge:1<=p.1
 m:Msk p.2 λ u=>jae B u p.1
theorem TW.r {p:Nat×Nat} (h:TW B p):p.1<B.length/\1<=p.1:=⟨h.lt,h.ge⟩
theorem TW.ext {B':List Tm} {p:Nat×Nat} (h:TW B p) (x:Ext B B'):TW B' p:=⟨Ja1 h.lt x.len,h.ge,h.m.ext λ u U=>(jbo x h.lt u).symm⟩
theorem jlq (g:Gb B) {p:Nat×Nat} (h:TW B p):TW (jab B p.1).2 ((jab B p.1).1,65535 - p.2):=by
 refine jbq (jau g h.lt h.ge) λ g1 n1 l1=>?_
 exact ⟨l1,n1,(h.ext (jag B p.1)).m.not.ext λ u U=>((jav g.wf h.lt).val g1.wf u).symm⟩
theorem jkg {n way:Nat} {p q s:Nat×Nat} {res:(Nat×Nat)×List Tm} (g:Gb B) (hp:TW B p) (hq:TW B q) (hs:TW B s) (h:jct n B way p q s=some res) (x:Ext B res.2) (gr:Gb res.2):Msk res.1.2 λ u=>jae res.2 u res.1.1:=by
 have mp:=(hp.ext x).m
 have mq:=(hq.ext x).m
 have ms:=(hs.ext x).m
 unfold jct at h
 by_cases h0:way=0
 ·rw [if_pos h0] at h
  have h:=Jb0 h
  refine rwl h ?_; exact (jlq g hp).m
 rw [if_neg h0] at h
 replace h:=h
 by_cases h1:way=1
 ·rw [if_pos h1] at h
  replace h:=h
  refine jam (Jd4 h) λ z hz e=>?_
  rw [<- e] at mp mq ms gr ⊢
  exact ((mp.and mq).and ms).ext λ u U=>(jqI gr.wf u g hp.r hq.r hs.r hz (Ext.refl _)).symm
 rw [if_neg h1] at h
 by_cases h2:way=2
 ·rw [if_pos h2] at h
  refine jam (Jd4 h) λ z hz e=>?_
  rw [<- e] at mp mq gr ⊢
  exact (mp.or mq).ext λ u U=>(or2 gr.wf u g hp.r hq.r hz (Ext.refl _)).symm
 rw [if_neg h2] at h
 replace h:=h
 by_cases h3:way=3
 ·rw [if_pos h3] at h
  have h:=Jb0 h
  rw [<- h] at mp mq gr ⊢
  refine (mp.xor mq).not.ext λ u U=>?_
  refine rwr (show jae _ u _=_ from (jbn g.wf gr.wn hp.lt hq.lt (Ext.refl _)).val gr.wf u) ?_
  cases jae _ u p.1 <;> cases jae _ u q.1 <;> rfl
 rw [if_neg h3] at h
 replace h:=h
 by_cases h4:way=4
 ·rw [if_pos h4] at h
  refine jam (Jd4 h) λ z hz e=>?_
  rw [<- e] at mp mq gr ⊢
  refine (mp.xor mq).ext λ u U=>?_
  refine rwr (show jae _ u _=_ from jkw g gr.wf u (jjw hp.lt hq.lt) hz (Ext.refl _)) ?_
  simp [xv]
 rw [if_neg h4] at h
 refine jam (Jd4 h) λ z hz e=>?_
 rw [<- e] at mp mq ms gr x ⊢
 refine ((mp.and mq).or (mp.not.and ms)).ext λ u U=>?_
 refine rwr (show jae _ u _=_ from jlM g gr.wn u hp.r hq.r hs.r hz (Ext.refl _) x) ?_
 cases jae _ u p.1 <;> simp
noncomputable def N0 (_:Nat) (o:Op):Prop:=o≠.imp/\o≠.nil
theorem jkk:jju N0:=λ U o h=>by rcases h with h | h | h | h | h | h | h <;> refine rwr h ?_<;> exact ⟨(λ e=>nomatch e),λ e=>(Op.noConfusion e)⟩
noncomputable def inP (pool:List (Nat×Nat)) (t:Nat):Prop:=∃ m,(t,m)∈pool
structure PoolIs (B:List Tm) (pool:List (Nat×Nat)) (M1 M2 M3 Z:Nat):Prop where
 g:Gb B
 t:∀ p∈pool,TW B p
 w:PW B (inP pool) M1 M2 M3
 z:∀ p∈pool,wz B p.1<=Z
 n:∀ p∈pool,Her B N0 p.1
theorem PoolIs.r {pool:List (Nat×Nat)} {M1 M2 M3 Z:Nat} (k:PoolIs B pool M1 M2 M3 Z):∀ t,inP pool t->t<B.length/\1<=t:=λ t hh_1=>jbh hh_1 λ m h=>(k.t _ h).r
theorem PoolIs.ext {B':List Tm} {pool:List (Nat×Nat)} {M1 M2 M3 Z:Nat} (k:PoolIs B pool M1 M2 M3 Z) (x:Ext B B') (g:Gb B'):PoolIs B' pool M1 M2 M3 Z :=
 ⟨g,λ p hp=>(k.t p hp).ext x,k.w.ext x λ t ht=>(k.r t ht).1,λ p hp=>by refine rwr (jeP x (k.t p hp).lt) ?_; exact k.z p hp,λ p hp=>(k.n p hp).ext k.g.wf x (k.t p hp).lt⟩
theorem PoolIs.add {q:Nat×List Tm} {m:Nat} {S:Nat->Prop} {E:Prop} {G Z' D:Nat} {pool:List (Nat×Nat)} {M1 M2 M3 Z:Nat} (k:PoolIs B pool M1 M2 M3 Z) (r:Res B G Z' D S E q) (hm:Msk m λ u=>jae q.2 u q.1) (hS:∀ t,S t->inP pool t) (h1:M1<=D) (h2:M2<=D+M1) (h3:M3<=D+M2) (hz:Z<=Z'):PoolIs q.2 (pool++[(q.1,m)]) D (D+M1) (D+M2) Z':=by
 have k':=k.ext r.x r.g
 have one:∀ {Q:Nat×Nat->Prop},(∀ p∈pool,Q p)->Q (q.1,m)->∀ p∈pool++[(q.1,m)],Q p:=λ h1 h2 p hp=>by
  rcases Ja9.mp hp with hp | hp
  ·exact h1 p hp
  ·refine rwr (Ja2.mp hp) ?_; exact h2
 have pw:=k'.w.add r.h h1 h2 h3
 have hin:∀ t,inP (pool++[(q.1,m)]) t->inP pool t\/t=q.1:=λ t hh_2=>jbh hh_2 λ m' h=>by
  rcases Ja9.mp h with h | h
  ·exact .inl ⟨m',h⟩
  ·exact .inr (congrArg Prod.fst (Ja2.mp h))
 refine ⟨r.g,one k'.t ⟨r.r.1,r.r.2,hm⟩,⟨λ t ht=>pw.one t (hin t ht),λ t u ht hu=>pw.two t u (hin t ht) (hin u hu),λ t u v ht hu hv=>pw.tri t u v (hin t ht) (hin u hu) (hin v hv)⟩,one (λ p hp=>Ja0 (k'.z p hp) hz) r.z,one k'.n ?_⟩
 refine r.her q.2 N0 r.g (Ext.refl _) jkk (λ t ht=>?_) λ U=>⟨(λ e=>nomatch e),λ e=>(Op.noConfusion e)⟩
 refine jbh (hS t ht) λ m' h=>?_
 exact k'.n _ h
end
end
section
section
variable {B:List Tm} {pool:List (Nat×Nat)} {M1 M2 M3 Z D n:Nat}
theorem tri {a b c Z:Nat} (h1:a<=Z) (h2:b<=Z) (h3:c<=Z):a+b+c<=3*Z:=by lia
theorem duo {a b Z:Nat} (h1:a<=Z) (h2:b<=Z):a+b<=3*Z:=by lia
theorem le3 {a Z:Nat} (h:a<=Z):a<=3*Z:=by lia
theorem g1 {Z:Nat}:2<=6*Z+64:=Jc7 _ _
theorem g2 {Z:Nat}:2*(3*Z)+4<=6*Z+64:=by lia
theorem g3 {Z n:Nat} (h:24*Z+6000<=n):3*Z+6000<=n:=by lia
theorem g4 {a Z:Nat} (h:a<=3*Z):2*a+10<=6*Z+64:=by lia
theorem g5 {a Z n:Nat} (hz:a<=3*Z) (h:24*Z+6000<=n):a+6000<=n:=by lia
theorem g6 {a b p q Z n:Nat} (ha:a<=4*p) (hb:b<=4*q) (zp:p<=Z) (zq:q<=Z) (h:24*Z+6000<=n):a+(b+0)<n:=by lia
theorem Res.upZ {G G' Z Z' H:Nat} {S:Nat->Prop} {E:Prop} {q:Nat×List Tm} (h:Res B G Z H S E q) (hz:Z<=Z') (hG:G<=G'):Res B G' Z' H S E q:=⟨h.x,h.g,h.r,Ja0 h.l (Jb3 hG _),Ja0 h.z hz,h.h,h.her⟩
structure LapIs (B:List Tm) (pool:List (Nat×Nat)) (n way:Nat) (p q s:Nat×Nat) (D M1 M2 Z:Nat) (res:(Nat×Nat)×List Tm):Prop where
 e:jct n B way p q s=some res
 k:PoolIs res.2 (pool++[res.1]) D (D+M1) (D+M2) (3*Z)
 x:Ext B res.2
 l:res.2.length<=B.length+(6*Z+64)
theorem jcF {way:Nat} {p q s:Nat×Nat} {z:Nat×List Tm} {m G Z':Nat} {S:Nat->Prop} {E:Prop} (k:PoolIs B pool M1 M2 M3 Z) (hp:p∈pool) (hq:q∈pool) (hs:s∈pool) (h1:M1+1<=D) (h2:M2<=D) (h3:M3<=D)
  (e:jct n B way p q s=some ((z.1,m),z.2)) (r:Res B G Z' D S E z) (hS:∀ t,S t->inP pool t) (hz:Z'<=3*Z) (hG:G<=6*Z+64):∃ res,LapIs B pool n way p q s D M1 M2 Z res:=by
 refine ⟨_,e,?_,r.x,Ja0 r.l (Jb3 hG _)⟩
 exact k.add (r.upZ hz (Jc4 _)) (jkg k.g (k.t p hp) (k.t q hq) (k.t s hs) e r.x r.g:Msk m λ u=>jae z.2 u z.1) hS (Ja0 (Nat.le_succ _) h1) (Ja0 h2 (Jb5 _ _)) (Ja0 h3 (Jb5 _ _)) (by lia)
theorem jkf (k:PoolIs B pool M1 M2 M3 Z) (h1:M1+1<=D) (h2:M2<=D) (h3:M3<=D) (hD:D<=59) (hn:24*Z+6000<=n) {way:Nat} {p q s:Nat×Nat} (hp:p∈pool) (hq:q∈pool) (hs:s∈pool):∃ res,LapIs B pool n way p q s D M1 M2 Z res:=by
 have ip:inP pool p.1:=⟨p.2,hp⟩
 have iq:inP pool q.1:=⟨q.2,hq⟩
 have is:inP pool s.1:=⟨s.2,hs⟩
 have rp:=(k.t p hp).r
 have rq:=(k.t q hq).r
 have rs:=(k.t s hs).r
 have zp:=k.z p hp
 have zq:=k.z q hq
 have zs:=k.z s hs
 have hM:M1<=D:=Ja0 (Nat.le_succ _) h1
 have d1:1<=D:=Ja0 (Jc7 _ _) h1
 have wp':=Ja0 (k.w.one _ ip) hM
 have wq:=Ja0 (k.w.one _ iq) hM
 have p1:=Ja0 (jbp k.g.wf p.1) zp
 have lt:∀ t,inP pool t->t<B.length:=λ t ht=>(k.r t ht).1
 by_cases w0:way=0
 ·exact jcF k hp hq hs h1 h2 h3 (z:=jab B p.1) (by unfold jct; refine rwr (if_pos w0) ?_; rfl) (jmw k.g rp d1 wp') (λ t e=>by refine rwr e ?_; exact ip) (le3 zp) (Nat.le_of_succ_le g1)
 by_cases w1:way=1
 ·obtain ⟨l,c⟩:=k.w.cov3 lt ip iq is hM h2 h3
  have he:=Ja0 (jgF (jdD k.g .con) l) c.e
  obtain ⟨z,e,r⟩:=jdp (n:=n) (o:=.con) (.inl rfl) k.g (jcA rp rq rs) (by show 3<=3; decide) c.m c.lt (Ja0 he hD) he d1 (jcA wp' wq (Ja0 (k.w.one _ is) hM)) (Ja0 c.z (tri zp zq zs)) (le3 p1) (g3 hn)
  exact jcF k hp hq hs h1 h2 h3 (by unfold jct; refine rwr (if_neg w0) ?_; refine rwr (if_pos w1) ?_; refine rwr e ?_; rfl) r (jcA ip iq is) (Jc4 _) g2
 by_cases w2:way=2
 ·obtain ⟨l,c⟩:=k.w.cov2 lt ip iq hM h2
  have he:=Ja0 (jgF (jdD k.g .dis) l) c.e
  refine jam (jdp (n:=n) (o:=.dis) (.inr rfl) k.g (jjw rp rq) (by show 2<=3; decide) c.m c.lt (Ja0 he hD) he d1 (jjw wp' wq) (Ja0 c.z (duo zp zq)) (le3 p1) (g3 hn)) λ z e r=>?_
  exact jcF k hp hq hs h1 h2 h3 (by unfold jct; refine rwr (if_neg w0) ?_; refine rwr (if_neg w1) ?_; refine rwr (if_pos w2) ?_; refine rwr e ?_; rfl) r (jjw ip iq) (Jc4 _) g2
 by_cases w3:way=3
 ·exact jcF k hp hq hs h1 h2 h3 (z:=jaG B p.1 q.1) (by unfold jct; refine rwr (if_neg w0) ?_; refine rwr (if_neg w1) ?_; refine rwr (if_neg w2) ?_; refine rwr (if_pos w3) ?_; rfl) (jeH k.g rp rq d1 wp' wq) (λ t e=>by rcases e with e | e <;> refine rwr e ?_; exact ip; exact iq) (duo zp zq) g1
 by_cases w4:way=4
 ·obtain ⟨l,c⟩:=k.w.cov2 lt ip iq hM h2
  have he:=Ja0 (jgF (jp5 k.g) l) c.e
  refine jam (jkv (n:=n) k.g (jjw rp rq) c.m c.lt (Ja0 he hD) he d1 (jjw wp' wq) (Ja0 c.z (duo zp zq)) (le3 p1) (g6 (jm2 p.1) (jm2 q.1) zp zq hn)) λ z e r=>?_
  exact jcF k hp hq hs h1 h2 h3 (by unfold jct; refine rwr (if_neg w0) ?_; refine rwr (if_neg w1) ?_; refine rwr (if_neg w2) ?_; refine rwr (if_neg w3) ?_; refine rwr (if_pos w4) ?_; refine rwr e ?_; rfl) r (jjw ip iq) (Jc4 _) (Jc7 _ _)
 ·have hz:=tri zp zq zs
  refine jam (jlL (n:=n) k.w k.r k.g ip iq is h1 h2 hD (g5 hz hn)) λ z e r=>?_
  exact jcF k hp hq hs h1 h2 h3 (by unfold jct; refine rwr (if_neg w0) ?_; refine rwr (if_neg w1) ?_; refine rwr (if_neg w2) ?_; refine rwr (if_neg w3) ?_; refine rwr (if_neg w4) ?_; refine rwr e ?_; rfl) r (λ t e=>by rcases e with e | e | e <;> refine rwr e ?_; exact ip; exact iq; exact is) hz (g4 hz)
end
noncomputable def mm:Nat->Nat×Nat×Nat
 | 0=>(0,0,0)
 | k+1=>let D:=max (mm k).2.2 ((mm k).1+1); (D,D+(mm k).1,D+(mm k).2.1)
theorem jpE:∀ k,k<7->(mm k).2.1<=(mm (k+1)).1/\(mm k).2.2<=(mm (k+1)).1/\(mm k).1+1<=(mm (k+1)).1/\(mm (k+1)).1<=37/\24*3 ^ k+6000<=100000/\6*3 ^ k+64<=5000:=by decide
end
section
section
variable {B:List Tm}
noncomputable def cols:List (Nat×Nat):=[(3,43690),(4,52428),(5,61680),(6,65280)]
theorem jgo:∀ t,t<7->3<=t->(cols.lookup t).isSome=true:=by decide
theorem jeZ {B:List Tm} (w:Wf B) (x:Ext (jcO 4) B):jnj B cols:=by
 have one:∀ p∈cols,p.1<(jcO 4).length/\p.2<=65535/\∀ u,u<16->p.2.testBit u=jae (jcO 4) u p.1:=by decide
 intro p hp
 refine jbq (one p hp) λ h1 h2 h3=>?_
 exact ⟨h2,λ u hu=>by rw [jbo x h1]; exact h3 u hu⟩
structure RdT (B:List Tm) (t:Nat):Prop where
 lt:t<B.length
 n0:N0 t (jad B t)
theorem jlh (g:Gb B) {t:Nat} (h:RdT B t):1<=t:=by
 cases t with
 | succ n=>exact Jc1 (Nat.zero_le n)
 | zero=>exact absurd (jan g.z0) h.n0.2
theorem jgi (g:Gb B) {t:Nat} (h:jad B t=.app):3<=t/\t<7:=by
 have:=jgJ g (.inl h:Lit B t)
 unfold jac at this
 rw [if_neg (by refine rwr h ?_; exact λ e=>nomatch e)] at this
 exact this
theorem jhC (g:Gb B):∀ (l:List Nat) (H:List (Nat×Nat)),jnj B H->(∀ t,t<7->3<=t->(H.lookup t).isSome=true)->(∀ t∈l,RdT B t)->(∀ (i t:Nat),l[i]? = some t->∀ s∈jaa B t,(H.lookup s).isSome\/∃ j:Nat,j<i/\l[j]? = some s)->jby B H l:=by
 intro l
 induction l with
 | nil =>
  intro _ _ _ _ _
  exact trivial
 | cons t r ih =>
  intro H hH hc hl hb
  have ht:=hl t (.head _)
  have harg:∀ s∈jaa B t,(H.lookup s).isSome:=λ s hs=>by
   rcases hb 0 t rfl s hs with h | ⟨j,hj,_⟩
   ·exact h
   ·exact absurd hj (Nat.not_lt_zero _)
  have hg:=List.getElem?_eq_getElem ht.lt
  have har:=g.ar t _ hg
  rw [<- jan hg,<- jai hg] at har
  have next:∀ H':List (Nat×Nat),(∀ s,(H.lookup s).isSome->(H'.lookup s).isSome)->(H'.lookup t).isSome->jnj B H'->jby B H' r:=λ H' up hs hH'=>by
   refine ih H' hH' (λ z h1 h2=>up z (hc z h1 h2)) (λ z hz=>hl z (.tail _ hz)) λ i z hz s hs'=>?_
   rcases hb (i+1) z hz s hs' with h | ⟨j,hj,h⟩
   ·exact .inl (up s h)
   ·cases j with
    | zero=>rw [List.getElem?_cons_zero] at h; replace h:=h; refine rwl (Jb0 h) ?_; exact .inl hs
    | succ j=>exact .inr ⟨j,Nat.lt_of_succ_lt_succ hj,h⟩
  unfold jby
  refine ⟨ht.lt,harg,λ m hm=>?_,?_⟩
  ·refine jam (Jb8 hm) λ s hs e=>?_
   obtain ⟨v,hv⟩:=Option.isSome_iff_exists.mp (harg s hs)
   rw [hv] at e
   have e:v=m:=e
   refine rwl e ?_; exact (hH _ (jbY hv)).le
  ·refine itg (λ hs=>?_) λ hs=>?_
   ·exact next H (λ U h=>h) hs hH
   ·have hap:jad B t≠.app:=λ e=>hs (hc t (jgi g e).2 (jgi g e).1)
    have hn:=Option.not_isSome_iff_eq_none.mp hs
    have hr:=(jgV g.wf g.ar [t] H hH (λ z hz=>by
     refine rwr (Ja2.mp hz) ?_; exact ⟨ht.lt,jlh g ht,ht.n0.2,ht.n0.1,λ e=>absurd e hap⟩) λ i z hz s hs'=>by
     have hz:z=t:=by
      cases i with
      | zero=>exact (Jb0 hz).symm
      | succ i=>cases hz
     rw [hz] at hs'; exact .inl (harg s hs')).1
    dsimp only [jbJ] at hr
    rw [if_neg hs] at hr
    replace hr:=hr
    refine ⟨hap,har,ht.n0.1,ht.n0.2,next _ (λ s h=>?_) (by refine rwr List.lookup_append ?_; refine rwr hn ?_; simp) hr⟩
    obtain ⟨v,hv⟩:=Option.isSome_iff_exists.mp h
    refine rwr (jbX _ hv) ?_; rfl
structure PartsIs (B:List Tm) (roots l:List Nat):Prop where
 af:AF B l
 nd:l.Nodup
 sub:∀ u∈l,∃ r∈roots,Sub B r u
 mem:∀ r∈roots,r∈l
 lt:∀ u∈l,u<B.length
 len:l.length<=B.length
theorem Sub.le (w:Wf B) {t u:Nat} (h:Sub B t u):u<=t:=by
 induction h with
 | refl=>exact Jc4 _
 | arg hs _ ih=>exact Ja0 ih (Jb6 (jaL w hs))
theorem jkn {l:List Nat} {n:Nat} (h:l.Nodup) (k:∀ x∈l,x<n):l.length<=n:=by
 have h1:(l.map λ x:Nat=>(x:Int)).Nodup:=by
  rw [List.nodup_iff_pairwise_ne] at h ⊢
  rw [List.pairwise_map]
  exact h.imp λ hxy e=>hxy (Int.ofNat.inj e)
 have:=jdw n h1 λ z hz=>by
  refine jam (Jb8 hz) λ x hx e_1=>?_
  subst e_1
  exact ja2 x rfl (k x hx)
 rw [Jc6] at this
 exact this
theorem jfZ (g:Gb B) {n:Nat}:∀ (rs f:List Nat),(∀ r∈rs,8*wz B r<n)->∃ fin,jbb n B f rs=some fin:=by
 intro rs
 induction rs with
 | nil =>
  intro f _
  exact ⟨f,rfl⟩
 | cons r rs ih =>
  intro f h
  have h1:=h r (.head _)
  obtain ⟨f',e⟩:=jb0 (ji9 g) n f [(r,false)] (by
   show 2*sz B r+1<=n
   have:=jm2 (B:=B) r
   lia)
  obtain ⟨fin,e2⟩:=ih f' λ z hz=>h z (.tail _ hz)
  exact ⟨fin,by unfold jbb; refine rwr e ?_; exact e2⟩
theorem jeE (g:Gb B) {n:Nat} {roots:List Nat} (hr:∀ r∈roots,r<B.length) (h:∀ r∈roots,8*wz B r<n):∃ l,jbb n B [] roots=some l/\PartsIs B roots l:=by
 refine jbh (jfZ g roots [] h) λ l e=>?_
 refine jg4 (jiM (S:=λ u=>∃ r∈roots,Sub B r u) (λ t hh_1 s hs=>jam hh_1 λ r hr ht=>⟨r,hr,ht.trans (.arg hs .refl)⟩) n roots [] l e AF.nil .nil (λ U h=>nomatch h) λ r hr=>⟨r,hr,.refl⟩) λ a1 a2 a3 U a5=>?_
 have lt:∀ u∈l,u<B.length:=λ u hu=>by
  refine jam (a3 u hu) λ r hr' hs=>?_
  exact Jb1 (hs.le g.wf) (hr r hr')
 exact ⟨l,e,a1,a2,a3,a5,lt,jkn a2 lt⟩
theorem jmR (g:Gb B) (x:Ext (jcO 4) B) {n t m:Nat} (ht:t<B.length) (hz:8*wz B t<n) (hN:Her B N0 t) (hm:Msk m λ u=>jae B u t) (hb:B.length<=900000) :
  ∃ parts,jbb n B [] [t]=some parts/\cols.length+parts.length<=1000000/\jby B cols parts/\(jbJ B cols parts).lookup t=some m:=by
 refine jam (jeE g (jms ht) (jms hz)) λ l e p=>?_
 have hd:=jeZ g.wf x
 have hr:∀ u∈l,RdT B u:=λ u hu=>by
  refine jam (p.sub u hu) λ r hr hs=>?_
  rw [Ja2.mp hr] at hs
  exact ⟨p.lt u hu,hN u hs⟩
 have af:∀ (i t:Nat),l[i]? = some t->∀ s∈jaa B t,(cols.lookup s).isSome\/∃ j:Nat,j<i/\l[j]? = some s:=λ i t h s hs=>.inr (p.af i t h s hs)
 refine jbq (jgV g.wf g.ar l cols hd (λ t ht=>⟨(hr t ht).lt,jlh g (hr t ht),(hr t ht).n0.2,(hr t ht).n0.1,λ e=>jgo t (jgi g e).2 (jgi g e).1⟩) af) λ b1 b2 b3=>?_
 refine joH l e ?_ (jhC g l cols hd jgo hr af) ?_
 ·have:=p.len
  show 4+_<=_; lia
 ·obtain ⟨v,hv⟩:=Option.isSome_iff_exists.mp (b3 t (p.mem t (.head _)))
  refine rwr hv ?_; exact congrArg some ((b1 _ (jbY hv)).uniq hm)
end
end
section
noncomputable def Br (B:List Tm) (P:Nat->Prop) (c t:Nat):Prop:=(t=1\/t=2)\/(t=c\/Neg B c t)\/∃ p,P p/\(t=p\/Neg B p t)
theorem Br.ext {B B':List Tm} (x:Ext B B') {P:Nat->Prop} {c t:Nat} (h:Br B P c t):Br B' P c t:=by
 rcases h with h | h | ⟨p,hp,h⟩
 ·exact .inl h
 ·exact .inr (.inl (h.imp_right λ n=>n.ext x))
 ·exact .inr (.inr ⟨p,hp,h.imp_right λ n=>n.ext x⟩)
theorem CondOf.ext {B B':List Tm} {p c:Nat} (k:CondOf B p c) (g':Gb B') (x:Ext B B') (hp:p<B.length):CondOf B' p c :=
 ⟨by refine rwr (x.op k.r.1) ?_; exact k.nn,by refine rwr (jd6 x k.r.1) ?_; refine rwr (jd6 x hp) ?_; exact k.h,by refine rwr (jeP x k.r.1) ?_; refine rwr (jeP x hp) ?_; exact k.z,k.or.imp_right λ n=>n.ext x,⟨Ja1 k.r.1 x.len,k.r.2⟩⟩
structure Rnd (B:List Tm) (pool:List (Nat×Nat)) (p:Nat) (q a b:Nat×Nat):Prop where
 k:PoolIs B pool 37 57 68 2187
 ip:inP pool p
 c:CondOf B p q.1
 c1:q.1≠1
 c2:q.1≠2
 tq:TW B q
 ta:TW B a
 tb:TW B b
 ba:Br B (inP pool) q.1 a.1
 bb:Br B (inP pool) q.1 b.1
 x:Ext (jcO 4) B
theorem Rnd.ext {B B':List Tm} {pool:List (Nat×Nat)} {p:Nat} {q a b:Nat×Nat} (r:Rnd B pool p q a b) (x:Ext B B') (g':Gb B'):Rnd B' pool p q a b :=
 ⟨r.k.ext x g',r.ip,r.c.ext g' x (r.k.r p r.ip).1,r.c1,r.c2,r.tq.ext x,r.ta.ext x,r.tb.ext x,r.ba.ext x,r.bb.ext x,r.x.trans x⟩
section
variable {B:List Tm} {pool:List (Nat×Nat)} {p:Nat} {q a b:Nat×Nat}
structure Lw (B:List Tm) (t:Nat):Prop where
 h:wh B t<=37
 z:wz B t<=2187
 n:Her B N0 t
theorem Lw.neg (g:Gb B) {x y:Nat} (h:Lw B x) (n:Neg B x y):Lw B y:=⟨Ja0 (n.wh g).1 (Nat.max_le.mpr ⟨by decide,h.h⟩),by refine rwr (n.wz g) ?_; exact h.z,n.her g jkk h.n⟩
theorem jnW (g:Gb B) {t:Nat} (h:t=1\/t=2):Lw B t:=⟨by refine rwr (jcc g h) ?_; decide,by refine rwr (jcd g h) ?_; decide,jbw g jkk h⟩
theorem Rnd.lp (r:Rnd B pool p q a b) {t:Nat} (h:inP pool t):Lw B t:=⟨r.k.w.one t h,(λ ⟨m,hm⟩=>r.k.z _ hm:inP pool t->_) h,(λ ⟨m,hm⟩=>r.k.n _ hm:inP pool t->_) h⟩
theorem Rnd.lc (r:Rnd B pool p q a b):Lw B q.1:=by
 rcases r.c.or with e | n
 ·refine rwr e ?_; exact r.lp r.ip
 ·exact (r.lp r.ip).neg r.k.g n.symm
theorem Rnd.lb (r:Rnd B pool p q a b) {t:Nat} (h:Br B (inP pool) q.1 t):Lw B t:=by
 rcases h with h | h | ⟨p',hp,h⟩
 ·exact jnW r.k.g h
 ·rcases h with e | n
  ·rw [e]; exact r.lc
  ·exact r.lc.neg r.k.g n
 ·rcases h with e | n
  ·rw [e]; exact r.lp hp
  ·exact (r.lp hp).neg r.k.g n
theorem Rnd.cov (r:Rnd B pool p q a b) {x y:Nat} {o:Op} (ho:o=.con\/o=.dis) (hx:x=q.1\/Neg B q.1 x) (hy:Br B (inP pool) q.1 y) (ly:y<B.length):∃ l,Cov1 B o x y 59 (wz B q.1+wz B y) l:=by
 have g:=r.k.g
 have ec:we B o q.1<=37:=Ja0 (jdD g o _) r.lc.h
 have nn:=r.c.nn
 have lx:x<B.length:=by
  refine Jc8 hx (λ e=>?_) λ n=>?_
  ·refine rwr e ?_; exact r.tq.lt
  ·exact n.lt g.wf
 have zx:wz B x=wz B q.1:=by
  rcases hx with e | n
  ·refine rwr e ?_
   rfl
  ·exact n.wz g
 have hz:wz B x+wz B y<=wz B q.1+wz B y:=by refine rwr zx ?_; exact Jc4 _
 have ex:we B o x<=37/\(we B o x<=1\/x=q.1):=by
  refine Jc8 hx (λ e=>?_) λ n=>?_
  ·refine rwr e ?_; exact ⟨ec,.inr rfl⟩
  ·have:=(n.we g ho).2 nn; exact ⟨Ja0 this (by decide),.inl this⟩
 have own:y=q.1\/Neg B q.1 y->∃ l,Cov1 B o x y 59 (wz B q.1+wz B y) l:=λ hy=>by
  have hz1:wz B x<=wz B q.1+wz B y:=by refine rwr zx ?_; exact Jb5 _ _
  rcases hx with e | n
  ·rcases hy with e' | m
   ·exact jel lx (e'.trans e.symm) (Ja0 ex.1 (by decide)) hz1
   ·exact jbN lx ly ex.1 ((m.we g ho).2 nn) (by decide) hz
  ·rcases hy with e' | m
   ·exact jbN lx ly ((n.we g ho).2 nn) (by refine rwr e' ?_; exact ec) (by decide) hz
   ·exact jel lx (m.fun g.wn n) (Ja0 ex.1 (by decide)) hz1
 rcases hy with h | h | ⟨p',hp,h⟩
 ·exact jbN lx ly ex.1 (Ja0 (jdD g o _) (Jb7 (jcc g h))) (by decide) hz
 ·exact own h
 ·by_cases e:p'=p
  ·refine own ?_
   rw [e] at h
   rcases r.c.or with ec' | n
   ·refine rwr ec' ?_; exact h
   ·rcases h with e' | m
    ·exact .inr (by refine rwr e' ?_; exact n)
    ·exact .inl (m.fun g.wn n.symm)
  ·have ey:we B o y<=wh B p' + 1:=by
    rcases h with e' | n
    ·refine rwr e' ?_; exact Ja0 (jdD g o _) (Nat.le_succ _)
    ·exact Ja0 (n.we g ho).1 (Nat.max_le.mpr ⟨Jc7 _ _,Nat.le_succ _⟩)
   have exp:we B o x<=wh B p+1:=by
    rcases ex.2 with h | h
    ·exact Ja0 h (Jc7 _ _)
    ·refine rwr h ?_; exact Ja0 (jdD g o _) (Ja0 r.c.h (Nat.le_succ _))
   have:=r.k.w.two p p' r.ip hp λ e'=>e e'.symm
   exact jbN lx ly exp ey (by lia) hz
theorem Rnd.chok (r:Rnd B pool p q a b):ChOk 100000 B q.1 a.1 b.1 59 (wz B q.1+wz B a.1+wz B b.1) 59 where
 g:=r.k.g
 kc:=r.tq.r
 ka:=r.ta.r
 kb:=r.tb.r
 cov:=λ B' xe g' x hx y hy o ho=>by
  have r':=r.ext xe g'
  rcases hy with e | e
  ·refine jbh (r'.cov ho hx r'.ba r'.ta.lt) λ l v=>?_
   refine rwr e ?_; exact ⟨l,v.x,v.y,v.lt,v.e,Ja0 v.z (by refine rwr (jeP xe r.tq.lt) ?_; refine rwr (jeP xe r.ta.lt) ?_; exact (Jb5 _ _))⟩
  ·refine jbh (r'.cov ho hx r'.bb r'.tb.lt) λ l v=>?_
   refine rwr e ?_; exact ⟨l,v.x,v.y,v.lt,v.e,Ja0 v.z (by refine rwr (jeP xe r.tq.lt) ?_; refine rwr (jeP xe r.tb.lt) ?_; exact (Jb4 (Jb5 _ _) _))⟩
 d59:=Jc4 _
 zz:=Jc4 _
 h1:=by decide
 DH:=Jc4 _
 hc:=Ja0 r.lc.h (by decide)
 ha:=Ja0 (r.lb r.ba).h (by decide)
 hb:=Ja0 (r.lb r.bb).h (by decide)
 fu:=by have h1:=r.lc.z; have h2:=(r.lb r.ba).z; have h3:=(r.lb r.bb).z; lia
theorem Rnd.zle (r:Rnd B pool p q a b):wz B q.1+wz B a.1+wz B b.1<=6561:=by have h1:=r.lc.z; have h2:=(r.lb r.ba).z; have h3:=(r.lb r.bb).z; lia
theorem jq6 {B z n:Nat} (h:n<=B+(2*z+10)) (hz:z<=6561) (hb:B<=800000):n<=820000:=by lia
theorem jn4 {w z:Nat} (h:w<=z) (hz:z<=6561):8*w<100000:=by lia
theorem Rnd.made (r:Rnd B pool p q a b) (hb:B.length<=800000):∃ told B1,RightA 100000 B cols q a b told B1/\B1.length<=B.length+14000:=by
 refine jam (jfK r.chok) λ n_3 e s=>?_
 obtain ⟨told,B1⟩:=n_3
 have g1:=s.g
 have x1:=s.x
 have hz:=r.zle
 have hl:=jq6 s.l hz hb
 have mq:=(r.tq.ext x1).m
 have hm:Msk ((q.2 &&& a.2) ||| ((65535 - q.2) &&& b.2)) λ u=>jae B1 u told:=((mq.and ((r.ta.ext x1).m)).or (mq.not.and ((r.tb.ext x1).m))).ext λ u U=>by
  show ((jae B1 u q.1 && jae B1 u a.1) || ((!jae B1 u q.1) && jae B1 u b.1))=jae B1 u told
  refine rwr ((λ u=>jhS g1.wn u r.k.g r.tq.r r.ta.r r.tb.r e (Ext.refl _)) u) ?_; cases jae B1 u q.1 <;> simp
 have r1:=r.ext x1 g1
 have hN:Her B1 N0 told:=s.her B1 N0 g1 (Ext.refl _) jkk (λ t ht=>by
  rcases ht with e | e | e
  ·refine rwr e ?_; exact r1.lc.n
  ·refine rwr e ?_; exact (r1.lb r1.ba).n
  ·refine rwr e ?_; exact (r1.lb r1.bb).n) λ U=>⟨(λ e=>nomatch e),λ e=>(Op.noConfusion e)⟩
 refine jjy told B1 ⟨r.k.g,g1,r.tq.r,r.ta.r,r.tb.r,r.tq.m.le,x1,Jc4 _,Ja0 hl (by decide),e,s.r,jei g1 r.k.g r.tq.r r.ta.r r.tb.r e (Ext.refl _),?_⟩ (Ja0 s.l (by lia))
 exact jmR g1 r1.x s.r.1 (jn4 s.z hz) hN hm (Ja0 hl (by decide))
end
end
section
section
variable {B:List Tm}
theorem jjS (g:Gb B) {o:Op} (ho:o=.con\/o=.dis) {x y:Nat} (hx:x<B.length/\1<=x) (x1:x≠1) (x2:x≠2) (hop:jad B x≠o) (hy:(y=1\/y=2)\/y=x\/Neg B x y) (n:Nat) :
  ∃ B3,Ext B B3/\(jat (n+3) B o [] [x,y]=some (none,B3)\/jat (n+3) B o [] [x,y]=some (some [x],B3)):=by
 have hu:x≠ja7 o:=by unfold ja7; split <;> assumption
 have hs:x≠jaU o:=by unfold jaU; split <;> assumption
 have xa:=jag B x
 refine jbq (jau g hx.1 hx.2) λ g1 U U=>?_
 have hng:=jav g.wf hx.1
 have hx1:=Ja1 hx.1 xa.len
 have e1:jat (n+3) B o [] [x,y]=jat (n+2) (jab B x).2 o [x] [y]:=by
  show (if x=ja7 o then _ else _)=_
  refine rwr (if_neg hu) ?_
  refine rwr (if_neg hs) ?_
  refine rwr (if_neg (λ h=>nomatch h)) ?_
  refine rwr (if_neg (by refine rwr (xa.op hx.1) ?_; exact hop)) ?_
  rfl
 refine rwr e1 ?_
 have stop:∀ Q,jat (n+1) Q o [x] []=some (some [x],Q):=λ U=>rfl
 by_cases h1:y=ja7 o
 ·exact ⟨_,xa,.inr (by show (if y=ja7 o then _ else _)=_; refine rwr (if_pos h1) ?_; exact stop _)⟩
 by_cases h2:y=jaU o
 ·exact ja2 _ xa (.inl (by show (if y=ja7 o then _ else _)=_; refine rwr (if_neg h1) ?_; refine rwr (if_pos h2) ?_; rfl))
 have h12:=jgN ho h1 h2
 rcases hy with h | e | nn
 ·rcases h with h | h
  ·exact absurd h h12.1
  ·exact absurd h h12.2
 ·have n1:=jaB g1.wf g1.nd hx1 hng
  refine ⟨_,xa,.inr ?_⟩
  show (if y=ja7 o then _ else _)=_
  refine rwr (if_neg h1) ?_
  refine rwr (if_neg h2) ?_
  refine rwr e ?_
  refine rwr n1 ?_
  dsimp only
  refine rwr (if_neg (λ h=>by have h:=Ja2.mp h; rw [h] at hng; exact Neg.irrefl g1.wf hng)) ?_
  refine rwr (if_neg (by refine rwr (xa.op hx.1) ?_; exact hop)) ?_
  refine rwr (show ins x [x]=[x] from if_pos (.head _)) ?_
  exact stop _
 ·have n1:=jaB g1.wf g1.nd ((nn.ext xa).lt g1.wf) (nn.ext xa).symm
  refine ⟨_,xa,.inl ?_⟩
  show (if y=ja7 o then _ else _)=_
  refine rwr (if_neg h1) ?_
  refine rwr (if_neg h2) ?_
  refine rwr n1 ?_
  dsimp only
  refine rwr (if_pos (.head _)) ?_
  rfl
theorem jgr (g:Gb B) {o:Op} (ho:o=.con\/o=.dis) {x y n:Nat} {q:Nat×List Tm} (hx:x<B.length/\1<=x) (x1:x≠1) (x2:x≠2) (hc:jad B x≠.con) (hd:jad B x≠.dis) (hy:(y=1\/y=2)\/y=x\/Neg B x y) (h:jaT (n+3) B o [x,y]=some q):q.1=x\/q.1=1\/q.1=2:=by
 have hop:jad B x≠o:=by rcases ho with e | e <;> refine rwr e ?_<;> assumption
 have hdu:jad B x≠jaC o:=by rcases jaw o with e | e <;> refine rwr e ?_<;> assumption
 refine jam (jjS g ho hx x1 x2 hop hy n) λ B3 x3 e=>?_
 unfold jaT at h
 rcases e with e | e
 ·rw [e] at h
  replace h:=h
  have h:=Jb0 (h:some (jaU o,B3)=some q)
  refine rwl h ?_
  rcases ho with rfl | rfl
  ·exact .inr (.inr rfl)
  ·exact .inr (.inl rfl)
 ·rw [e] at h
  replace h:=h
  have ht:jal B3 (jaC o) [x] [x]=([x],B3):=by
   show (if jad B3 x≠jaC o then _ else _)=_
   refine rwr (if_pos (by refine rwr (x3.op hx.1) ?_; exact hdu)) ?_; rfl
  have hj:ja0 (n+3) B3 o (some [x])=some (jaA B3 o [x]):=by
   show (if 63 < [x].length then none else if (jal B3 (jaC o) [x] [x]).1=[x] then some (jaA (jal B3 (jaC o) [x] [x]).2 o (jal B3 (jaC o) [x] [x]).1) else _)=_
   refine rwr (if_neg (show ¬ 63 < [x].length by show ¬ 63<1; decide)) ?_
   refine rwr ht ?_
   refine rwr (if_pos rfl) ?_
   rfl
  refine rwl (Jb0 (hj.symm.trans h)) ?_
  rcases ho with rfl | rfl
  ·exact .inl rfl
  ·exact .inl rfl
variable {pool:List (Nat×Nat)} {p:Nat} {q a b:Nat×Nat}
structure Told (B:List Tm) (pool:List (Nat×Nat)) (p:Nat) (q a b:Nat×Nat) (told nc:Nat):Prop where
 r:Rnd B pool p q a b
 h:chB 100000 B q.1 a.1 b.1=some (told,B)
 n:jab B q.1=(nc,B)
 l:B.length<=900000
theorem Told.neg {told nc:Nat} (t:Told B pool p q a b told nc):Neg B q.1 nc:=by
 have:=jav t.r.k.g.wf t.r.tq.lt
 rw [t.n] at this; exact this
theorem Told.nonew {told nc:Nat} (t:Told B pool p q a b told nc) (h:¬ noEnd B q.1 a.1 b.1):NoNew 100000 B q.1 a.1 b.1 told:=by
 have r:=t.r
 have g:=r.k.g
 refine jam (jfK r.chok) λ q' e s=>?_
 have e:=Jb0 (t.h.symm.trans e)
 rw [<- e] at s
 replace s:=s
 refine jam (jeE g (n:=100000) (jcA r.tq.lt r.ta.lt r.tb.lt) (jcA (jn4 r.lc.z (by decide)) (jn4 (r.lb r.ba).z (by decide)) (jn4 (r.lb r.bb).z (by decide)))) λ old o1 o2=>?_
 refine jam (jeE g (n:=100000) (jms s.r.1) (jms (jn4 s.z r.zle))) λ pt p1 p2=>?_
 have hl:=t.l
 have cl:∀ x,x∈old->Her B (λ u o=>o=.ite->u∈old) x:=λ x hx u hu=>by
  intro _
  have key:∀ {y u:Nat},Sub B y u->y∈old->u∈old:=λ hs=>by
   induction hs with
   | refl=>exact id
   | arg ha _ ih=>exact λ hy=>ih (o2.af.closed hy ha)
  exact key hu hx
 have hN:jju (λ u o=>o=.ite->u∈old):=λ u o ho e=>by
  rw [e] at ho
  rcases ho with h | h | h | h | h | h | h <;> exact absurd h (by decide)
 have ht:=s.her B _ g (Ext.refl _) hN (λ t ht=>by
  rcases ht with e | e | e
  ·exact cl t (o2.mem t (by refine rwr e ?_; exact .head _))
  ·exact cl t (o2.mem t (by rw [e]; exact .tail _ (.head _)))
  ·exact cl t (o2.mem t (by rw [e]; exact .tail _ (.tail _ (.head _))))) λ hE=>absurd hE h
 refine ⟨old,pt,o1,p1,p2.lt,Ja0 o2.len (Ja0 hl (by decide)),Ja0 p2.len (Ja0 hl (by decide)),λ u hu e=>?_⟩
 refine jam (p2.sub u hu) λ x hx hs=>?_
 rw [Ja2.mp hx] at hs
 exact ht u hs e
theorem Told.ends {told nc:Nat} (t:Told B pool p q a b told nc) (ha:a.1∈[1,2,q.1,nc]) (hb:b.1∈[1,2,q.1,nc]) (hc:jad B q.1≠.con) (hd:jad B q.1≠.dis):told∈[1,2,q.1,nc]:=by
 have r:=t.r
 have g:=r.k.g
 have hn:=t.neg
 have h:=t.h
 have inE:∀ {x:Nat},x=1\/x=2\/x=q.1\/x=nc->x∈[1,2,q.1,nc]:=λ h=>by
  rcases h with e | e | e | e <;> refine rwr e ?_<;> simp
 have outE:∀ {x:Nat},x∈[1,2,q.1,nc]->x=1\/x=2\/x=q.1\/x=nc:=λ h=>by simpa using h
 have nr:nc<B.length/\1<=nc:=by
  refine jbq (jau g r.tq.lt r.tq.ge) λ U a b=>?_
  rw [t.n] at a b; exact ⟨b,a⟩
 have nop:jad B nc=.neg:=by
  rcases hn with ⟨e,_⟩ | ⟨e,_⟩ | h | h
  ·exact absurd e r.c1
  ·exact absurd e r.c2
  ·exact jan h
  ·exact absurd (jan h) r.c.nn
 have n12:nc≠1/\nc≠2:=by
  constructor <;> intro e <;> rw [e] at nop
  ·rw [op1 g.wf] at nop; replace nop:=nop; exact absurd nop (by decide)
  ·rw [op2 g.wf] at nop; replace nop:=nop; exact absurd nop (by decide)
 unfold chB at h
 rw [t.n] at h
 replace h:=h
 dsimp only at h
 replace h:=h
 by_cases z1:a.1=1\/a.1=q.1
 ·rw [if_pos z1] at h
  replace h:=h
  have:=jgr (n:=99997) g (.inr rfl) r.tq.r r.c1 r.c2 hc hd (by
   rcases outE hb with e | e | e | e
   ·exact .inl (.inl e)
   ·exact .inl (.inr e)
   ·exact .inr (.inl e)
   ·exact .inr (.inr (by refine rwr e ?_; exact hn))) h
  rcases this with e | e | e
  ·exact inE (.inr (.inr (.inl e)))
  ·exact inE (.inl e)
  ·exact inE (.inr (.inl e))
 ·rw [if_neg z1] at h
  replace h:=h
  have z2:a.1=2\/a.1=nc:=by
   rcases outE ha with e | e | e | e
   ·exact absurd (.inl e) z1
   ·exact .inl e
   ·exact absurd (.inr e) z1
   ·exact .inr e
  rw [if_pos z2] at h
  have:=jgr (n:=99997) g (.inl rfl) nr n12.1 n12.2 (by rw [nop]; exact λ e=>nomatch e) (by rw [nop]; exact λ e=>nomatch e) (by
   rcases outE hb with e | e | e | e
   ·exact .inl (.inl e)
   ·exact .inl (.inr e)
   ·exact .inr (.inr (by refine rwr e ?_; exact hn.symm))
   ·exact .inr (.inl e)) h
  rcases this with e | e | e
  ·exact inE (.inr (.inr (.inr e)))
  ·exact inE (.inl e)
  ·exact inE (.inr (.inl e))
theorem Told.open_ {told nc nb:Nat} (t:Told B pool p q a b told nc) (hb:jab B b.1=(nb,B)) (h1:a.1∉[1,2,q.1,nc]) (h2:b.1∉[1,2,q.1,nc]):(a.1=nb->jaG B q.1 a.1=(told,B))/\(a.1≠nb->Mine.mk B ⟨.ite,[q.1,a.1,b.1],0⟩=(told,B)):=by
 have h:=t.h
 simp only [Ja3,Jb2,or_false,not_or] at h1 h2
 dsimp only [chB] at h
 rw [t.n] at h
 dsimp only at h
 rw [if_neg (λ e=>e.elim h1.1 h1.2.2.1),if_neg (λ e=>e.elim h1.2.1 h1.2.2.2),if_neg (λ e=>e.elim h2.1 h2.2.2.2),if_neg (λ e=>e.elim h2.2.1 h2.2.2.1),hb] at h
 dsimp only at h
 constructor
 ·intro e; rw [if_pos e] at h; replace h:=h; exact Jb0 h
 ·intro e; rw [if_neg e] at h; replace h:=h; exact Jb0 h
end
end
section
section
variable {B:List Tm} {pool:List (Nat×Nat)} {p:Nat} {q a b:Nat×Nat}
theorem Told.ext {told nc:Nat} {B':List Tm} (t:Told B pool p q a b told nc) (x:Ext B B') (g':Gb B') (l:B'.length<=900000):Told B' pool p q a b told nc :=
 ⟨t.r.ext x g',jei g' t.r.k.g t.r.tq.r t.r.ta.r t.r.tb.r t.h x,jaB g'.wf g'.nd (Ja1 t.r.tq.lt x.len) (t.neg.ext x),l⟩
theorem jkp {t:Tm} {i:Nat} (h:mk B t=(i,B)):jhw B t=i:=by
 unfold mk at h
 unfold jhw
 by_cases ht:t∈B
 ·rw [if_pos ht] at h ⊢; exact congrArg Prod.fst h
 ·rw [if_neg ht] at h
  have:=congrArg (λ z=>z.2.length) h
  simp at this
theorem jfn {nc c a b:Nat}:(jbf nc c a b).length=2↔a∉[1,2,c,nc]/\b∉[1,2,c,nc]:=by
 unfold jbf
 by_cases ha:a∈[1,2,c,nc] <;> by_cases hb:b∈[1,2,c,nc] <;> simp only [List.filter_cons,List.filter_nil,ha,hb,not_true_eq_false,not_false_eq_true,decide_true,decide_false,if_true,if_false,Bool.false_eq_true] <;> simp
theorem jiO {nc c a b:Nat} (h:¬ jbf nc c a b≠[]):a∈[1,2,c,nc]/\b∈[1,2,c,nc]:=by
 have h:=Classical.not_not.mp h
 unfold jbf at h
 rw [List.filter_eq_nil_iff] at h
 replace h:=h
 exact ⟨Classical.byContradiction λ e=>h a (.head _) (Jd6 e),Classical.byContradiction λ e=>h b (.tail _ (.head _)) (Jd6 e)⟩
theorem Rnd.right (r:Rnd B pool p q a b) (hb:B.length<=800000):∃ B',jhM 100000 B cols q a b B'/\Ext B B'/\Gb B'/\B'.length<=B.length+20000:=by
 refine jdR (r.made hb) λ told B1 A hl=>?_
 have r1:=r.ext A.x A.g1
 refine jbq (jau A.g1 r1.tq.lt r1.tq.ge) λ g2 U U=>?_
 have x2:=jag B1 q.1
 have l2:=jaK B1 q.1
 have t2:Told (jab B1 q.1).2 pool p q a b told (jab B1 q.1).1:=⟨r1.ext x2 g2,jei g2 r.k.g A.hc A.ha A.hb A.h x2,jaQ A.g1.wf g2.wf g2.nd r1.tq.lt (Ext.refl _),upN (c:=814000) l2 (upN hl hb (by decide)) (by decide)⟩
 have la2:(jab B1 q.1).2.length<=B.length+14001:=Ja0 l2 (Jc1 hl)
 suffices h:∃ B',RightEnd 100000 (jab B1 q.1).1 (jab B1 q.1).2 q.1 a.1 b.1 told B1 B'/\Ext (jab B1 q.1).2 B'/\Gb B'/\B'.length<=(jab B1 q.1).2.length+5000 by
  refine jjo h λ B' h1 h2 h3 h4=>?_
  exact joH B' ⟨told,B1,A,h1⟩ ((A.x.trans x2).trans h2) h3 (upN h4 la2 (Jb3 (by decide:19001<=20000) B.length))
 generalize (jab B1 q.1).1=nc at t2 ⊢
 generalize (jab B1 q.1).2=B2 at t2 x2 g2 la2 ⊢
 clear l2
 have r2:=t2.r
 by_cases hp:(jbf nc q.1 a.1 b.1).length=2
 ·refine jbi (jfn.mp hp) λ p1 p2=>?_
  refine jbq (jau g2 r2.tb.lt r2.tb.ge) λ g3 nb0 nbl=>?_
  have x3:=jag B2 b.1
  have l3:=jaK B2 b.1
  have hs:jab (jab B2 b.1).2 b.1=((jab B2 b.1).1,(jab B2 b.1).2):=jaQ g2.wf g3.wf g3.nd r2.tb.lt (Ext.refl _)
  have hn:=jav g2.wf r2.tb.lt
  have t3:=t2.ext x3 g3 (upN (c:=814001) l3 (upN la2 hb (by decide)) (by decide))
  refine jbi (t3.open_ hs p1 p2) λ o1 o2=>?_
  have r3:=t3.r
  by_cases e:a.1=(jab B2 b.1).1
  ·have es:=o1 e
   rw [<- e] at hn
   replace hn:=hn
   have nw:=t3.nonew λ h=>h.ab (by refine rwr t3.n ?_; dsimp only; refine rwr hs ?_; exact e)
   have tc:chB 100000 (jab B2 b.1).2 q.1 b.1 a.1=some (jaG (jab B2 b.1).2 q.1 b.1):=by
    simp only [Ja3,Jb2,or_false,not_or] at p1 p2
    unfold chB
    refine rwr t3.n ?_
    dsimp only
    refine rwr (if_neg (λ e=>e.elim p2.1 p2.2.2.1)) ?_
    refine rwr (if_neg (λ e=>e.elim p2.2.1 p2.2.2.2)) ?_
    refine rwr (if_neg (λ e=>e.elim p1.1 p1.2.2.2)) ?_
    refine rwr (if_neg (λ e=>e.elim p1.2.1 p1.2.2.1)) ?_
    refine rwr (jaB g3.wf g3.nd r3.ta.lt hn.symm) ?_
    dsimp only
    refine rwr (if_pos rfl) ?_
    rfl
   have sr:=jeH g3 r3.tq.r r3.tb.r (H:=59) (by decide) (Ja0 r3.lc.h (by decide)) (Ja0 (r3.lb r3.bb).h (by decide))
   have g4:=sr.g
   have x4:=sr.x
   have s1:Same (jaG (jab B2 b.1).2 q.1 b.1).2 q.1 a.1 told:=by
    have:=jbn g3.wf g4.wn r3.tq.lt r3.ta.lt (by refine rwr es ?_; exact x4)
    rw [es] at this; replace this:=this; exact this
   have en:=jaB g4.wf g4.nd (Ja1 (Ja1 A.t.1 (x2.trans x3).len) x4.len) (Same.neg1 g4.wn (hn.ext x4).symm s1.symm (jbn g3.wf g4.wn r3.tq.lt r3.tb.lt (Ext.refl _)).symm)
   have l4:=sr.l
   refine ja2 _ (.contra (jaG (jab B2 b.1).2 q.1 b.1).1 (jaG (jab B2 b.1).2 q.1 b.1).2 hp e nw tc g4 ((x2.trans x3).trans x4) (upN (c:=814002) l4 (upN (c:=814001) l3 (upN la2 hb (by decide)) (by decide)) (by decide)) (by refine rwr en ?_; rfl)) ?_
   refine rwr en ?_
   exact ⟨x3.trans x4,g4,Ja0 (show (jaG (jab B2 b.1).2 q.1 b.1).2.length<=B2.length+3 from Ja0 l4 (Jb4 l3 2)) (Jb3 (by decide) _)⟩
  ·exact joH _ (.fresh hp e (jkp (o2 e)).symm) x3 g3 (Ja0 l3 (Jb3 (by decide) _))
 ·have hne:¬ noEnd B2 q.1 a.1 b.1:=λ h=>hp (jfn.mpr (by
   have h1:=h.a1; have h2:=h.a2; have h3:=h.b1; have h4:=h.b2
   rw [t2.n] at h2 h3
   simp only [Ja3,Jb2,or_false,not_or] at h1 h2 h3 h4 ⊢
   exact ⟨⟨h1.1,h2.1,h1.2,h2.2⟩,⟨h3.1,h4.1,h4.2,h3.2⟩⟩))
  refine joH B2 (.plain hp (t2.nonew hne) ?_) (Ext.refl _) g2 (Jb5 _ _)
  refine Jc8 (Jc9 (jbf nc q.1 a.1 b.1≠[])) (λ h1=>?_) λ h1=>?_
  ·exact .inl h1
  ·refine Jc8 (Jc9 (jad B2 q.1=.con\/jad B2 q.1=.dis)) (λ h2=>?_) λ h2=>?_
   ·exact .inr (.inl h2)
   ·refine jbi (jiO h1) λ e1 e2=>?_
    exact .inr (.inr (t2.ends e1 e2 (λ e=>h2 (.inl e)) λ e=>h2 (.inr e)))
end
end
section
section
theorem jbE (i:Nat) (t:Tm) (h:(jcO 4)[i]? = some t):(i<3\/t=⟨.app,[],i - 3⟩)/\t.args=[]/\t.op≠.neg/\t.op≠.con/\t.op≠.dis/\jbL t.op 0=true/\i<7:=by
 match i with
 | 0 | 1 | 2 | 3 | 4 | 5 | 6 =>
  obtain rfl:_=t:=Jb0 h
  decide
 | i+7=>exact nomatch h
theorem jea:Gb (jcO 4) where
 wf:=⟨(λ i t h s hs=>by rw [(jbE i t h).2.1] at hs; exact absurd hs Jb2),λ i t h e=>absurd e (jbE i t h).2.2.1,rfl,rfl⟩
 nd:=by decide
 z0:=rfl
 ar:=λ i t h=>by refine rwr ((jbE i t h).2.1) ?_; exact (jbE i t h).2.2.2.2.2.1
 sz:=λ i t h=>by refine rwr ((jbE i t h).2.1) ?_; exact Nat.zero_le _
 ps:=λ i t h s hs=>by rw [(jbE i t h).2.1] at hs; exact (absurd hs Jb2)
 ap:=λ i t h U=>(jbE i t h).2.2.2.2.2.2
 st:=λ i t h e=>by rcases e with e | e; exact absurd e (jbE i t h).2.2.2.1; exact absurd e (jbE i t h).2.2.2.2.1
theorem jdc:∀ p∈cols,jad (jcO 4) p.1=.app/\jaa (jcO 4) p.1=[]/\p.1<7/\1<=p.1:=by decide
theorem jmc {t:Nat} (h:inP cols t):jad (jcO 4) t=.app:=let ⟨_,h⟩:=h; (jdc _ h).1
theorem jpH:PoolIs (jcO 4) cols 0 0 0 1 where
 g:=jea
 t:=λ p hp=>⟨(jdc p hp).2.2.1,(jdc p hp).2.2.2,jeZ jea.wf (Ext.refl _) p hp⟩
 w:=by
  have z:∀ t,inP cols t->wh (jcO 4) t=0:=λ t h=>(jka jea.wf (.inl (jmc h)) .con).1
  exact ⟨λ t h=>Jb7 (z t h),λ t u h k U=>by refine rwr (z t h) ?_; refine rwr (z u k) ?_; exact Jc4 _,λ t u v h k l U U U=>by refine rwr (z t h) ?_; refine rwr (z u k) ?_; refine rwr (z v l) ?_; exact Jc4 _⟩
 z:=λ p hp=>by refine rwr (jcM jea.wf (show p.1<(jcO 4).length from (jdc p hp).2.2.1)) ?_; refine rwr ((jdc p hp).2.1) ?_; exact Jc4 _
 n:=λ p hp=>.mk (by refine rwr ((jdc p hp).1) ?_; exact ⟨(λ e=>nomatch e),λ e=>(Op.noConfusion e)⟩) λ s hs=>by rw [(jdc p hp).2.1] at hs; exact (absurd hs Jb2)
theorem PW.mono {B:List Tm} {P:Nat->Prop} {M1 M2 M3 N1 N2 N3:Nat} (h:PW B P M1 M2 M3) (h1:M1<=N1) (h2:M2<=N2) (h3:M3<=N3):PW B P N1 N2 N3 :=
 ⟨λ t k=>Ja0 (h.one t k) h1,λ t u a b c=>Ja0 (h.two t u a b c) h2,λ t u v a b c d e f=>Ja0 (h.tri t u v a b c d e f) h3⟩
theorem PoolIs.mono {B:List Tm} {pool:List (Nat×Nat)} {M1 M2 M3 Z N1 N2 N3 Z':Nat} (k:PoolIs B pool M1 M2 M3 Z) (h1:M1<=N1) (h2:M2<=N2) (h3:M3<=N3) (hz:Z<=Z'):PoolIs B pool N1 N2 N3 Z' :=
 ⟨k.g,k.t,k.w.mono h1 h2 h3,λ p hp=>Ja0 (k.z p hp) hz,k.n⟩
theorem jn0:∀ k,k<8->(mm k).1<=37/\(mm k).2.1<=57/\(mm k).2.2<=68/\3 ^ k<=2187:=by decide
theorem jq7 {a b k z:Nat} (h:a<=b+z) (hb:b<=7+5000*k) (hz:z<=5000):a<=7+5000*(k+1):=by lia
theorem jq8 {a k:Nat} (h:a<=7+5000*(k+1)) (hk:k<7):a<=100000 :=
 Ja0 h (Ja0 (Jb3 (Jc2 5000 hk) 7) (by decide))
structure Laps (k:Nat) (B:List Tm) (pool:List (Nat×Nat)):Prop where
 kk:PoolIs B pool (mm k).1 (mm k).2.1 (mm k).2.2 (3 ^ k)
 x:Ext (jcO 4) B
 l:B.length<=7+5000*k
 p:∃ r,pool=(3,43690)::r
 n:pool.length=4+k
theorem jpy:Laps 0 (jcO 4) cols:=⟨jpH,Ext.refl _,Jc4 _,⟨_,rfl⟩,rfl⟩
theorem Laps.more {k:Nat} {B:List Tm} {pool:List (Nat×Nat)} (h:Laps k B pool) (hk:k<7) {way:Nat} {p q s:Nat×Nat} (hp:p∈pool) (hq:q∈pool) (hs:s∈pool) :
  ∃ res,jct 100000 B way p q s=some res/\res.2.length<=100000/\Laps (k+1) res.2 (pool++[res.1]):=by
 refine jrk (jpE k hk) λ a1 a2 a3 a4 a5 a6=>?_
 obtain ⟨res,L⟩:=jkf (n:=100000) (way:=way) (D:=(mm (k+1)).1) h.kk a3 a1 a2 (Ja0 a4 (by decide)) a5 hp hq hs
 have hl:=jq7 L.l h.l a6
 refine jfE res L.e (jq8 hl hk) ⟨?_,h.x.trans L.x,hl,?_,?_⟩
 ·have e:(3:Nat)*3 ^ k=3 ^ (k+1):=by rw [Nat.pow_succ,Nat.mul_comm]
  have:=L.k
  rw [e] at this
  exact this
 ·obtain ⟨r,e⟩:=h.p
  exact ⟨r++[res.1],by refine rwr e ?_; rfl⟩
 ·refine rwr Jd3 ?_; refine rwr h.n ?_; rfl
end
section
variable {B:List Tm} {pool:List (Nat×Nat)} {M1 M2 M3 Z:Nat}
theorem Br.neg {B:List Tm} (w:Wn B) {P:Nat->Prop} {c x y:Nat} (h:Br B P c x) (n:Neg B x y):Br B P c y:=by
 rcases h with h | h | ⟨p,hp,h⟩
 ·rcases h with e | e
  ·rw [e] at n; exact .inl (.inr (n.fun w (jkl B)))
  ·rw [e] at n; exact .inl (.inl (n.fun w (jkl B).symm))
 ·rcases h with e | m
  ·rw [e] at n; exact .inr (.inl (.inr n))
  ·exact .inr (.inl (.inl (n.fun w m.symm)))
 ·rcases h with e | m
  ·rw [e] at n; exact .inr (.inr ⟨p,hp,.inr n⟩)
  ·exact .inr (.inr ⟨p,hp,.inl (n.fun w m.symm)⟩)
structure Drew (B:List Tm) (pool:List (Nat×Nat)) (c:Nat) (p:Nat×Nat) (B':List Tm):Prop where
 x:Ext B B'
 g:Gb B'
 t:TW B' p
 b:Br B' (inP pool) c p.1
 l:B'.length<=B.length+1
theorem jcn (g:Gb B) {c:Nat} {p:Nat×Nat} (t:TW B p) (b:Br B (inP pool) c p.1):Drew B pool c p B:=⟨Ext.refl _,g,t,b,Nat.le_succ _⟩
theorem jeV (k:PoolIs B pool M1 M2 M3 Z) {q o p:Nat×Nat} {B':List Tm} (tq:TW B q) (to:TW B o) (bo:Br B (inP pool) q.1 o.1) (h:jgg B pool q o p B'):Drew B pool q.1 p B':=by
 have g:=k.g
 have hl:=g.wf.len
 rcases h with ⟨e,e'⟩ | ⟨e,e'⟩ | ⟨e,e'⟩ | ⟨s,hs,e,e'⟩ | ⟨hp,e'⟩
 ·refine rwr e ?_
  refine rwr e' ?_
  exact jcn g ⟨Jd1 (by decide:(1:Nat)<2) hl,Jc4 _,Msk.one.ext λ u U=>(jkP g.wf u).1.symm⟩ (.inl (.inl rfl))
 ·refine rwr e ?_
  refine rwr e' ?_
  exact jcn g ⟨hl,(by decide:1<=2),Msk.zero.ext λ u U=>(jkP g.wf u).2.symm⟩ (.inl (.inr rfl))
 ·refine rwr e ?_; refine rwr e' ?_; exact jcn g tq (.inr (.inl (.inl rfl)))
 ·have ts:TW B s/\Br B (inP pool) q.1 s.1:=by
   rcases hs with e | e
   ·rw [e]; exact ⟨tq,.inr (.inl (.inl rfl))⟩
   ·rw [e]; exact ⟨to,bo⟩
  have x:=jag B s.1
  have gn:=(jau g ts.1.lt ts.1.ge).1
  refine rwr e ?_
  refine rwr e' ?_
  exact ⟨x,gn,jlq g ts.1,(ts.2.ext x).neg gn.wn (jav g.wf ts.1.lt),jaK _ _⟩
 ·refine rwr e' ?_; exact jcn g (k.t p hp) (.inr (.inr ⟨p.1,⟨p.2,hp⟩,.inl rfl⟩))
structure CondIs (B:List Tm) (pool:List (Nat×Nat)) (q:Nat×Nat):Prop where
 c:∃ p,inP pool p/\CondOf B p q.1
 t:TW B q
theorem jhY (k:PoolIs B pool M1 M2 M3 Z) {p:Nat×Nat} (hp:p∈pool) (h:jad B p.1=.neg):CondIs B pool ((jaa B p.1).getD 0 0,65535 - p.2):=by
 have t:=k.t p hp
 have c:=jgp k.g t.r
 have e:jac B p.1=(jaa B p.1).getD 0 0:=by
  unfold jac; refine rwr (if_pos h) ?_; cases jaa B p.1 <;> rfl
 have n:Neg B p.1 (jac B p.1):=by
  rcases jeg k.g.wf p.1 with ⟨h1,_⟩ | ⟨_,h2,_⟩
  ·exact absurd h h1
  ·exact h2.symm
 refine rwl e ?_
 exact ⟨⟨p.1,⟨p.2,hp⟩,c⟩,⟨c.r.1,c.r.2,t.m.not.ext λ u U=>(n.val k.g.wf u).symm⟩⟩
theorem je2 (k:PoolIs B pool M1 M2 M3 Z) {p:Nat×Nat} (hp:p∈pool) (h:jad B p.1≠.neg):CondIs B pool p:=by
 have t:=k.t p hp
 have c:=jgp k.g t.r
 have e:jac B p.1=p.1:=by unfold jac; refine rwr (if_neg h) ?_; rfl
 rw [e] at c
 exact ⟨⟨p.1,⟨p.2,hp⟩,c⟩,t⟩
theorem CondIs.rnd (k:PoolIs B pool 37 57 68 2187) (x:Ext (jcO 4) B) {q a b:Nat×Nat} (h:CondIs B pool q) (hv:jhi (jad B q.1)=false) (ta:TW B a) (tb:TW B b) (ba:Br B (inP pool) q.1 a.1) (bb:Br B (inP pool) q.1 b.1):∃ p,Rnd B pool p q a b:=by
 refine jam h.c λ p ip c=>?_
 exact ⟨p,k,ip,c,(λ e=>by rw [e,op1 k.g.wf] at hv; exact absurd hv (by decide)),(λ e=>by rw [e,op2 k.g.wf] at hv; replace hv:=hv; exact absurd hv (by decide)),h.t,ta,tb,ba,bb,x⟩
end
end
section
noncomputable abbrev jgE (D Cl Pl:Addr) (cells:List Nat) (pool:List (Nat×Nat)) (a:Nat):Led:=[(D,.tub Cl a),(Cl,.lns cells),(Pl,.lst (pool.map prN))]
theorem jio {D Cl Pl:Addr} {cells:List Nat} {a:Nat} {pool:List (Nat×Nat)} {l:List AV} (h:pool.map prN=l):[(D,AO.tub Cl a),(Cl,.lns cells),(Pl,.lst l)]=jgE D Cl Pl cells pool a:=by rw [<- h]
theorem jml (D Cl Pl:Addr) (cells:List Nat) (pool:List (Nat×Nat)):Own D Cl Pl cells pool (jgE D Cl Pl cells pool):=⟨λ U=>.head,λ U=>.tail _ (.head _),λ U=>.tail _ (.tail _ (.head _))⟩
noncomputable abbrev jng (D Pl:Addr):Ls:=[("purse",.v (.ref D)),("bank",.bank),("rewriter",.rw),("pool",.v (.ref Pl))]
noncomputable abbrev jnf (D Pl S:Addr):Ls:=[("purse",.v (.ref D)),("bank",.bank),("rewriter",.rw),("pool",.v (.ref Pl)),("columns",.v (.ref S))]
noncomputable def jpb (i:Nat):List Nat:=((List.range 16).filter λ u=>decide (u / 2 ^ i % 2=1)).map λ u=>2 ^ u
theorem jnx:∀ i,i<4->cols[i]? = some ((jcO i).length,(jpb i).sum)/\jfG (jcO i)=i/\(⟨.app,[],i⟩:Tm)∉jcO i/\jcO i++[⟨.app,[],i⟩]=jcO (i+1)/\(jcO i).length<=100:=by decide
theorem jlS (i:Nat):((List.range 16).map AV.nat).filterMap (λ a=>match a with | .nat u=>if u / 2 ^ i % 2=1 then some (AV.nat (2 ^ u)) else none | _=>none)=(jpb i).map .nat:=by
 unfold jpb
 generalize List.range 16=l
 induction l with
 | nil=>rfl
 | cons u l ih =>
  rw [Ja8,List.filterMap_cons]
  dsimp only
  by_cases h:u / 2 ^ i % 2=1
  ·rw [if_pos h,List.filter_cons,if_pos (Jd6 h)]
   simp only [Ja8,ih]
  ·rw [if_neg h,List.filter_cons,if_neg (by rw [decide_eq_true_iff]; exact h)]
   exact ih
theorem jlm:∀ i:Nat,i<4->fitsSsize (i:Int)=true/\(Txt.charAt (Str.ofString "pqrs") (i:Int)).isSome=true:=by decide +kernel
theorem jiZ {n i:Nat} {v:AV} (h:((List.range n).map AV.nat)[i]? = some v):i<n/\v=.nat i:=by
 have hi:i<n:=by simpa using (Jc0 h).1
 refine ⟨hi,?_⟩
 rw [List.getElem?_map,List.getElem?_range hi] at h
 exact (Jb0 h).symm
noncomputable def jqm:KF:=λ fl U U U=>fl=.ret (.bool true)
noncomputable abbrev jnO:Scope:={ kind:=.function,names:=[("script",.local),("purse",.local),("bank",.local),("rewriter",.local),("pool",.local),("k",.cell),("columns",.local),("lap",.local),("condition",.local),("first",.local),("BoolBank",.globalImplicit),("BoolRewriter",.globalImplicit),("range",.globalImplicit),("BOOL",.globalImplicit),("sum",.globalImplicit),("dict",.globalImplicit),("_law_take",.globalImplicit),("_law_more",.globalImplicit),("len",.globalImplicit),("_law_entire",.globalImplicit),("_law_branch",.globalImplicit),("_law_is_right",.globalImplicit)],isGenerator:=false,isCoroutine:=false }
noncomputable def jmj (P:Params):List Stmt:=match (kk.heap_1 P).lookup 551 with
 | some ⟨_,_,.func fn,_⟩=>(match fn.body with | .stmts b=>b.drop 2 | _=>[])
 | _=>[]
inductive CoJ (D Cl PL:Addr) (cells:List Nat) (i:Nat):Ls->List Tm->Led->Prop
 | mk:CoJ D Cl PL cells i (jng D PL) (jcO i) (jgE D Cl PL cells (cols.take i) 0)
inductive LaJ (D Cl PL S:Addr) (cells:List Nat) (i:Nat):Ls->List Tm->Led->Prop
 | mk (B:List Tm) (pool:List (Nat×Nat)) (L:Laps i B pool):LaJ D Cl PL S cells i (jnf D PL S) B ((S,.dn cols)::jgE D Cl PL cells pool (1+4*i))
inductive RoJ (D Cl PL S:Addr) (cells:List Nat) (pool:List (Nat×Nat)) (i:Nat):Ls->List Tm->Led->Prop
 | mk (B:List Tm) (a:Nat) (kP:PoolIs B pool 37 57 68 2187) (xP:Ext (jcO 4) B) (hB:B.length<=50000+50000*i) (ha:a<=100+10*i):RoJ D Cl PL S cells pool i (jnf D PL S) B ((S,.dn cols)::jgE D Cl PL cells pool a)
inductive CdJ (D PL S:Addr) (P:Nat×Nat->Prop) (B:List Tm) (lx:Led):Ls->List Tm->Led->Prop
 | mk (q:Nat×Nat) (h:P q):CdJ D PL S P B lx (("condition",prN q)::jnf D PL S) B lx
theorem jrb {D Cl PL:Addr} {cells:List Nat} {a:Nat} {pool:List (Nat×Nat)} {q:Nat×Nat}:[(D,AO.tub Cl a),(Cl,.lns cells),(PL,.lst (pool.map prN++[prN q]))]=jgE D Cl PL cells (pool++[q]) a:=jio (by rw [List.map_append]; rfl)
theorem jj7 {c':WC} {D Cl PL:Addr} {cells:List Nat} (C':CO c' jnO) (r':Rm c'.A 600) (hl:cells.length<=100):VS c' (jmj c'.w.params) (jng D PL) B3 (jgE D Cl PL cells [] 0) jqm:=by
 have r1:Rm c'.A 1:=r'.le (by decide)
 have r14:Rm c'.A 14:=r'.le (by decide)
 refine jaj C' 1 _ _ _ _ _ ?_
 refine jdz ?_
 refine jlz C' rfl (by decide) (by decide +kernel) (CoJ D Cl PL cells) (jng D PL) (wk4 rfl rfl rfl rfl) .mk ?_ ?_
 ·intro i v ls' B₁ led' hv h z
  refine jbi (jiZ hv) λ hi e=>?_
  subst e
  refine h.rec ?_
  refine jg4 (jnx i hi) λ h1 h2 h3 h4 h5=>?_
  refine jaj C' 30 _ _ _ _ _ ?_
  refine jdf C' (.inr ⟨_,.tail _ (.tail _ (.tail _ (.head _)))⟩) ?_
  refine jkH rfl (jlm i hi).1 (jlm i hi).2 λ s'=>?_
  refine jl6 C' (r'.le (by decide)) h5 (by rw [h2]; exact h3) ?_
  rw [h2,h4]
  refine jdz ?_
  refine jd7 C' rfl rfl (.inl rfl) (by show 16<=16000000; decide) (by decide +kernel) _ (λ c2 C2 hr2 v hv pre=>?_) ((congrArg mkL (jlS i)).trans (jez _)) ?_
  ·obtain ⟨u,hu,rfl⟩:=Jb8 hv
   have hu:=List.mem_range.mp hu
   refine ⟨_,rfl,jcb C2 10 _ _ _ _ (jn8 (Jd1 hi (by decide)) (jnF ⟨Nat.two_pow_pos i,Jb1 (Nat.pow_le_pow_right (by decide) (Jb6 hi)) (by decide)⟩ (jke (by decide) ?_)))⟩
   by_cases h:u / 2 ^ i % 2=1
   ·exact jaR (dT h) (ja8 C2 10 _ _ _ _ (jn8 hu ⟨(if_pos h).symm,rfl,rfl⟩))
   ·exact jaP (dF h) ⟨(if_neg h).symm,rfl,rfl⟩
  refine jmZ C' ?_
  refine jcX C' (by rw [Jc6,List.length_take]; exact Ja0 (Nat.min_le_right _ _) (by decide)) (.tail (.tail (.tail .head))) ?_
  refine ⟨jng D PL,jgE D Cl PL cells (cols.take (i+1)) 0,wk4 rfl rfl rfl rfl,?_,.mk⟩
  exact congrArg (List.cons z) (jio (by rw [List.take_add_one,h1,List.map_append]; rfl))
 ·intro ls' B₁ led' h
  refine h.rec ?_
  show VS c' _ _ (jcO 4) (jgE D Cl PL cells cols 0) _
  refine jaj C' 1 _ _ _ _ _ ?_
  refine jhc C' (.tail _ (.tail _ (.head _))) (by decide) λ S=>?_
  have hS:jkz [] cols=cols:=by decide
  rw [hS]
  show VS c' _ _ (jcO 4) _ _
  refine jaj C' 1 _ _ _ _ _ ?_
  have own:=λ pool=>(jml D Cl PL cells pool).pre [(S,.dn cols)]
  refine jd4 C' r1 ((own cols).p 0) ((own cols).c 1) hl (by decide) (by decide) λ v hv=>?_
  have hv:v<5:=hv
  refine jdz ?_
  refine jlz C' rfl (by rw [Jc6,List.length_range]; exact Ja0 (Jb3 (Jb6 hv) 3) (by decide)) (by decide +kernel) (LaJ D Cl PL S cells) (jnf D PL S) (wk5 rfl rfl rfl rfl rfl) (.mk _ cols jpy) ?_ ?_
  ·intro i w ls' B₁ led' hw h z
   refine h.rec λ B₁ pool L=>?_
   clear h
   have hi:i<3+v:=(jiZ hw).1
   have hi7:i<7:=Ja1 hi (Jb3 (Nat.le_of_lt_succ hv) 3)
   have hn:=L.n
   refine jaj C' 30 _ _ _ _ _ ?_
   refine jdf C' (.inr ⟨_,.tail _ ((own pool).l _)⟩) ?_
   have hB:=L.l
   refine jn1 C' r14 ((own pool).pre [z]) L.kk.g (Ja0 hB (Ja0 (Jb3 (Jc2 5000 (Jb6 hi7)) 7) (by decide))) hl (Ja0 (Jb3 (Jc2 4 (Jb6 hi7)) 1) (by decide)) ⟨by rw [hn]; exact Ja0 (by decide) (Jb5 4 i),by rw [hn]; exact Ja0 (Jb3 (Jb6 hi7) 4) (by decide)⟩ (λ p hp=>⟨(L.kk.t p hp).r,(L.kk.t p hp).m.le⟩) (Jc4 100000) (λ way hw p hp q hq s hs=>?_) λ way p q s res hw hp hq hs e=>?_
   ·obtain ⟨res,e,h2,_⟩:=L.more hi7 (way:=way) hp hq hs
    exact ⟨res,e,Ja0 h2 (by decide)⟩
   ·obtain ⟨res',e',_,L'⟩:=L.more hi7 (way:=way) hp hq hs
    obtain rfl:res'=res:=Jb0 (e'.symm.trans e)
    refine jcX C' (by rw [Jc6,hn]; exact Ja0 (Jb3 (Jb6 hi7) 4) (by decide)) (.tail (.tail (.tail (.tail .head)))) ?_
    refine ⟨jnf D PL S,(S,.dn cols)::jgE D Cl PL cells (pool++[res'.1]) (1+4*(i+1)),wk5 rfl rfl rfl rfl rfl,?_,.mk _ _ L'⟩
    exact congrArg (λ l=>z::(S,.dn cols)::l) jrb
  ·intro ls' B₁ led' h
   refine h.rec λ B₁ pool L=>?_
   clear h
   rw [Jc6,List.length_range] at L ⊢
   have hk8:3+v<8:=Nat.add_lt_add_left hv 3
   generalize 3+v=n at L hk8 ⊢
   refine jcV (jn0 n hk8) λ m1 m2 m3 m4=>?_
   have k0:=L.kk.mono m1 m2 m3 m4
   have x0:=L.x
   have hn:=L.n
   have hB0:B₁.length<=50000:=Ja0 L.l (Ja0 (Jb3 (Jc2 5000 (Jb6 hk8)) 7) (by decide))
   have hpl:0<pool.length/\pool.length<=100:=hn▸⟨Ja0 (by decide) (Jb5 4 n),Ja0 (Jb3 (Jb6 hk8) 4) (by decide)⟩
   have hat:1+4*n<=100:=Ja0 (Jb3 (Jc2 4 (Jb6 hk8)) 1) (by decide)
   refine jbh L.p λ rest hp0=>?_
   have ip0:((3,43690):Nat×Nat)∈pool:=by rw [hp0]; exact .head _
   have at0:pool[0]? = some (3,43690):=by rw [hp0]; rfl
   generalize 1+4*n=a0 at hat ⊢
   clear L m1 m2 m3 m4 hp0 hn
   show VS c' _ _ B₁ _ _
   refine jaj C' 30 _ _ _ _ _ ?_
   refine jdz ?_
   refine jlz C' rfl (by decide) (by decide +kernel) (RoJ D Cl PL S cells pool) (jnf D PL S) (wk5 rfl rfl rfl rfl rfl) (.mk _ a0 k0 x0 hB0 hat) ?_ ?_
   ·intro i w ls' B₂ led' hw h z
    refine h.rec λ B₂ a kP xP hB ha=>?_
    clear h
    have hi:i<5:=(jiZ hw).1
    have hB2:B₂.length<=300000:=Ja0 hB (Jb3 (Jc2 50000 (Jb6 hi)) 50000)
    have ha9:a<=150:=Ja0 ha (Jb3 (Jc2 10 (Jb6 hi)) 100)
    have o2:=(own pool).pre [z]
    refine jb5 C' 20 (CdJ D PL S (·∈pool) B₂ (z::(S,.dn cols)::jgE D Cl PL cells pool (a+1))) ?_ ?_
    ·refine jc0 C' (o2.l _) (by rw [Jc6]; exact Ja0 hpl.2 (by decide)) ?_
     refine jd4 C' r1 (o2.p a) (o2.c _) hl (Ja0 ha9 (by decide)) (by rw [Jc6]; exact hpl.1) λ j hj=>?_
     rw [Jc6] at hj
     refine jbQ rfl (o2.l _) (a:=prN pool[j]) (by rw [List.getElem?_map,List.getElem?_eq_getElem hj]; rfl) (Ja1 hj (Ja0 hpl.2 (by decide))) ?_
     exact ⟨_,wk6 rfl rfl rfl rfl rfl rfl,.mk _ (List.getElem_mem _)⟩
    intro ls' B₃ led' h
    refine h.rec λ p hp=>?_
    clear h
    have tp:=kP.t p hp
    refine jb5 C' 20 (CdJ D PL S (CondIs B₂ pool) B₂ (z::(S,.dn cols)::jgE D Cl PL cells pool (a+1))) ?_ ?_
    ·refine ⟨by decide,jhK C' r1 tp.lt ?_⟩
     by_cases h:jad B₂ p.1=.neg
     ·refine jdI (ja5 kP.g.wf h) λ s e1 e2 U=>?_
      refine jaR (opT .neg rfl h) ⟨by decide,jbK C' r1 tp.lt (jb1 rfl (t:=(jaa B₂ p.1).getD 0 0) (by rw [e2]; rfl) (by decide) ⟨by decide,tp.m.le,?_⟩)⟩
      exact ⟨_,wk6 rfl rfl rfl rfl rfl rfl,.mk _ (jhY kP hp h)⟩
     ·refine jaP (opF .neg rfl h) ?_
      exact ⟨_,wk6 rfl rfl rfl rfl rfl rfl,.mk _ (je2 kP hp h)⟩
    intro ls' B₃ led' h
    refine h.rec λ q0 hq0=>?_
    clear h
    refine jb5 C' 20 (CdJ D PL S (λ q=>CondIs B₂ pool q/\jhi (jad B₂ q.1)=false) B₂ (z::(S,.dn cols)::jgE D Cl PL cells pool (a+1))) ?_ ?_
    ·refine ⟨by decide,jhj C' r1 hq0.t.lt ?_⟩
     cases hv:jhi (jad B₂ q0.1) with
     | true =>
      refine jbQ rfl (o2.l _) (a:=prN (3,43690)) (by rw [List.getElem?_map,at0]; rfl) (by decide) ?_
      have ho:jad B₂ 3=.app:=by rw [xP.op (by decide)]; rfl
      exact ⟨_,wk6 rfl rfl rfl rfl rfl rfl,.mk _ ⟨je2 kP ip0 (by rw [ho]; exact λ e=>nomatch e),by rw [ho]; rfl⟩⟩
     | false =>
      exact ⟨_,wk6 rfl rfl rfl rfl rfl rfl,.mk _ ⟨hq0,hv⟩⟩
    intro ls' B₃ led' h
    refine h.rec λ q hq=>?_
    clear h
    have hqv:=hq.2
    replace hq:=hq.1
    have t0:=kP.t _ ip0
    have b0:Br B₂ (inP pool) q.1 ((3,43690):Nat×Nat).1:=.inr (.inr ⟨3,⟨43690,ip0⟩,.inl rfl⟩)
    refine jaj C' 30 _ _ _ _ _ ?_
    refine jbQ rfl (o2.l _) (a:=prN (3,43690)) (by rw [List.getElem?_map,at0]; rfl) (by decide) ?_
    refine jgn C' (r'.le (by decide)) o2 kP.g.wf (Ja0 hB2 (by decide)) hl (Ja0 (Jc1 ha9) (by decide)) hpl hq.t.lt t0.lt hq.t.m.le t0.m.le λ a1 f1 B4 ha1 hf1=>?_
    have d1:=jeV kP hq.t t0 b0 hf1
    have k4:=kP.ext d1.x d1.g
    have q4:=hq.t.ext d1.x
    refine jgn C' (r'.le (by decide)) o2 k4.g.wf (upN d1.l hB2 (by decide)) hl (Ja0 ha1 (Ja0 (Jb4 ha9 3) (by decide))) hpl q4.lt d1.t.lt q4.m.le d1.t.m.le λ a2 f2 B5 ha2 hf2=>?_
    have d2:=jeV k4 q4 d1.t d1.b hf2
    have k5:=k4.ext d2.x d2.g
    have xx:=d1.x.trans d2.x
    have hq5:CondIs B5 pool q:=by
     refine jam hq.c λ p' ip cp=>?_
     exact ⟨⟨p',ip,cp.ext k5.g xx (kP.r p' ip).1⟩,hq.t.ext xx⟩
    refine jbh (hq5.rnd k5 (xP.trans xx) (by rw [xx.op hq.t.lt]; exact hqv) (d1.t.ext d2.x) d2.t (d1.b.ext d2.x) d2.b) λ p' R=>?_
    have hl5:B5.length<=50000+50000*i+2:=Ja0 d2.l (Jc1 (Ja0 d1.l (Jc1 hB)))
    refine jjo (R.right (Ja0 d2.l (Ja0 (Jc1 (Ja0 d1.l (Jc1 hB2))) (by decide)))) λ B6 ok x6 g6 l6=>?_
    refine jmU C' r14 (.tail _ (.head _)) ok ?_
    exact ⟨_,_,wk5 rfl rfl rfl rfl rfl,rfl,.mk _ a2 (k5.ext x6 g6) ((xP.trans xx).trans x6) (by rw [Nat.mul_succ,<- Nat.add_assoc]; exact Ja0 l6 (Ja0 (Jb4 hl5 20000) (by rw [Nat.add_assoc _ 2]; exact Jb3 (by decide) _))) (by rw [Nat.mul_succ,<- Nat.add_assoc]; exact Ja0 ha2 (Ja0 (Jb4 (Ja0 ha1 (Jb4 ha 3)) 2) (by rw [Nat.add_assoc _ 3]; exact Jb3 (by decide) _)))⟩
   ·intro ls' B₂ led' h
    exact h.rec λ U U U U U U=>rfl
end
section
theorem jgw:∀ {vs:List Value} {l:List Value},l.length=vs.length->(∀ j,j<vs.length->∃ y,l[j]? = some y/\∃ z t t',vs[j]? = some (Value.int z t)/\y=.int (z.fmod 1000003) t')->∃ cells:List Nat,IntsAre l (cells.map λ n:Nat=>(n:Int))/\cells.length=vs.length
 | [],l,hl,_=>⟨[],by rw [List.length_eq_zero_iff.mp hl]; exact .nil,rfl⟩
 | v::vs,[],hl,_=>by cases hl
 | v::vs,y::l,hl,h=>by
  obtain ⟨cells,h1,h2⟩:=jgw (Nat.succ.inj hl) λ j hj=>h (j+1) (Nat.succ_lt_succ hj)
  obtain ⟨y',e,z,t,t',_,e2⟩:=h 0 (Nat.succ_pos _)
  have e:y=y':=Jb0 e
  have hz:(0:Int)<=z.fmod 1000003:=Int.fmod_nonneg_of_pos _ (by decide)
  refine ⟨(z.fmod 1000003).toNat::cells,?_,by rw [List.length_cons,List.length_cons,h2]⟩
  rw [e,e2,Ja8,Int.toNat_of_nonneg hz]
  exact .cons _ _ h1
theorem jnQ {c:WC} {m:Str->Option Value} {h:Heap} {tk:Tok} {σ:BC} {ρ:RA} {TP2 PL TP Cl S D:Addr} {oT2 oTP oS oT o1:Obj} {ys:Array Value} {n e:Nat} {t0:Tok} {v1:Option Value} {cells:List Nat}
  (W:Fx c.b₀ h c.L m ((TP2,oT2)::(PL,listOf #[] n)::(ρ.self,instObj 513 ρ.d)::(ρ.d,dictOf (jgX c.w.params c.α ρ) ρ.n)::(TP,oTP)::(Cl,listOf ys e)::(S,oS)::(D,oT)::(c.L+1,o1)::jak c.w.params 388 c.α σ)) (O:Ok prg c.w σ B3)
  (z1:σ.fnV=#[]) (z2:σ.faV=#[]) (z3:σ.frV=#[]) (hT:oT.IsDictOf (PySem.strKind prg c.w) [(Str.ofString "cells",.ref Cl),(Str.ofString "at",.int 0 t0)]) (hcl:IntsAre ys.toList (cells.map λ n:Nat=>(n:Int)))
  (k1:c.env.kindOf "purse" = some .local) (k2:c.env.kindOf "bank" = some .local) (k3:c.env.kindOf "rewriter" = some .local) (k4:c.env.kindOf "pool" = some .local)
  (m1:m "purse" = some (.ref D)) (m2:m "bank" = some (.ref c.α.self)) (m3:m "rewriter" = some (.ref ρ.self)) (m4:m "pool" = some (.ref PL))
  (hc:c.env.cells=[(Str.ofString "k",c.L+1)]) (hd:o1.data=.cell v1) (hf:c.fz=none) :
  ∃ T,St c (jng D PL) B3 (jgE D Cl PL cells [] 0) T ⟨h,c.gs,c.dr,tk,c.os⟩:=by
 have W1:=W.sub (led':=(PL,listOf #[] n)::(ρ.self,instObj 513 ρ.d)::(ρ.d,dictOf (jgX c.w.params c.α ρ) ρ.n)::(Cl,listOf ys e)::(D,oT)::(c.L+1,o1)::jak c.w.params 388 c.α σ) (.cons _ (.cons_cons _ (.cons_cons _ (.cons_cons _ (.cons _ (.cons_cons _ (.cons _ (Jd0 _))))))))
 have W2:Fx c.b₀ h c.L m ((ρ.d,dictOf (jgX c.w.params c.α ρ) ρ.n)::(((ρ.self,instObj 513 ρ.d)::([(D,oT),(Cl,listOf ys e),(PL,listOf #[] n)]++[(c.L+1,o1)]))++jak c.w.params 388 c.α σ)):=by
  refine W1.perm ?_
  have p1:List.Perm [(PL,listOf #[] n),(ρ.self,instObj 513 ρ.d),(ρ.d,dictOf (jgX c.w.params c.α ρ) ρ.n),(Cl,listOf ys e),(D,oT),(c.L+1,o1)] [(ρ.d,dictOf (jgX c.w.params c.α ρ) ρ.n),(ρ.self,instObj 513 ρ.d),(D,oT),(Cl,listOf ys e),(PL,listOf #[] n),(c.L+1,o1)]:=by
   refine List.Perm.trans (List.perm_append_comm_assoc [(PL,listOf #[] n)] [(ρ.self,instObj 513 ρ.d),(ρ.d,dictOf (jgX c.w.params c.α ρ) ρ.n),(Cl,listOf ys e),(D,oT)] [(c.L+1,o1)]) ?_
   exact (List.Perm.swap _ _ _).trans (((List.Perm.swap _ _ _).cons _).cons _)
  exact (p1.append_right (jak c.w.params 388 c.α σ)).symm
 have W4:=(W2.absorb).absorb
 refine ⟨_,.mk h tk m ((σ.add (ρ.d,dictOf (jgX c.w.params c.α ρ) ρ.n)).add (ρ.self,instObj 513 ρ.d)) [(c.L+1,o1)] [(D,oT),(Cl,listOf ys e),(PL,listOf #[] n)] W4 ((O.add _).add _) rfl ⟨by decide,?_,?_,?_⟩ (.cons (.tub Cl 0 t0 oT hT) (.cons ?_ (.cons ?_ .nil))) ⟨.inl hf,λ x a e=>?_⟩ ?_⟩
 ·show σ.fnV.size=0; rw [z1]; rfl
 ·show σ.faV.size=0; rw [z2]; rfl
 ·show σ.frV.size=0; rw [z3]; rfl
 ·have:=HasO.lns (g:=c.g) (T:=(ρ.self,instObj 513 ρ.d)::(ρ.d,dictOf (jgX c.w.params c.α ρ) ρ.n)::σ.tups) cells ys.toList e hcl
  rw [Array.toArray_toList] at this
  exact this
 ·exact .lst [] [] n .nil
 ·rw [hc] at e
  have:a=c.L+1:=by
   rw [List.lookup_cons] at e
   split at e
   ·exact (Jb0 e).symm
   ·cases e
  rw [this]; exact ⟨o1,v1,.head _,hd⟩
 ·intro x a e
  have e:=jay e
  simp only [jng,Ja3,Jb2,or_false,Prod.mk.injEq] at e
  rcases e with ⟨rfl,rfl⟩ | ⟨rfl,rfl⟩ | ⟨rfl,rfl⟩ | ⟨rfl,rfl⟩
  ·exact ⟨_,.v _,.inl ⟨k1,m1⟩⟩
  ·exact ⟨_,.bank,.inl ⟨k2,m2⟩⟩
  ·exact ⟨_,.rw ρ ⟨.head _,.tail _ (.head _)⟩,.inl ⟨k3,m3⟩⟩
  ·exact ⟨_,.v _,.inl ⟨k4,m4⟩⟩
theorem jhp {b₀ h:Heap} {m:Str->Option Value} {o1:Obj} (F:Fr b₀ b₀.objs.size h m) (N:News b₀ b₀.objs.size h [(b₀.objs.size+1,o1)]):Fx b₀ h b₀.objs.size m [(b₀.objs.size+1,o1)]:=by
 refine ⟨F,⟨F.keep,λ p hp=>(N p hp).1,λ p hp=>?_,?_⟩,λ p hp=>(N p hp).2.1⟩
 ·rw [Ja2.mp hp]; exact Nat.le_succ _
 ·simp
theorem jmk {w:World} {s:Shared} {mean:ExcName->Option Value} {mg mb:Str->Option Value} {h₁:Heap} {tk₁:Tok} {lS:Addr} {vs:List Value} {ns:List Int} {m:Str->Option Value} {o1:Obj} {A:Around} {body:List Stmt} {env:Env} {Q:Flow->Shared->Prop} {E:Value->Shared->Prop}
  (KX:(kk.heap_1 w.params).In s.heap) (T:Tp mg mb s.heap) (hL:s.heap.IsList lS vs.toArray) (hI:IntsAre vs ns) (hlen:¬ ((63:Nat):Int)<(ns.length:Int))
  (F:Fr s.heap s.heap.objs.size h₁ m) (N:News s.heap s.heap.objs.size h₁ [(s.heap.objs.size+1,o1)])
  (main:∀ gs dr os,Bs w s.heap mean mg mb->s.heap.IsList lS vs.toArray->IntsAre vs ns->vs.length<=63->Fx s.heap h₁ s.heap.objs.size m [(s.heap.objs.size+1,o1)] ->
   let env':Env:=env; let A':Around:=A; wpAny (model prg w) A' (execs body env') (λ fl s'=>fl=.ret (.bool true)/\∃ h' tk' m',s'=⟨h',gs,dr,tk',os⟩/\Fr s.heap s.heap.objs.size h' m') (λ U U=>False) ⟨h₁,gs,dr,tk₁,os⟩)
  (fin:∀ h' tk' m',Fr s.heap s.heap.objs.size h' m'->Q (.ret (.bool true)) ⟨h',s.gens,s.drawn,tk',s.os⟩) :
  wpAny (model prg w) A (execs body env) Q E ⟨h₁,s.gens,s.drawn,tk₁,s.os⟩:=by
 have hv:vs.length<=63:=by
  have:=jcq hI
  lia
 refine wpAny_mono (main _ _ _ ⟨KX,T⟩ hL hI hv (jhp F N)) (λ fl s' hq=>?_) λ U U e=>e.elim
 obtain ⟨rfl,h',tk',m',rfl,hs⟩:=hq
 exact fin h' tk' m' hs
theorem jnR {c:WC} {rest:List Stmt} {ls:Ls} {B:List Tm} {led:Led} {T:List (Addr×Obj)} {s:Shared} (hs:St c ls B led T s) (v:VS c rest ls B led jqm) :
  wpAny (model prg c.w) c.A (execs rest c.env) (λ fl s'=>fl=.ret (.bool true)/\∃ h' tk' m',s'=⟨h',c.gs,c.dr,tk',c.os⟩/\Fr c.b₀ c.L h' m') (λ U U=>False) s:=by
 refine v.run T s _ _ hs λ fl f ls' B' led' T' s' U hs' hf hk=>?_
 have hk:fl=.ret (.bool true):=hk
 rw [hk] at hf
 cases hf with | ret hv =>
 cases hv
 cases hs' with | mk h tk m σ cl lr W O hT hB hL hC hK =>
 exact ⟨rfl,h,tk,m,rfl,W.F⟩
theorem jnP {c:WC} {sc:Scope} {mean:ExcName->Option Value} {mg mb:Str->Option Value} (G:Bs c.w c.b₀ mean mg mb) (h1:c.env.scope.names=sc.names) (fk:c.env.scope.kind=.function) (hl:c.env.locals=c.L) (hg:c.env.globals=mainGlobals) (hb:c.env.builtins=builtinsNs) (hh:c.A.handled=none)
  (hc:c.env.cells=[(Str.ofString "k",c.L+1)]) (hf:c.fz=none) (hdb:sc.names.all (λ p=>!(p.1 == ("__debug__" : Str)))=true) (hk:sc.names.all (λ p=>p.2 != .cell || p.1 == ("k" : Str))=true):CO c sc where
 G:=⟨mean,mg,mb,G⟩
 hs:=h1
 fk:=fk
 wr:=λ U=>hf
 hl:=hl
 hg:=hg
 hb:=hb
 hh:=hh
 db:=λ x k e=>by simpa using List.all_eq_true.mp hdb _ (jay e)
 ci:=λ x y a e1 e2=>by
  rw [hc] at e1 e2
  have one:∀ z,([(Str.ofString "k",c.L+1)]:List (Str×Addr)).lookup z=some a->z=Str.ofString "k" := λ z e=>by
   rw [List.lookup_cons] at e
   split at e
   ·rename_i h; exact eq_of_beq h
   ·cases e
  rw [one x e1,one y e2]
 ce:=λ x e=>by
  have:=List.all_eq_true.mp hk _ (jay e)
  simp at this
  rw [hc,this]; exact ⟨c.L+1,by simp⟩
namespace lawT
noncomputable def U:=True
theorem u:U:=⟨⟩
theorem tw2172655028503076602:U:=u
theorem tw7863209290797756483:U:=u
theorem tw9319014821373837362:U:=u
theorem tw11961041212479552464:U:=u
theorem tw8741091129330041977:U:=u
theorem tw7236629750241329260:U:=u
theorem tw8803027681812298363:U:=u
theorem tw9208674083004868844:U:=u
theorem tw9533548494797678716:U:=u
theorem tw17488060453667607915:U:=u
theorem tw4144789545039521032:U:=u
theorem tw4529849971427666105:U:=u
theorem tw3350598325944262022:U:=u
theorem tw14503106485106451367:U:=u
theorem tw13173827801808564921:U:=u
theorem tw3127754460454547924:U:=u
theorem tw7861545894471941520:U:=u
theorem tw208886384112847186:U:=u
theorem tw17329614748342530544:U:=u
theorem tw17912130172406275858:U:=u
theorem tw14798490847532177323:U:=u
theorem tw15524009723807831575:U:=u
theorem tw17971521251297242891:U:=u
theorem tw4630718034965523764:U:=u
theorem tw1043598881040537255:U:=u
theorem tw17811064886561773316:U:=u
theorem tw17748462516672867487:U:=u
theorem tw10599891971925170353:U:=u
theorem tw12768497168819598045:U:=u
theorem tw9597303019534465336:U:=u
theorem tw17089154766579864898:U:=u
theorem tw7890573331808333306:U:=u
theorem tw12409938766800584900:U:=u
theorem tw14160893842197321378:U:=u
theorem tw10714732949023468166:U:=u
theorem tw4769852445758985961:U:=u
theorem tw10987183050651277997:U:=u
theorem tw13325186715389734152:U:=u
theorem tw7217139254567599685:U:=u
theorem tw2680209833870983626:U:=u
theorem tw11772424609704981507:U:=u
theorem tw18278082096573798108:U:=u
theorem tw3857548832886600896:U:=u
theorem tw8271697532537419438:U:=u
theorem tw8422231875115447965:U:=u
theorem tw9109501010442778042:U:=u
theorem tw8340556110378196447:U:=u
theorem tw17250717137601006475:U:=u
theorem tw13677782833295710550:U:=u
theorem tw2717692616816149924:U:=u
theorem tw18273924582973132126:U:=u
theorem tw10366157002300899653:U:=u
theorem tw16404650048409002:U:=u
theorem tw4068236224486129586:U:=u
theorem tw7229300429424625321:U:=u
theorem tw1211582140683510615:U:=u
theorem tw3956217345532885462:U:=u
theorem tw9990376830562733994:U:=u
theorem tw17550367401735904617:U:=u
theorem tw13352926114657058556:U:=u
theorem tw5862867536084694604:U:=u
theorem tw6289038639747845492:U:=u
theorem tw16306742552841901821:U:=u
theorem tw9312874976295331116:U:=u
theorem tw406296029288537082:U:=u
theorem tw15997194886456340820:U:=u
theorem tw3063754571980898619:U:=u
theorem tw7513228635738632422:U:=u
theorem tw1297420897348192692:U:=u
theorem tw7577185170350157980:U:=u
theorem tw11609125531547257230:U:=u
theorem tw8352448626973776564:U:=u
theorem tw8013736535294660625:U:=u
theorem tw15111777642734266460:U:=u
theorem tw7597866931890042018:U:=u
theorem tw2821767459068799636:U:=u
theorem tw15834030459643286150:U:=u
theorem tw1351219257258567214:U:=u
theorem tw6800948313688240984:U:=u
theorem tw8967961687333686214:U:=u
theorem tw17399037606152569694:U:=u
theorem tw15101018009708562903:U:=u
theorem tw10616114869425828513:U:=u
theorem tw12377165126663296721:U:=u
theorem tw10321467436023670815:U:=u
theorem tw12351918416802604545:U:=u
theorem tw12707716620031648213:U:=u
theorem tw8494572045984804555:U:=u
theorem tw9728888759220732948:U:=u
theorem tw17888059814997849259:U:=u
theorem tw16714823425986740708:U:=u
theorem tw6076228990274124157:U:=u
theorem tw8648267458973738850:U:=u
theorem tw1403843967903450584:U:=u
theorem tw12364316768848542225:U:=u
theorem tw3302013989054723104:U:=u
theorem tw17724658688640872469:U:=u
theorem tw8320285658908009362:U:=u
theorem tw12565519636766950111:U:=u
theorem tw14358537746866521329:U:=u
theorem tw2298782074097359716:U:=u
theorem tw18320791089857441317:U:=u
theorem tw10180673419635773862:U:=u
theorem tw8072475466464517867:U:=u
theorem tw13714930678716345250:U:=u
theorem tw5933190839923286361:U:=u
theorem tw12086384084883348436:U:=u
theorem tw18136380088242409238:U:=u
theorem tw9752178183975131538:U:=u
theorem tw17106036854379365481:U:=u
theorem tw12518497669185870729:U:=u
theorem tw2680803254003568839:U:=u
theorem tw9489773768955457591:U:=u
theorem tw11634128991867683249:U:=u
theorem tw12646627449464131016:U:=u
theorem tw17055476016740562128:U:=u
theorem tw18206491639748473151:U:=u
theorem tw8959290452894005206:U:=u
theorem tw9869493497572813252:U:=u
theorem tw15993239972421523612:U:=u
theorem tw17498446774352908250:U:=u
theorem tw17666914088435766649:U:=u
theorem tw15177352176618842175:U:=u
theorem tw16191367524700279964:U:=u
theorem tw4317881276094306574:U:=u
theorem tw12826415736424415527:U:=u
theorem tw763126128073752145:U:=u
theorem tw8395178377750397819:U:=u
theorem tw11652880335018994375:U:=u
theorem tw6155460257611912534:U:=u
theorem tw2060989352006100092:U:=u
theorem tw331126887691319266:U:=u
theorem tw15991963766636815178:U:=u
theorem tw16584058206925837024:U:=u
theorem tw17178166514363777517:U:=u
theorem tw1984476354885364521:U:=u
theorem tw17068940109249155700:U:=u
theorem tw4028815396364172784:U:=u
theorem tw3616013956985094477:U:=u
theorem tw790286909776976702:U:=u
theorem tw3301499982959253596:U:=u
theorem tw7543043752514519370:U:=u
theorem tw13566296683248388590:U:=u
theorem tw9375422767810916713:U:=u
theorem tw9880130190255100492:U:=u
theorem tw10811335992638853385:U:=u
theorem tw9469679735484629057:U:=u
theorem tw8871858186404639061:U:=u
theorem tw15467675705134412522:U:=u
theorem tw16928802819737601705:U:=u
theorem tw14862151455233351439:U:=u
theorem tw9313443531083941748:U:=u
theorem tw12339814464118717889:U:=u
theorem tw403272296947751199:U:=u
theorem tw6538704083791032002:U:=u
theorem tw11698238255759652975:U:=u
theorem tw7823307338651830179:U:=u
theorem tw3227549878342754330:U:=u
theorem tw5419045448380873236:U:=u
theorem tw3388197773199895181:U:=u
theorem tw15302303675843101478:U:=u
theorem tw14953428239965752240:U:=u
theorem tw2049758658053727338:U:=u
theorem tw8098181667237220633:U:=u
theorem tw5540435226612475987:U:=u
theorem tw11772040398809012133:U:=u
theorem tw13197356167937239199:U:=u
theorem tw2323220573289324019:U:=u
theorem tw2528273637766395757:U:=u
theorem tw10952462199972407627:U:=u
theorem tw16061925828814034030:U:=u
theorem tw9243135230883417167:U:=u
theorem tw14599950765443422996:U:=u
theorem tw12022267738791948459:U:=u
theorem tw11858955717896915996:U:=u
theorem tw8770399086679700279:U:=u
theorem tw11924334330120218706:U:=u
theorem tw4264762052692005583:U:=u
theorem tw2671940234638063298:U:=u
theorem tw9702257623567441054:U:=u
theorem tw5627164381475268979:U:=u
theorem tw9813722840693343893:U:=u
theorem tw17184730653919184239:U:=u
theorem tw15326669019477248890:U:=u
theorem tw6708419345233149503:U:=u
theorem tw17103178770674951483:U:=u
theorem tw13512623714493146785:U:=u
theorem tw6762583436824678750:U:=u
theorem tw340575432980958467:U:=u
theorem tw15578410547098419980:U:=u
theorem tw6479519050617995076:U:=u
theorem tw11829515660546671352:U:=u
theorem tw15663903989749496285:U:=u
theorem tw16421460344206873326:U:=u
theorem tw4318215264142028476:U:=u
theorem tw16173628777174753452:U:=u
theorem tw18223634802368376262:U:=u
theorem tw17573167968770110489:U:=u
theorem tw13753218164732773016:U:=u
theorem tw15509038345383312657:U:=u
theorem tw6711351219207336675:U:=u
theorem tw4558728888020134538:U:=u
theorem tw8178151311411458394:U:=u
theorem tw6513368548500458976:U:=u
theorem tw8241421314834486137:U:=u
theorem tw10819800110809887531:U:=u
theorem tw14651865370768347970:U:=u
theorem tw1838534263013861394:U:=u
theorem tw13657662982135271747:U:=u
theorem tw1027922664066270936:U:=u
theorem tw2802827502222440997:U:=u
theorem tw12543857911111510591:U:=u
theorem tw17432186437277019209:U:=u
theorem tw16365406833957489591:U:=u
theorem tw4436735059839914592:U:=u
theorem tw1148404147863944223:U:=u
theorem tw16257080871033373497:U:=u
theorem tw3975705244263904573:U:=u
theorem tw7755915363204515821:U:=u
theorem tw6200819308991098794:U:=u
theorem tw750405118727157400:U:=u
theorem tw10205893138709396554:U:=u
theorem tw10366988111129361217:U:=u
theorem tw8929557188612750147:U:=u
theorem tw8142092673230089155:U:=u
theorem tw12643430511207838377:U:=u
theorem tw4967494921771670518:U:=u
theorem tw6447758232610264200:U:=u
theorem tw14815452987680422833:U:=u
theorem tw3388124817864114902:U:=u
theorem tw3729754871624867385:U:=u
theorem tw11114379944443847993:U:=u
theorem tw4734740043137553766:U:=u
theorem tw414198083536957076:U:=u
theorem tw17034741657396157475:U:=u
theorem tw5468775419128570915:U:=u
theorem tw12819912170712663827:U:=u
theorem tw11806039420118427089:U:=u
theorem tw5337910717478668231:U:=u
theorem tw16651077591089845976:U:=u
theorem tw8214096208091420916:U:=u
theorem tw12509821375242319127:U:=u
theorem tw3110141270962213034:U:=u
theorem tw12440985681581897651:U:=u
theorem tw14064884083968201017:U:=u
theorem tw4715844332474227611:U:=u
theorem tw12854719442028563677:U:=u
theorem tw6568923062522061989:U:=u
theorem tw16497179986206410780:U:=u
theorem tw12561897629175588619:U:=u
theorem tw12245148700289073581:U:=u
theorem tw5777732143184679343:U:=u
theorem tw15226377596410413018:U:=u
theorem tw13181338304246534237:U:=u
theorem tw13347963969011619386:U:=u
theorem tw2729678275248368595:U:=u
theorem tw13001145356646908083:U:=u
theorem tw18184010330841290984:U:=u
theorem tw12324171567532627392:U:=u
theorem tw132564039959789789:U:=u
theorem tw1354480610715662790:U:=u
theorem tw1628280458953443439:U:=u
theorem tw1155625789869916225:U:=u
theorem tw13844491559582225682:U:=u
theorem tw14277062285831900126:U:=u
theorem tw13728461658694588391:U:=u
theorem tw11366784742353017361:U:=u
theorem tw9203647266784576434:U:=u
theorem tw16583678756663124004:U:=u
theorem tw14918142993852569079:U:=u
theorem tw9968599928404431628:U:=u
theorem tw7196705921500699120:U:=u
theorem tw1119969999488409790:U:=u
theorem tw1517282840685140727:U:=u
theorem tw15752894526454067263:U:=u
theorem tw10766868202606645469:U:=u
theorem tw17157441217191700952:U:=u
theorem tw11146471674304743394:U:=u
theorem tw2626335934222790227:U:=u
theorem tw10237848258179464613:U:=u
theorem tw5672398138771548517:U:=u
theorem tw11003916809452450192:U:=u
theorem tw11523093003099482930:U:=u
theorem tw7732159637097218882:U:=u
theorem tw13190358962947371627:U:=u
theorem tw18101778390738668457:U:=u
theorem tw11265280286900848692:U:=u
theorem tw2252851838552017125:U:=u
theorem tw10136614934363614362:U:=u
theorem tw11152562807152680804:U:=u
theorem tw6215741870073834074:U:=u
theorem tw743027109234887662:U:=u
theorem tw10664762667175590627:U:=u
theorem tw2243441803968818577:U:=u
theorem tw15374815877944637351:U:=u
theorem tw17828037890713290332:U:=u
theorem tw16552244404030911743:U:=u
theorem tw15493723068096190636:U:=u
theorem tw1600703177191538416:U:=u
theorem tw8873803748435904979:U:=u
theorem tw945633340490783364:U:=u
theorem tw1109816417572150443:U:=u
theorem tw14039376034835488713:U:=u
theorem tw3016095431301506922:U:=u
theorem tw9082643797896013972:U:=u
theorem tw14187283162540301378:U:=u
theorem tw13896596944200437461:U:=u
theorem tw8214109537667521965:U:=u
theorem tw2767353445721626788:U:=u
theorem tw17788794614411152210:U:=u
theorem tw17777851345064685097:U:=u
theorem tw4750935452477693274:U:=u
theorem tw593998190378789125:U:=u
theorem tw13662298240663484823:U:=u
theorem tw4020118860816529515:U:=u
theorem tw3862905301044259075:U:=u
theorem tw3328940276181612757:U:=u
theorem tw3722870528790930067:U:=u
theorem tw6836443939627189877:U:=u
theorem tw14232003773340799173:U:=u
theorem tw15113929226330425704:U:=u
theorem tw680771836810817322:U:=u
theorem tw18253932332311733119:U:=u
theorem tw5057212669493367959:U:=u
theorem tw5497683468091620904:U:=u
theorem tw12619462292422764557:U:=u
theorem tw2529296466958916601:U:=u
theorem tw10229269437793305428:U:=u
theorem tw4888058956151120497:U:=u
theorem tw8419689060298325537:U:=u
theorem tw4085292312361975346:U:=u
theorem tw1558034353231879244:U:=u
theorem tw15882446997738411716:U:=u
theorem tw14896575359110027232:U:=u
theorem tw16061948206912539026:U:=u
theorem tw1972228514844373948:U:=u
theorem tw6711469270840365108:U:=u
theorem tw2457195794700328927:U:=u
theorem tw12913035811253963069:U:=u
theorem tw24206240496374807:U:=u
theorem tw3456211296191444318:U:=u
theorem tw17455024168048758932:U:=u
theorem tw9829697187735832563:U:=u
theorem tw13083250575674947814:U:=u
theorem tw9519953200757049573:U:=u
theorem tw6132045462075617500:U:=u
theorem tw5926671564514635346:U:=u
theorem tw7443101722939010602:U:=u
theorem tw2157561164543577392:U:=u
theorem tw10205782339683116595:U:=u
theorem tw10944603436548393243:U:=u
theorem tw5282703752052920596:U:=u
theorem tw13919895311132520925:U:=u
theorem tw15019770807665042143:U:=u
theorem tw5407269890146784245:U:=u
theorem tw1030498345010988455:U:=u
theorem tw11322272262455122332:U:=u
theorem tw12959749676729671359:U:=u
theorem tw4218742143126275456:U:=u
theorem tw2067446636621287369:U:=u
theorem tw17628370946076329607:U:=u
theorem tw8383164334386463215:U:=u
theorem tw2757990402155624059:U:=u
theorem tw6241427092827304594:U:=u
theorem tw11133278667389855073:U:=u
theorem tw1642057987812946954:U:=u
theorem tw7910140610020710407:U:=u
theorem tw3330372189238011941:U:=u
theorem tw10548055871163875845:U:=u
theorem tw18357841595276430528:U:=u
theorem tw15097993833094492544:U:=u
theorem tw3974692056234776042:U:=u
theorem tw9915158348133046477:U:=u
theorem tw9147491343080256326:U:=u
theorem tw6883235519607617998:U:=u
theorem tw16691050826672173178:U:=u
theorem tw8409120759061857800:U:=u
theorem tw2560823631496342506:U:=u
theorem tw16379003425341652739:U:=u
theorem tw15486704684958788713:U:=u
theorem tw17993786880839208825:U:=u
theorem tw161236207124493297:U:=u
theorem tw5112610731112245267:U:=u
theorem tw12102549137266043439:U:=u
theorem tw8560043932462986958:U:=u
theorem tw3452080205294545147:U:=u
theorem tw16273242984520002215:U:=u
theorem tw11355753238930401902:U:=u
theorem tw2381715779225205431:U:=u
theorem tw7456756133601959350:U:=u
theorem tw4197271434589441593:U:=u
theorem tw11707624946332448347:U:=u
theorem tw1001056060102450120:U:=u
theorem tw3748663280705637552:U:=u
theorem tw1563357241538611959:U:=u
theorem tw5557012422627736715:U:=u
theorem tw11734555340148396361:U:=u
theorem tw7519847827145970104:U:=u
theorem tw16504907588769643864:U:=u
theorem tw1927470070618149424:U:=u
theorem tw17288560384106460444:U:=u
theorem tw4865726150174279184:U:=u
theorem tw1431384219585672040:U:=u
theorem tw11908765791832739391:U:=u
theorem tw3011861451307199905:U:=u
theorem tw12437531761565681956:U:=u
theorem tw11550143704304662060:U:=u
theorem tw11036010783274023395:U:=u
theorem tw5571441944650417005:U:=u
theorem tw6088158105127341240:U:=u
theorem tw9119811756300782085:U:=u
theorem tw17212940369047592473:U:=u
theorem tw13922223667975309515:U:=u
theorem tw17794622491251839279:U:=u
theorem tw2806675128848209636:U:=u
theorem tw10976002977391352815:U:=u
theorem tw7891625865948076061:U:=u
theorem tw5938903580142964605:U:=u
theorem tw6314445845500888954:U:=u
theorem tw11070213012199084757:U:=u
theorem tw18420532946363153024:U:=u
theorem tw7280640884661477353:U:=u
theorem tw17901844495013513821:U:=u
theorem tw13352361104393227252:U:=u
theorem tw1757822339931356419:U:=u
theorem tw2581352959951868195:U:=u
theorem tw13345089388343508680:U:=u
theorem tw4253744314111673446:U:=u
theorem tw10717904625140530057:U:=u
theorem tw1245784686197213693:U:=u
theorem tw14286328840407966816:U:=u
theorem tw13140016839337087105:U:=u
theorem tw12307952891645001582:U:=u
theorem tw14274646891849573286:U:=u
theorem tw17927283848480038048:U:=u
theorem tw7653256503028876418:U:=u
theorem tw3953290071102543430:U:=u
theorem tw11142323361574388423:U:=u
theorem tw8670268221665823624:U:=u
theorem tw2920613581318477389:U:=u
theorem tw15094137676452916655:U:=u
theorem tw11452463626535587608:U:=u
theorem tw8115264643215242780:U:=u
theorem tw11180823716202068241:U:=u
theorem tw10218035609984301980:U:=u
theorem tw1022471453728451568:U:=u
theorem tw7960363238741441109:U:=u
theorem tw12485971303258090074:U:=u
theorem tw151694815857839985:U:=u
theorem tw1889288328155910651:U:=u
theorem tw13510285709884733530:U:=u
theorem tw13287989227336913021:U:=u
theorem tw9581178252162330285:U:=u
theorem tw15626567919816005885:U:=u
theorem tw8467637341490198819:U:=u
theorem tw12089450667505136755:U:=u
theorem tw9224898435787966709:U:=u
theorem tw17694042151745679976:U:=u
theorem tw7804595404144694114:U:=u
theorem tw9895613121557488208:U:=u
theorem tw3531076201778258167:U:=u
theorem tw4360246519183115372:U:=u
theorem tw8687906558143148141:U:=u
theorem tw2576063784953738709:U:=u
theorem tw14551758016104514822:U:=u
theorem tw11525744159018504443:U:=u
theorem tw16949849959734727383:U:=u
theorem tw6511192204189251550:U:=u
theorem tw5621872760190278296:U:=u
theorem tw12165849042629412054:U:=u
theorem tw3491506730151860788:U:=u
theorem tw3805823976259808327:U:=u
theorem tw17277740249078021604:U:=u
theorem tw7217341070322281930:U:=u
theorem tw17737708976245921420:U:=u
theorem tw8253655312643564786:U:=u
theorem tw10886408260462171148:U:=u
theorem tw3709012915762124172:U:=u
theorem tw18366651507398189493:U:=u
theorem tw9216025942106486930:U:=u
theorem tw13429782191512565576:U:=u
theorem tw9378947175995286961:U:=u
theorem tw9163976727522603320:U:=u
theorem tw1159233270901117423:U:=u
theorem tw16130773067123564689:U:=u
theorem tw15957485742532628646:U:=u
theorem tw7152704196364366068:U:=u
theorem tw18292367192976940542:U:=u
theorem tw13818724513178579367:U:=u
theorem tw513281316355374434:U:=u
theorem tw2000475937564249641:U:=u
theorem tw14784418233114721650:U:=u
theorem tw7424412418537341872:U:=u
theorem tw5637789023679369:U:=u
theorem tw4724994870222210799:U:=u
theorem tw10874205565477933847:U:=u
theorem tw135154404812364615:U:=u
theorem tw2812504868172121962:U:=u
theorem tw5049558636363556131:U:=u
theorem tw17395398986877211490:U:=u
theorem tw13817709940460233914:U:=u
theorem tw11344295216304715190:U:=u
theorem tw6211716855288697594:U:=u
theorem tw1798348408663307498:U:=u
theorem tw2842617487397823366:U:=u
theorem tw5584294218069513510:U:=u
theorem tw15318309887263397156:U:=u
theorem tw3556048773974950814:U:=u
theorem tw17477790656375069214:U:=u
theorem tw9327791488215885315:U:=u
theorem tw7529985242682883274:U:=u
theorem tw7125043775892690276:U:=u
theorem tw16618733597854464924:U:=u
theorem tw12015109101949664789:U:=u
theorem tw2072271720981175140:U:=u
theorem tw16006419813415432031:U:=u
theorem tw5841912047760791565:U:=u
theorem tw8052686385915492695:U:=u
theorem tw9820752921979625601:U:=u
theorem tw1814428293859175864:U:=u
theorem tw6423047891534961647:U:=u
theorem tw5792249008222853471:U:=u
theorem tw10384299027199091196:U:=u
theorem tw7041065263351071509:U:=u
theorem tw11392296152671514760:U:=u
theorem tw14825810894092597315:U:=u
theorem tw11805152120856738531:U:=u
theorem tw14176889520696339293:U:=u
theorem tw10994564639479759493:U:=u
theorem tw2689525288187534950:U:=u
theorem tw11732472644087667274:U:=u
theorem tw9752158788056890512:U:=u
theorem tw17518699144654847743:U:=u
theorem tw6373826112285271377:U:=u
theorem tw7590530135464165895:U:=u
theorem tw1038214772261177385:U:=u
theorem tw16156777352644467193:U:=u
theorem tw3894996243522268943:U:=u
theorem tw2785546114451287007:U:=u
theorem tw16511686671060057903:U:=u
theorem tw3099505408276612804:U:=u
theorem tw8885179196899268102:U:=u
theorem tw6687782563109484582:U:=u
theorem tw4985728134736936536:U:=u
theorem tw14677418334426160327:U:=u
theorem tw4170967964531457452:U:=u
theorem tw5260863729492637629:U:=u
theorem tw14078732414030941326:U:=u
theorem tw12148027733593142790:U:=u
theorem tw13549082325364376102:U:=u
theorem tw18030087037689892010:U:=u
theorem tw450428929100665571:U:=u
theorem tw1223972101477056745:U:=u
theorem tw16069978962959623343:U:=u
theorem tw13118868115878656795:U:=u
theorem tw8825967604487372851:U:=u
theorem tw5257431742498629595:U:=u
theorem tw7074917898846072095:U:=u
theorem tw12063389420792757456:U:=u
theorem tw10949713883309312592:U:=u
theorem tw4681111878257001563:U:=u
theorem tw6715623209312407014:U:=u
theorem tw12385755838088956125:U:=u
theorem tw11584376457048946108:U:=u
theorem tw4015145499764287733:U:=u
theorem tw2444703469281470501:U:=u
theorem tw3499746542377841854:U:=u
theorem tw3600973503921405142:U:=u
theorem tw11054733898836474061:U:=u
theorem tw1078735106661357154:U:=u
theorem tw2844735356532929935:U:=u
theorem tw13136689773094557733:U:=u
theorem tw8445957942363573884:U:=u
theorem tw9361154208606002777:U:=u
theorem tw5193995869548900021:U:=u
theorem tw15240780675707396690:U:=u
theorem tw11277757962680328005:U:=u
theorem tw1331633413641236528:U:=u
theorem tw6021158008034930837:U:=u
theorem tw13416896191178333100:U:=u
theorem tw14736154672401994788:U:=u
theorem tw2593407003511584836:U:=u
theorem tw1527533544546385251:U:=u
theorem tw5129321012780112668:U:=u
theorem tw3747738580718484047:U:=u
theorem tw7258695973483009691:U:=u
theorem tw17225466853743685550:U:=u
theorem tw12791477787916010190:U:=u
theorem tw6150572265032274324:U:=u
theorem tw13520986291065989830:U:=u
theorem tw18203662224391403486:U:=u
theorem tw14319742205934214395:U:=u
theorem tw2626663115429949873:U:=u
theorem tw8212618419677862888:U:=u
theorem tw8088301423437888053:U:=u
theorem tw8988388946383240831:U:=u
theorem tw14062160007318399088:U:=u
theorem tw1279195524881048642:U:=u
theorem tw2586978946373564186:U:=u
theorem tw1380911641774175378:U:=u
theorem tw15767188607724827997:U:=u
theorem tw14992467924253059607:U:=u
theorem tw1575322794432820369:U:=u
theorem tw15202424871343455051:U:=u
theorem tw15935420600590100151:U:=u
theorem tw16243748472721881286:U:=u
theorem tw9935488225150632555:U:=u
theorem tw14837476853518552057:U:=u
theorem tw12799706923992143467:U:=u
theorem tw14935867393346671497:U:=u
theorem tw11997532573453640152:U:=u
theorem tw783413600546824683:U:=u
theorem tw693854396618856569:U:=u
theorem tw14813322233397399043:U:=u
theorem tw7667700639778239219:U:=u
theorem tw8593880942943258855:U:=u
theorem tw7313944481810487683:U:=u
theorem tw14393178114978388580:U:=u
theorem tw17910643456323452079:U:=u
theorem tw5702835367803463724:U:=u
theorem tw16890200913801309400:U:=u
theorem tw8374655242350228383:U:=u
theorem tw3334258850350813088:U:=u
theorem tw15258193011201241029:U:=u
theorem tw14727637064700409321:U:=u
theorem tw7900646548997674724:U:=u
theorem tw5037288716805287650:U:=u
theorem tw8025113158010631788:U:=u
theorem tw16927243812585120416:U:=u
theorem tw14941339017949414226:U:=u
theorem tw8290688095864726920:U:=u
theorem tw14142585715561438571:U:=u
theorem tw10657388417359777933:U:=u
theorem tw15170974509361797054:U:=u
theorem tw16295181439083038076:U:=u
theorem tw12640776883751236900:U:=u
theorem tw7615540695925078510:U:=u
theorem tw15438719065045410327:U:=u
theorem tw15915182530413434248:U:=u
theorem tw8774497595315016277:U:=u
theorem tw2542340432547336910:U:=u
theorem tw18261975111296914062:U:=u
theorem tw16758828649722048419:U:=u
theorem tw9730166114117434934:U:=u
theorem tw11417525697488907469:U:=u
theorem tw16778347415218873335:U:=u
theorem tw6767819341468199873:U:=u
theorem tw15572725685249238841:U:=u
theorem tw8177230591221756081:U:=u
theorem tw3042351675311468892:U:=u
theorem tw11232165487468060354:U:=u
theorem tw10729823173136812078:U:=u
theorem tw5716107633168526781:U:=u
theorem tw15874663917931497364:U:=u
theorem tw6190399170301627846:U:=u
theorem tw14602301567076916587:U:=u
theorem tw9439447857919051937:U:=u
theorem tw14860093346376018503:U:=u
theorem tw16046821903143525265:U:=u
theorem tw5584990266984744342:U:=u
theorem tw6565030444727928020:U:=u
theorem tw4091176157231104813:U:=u
theorem tw3406263371172445977:U:=u
theorem tw853477603692796607:U:=u
theorem tw14031503423198546731:U:=u
theorem tw17210016377997813347:U:=u
theorem tw16725033478781971584:U:=u
theorem tw18082896986096657357:U:=u
theorem tw18094634558132790369:U:=u
theorem tw16603553929745672810:U:=u
theorem tw8167723748069752403:U:=u
theorem tw8106706102088115758:U:=u
theorem tw4163918772260408578:U:=u
theorem tw7260539514740174592:U:=u
theorem tw2540461266776722236:U:=u
theorem tw1767053521792123238:U:=u
theorem tw12833805816142699247:U:=u
theorem tw6822442531828916660:U:=u
theorem tw1924361073095066753:U:=u
theorem tw13618077616310767492:U:=u
theorem tw6212904506091155361:U:=u
theorem tw18372442726001146338:U:=u
theorem tw1079403111511482406:U:=u
theorem tw9469822854889904041:U:=u
theorem tw5146757103484071177:U:=u
theorem tw6789132394701517141:U:=u
theorem tw1396616139598590645:U:=u
theorem tw544503783502144782:U:=u
theorem tw10061725491284593803:U:=u
theorem tw4892097252220487676:U:=u
theorem tw15091403282526227135:U:=u
theorem tw5829848495839872039:U:=u
theorem tw15660620782202870220:U:=u
theorem tw4507328276673973132:U:=u
theorem tw16239453564747884394:U:=u
theorem tw6293681975338351605:U:=u
theorem tw15235278030450063745:U:=u
theorem tw16490950055996847365:U:=u
theorem tw5931055580461561811:U:=u
theorem tw17103209499194658948:U:=u
theorem tw5318033903821260991:U:=u
theorem tw18276173046829070583:U:=u
theorem tw4967047374085787848:U:=u
theorem tw184270684030672397:U:=u
theorem tw5331243358250421437:U:=u
theorem tw9683458374097470630:U:=u
theorem tw7484298081478060512:U:=u
theorem tw8728536900349231566:U:=u
theorem tw7399713404352771358:U:=u
theorem tw16829802788435467021:U:=u
theorem tw12733682057250808555:U:=u
theorem tw14728473472616992369:U:=u
theorem tw10221919271245101841:U:=u
theorem tw16845157320240901099:U:=u
theorem tw12545667433580660148:U:=u
theorem tw9659214752717290748:U:=u
theorem tw2619994955827483883:U:=u
theorem tw5181950027602448700:U:=u
theorem tw2618644199249775145:U:=u
theorem tw6030062689158408066:U:=u
theorem tw3061268461672246630:U:=u
theorem tw11036884539070327713:U:=u
theorem tw5733932637886216078:U:=u
theorem tw14719439851186160715:U:=u
theorem tw11561399937042397140:U:=u
theorem tw9000278264428394634:U:=u
theorem tw187415621978882803:U:=u
theorem tw10743696437976745507:U:=u
theorem tw18376823510567044892:U:=u
theorem tw10115772159266035720:U:=u
theorem tw1465994937017364784:U:=u
theorem tw1280281806675486610:U:=u
theorem tw12380260743207495105:U:=u
theorem tw4998365212404623943:U:=u
theorem tw17526280534529436904:U:=u
theorem tw9093347588758853463:U:=u
theorem tw14481623412230081419:U:=u
theorem tw3269716086090828220:U:=u
theorem tw15627835346941038952:U:=u
theorem tw1145500231446542873:U:=u
theorem tw17294552383202426524:U:=u
theorem tw13127021998412359374:U:=u
theorem tw10781648198209073573:U:=u
theorem tw13799425357819796588:U:=u
theorem tw4828096840584192279:U:=u
theorem tw12142888666006092190:U:=u
theorem tw12780898112783663491:U:=u
theorem tw7972202448828427157:U:=u
theorem tw3301265043726181235:U:=u
theorem tw4807104095161817550:U:=u
theorem tw16117520396082514715:U:=u
theorem tw17809740042060131596:U:=u
theorem tw5175938044855193676:U:=u
theorem tw4038026438601784929:U:=u
theorem tw16330520837678011528:U:=u
theorem tw7001970421968666769:U:=u
theorem tw6700801451835166233:U:=u
theorem tw5105358013740788684:U:=u
theorem tw17563821456302021401:U:=u
theorem tw10282701815385685188:U:=u
theorem tw10793750531231940539:U:=u
theorem tw3460703854275440147:U:=u
theorem tw10793735546613248995:U:=u
theorem tw8785999152410570125:U:=u
theorem tw5645417833621174694:U:=u
theorem tw14580044243573783504:U:=u
theorem tw11198009510942533285:U:=u
theorem tw5658948176094291144:U:=u
theorem tw11571592280272606666:U:=u
theorem tw12203751118495473858:U:=u
theorem tw15196560083760323232:U:=u
theorem tw9530213608158840417:U:=u
theorem tw4512382646177399360:U:=u
theorem tw3655218132494780880:U:=u
theorem tw17441456187148329532:U:=u
theorem tw13984343456286003959:U:=u
theorem tw10646392610100365873:U:=u
theorem tw10924164028708567662:U:=u
theorem tw10448863937650631224:U:=u
theorem tw13226346151989718113:U:=u
theorem tw4645372272895368549:U:=u
theorem tw15901329570758913958:U:=u
theorem tw1986845550992540400:U:=u
theorem tw14051018526227665916:U:=u
theorem tw9425677158036233291:U:=u
theorem tw2505563282501131753:U:=u
theorem tw8257056556536834859:U:=u
end lawT
set_option tactic.hygienic true in
set_option Elab.async true in
theorem lawT:PySem.Challenge.rw_rg0210_03.Holds:=by
 w_on; o_law; k_head; (case hw=>w_witness2)
 ·k_go0
  rename_i w s₀ s₁ mg mb G0 Y fa o pm doc ho hg KX X V GL T B TE TW a1 a2 M a3 a4 hcd ns hs hlay0 hL0 hr hl2 a5 a6 lS vs a7 hL ra w1 r0 hI hr2 hlen hc2 K0 hD h₁ tk₁ F o1 d1 N0 X0
  have KX':(kk.heap_1 w.params).In s₁.heap:=KX
  have T':Tp mg mb s₁.heap:=⟨T.g,T.b,T.nolimit,T.builtins⟩
  replace d1:o1.data=.cell none:=d1
  with_reducible refine jmk (mean:=λ U=>none) KX' T' hL hI hlen F N0 ?main ?fin
  case fin =>
   intro h' tk' m' F'
   close_w
  case main =>
   clear X0 N0 F hD K0 hc2 hlen hr2 hI r0 w1 ra hL hr hl2 hL0 hlay0 hs hcd M TW TE B T' T KX' GL V X KX hg ho Y G0
   intro gs dr os G hL hI hlen W env' A'
   have hh:A'.handled=none:=rfl
   have r:Rm A' 690:=⟨rfl,by show (302:Nat)+690<1000; decide,by show (7:Nat)+8*690<9900; decide⟩
   refine wpAny_execs_cons ?_
   (refine jdT ?_; dsimp only [Ja4,Ja5])
   refine Tuple_ ?_
   refine spliced_more ?_
   refine jmJ (a:=Str.ofString "cells") (b:=Str.ofString "at") (by decide) W ?_
   intro D h₂ tk₂ W
   refine joc ?_ rfl rfl (by decide) (λ U=>rfl)
   refine jkB W rfl hL hI (by lia) (by decide) (k:=?_) rfl
   intro S h₃ tk₃ vs' hI' W
   have hlen':vs'.length<=60:=by have:=jcq hI'; rw [List.length_take] at this; lia
   refine jek (λ j y=>∃ z t t',vs'[j]? = some (Value.int z t)/\y=.int (z.fmod 1000003) t') hh W (.head _) (by simp; lia) ?_ ?_
   ·intro C i v ys e D1 oL1 m₁ led₁ it₁ cells₁ h₁ tk₁ E' hi hv J' hc' hdc W
    obtain rfl:cells₁=[]:=List.map_eq_nil_iff.mp hc'
    rw [Ja5] at W
    replace hv:vs'[i]? = some v:=by simpa using hv
    obtain ⟨z,t,rfl,_⟩:=jbU hI' hv
    (refine' jrc ?W0 ?_ ?l0 ?a0 ?b0; (case W0=>assumption); (case l0=>exact rfl); (case a0=>exact rfl); (case b0=>exact rfl); intro _ _ _)
    (refine wpAny_BinOp ?_; refine Call_ ?_; refine jhz ‹_› (Bs.X ‹_›) (Bs.T ‹_›) (by k_is) (by boot_by_name) (by decide) ?_ (by rfl) (by rfl); refine PyProof.Rows.callWith_type1 ?_; refine spliced_more ?_; refine jfr ‹_› (by first | exact rfl | assumption) ?_ (by rfl); refine spliced_none ?_)
    refine call_int_int ?_
    (refine jfq ?_; intro _ _; refine mod_int' (by first | decide | lia) ?_; dsimp only [Ja4,Ja5])
    rename Fx _ _ _ _ _=>W
    exact CEnd.intro [] W rfl (λ U hp=>nomatch hp) (J'.push ⟨z,t,_,hv,rfl⟩)
   ·intro Cl h₄ tk₄ ys e W J'
    obtain ⟨cells,hcl,hcn⟩:=jgw (l:=ys.toList) (vs:=vs') (by simpa using J'.2.1) (λ j hj=>by
     obtain ⟨y,e1,e2⟩:=J'.2.2 j (by simpa using hj)
     exact ⟨y,by rw [Array.getElem?_toList]; exact e1,e2⟩)
    clear J'
    intro tka
    (refine jfq ?_; intro _ _; dsimp only [Ja4,Ja5])
    refine ⟨_,_,_,_,λ o'=>(Cl,listOf ys e)::(S,listOf vs'.toArray 0)::(D,o')::_,rfl,W,λ o'=>.tail (.tail .head),?_⟩
    intro h₅ oT tk₅ W hT
    (refine spliced_more ?_; refine Call_ ?_; refine jf1 ‹_› (Bs.X ‹_›) (Bs.T ‹_›) (by k_is) ?_ (by rfl); (first | refine callWith_K (Bs.X ‹_›) (by k_is) ?_ | refine callWith_K0 (Frag.In.keeps (Bs.X ‹_›) (Cx.stays (Fx.C ‹_›))) (by k_is) ?_); dsimp only [Ja4,Ja5])
    refine jg8 G (r.le (by decide)) W (by simp) ?_
    intro h₆ tk₆ α σ O z1 z2 z3 W
    (refine spliced_none ?_; refine jkC ‹_› ?_; intro _ _ _)
    rename_i TP h₇ W
    (refine' jmO ?h6 ?W6 ?m6 ?_ ?n6; (case h6=>assumption); (case W6=>assumption); (case m6=>walk_at "v_mem"); (case n6=>exact rfl); intro _ _; (try dsimp only [List.reverse_cons,List.reverse_nil,Ja5,Ja4]))
    (refine jcj ?_; refine rSt ‹_› ?_ (by rfl) (by rfl) (by rfl); intro _ _ _; refine jcj ?_; refine rSt ‹_› ?_ (by rfl) (by rfl) (by rfl); intro _ _ _; refine jd9 ?_; refine wpAny_execs_cons ?_; refine jdT ?_; dsimp only [Ja4,Ja5]; refine Tuple_ ?_; refine spliced_more ?_; refine Call_ ?_; refine jf1 ‹_› (Bs.X ‹_›) (Bs.T ‹_›) (by k_is) ?_ (by rfl); (first | refine callWith_K (Bs.X ‹_›) (by k_is) ?_ | refine callWith_K0 (Frag.In.keeps (Bs.X ‹_›) (Cx.stays (Fx.C ‹_›))) (by k_is) ?_); dsimp only [Ja4,Ja5]; refine spliced_more ?_; refine jfr ‹_› (by first | exact rfl | assumption) ?_ (by rfl); refine spliced_none ?_; dsimp only [Ja4,Ja5]; refine ⟨Frag.In.keeps (Bs.X ‹_›) (Cx.stays (Fx.C ‹_›)),?_⟩)
    refine jkF (pre:=_::_::_::_::_::[]) G (r.le (by decide)) ‹_› O ?_
    intro h₈ tk₈ ρ W
    (refine spliced_more ?_; refine List_ ?_; refine spliced_none ?_; refine jdy ‹_› ?_; intro _ _ _; refine spliced_none ?_; refine jkC ‹_› ?_; intro _ _ _)
    rename_i PL h₉ W0 TP2 h₁₀ W
    clear W0
    (refine' jmO ?h12 ?W12 ?m12 ?_ ?n12; (case h12=>assumption); (case W12=>assumption); (case m12=>walk_at "v_mem"); (case n12=>exact rfl); intro _ _; (try dsimp only [List.reverse_cons,List.reverse_nil,Ja5,Ja4]))
    refine jcj ?_
    refine rSt ‹_› ?_ (by rfl) (by rfl) (by rfl); intro _ _ _
    refine jcj ?_
    refine rSt ‹_› ?_ (by rfl) (by rfl) (by rfl); intro _ _ _
    refine jd9 ?_
    rename Fx _ _ _ _ _=>W
    obtain ⟨T,hs⟩:=jnQ (c:=⟨⟨w,s₁.heap,α,gs,dr,os⟩,A',s₁.heap.objs.size,env',none⟩) W O z1 z2 z3 hT hcl rfl rfl rfl rfl rfl rfl rfl rfl rfl d1 rfl
    refine jnR (c:=⟨⟨w,s₁.heap,α,gs,dr,os⟩,A',s₁.heap.objs.size,env',none⟩) hs ?_
    have C':=jnP (sc:=jnO) (c:=⟨⟨w,s₁.heap,α,gs,dr,os⟩,A',s₁.heap.objs.size,env',none⟩) G rfl rfl rfl rfl rfl hh rfl rfl (by decide +kernel) (by decide +kernel)
    have r':Rm (WC.mk ⟨w,s₁.heap,α,gs,dr,os⟩ A' s₁.heap.objs.size env' none).A 600:=r.le (by decide)
    have hl:cells.length<=100:=by lia
    clear hs hT hcl W
    exact jj7 C' r' hl
end
end Mine
theorem PySem.Challenge.cw_rg0210_03_holds : PySem.Challenge.rw_rg0210_03.Holds := by
  exact Mine.lawT
