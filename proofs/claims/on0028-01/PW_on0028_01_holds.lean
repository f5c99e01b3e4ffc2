import PyProof.Rows.All
import PyProof.ExcClass
import PyProof.ExcAttrAll.Exception
import PyProof.ExcClass3
import Open.Split
import KE.KBoundM
import KE.KLam
import KE.KSuperObj
import KE.KTops
import Wide.FinOn
import OpenK.AllK
import Wide.All
import Lean
import PySem.Challenge.RW_on0028_01
set_option Elab.async false
set_option linter.unusedVariables false
set_option linter.unusedSimpArgs false
set_option linter.unusedSectionVars false
set_option linter.defProp false
set_option tactic.hygienic false
set_option genInjectivity false
set_option genSizeOf false
namespace Mine.Tactic
open PySem PySem.W PySem.Calls PyProof.Rows
abbrev VP:=Value->Shared->Prop
theorem az:type_of% @wpAny_bind:=@wpAny_bind
theorem aX:type_of% @wpAny_pure:=@wpAny_pure
theorem bE:type_of% @decide_eq_false_iff_not:=@decide_eq_false_iff_not
theorem bi:type_of% @decide_eq_true_eq:=@decide_eq_true_eq
theorem bL:type_of% @Heap.get?_push_of_some:=@Heap.get?_push_of_some
theorem bA:type_of% @Nat.lt_of_lt_of_le:=@Nat.lt_of_lt_of_le
theorem aW:type_of% @Nat.le_trans:=@Nat.le_trans
theorem cf:type_of% @List.length_append:=@List.length_append
theorem cM:type_of% @Bool.false_eq_true:=@Bool.false_eq_true
theorem bw:type_of% @Nat.le_refl:=@Nat.le_refl
theorem cD:type_of% @Bool.and_eq_true:=@Bool.and_eq_true
theorem cK:type_of% @of_decide_eq_true:=@of_decide_eq_true
theorem dT:type_of% @List.getElem?_append_left:=@List.getElem?_append_left
theorem cz:type_of% @List.append_nil:=@List.append_nil
theorem cN:type_of% @Bool.not_eq_true':=@Bool.not_eq_true'
theorem dv:type_of% @Heap.get?_push_size:=@Heap.get?_push_size
theorem eT:type_of% @List.getElem?_eq_getElem:=@List.getElem?_eq_getElem
theorem dK:type_of% @false_implies:=@false_implies
theorem dj:type_of% @true_implies:=@true_implies
theorem eZ:type_of% @Bool.not_eq_false':=@Bool.not_eq_false'
theorem fv:type_of% @Bool.true_eq_false:=@Bool.true_eq_false
theorem fu:type_of% @List.getElem?_set_self:=@List.getElem?_set_self
theorem fq:type_of% @Heap.get?_update_other:=@Heap.get?_update_other
theorem fk:type_of% @builtinLookup_eq_fast:=@builtinLookup_eq_fast
theorem dJ:type_of% @List.length_drop:=@List.length_drop
theorem eR:type_of% @wpAny_specialOf:=@wpAny_specialOf
theorem eQ:type_of% @List.length_map:=@List.length_map
theorem iO:type_of% @List.getElem?_set_ne:=@List.getElem?_set_ne
theorem iN:type_of% @Nat.lt_succ_self:=@Nat.lt_succ_self
theorem j5:type_of% @PySem.W.typeIs_bytes:=@PySem.W.typeIs_bytes
theorem bC {α:Type}{a b:α}{l:List α}(h:a∈b::l):a=b\/a∈l:=List.mem_cons.mp h
theorem ce {α:Type}{a:α}{l:List α}{i:Nat}(h:l[i]? = some a):∃h:i<l.length,l[i]=a:=List.getElem?_eq_some_iff.mp h
theorem dI {α:Type}{a:α}{l m:List α}(h:a∈l++m):a∈l\/a∈m:=List.mem_append.mp h
set_option backward.match.sparseCases false
set_option maxRecDepth 100000
set_option maxHeartbeats 8000000
section
set_option backward.match.sparseCases true
theorem av {a b p:Prop}(h:a\/b) (f:a->p) (g:b->p):p:=h.elim f g
theorem bT {p q:Prop}(h:p):(true=true->p)/\(true=false->q):=⟨fun _=>h,fun h=>Bool.noConfusion h⟩
theorem bF {p q:Prop}(h:q):(false=true->p)/\(false=false->q):=⟨fun h=>Bool.noConfusion h,fun _=>h⟩
theorem cF {p q:Prop}(h:p):(false=false->p)/\(false=true->q):=⟨fun _=>h,fun h=>Bool.noConfusion h⟩
theorem cT {p q:Prop}(h:q):(true=false->p)/\(true=true->q):=⟨fun h=>Bool.noConfusion h,fun _=>h⟩
theorem mc {α:Type}{a:α}{l:List α}{P:α->Prop}(h:P a) (t:∀x∈l,P x):∀x∈a::l,P x:=fun x m=>(bC m).elim (fun e=>e▸h) (t x)
theorem mn {α:Type}{P:α->Prop}:∀x∈([]:List α),P x:=fun x m=>absurd m List.not_mem_nil
theorem aK {a b p:Prop}(h:a\/b) (g:b->p) (f:a->p):p:=h.elim f g
theorem gn {g:Prop}(h:∀p:Prop,(g->p)->p):g:=h g fun x=>x
theorem tf {p:Prop}(h:true=false):p:=Bool.noConfusion h
@[elab_as_elim] theorem bx {α:Type} {a b:α} {P:α->Prop} (h:a=b) (k:P b):P a:=h▸k
@[elab_as_elim] theorem aZ {α:Type} {a b:α} {P:α->Prop} (h:b=a) (k:P b):P a:=h▸k
theorem ba {α:Type}{p:Prop}{a:α}(h:none=some a):p:=by cases h
theorem dy {α:Type}{p:Prop}{a:α}(h:some a=none):p:=by cases h
theorem ft {p:Prop}(h:false=true):p:=Bool.noConfusion h
theorem af {P Q:Prop}{p:Prop}(h:P/\Q) (k:P->Q->p):p:=k h.1 h.2
theorem an {a:Type}{P:a->Prop}{p:Prop}(h:∃x,P x) (k:∀x,P x->p):p:=h.elim fun x h=>k x h
theorem be {P Q R:Prop}{p:Prop}(h:P/\Q/\R) (k:P->Q->R->p):p:=k h.1 h.2.1 h.2.2
theorem aI {P Q R:Prop}  (h0:P) (h1:Q) (h2:R):P/\Q/\R:=⟨h0,h1,h2⟩
theorem ag {a:Type}{P Q:a->Prop}{p:Prop}(h:∃x,P x/\Q x) (k:∀x,P x->Q x->p):p:=h.elim fun x h=>k x h.1 h.2
theorem aj {a:Type}{P Q:a->Prop}(x:a) (h0:P x) (h1:Q x):∃x,P x/\Q x:=⟨x,h0,h1⟩
theorem du {a b:Type}{P:a->b->Prop}{p:Prop}(h:∃x y,P x y) (k:∀x y,P x y->p):p:=h.elim fun x h=>h.elim fun y h=>k x y h
theorem mS {a b:Type}{P:a->b->Prop}(x:a) (y:b) (h0:P x y):∃x y,P x y:=⟨x,y,h0⟩
theorem ig {P Q R S:Prop}{p:Prop}(h:P/\Q/\R/\S) (k:P->Q->R->S->p):p:=k h.1 h.2.1 h.2.2.1 h.2.2.2
theorem dq {P Q R S:Prop}  (h0:P) (h1:Q) (h2:R) (h3:S):P/\Q/\R/\S:=⟨h0,h1,h2,h3⟩
theorem a8 {a:Type}{P Q R:a->Prop}{p:Prop}(h:∃x,P x/\Q x/\R x) (k:∀x,P x->Q x->R x->p):p:=h.elim fun x h=>k x h.1 h.2.1 h.2.2
theorem aQ {a:Type}{P Q R:a->Prop}(x:a) (h0:P x) (h1:Q x) (h2:R x):∃x,P x/\Q x/\R x:=⟨x,h0,h1,h2⟩
theorem bd {a b:Type}{P Q:a->b->Prop}{p:Prop}(h:∃x y,P x y/\Q x y) (k:∀x y,P x y->Q x y->p):p:=h.elim fun x h=>h.elim fun y h=>k x y h.1 h.2
theorem bB {a b:Type}{P Q:a->b->Prop}(x:a) (y:b) (h0:P x y) (h1:Q x y):∃x y,P x y/\Q x y:=⟨x,y,h0,h1⟩
theorem oW {P Q R S T:Prop}{p:Prop}(h:P/\Q/\R/\S/\T) (k:P->Q->R->S->T->p):p:=k h.1 h.2.1 h.2.2.1 h.2.2.2.1 h.2.2.2.2
theorem jY {P Q R S T:Prop}  (h0:P) (h1:Q) (h2:R) (h3:S) (h4:T):P/\Q/\R/\S/\T:=⟨h0,h1,h2,h3,h4⟩
theorem iL {a:Type}{P Q R S:a->Prop}{p:Prop}(h:∃x,P x/\Q x/\R x/\S x) (k:∀x,P x->Q x->R x->S x->p):p:=h.elim fun x h=>k x h.1 h.2.1 h.2.2.1 h.2.2.2
theorem gM {a:Type}{P Q R S:a->Prop}(x:a) (h0:P x) (h1:Q x) (h2:R x) (h3:S x):∃x,P x/\Q x/\R x/\S x:=⟨x,h0,h1,h2,h3⟩
theorem aY {a b:Type}{P Q R:a->b->Prop}{p:Prop}(h:∃x y,P x y/\Q x y/\R x y) (k:∀x y,P x y->Q x y->R x y->p):p:=h.elim fun x h=>h.elim fun y h=>k x y h.1 h.2.1 h.2.2
theorem bj {a b:Type}{P Q R:a->b->Prop}(x:a) (y:b) (h0:P x y) (h1:Q x y) (h2:R x y):∃x y,P x y/\Q x y/\R x y:=⟨x,y,h0,h1,h2⟩
theorem dH {a b c:Type}{P Q:a->b->c->Prop}{p:Prop}(h:∃x y z,P x y z/\Q x y z) (k:∀x y z,P x y z->Q x y z->p):p:=h.elim fun x h=>h.elim fun y h=>h.elim fun z h=>k x y z h.1 h.2
theorem ie {a b c:Type}{P Q:a->b->c->Prop}(x:a) (y:b) (z:c) (h0:P x y z) (h1:Q x y z):∃x y z,P x y z/\Q x y z:=⟨x,y,z,h0,h1⟩
theorem tB {a b c d:Type}{P:a->b->c->d->Prop}{p:Prop}(h:∃x y z w,P x y z w) (k:∀x y z w,P x y z w->p):p:=h.elim fun x h=>h.elim fun y h=>h.elim fun z h=>h.elim fun w h=>k x y z w h
theorem oR {a b c d:Type}{P:a->b->c->d->Prop}(x:a) (y:b) (z:c) (w:d) (h0:P x y z w):∃x y z w,P x y z w:=⟨x,y,z,w,h0⟩
theorem oV {P Q R S T U:Prop}{p:Prop}(h:P/\Q/\R/\S/\T/\U) (k:P->Q->R->S->T->U->p):p:=k h.1 h.2.1 h.2.2.1 h.2.2.2.1 h.2.2.2.2.1 h.2.2.2.2.2
theorem CG {P Q R S T U:Prop}  (h0:P) (h1:Q) (h2:R) (h3:S) (h4:T) (h5:U):P/\Q/\R/\S/\T/\U:=⟨h0,h1,h2,h3,h4,h5⟩
theorem CE {a:Type}{P Q R S T:a->Prop}(x:a) (h0:P x) (h1:Q x) (h2:R x) (h3:S x) (h4:T x):∃x,P x/\Q x/\R x/\S x/\T x:=⟨x,h0,h1,h2,h3,h4⟩
theorem b0 {a b:Type}{P Q R S:a->b->Prop}{p:Prop}(h:∃x y,P x y/\Q x y/\R x y/\S x y) (k:∀x y,P x y->Q x y->R x y->S x y->p):p:=h.elim fun x h=>h.elim fun y h=>k x y h.1 h.2.1 h.2.2.1 h.2.2.2
theorem bv {a b:Type}{P Q R S:a->b->Prop}(x:a) (y:b) (h0:P x y) (h1:Q x y) (h2:R x y) (h3:S x y):∃x y,P x y/\Q x y/\R x y/\S x y:=⟨x,y,h0,h1,h2,h3⟩
theorem cu {a b c:Type}{P Q R:a->b->c->Prop}{p:Prop}(h:∃x y z,P x y z/\Q x y z/\R x y z) (k:∀x y z,P x y z->Q x y z->R x y z->p):p:=h.elim fun x h=>h.elim fun y h=>h.elim fun z h=>k x y z h.1 h.2.1 h.2.2
theorem dG {a b c:Type}{P Q R:a->b->c->Prop}(x:a) (y:b) (z:c) (h0:P x y z) (h1:Q x y z) (h2:R x y z):∃x y z,P x y z/\Q x y z/\R x y z:=⟨x,y,z,h0,h1,h2⟩
theorem mT {a b c d:Type}{P Q:a->b->c->d->Prop}{p:Prop}(h:∃x y z w,P x y z w/\Q x y z w) (k:∀x y z w,P x y z w->Q x y z w->p):p:=h.elim fun x h=>h.elim fun y h=>h.elim fun z h=>h.elim fun w h=>k x y z w h.1 h.2
theorem tp {a b c d:Type}{P Q:a->b->c->d->Prop}(x:a) (y:b) (z:c) (w:d) (h0:P x y z w) (h1:Q x y z w):∃x y z w,P x y z w/\Q x y z w:=⟨x,y,z,w,h0,h1⟩
theorem CS {P Q R S T U V:Prop}{p:Prop}(h:P/\Q/\R/\S/\T/\U/\V) (k:P->Q->R->S->T->U->V->p):p:=k h.1 h.2.1 h.2.2.1 h.2.2.2.1 h.2.2.2.2.1 h.2.2.2.2.2.1 h.2.2.2.2.2.2
theorem CF {P Q R S T U V:Prop}  (h0:P) (h1:Q) (h2:R) (h3:S) (h4:T) (h5:U) (h6:V):P/\Q/\R/\S/\T/\U/\V:=⟨h0,h1,h2,h3,h4,h5,h6⟩
theorem tC {a:Type}{P Q R S T U:a->Prop}{p:Prop}(h:∃x,P x/\Q x/\R x/\S x/\T x/\U x) (k:∀x,P x->Q x->R x->S x->T x->U x->p):p:=h.elim fun x h=>k x h.1 h.2.1 h.2.2.1 h.2.2.2.1 h.2.2.2.2.1 h.2.2.2.2.2
theorem CC {a b:Type}{P Q R S T:a->b->Prop}(x:a) (y:b) (h0:P x y) (h1:Q x y) (h2:R x y) (h3:S x y) (h4:T x y):∃x y,P x y/\Q x y/\R x y/\S x y/\T x y:=⟨x,y,h0,h1,h2,h3,h4⟩
theorem f0 {a b c:Type}{P Q R S:a->b->c->Prop}{p:Prop}(h:∃x y z,P x y z/\Q x y z/\R x y z/\S x y z) (k:∀x y z,P x y z->Q x y z->R x y z->S x y z->p):p:=h.elim fun x h=>h.elim fun y h=>h.elim fun z h=>k x y z h.1 h.2.1 h.2.2.1 h.2.2.2
theorem ed {a b c:Type}{P Q R S:a->b->c->Prop}(x:a) (y:b) (z:c) (h0:P x y z) (h1:Q x y z) (h2:R x y z) (h3:S x y z):∃x y z,P x y z/\Q x y z/\R x y z/\S x y z:=⟨x,y,z,h0,h1,h2,h3⟩
theorem eX {a b c d:Type}{P Q R:a->b->c->d->Prop}{p:Prop}(h:∃x y z w,P x y z w/\Q x y z w/\R x y z w) (k:∀x y z w,P x y z w->Q x y z w->R x y z w->p):p:=h.elim fun x h=>h.elim fun y h=>h.elim fun z h=>h.elim fun w h=>k x y z w h.1 h.2.1 h.2.2
theorem jf {a b c d:Type}{P Q R:a->b->c->d->Prop}(x:a) (y:b) (z:c) (w:d) (h0:P x y z w) (h1:Q x y z w) (h2:R x y z w):∃x y z w,P x y z w/\Q x y z w/\R x y z w:=⟨x,y,z,w,h0,h1,h2⟩
theorem oS {a b c d e:Type}{P Q:a->b->c->d->e->Prop}{p:Prop}(h:∃x y z w u,P x y z w u/\Q x y z w u) (k:∀x y z w u,P x y z w u->Q x y z w u->p):p:=h.elim fun x h=>h.elim fun y h=>h.elim fun z h=>h.elim fun w h=>h.elim fun u h=>k x y z w u h.1 h.2
theorem lk {a b c d e:Type}{P Q:a->b->c->d->e->Prop}(x:a) (y:b) (z:c) (w:d) (u:e) (h0:P x y z w u) (h1:Q x y z w u):∃x y z w u,P x y z w u/\Q x y z w u:=⟨x,y,z,w,u,h0,h1⟩
theorem CD {a:Type}{P Q R S T U V:a->Prop}(x:a) (h0:P x) (h1:Q x) (h2:R x) (h3:S x) (h4:T x) (h5:U x) (h6:V x):∃x,P x/\Q x/\R x/\S x/\T x/\U x/\V x:=⟨x,h0,h1,h2,h3,h4,h5,h6⟩
theorem CR {a b:Type}{P Q R S T U:a->b->Prop}{p:Prop}(h:∃x y,P x y/\Q x y/\R x y/\S x y/\T x y/\U x y) (k:∀x y,P x y->Q x y->R x y->S x y->T x y->U x y->p):p:=h.elim fun x h=>h.elim fun y h=>k x y h.1 h.2.1 h.2.2.1 h.2.2.2.1 h.2.2.2.2.1 h.2.2.2.2.2
theorem oU {a b c:Type}{P Q R S T:a->b->c->Prop}{p:Prop}(h:∃x y z,P x y z/\Q x y z/\R x y z/\S x y z/\T x y z) (k:∀x y z,P x y z->Q x y z->R x y z->S x y z->T x y z->p):p:=h.elim fun x h=>h.elim fun y h=>h.elim fun z h=>k x y z h.1 h.2.1 h.2.2.1 h.2.2.2.1 h.2.2.2.2
theorem gm {a b c:Type}{P Q R S T:a->b->c->Prop}(x:a) (y:b) (z:c) (h0:P x y z) (h1:Q x y z) (h2:R x y z) (h3:S x y z) (h4:T x y z):∃x y z,P x y z/\Q x y z/\R x y z/\S x y z/\T x y z:=⟨x,y,z,h0,h1,h2,h3,h4⟩
theorem eW {a b c d:Type}{P Q R S:a->b->c->d->Prop}{p:Prop}(h:∃x y z w,P x y z w/\Q x y z w/\R x y z w/\S x y z w) (k:∀x y z w,P x y z w->Q x y z w->R x y z w->S x y z w->p):p:=h.elim fun x h=>h.elim fun y h=>h.elim fun z h=>h.elim fun w h=>k x y z w h.1 h.2.1 h.2.2.1 h.2.2.2
theorem iJ {a b c d:Type}{P Q R S:a->b->c->d->Prop}(x:a) (y:b) (z:c) (w:d) (h0:P x y z w) (h1:Q x y z w) (h2:R x y z w) (h3:S x y z w):∃x y z w,P x y z w/\Q x y z w/\R x y z w/\S x y z w:=⟨x,y,z,w,h0,h1,h2,h3⟩
theorem iK {a b c:Type}{P Q R S T U:a->b->c->Prop}{p:Prop}(h:∃x y z,P x y z/\Q x y z/\R x y z/\S x y z/\T x y z/\U x y z) (k:∀x y z,P x y z->Q x y z->R x y z->S x y z->T x y z->U x y z->p):p:=h.elim fun x h=>h.elim fun y h=>h.elim fun z h=>k x y z h.1 h.2.1 h.2.2.1 h.2.2.2.1 h.2.2.2.2.1 h.2.2.2.2.2
theorem jX {a b c:Type}{P Q R S T U:a->b->c->Prop}(x:a) (y:b) (z:c) (h0:P x y z) (h1:Q x y z) (h2:R x y z) (h3:S x y z) (h4:T x y z) (h5:U x y z):∃x y z,P x y z/\Q x y z/\R x y z/\S x y z/\T x y z/\U x y z:=⟨x,y,z,h0,h1,h2,h3,h4,h5⟩
theorem j0 {a b c d:Type}{P Q R S T:a->b->c->d->Prop}{p:Prop}(h:∃x y z w,P x y z w/\Q x y z w/\R x y z w/\S x y z w/\T x y z w) (k:∀x y z w,P x y z w->Q x y z w->R x y z w->S x y z w->T x y z w->p):p:=h.elim fun x h=>h.elim fun y h=>h.elim fun z h=>h.elim fun w h=>k x y z w h.1 h.2.1 h.2.2.1 h.2.2.2.1 h.2.2.2.2
theorem CA {a b c d:Type}{P Q R S T:a->b->c->d->Prop}(x:a) (y:b) (z:c) (w:d) (h0:P x y z w) (h1:Q x y z w) (h2:R x y z w) (h3:S x y z w) (h4:T x y z w):∃x y z w,P x y z w/\Q x y z w/\R x y z w/\S x y z w/\T x y z w:=⟨x,y,z,w,h0,h1,h2,h3,h4⟩
theorem ln {a b c d e:Type}{P Q R S:a->b->c->d->e->Prop}{p:Prop}(h:∃x y z w u,P x y z w u/\Q x y z w u/\R x y z w u/\S x y z w u) (k:∀x y z w u,P x y z w u->Q x y z w u->R x y z w u->S x y z w u->p):p:=h.elim fun x h=>h.elim fun y h=>h.elim fun z h=>h.elim fun w h=>h.elim fun u h=>k x y z w u h.1 h.2.1 h.2.2.1 h.2.2.2
theorem eD {a b c d e:Type}{P Q R S:a->b->c->d->e->Prop}(x:a) (y:b) (z:c) (w:d) (u:e) (h0:P x y z w u) (h1:Q x y z w u) (h2:R x y z w u) (h3:S x y z w u):∃x y z w u,P x y z w u/\Q x y z w u/\R x y z w u/\S x y z w u:=⟨x,y,z,w,u,h0,h1,h2,h3⟩
theorem lq {a b c d:Type}{P Q R S T U:a->b->c->d->Prop}{p:Prop}(h:∃x y z w,P x y z w/\Q x y z w/\R x y z w/\S x y z w/\T x y z w/\U x y z w) (k:∀x y z w,P x y z w->Q x y z w->R x y z w->S x y z w->T x y z w->U x y z w->p):p:=h.elim fun x h=>h.elim fun y h=>h.elim fun z h=>h.elim fun w h=>k x y z w h.1 h.2.1 h.2.2.1 h.2.2.2.1 h.2.2.2.2.1 h.2.2.2.2.2
theorem mR {a b c d:Type}{P Q R S T U:a->b->c->d->Prop}(x:a) (y:b) (z:c) (w:d) (h0:P x y z w) (h1:Q x y z w) (h2:R x y z w) (h3:S x y z w) (h4:T x y z w) (h5:U x y z w):∃x y z w,P x y z w/\Q x y z w/\R x y z w/\S x y z w/\T x y z w/\U x y z w:=⟨x,y,z,w,h0,h1,h2,h3,h4,h5⟩
theorem tw {a b c:Type}{P Q R S T U V W:a->b->c->Prop}(x:a) (y:b) (z:c) (h0:P x y z) (h1:Q x y z) (h2:R x y z) (h3:S x y z) (h4:T x y z) (h5:U x y z) (h6:V x y z) (h7:W x y z):∃x y z,P x y z/\Q x y z/\R x y z/\S x y z/\T x y z/\U x y z/\V x y z/\W x y z:=⟨x,y,z,h0,h1,h2,h3,h4,h5,h6,h7⟩
theorem Cz {a b c d:Type}{P Q R S T U V:a->b->c->d->Prop}(x:a) (y:b) (z:c) (w:d) (h0:P x y z w) (h1:Q x y z w) (h2:R x y z w) (h3:S x y z w) (h4:T x y z w) (h5:U x y z w) (h6:V x y z w):∃x y z w,P x y z w/\Q x y z w/\R x y z w/\S x y z w/\T x y z w/\U x y z w/\V x y z w:=⟨x,y,z,w,h0,h1,h2,h3,h4,h5,h6⟩
theorem CO {a b c d e:Type}{P Q R S T U:a->b->c->d->e->Prop}{p:Prop}(h:∃x y z w u,P x y z w u/\Q x y z w u/\R x y z w u/\S x y z w u/\T x y z w u/\U x y z w u) (k:∀x y z w u,P x y z w u->Q x y z w u->R x y z w u->S x y z w u->T x y z w u->U x y z w u->p):p:=h.elim fun x h=>h.elim fun y h=>h.elim fun z h=>h.elim fun w h=>h.elim fun u h=>k x y z w u h.1 h.2.1 h.2.2.1 h.2.2.2.1 h.2.2.2.2.1 h.2.2.2.2.2
theorem Cy {a b c d e:Type}{P Q R S T U:a->b->c->d->e->Prop}(x:a) (y:b) (z:c) (w:d) (u:e) (h0:P x y z w u) (h1:Q x y z w u) (h2:R x y z w u) (h3:S x y z w u) (h4:T x y z w u) (h5:U x y z w u):∃x y z w u,P x y z w u/\Q x y z w u/\R x y z w u/\S x y z w u/\T x y z w u/\U x y z w u:=⟨x,y,z,w,u,h0,h1,h2,h3,h4,h5⟩
theorem tz {a b c d e f g:Type}{P Q R S:a->b->c->d->e->f->g->Prop}{p:Prop}(h:∃x y z w u v x1,P x y z w u v x1/\Q x y z w u v x1/\R x y z w u v x1/\S x y z w u v x1) (k:∀x y z w u v x1,P x y z w u v x1->Q x y z w u v x1->R x y z w u v x1->S x y z w u v x1->p):p:=h.elim fun x h=>h.elim fun y h=>h.elim fun z h=>h.elim fun w h=>h.elim fun u h=>h.elim fun v h=>h.elim fun x1 h=>k x y z w u v x1 h.1 h.2.1 h.2.2.1 h.2.2.2
theorem lf {a b c d e f g:Type}{P Q R S:a->b->c->d->e->f->g->Prop}(x:a) (y:b) (z:c) (w:d) (u:e) (v:f) (x1:g) (h0:P x y z w u v x1) (h1:Q x y z w u v x1) (h2:R x y z w u v x1) (h3:S x y z w u v x1):∃x y z w u v x1,P x y z w u v x1/\Q x y z w u v x1/\R x y z w u v x1/\S x y z w u v x1:=⟨x,y,z,w,u,v,x1,h0,h1,h2,h3⟩
theorem CK {a b c d e f g i:Type}{P Q R:a->b->c->d->e->f->g->i->Prop}{p:Prop}(h:∃x y z w u v x1 x2,P x y z w u v x1 x2/\Q x y z w u v x1 x2/\R x y z w u v x1 x2) (k:∀x y z w u v x1 x2,P x y z w u v x1 x2->Q x y z w u v x1 x2->R x y z w u v x1 x2->p):p:=h.elim fun x h=>h.elim fun y h=>h.elim fun z h=>h.elim fun w h=>h.elim fun u h=>h.elim fun v h=>h.elim fun x1 h=>h.elim fun x2 h=>k x y z w u v x1 x2 h.1 h.2.1 h.2.2
theorem Cv {a b c d e f g i:Type}{P Q R:a->b->c->d->e->f->g->i->Prop}(x:a) (y:b) (z:c) (w:d) (u:e) (v:f) (x1:g) (x2:i) (h0:P x y z w u v x1 x2) (h1:Q x y z w u v x1 x2) (h2:R x y z w u v x1 x2):∃x y z w u v x1 x2,P x y z w u v x1 x2/\Q x y z w u v x1 x2/\R x y z w u v x1 x2:=⟨x,y,z,w,u,v,x1,x2,h0,h1,h2⟩
theorem CQ {a b c:Type}{P Q R S T U V W A:a->b->c->Prop}{p:Prop}(h:∃x y z,P x y z/\Q x y z/\R x y z/\S x y z/\T x y z/\U x y z/\V x y z/\W x y z/\A x y z) (k:∀x y z,P x y z->Q x y z->R x y z->S x y z->T x y z->U x y z->V x y z->W x y z->A x y z->p):p:=h.elim fun x h=>h.elim fun y h=>h.elim fun z h=>k x y z h.1 h.2.1 h.2.2.1 h.2.2.2.1 h.2.2.2.2.1 h.2.2.2.2.2.1 h.2.2.2.2.2.2.1 h.2.2.2.2.2.2.2.1 h.2.2.2.2.2.2.2.2
theorem tv {a b c:Type}{P Q R S T U V W A:a->b->c->Prop}(x:a) (y:b) (z:c) (h0:P x y z) (h1:Q x y z) (h2:R x y z) (h3:S x y z) (h4:T x y z) (h5:U x y z) (h6:V x y z) (h7:W x y z) (h8:A x y z):∃x y z,P x y z/\Q x y z/\R x y z/\S x y z/\T x y z/\U x y z/\V x y z/\W x y z/\A x y z:=⟨x,y,z,h0,h1,h2,h3,h4,h5,h6,h7,h8⟩
theorem CN {a b c d e f g:Type}{P Q R S T:a->b->c->d->e->f->g->Prop}{p:Prop}(h:∃x y z w u v x1,P x y z w u v x1/\Q x y z w u v x1/\R x y z w u v x1/\S x y z w u v x1/\T x y z w u v x1) (k:∀x y z w u v x1,P x y z w u v x1->Q x y z w u v x1->R x y z w u v x1->S x y z w u v x1->T x y z w u v x1->p):p:=h.elim fun x h=>h.elim fun y h=>h.elim fun z h=>h.elim fun w h=>h.elim fun u h=>h.elim fun v h=>h.elim fun x1 h=>k x y z w u v x1 h.1 h.2.1 h.2.2.1 h.2.2.2.1 h.2.2.2.2
theorem Cu {a b c d e f g i:Type}{P Q R S T:a->b->c->d->e->f->g->i->Prop}(x:a) (y:b) (z:c) (w:d) (u:e) (v:f) (x1:g) (x2:i) (h0:P x y z w u v x1 x2) (h1:Q x y z w u v x1 x2) (h2:R x y z w u v x1 x2) (h3:S x y z w u v x1 x2) (h4:T x y z w u v x1 x2):∃x y z w u v x1 x2,P x y z w u v x1 x2/\Q x y z w u v x1 x2/\R x y z w u v x1 x2/\S x y z w u v x1 x2/\T x y z w u v x1 x2:=⟨x,y,z,w,u,v,x1,x2,h0,h1,h2,h3,h4⟩
theorem CJ {a b c d e f g i j:Type}{P Q R S:a->b->c->d->e->f->g->i->j->Prop}{p:Prop}(h:∃x y z w u v x1 x2 x3,P x y z w u v x1 x2 x3/\Q x y z w u v x1 x2 x3/\R x y z w u v x1 x2 x3/\S x y z w u v x1 x2 x3) (k:∀x y z w u v x1 x2 x3,P x y z w u v x1 x2 x3->Q x y z w u v x1 x2 x3->R x y z w u v x1 x2 x3->S x y z w u v x1 x2 x3->p):p:=h.elim fun x h=>h.elim fun y h=>h.elim fun z h=>h.elim fun w h=>h.elim fun u h=>h.elim fun v h=>h.elim fun x1 h=>h.elim fun x2 h=>h.elim fun x3 h=>k x y z w u v x1 x2 x3 h.1 h.2.1 h.2.2.1 h.2.2.2
theorem tm {a b c d e f g i j:Type}{P Q R S:a->b->c->d->e->f->g->i->j->Prop}(x:a) (y:b) (z:c) (w:d) (u:e) (v:f) (x1:g) (x2:i) (x3:j) (h0:P x y z w u v x1 x2 x3) (h1:Q x y z w u v x1 x2 x3) (h2:R x y z w u v x1 x2 x3) (h3:S x y z w u v x1 x2 x3):∃x y z w u v x1 x2 x3,P x y z w u v x1 x2 x3/\Q x y z w u v x1 x2 x3/\R x y z w u v x1 x2 x3/\S x y z w u v x1 x2 x3:=⟨x,y,z,w,u,v,x1,x2,x3,h0,h1,h2,h3⟩
theorem CP {a b c d:Type}{P Q R S T U V W A B:a->b->c->d->Prop}{p:Prop}(h:∃x y z w,P x y z w/\Q x y z w/\R x y z w/\S x y z w/\T x y z w/\U x y z w/\V x y z w/\W x y z w/\A x y z w/\B x y z w) (k:∀x y z w,P x y z w->Q x y z w->R x y z w->S x y z w->T x y z w->U x y z w->V x y z w->W x y z w->A x y z w->B x y z w->p):p:=h.elim fun x h=>h.elim fun y h=>h.elim fun z h=>h.elim fun w h=>k x y z w h.1 h.2.1 h.2.2.1 h.2.2.2.1 h.2.2.2.2.1 h.2.2.2.2.2.1 h.2.2.2.2.2.2.1 h.2.2.2.2.2.2.2.1 h.2.2.2.2.2.2.2.2.1 h.2.2.2.2.2.2.2.2.2
theorem CB {a b c d:Type}{P Q R S T U V W A B:a->b->c->d->Prop}(x:a) (y:b) (z:c) (w:d) (h0:P x y z w) (h1:Q x y z w) (h2:R x y z w) (h3:S x y z w) (h4:T x y z w) (h5:U x y z w) (h6:V x y z w) (h7:W x y z w) (h8:A x y z w) (h9:B x y z w):∃x y z w,P x y z w/\Q x y z w/\R x y z w/\S x y z w/\T x y z w/\U x y z w/\V x y z w/\W x y z w/\A x y z w/\B x y z w:=⟨x,y,z,w,h0,h1,h2,h3,h4,h5,h6,h7,h8,h9⟩
theorem CI {a b c d e f g i j:Type}{P Q R S T:a->b->c->d->e->f->g->i->j->Prop}{p:Prop}(h:∃x y z w u v x1 x2 x3,P x y z w u v x1 x2 x3/\Q x y z w u v x1 x2 x3/\R x y z w u v x1 x2 x3/\S x y z w u v x1 x2 x3/\T x y z w u v x1 x2 x3) (k:∀x y z w u v x1 x2 x3,P x y z w u v x1 x2 x3->Q x y z w u v x1 x2 x3->R x y z w u v x1 x2 x3->S x y z w u v x1 x2 x3->T x y z w u v x1 x2 x3->p):p:=h.elim fun x h=>h.elim fun y h=>h.elim fun z h=>h.elim fun w h=>h.elim fun u h=>h.elim fun v h=>h.elim fun x1 h=>h.elim fun x2 h=>h.elim fun x3 h=>k x y z w u v x1 x2 x3 h.1 h.2.1 h.2.2.1 h.2.2.2.1 h.2.2.2.2
theorem Ct {a b c d e f g i j:Type}{P Q R S T:a->b->c->d->e->f->g->i->j->Prop}(x:a) (y:b) (z:c) (w:d) (u:e) (v:f) (x1:g) (x2:i) (x3:j) (h0:P x y z w u v x1 x2 x3) (h1:Q x y z w u v x1 x2 x3) (h2:R x y z w u v x1 x2 x3) (h3:S x y z w u v x1 x2 x3) (h4:T x y z w u v x1 x2 x3):∃x y z w u v x1 x2 x3,P x y z w u v x1 x2 x3/\Q x y z w u v x1 x2 x3/\R x y z w u v x1 x2 x3/\S x y z w u v x1 x2 x3/\T x y z w u v x1 x2 x3:=⟨x,y,z,w,u,v,x1,x2,x3,h0,h1,h2,h3,h4⟩
theorem tA {a b c d e f:Type}{P Q R S T U V W A:a->b->c->d->e->f->Prop}{p:Prop}(h:∃x y z w u v,P x y z w u v/\Q x y z w u v/\R x y z w u v/\S x y z w u v/\T x y z w u v/\U x y z w u v/\V x y z w u v/\W x y z w u v/\A x y z w u v) (k:∀x y z w u v,P x y z w u v->Q x y z w u v->R x y z w u v->S x y z w u v->T x y z w u v->U x y z w u v->V x y z w u v->W x y z w u v->A x y z w u v->p):p:=h.elim fun x h=>h.elim fun y h=>h.elim fun z h=>h.elim fun w h=>h.elim fun u h=>h.elim fun v h=>k x y z w u v h.1 h.2.1 h.2.2.1 h.2.2.2.1 h.2.2.2.2.1 h.2.2.2.2.2.1 h.2.2.2.2.2.2.1 h.2.2.2.2.2.2.2.1 h.2.2.2.2.2.2.2.2
theorem lh {a b c d e f:Type}{P Q R S T U V W A:a->b->c->d->e->f->Prop}(x:a) (y:b) (z:c) (w:d) (u:e) (v:f) (h0:P x y z w u v) (h1:Q x y z w u v) (h2:R x y z w u v) (h3:S x y z w u v) (h4:T x y z w u v) (h5:U x y z w u v) (h6:V x y z w u v) (h7:W x y z w u v) (h8:A x y z w u v):∃x y z w u v,P x y z w u v/\Q x y z w u v/\R x y z w u v/\S x y z w u v/\T x y z w u v/\U x y z w u v/\V x y z w u v/\W x y z w u v/\A x y z w u v:=⟨x,y,z,w,u,v,h0,h1,h2,h3,h4,h5,h6,h7,h8⟩
theorem to {a b c d e:Type}{P Q R S T U V W A B C:a->b->c->d->e->Prop}(x:a) (y:b) (z:c) (w:d) (u:e) (h0:P x y z w u) (h1:Q x y z w u) (h2:R x y z w u) (h3:S x y z w u) (h4:T x y z w u) (h5:U x y z w u) (h6:V x y z w u) (h7:W x y z w u) (h8:A x y z w u) (h9:B x y z w u) (h10:C x y z w u):∃x y z w u,P x y z w u/\Q x y z w u/\R x y z w u/\S x y z w u/\T x y z w u/\U x y z w u/\V x y z w u/\W x y z w u/\A x y z w u/\B x y z w u/\C x y z w u:=⟨x,y,z,w,u,h0,h1,h2,h3,h4,h5,h6,h7,h8,h9,h10⟩
end
local macro_rules
 | `(tactic| erw [$e:term])=>`(tactic| refine bx ($e ..) ?_)
section
inductive NT where
 |v (i:Nat)
 |k (n:Nat)
 |a (x y:NT)
 |m (c:Nat) (x:NT)
abbrev aa:NT:=.v 0
abbrev ae:NT:=.v 1
abbrev ai:NT:=.v 2
abbrev aG:NT:=.v 3
abbrev cb:NT:=.v 4
abbrev j4:NT:=.v 5
abbrev t8:NT:=.v 6
abbrev t0:NT:=.v 7
inductive ZT where
 |w (i:Nat)
 |c (x:NT)
 |k (n:Nat)
 |a (x y:ZT)
 |s (x y:ZT)
 |n (x:ZT)
 |m (c:Nat) (x:ZT)
abbrev aw:ZT:=.w 0
abbrev cO:ZT:=.w 1
abbrev mZ:ZT:=.w 2
abbrev tZ:ZT:=.w 3
inductive PT where
 |le (x y:NT)
 |lt (x y:NT)
 |eq (x y:NT)
 |Le (x y:ZT)
 |Lt (x y:ZT)
 |Eq (x y:ZT)
 |and (p q:PT)
 |or (p q:PT)
 |imp (p q:PT)
 |not (p:PT)
 |F
noncomputable def NT.den (ns:List Nat) (x:NT):Nat:=NT.rec (fun i=>ns.getD i 0) (fun n=>n) (fun uz uz a b=>a+b) (fun c uz a=>c*a) x
noncomputable def ZT.den (ns:List Nat) (zs:List Int) (x:ZT):Int:=ZT.rec (fun i=>zs.getD i 0) (fun x=>((x.den ns:Nat):Int)) (fun n=>Int.ofNat n) (fun uz uz a b=>a+b) (fun uz uz a b=>a-b) (fun uz a=>-a) (fun c uz a=>Int.ofNat c*a) x
def PT.den (ns:List Nat) (zs:List Int) (p:PT):Prop:=PT.rec (fun x y=>x.den ns<=y.den ns) (fun x y=>x.den ns<y.den ns) (fun x y=>x.den ns=y.den ns) (fun x y=>x.den ns zs<=y.den ns zs) (fun x y=>x.den ns zs<y.den ns zs) (fun x y=>x.den ns zs=y.den ns zs) (fun uz uz a b=>a/\b) (fun uz uz a b=>a\/b) (fun uz uz a b=>a->b) (fun uz a=>¬a) False p
noncomputable def bM (p:List Int):(Nat->Int)->Int:=List.rec (fun uz=>0) (fun a uz ih f=>a*f 0+ih fun i=>f (i+1)) p
noncomputable def f3 (p:List Int):List Int->List Int:=List.rec (fun q=>q) (fun a p ih q=>(a+q.headD 0)::ih q.tail) p
noncomputable def fR (c:Int) (p:List Int):List Int:=p.map (c*·)
noncomputable def lR (i:Nat):List Int:=List.replicate i 0++[1]
noncomputable def NT.lin (x:NT):List Int:=NT.rec (fun i=>lR (2*i+1)) (fun k=>[Int.ofNat k]) (fun uz uz a b=>f3 a b) (fun c uz a=>fR (Int.ofNat c) a) x
noncomputable def ZT.lin (x:ZT):List Int:=ZT.rec (fun i=>lR (2*i+2)) (fun x=>x.lin) (fun k=>[Int.ofNat k]) (fun uz uz a b=>f3 a b) (fun uz uz a b=>f3 a (fR (-1) b)) (fun uz a=>fR (-1) a) (fun c uz a=>fR (Int.ofNat c) a) x
noncomputable def fH (x y:List Int):List Int:=f3 y (fR (-1) x)
noncomputable def fY (x y:List Int):List Int:=f3 (fH x y) [-1]
noncomputable def kn (x y:List (List (List Int))):List (List (List Int)):=x.flatMap fun a=>y.map fun b=>a++b
noncomputable def PT.dnf (p:PT):List (List (List Int))×List (List (List Int)):=PT.rec
 (fun x y=>([[fH x.lin y.lin]],[[fY y.lin x.lin]])) (fun x y=>([[fY x.lin y.lin]],[[fH y.lin x.lin]]))
 (fun x y=>([[fH x.lin y.lin,fH y.lin x.lin]],[[fY x.lin y.lin],[fY y.lin x.lin]]))
 (fun x y=>([[fH x.lin y.lin]],[[fY y.lin x.lin]])) (fun x y=>([[fY x.lin y.lin]],[[fH y.lin x.lin]]))
 (fun x y=>([[fH x.lin y.lin,fH y.lin x.lin]],[[fY x.lin y.lin],[fY y.lin x.lin]]))
 (fun uz uz a b=>(kn a.1 b.1,a.2++b.2)) (fun uz uz a b=>(a.1++b.1,kn a.2 b.2)) (fun uz uz a b=>(a.2++b.1,kn a.1 b.2)) (fun uz a=>(a.2,a.1)) ([],[[]]) p
noncomputable def mH (i:Nat) (p:List Int):Int:=p.getD i 0
noncomputable def elim (i:Nat) (cs:List (List Int)):List (List Int):=
 cs.filter (fun p=>mH i p==0)++(cs.filter fun p=>decide (0<mH i p)).flatMap fun p=>(cs.filter fun q=>decide (mH i q<0)).map fun q=>f3 (fR (-mH i q) p) (fR (mH i p) q)
noncomputable def kU (p:List Int):Bool:=decide (p.headD 0<0)&&p.tail.all (·==0)
noncomputable def fm (k:Nat):List (List Int)->Bool:=Nat.rec (fun cs=>cs.any kU) (fun k ih cs=>cs.any kU||ih (elim (k+1) cs)) k
noncomputable def zo (n:Nat):List (List Int):=(List.range n).map fun i=>lR (2*i+1)
noncomputable def ux (cs:List (List Int)):Nat:=cs.foldr (fun p k=>max p.length k) 0
noncomputable def yT (cs:List (List Int)):Bool:=fm (ux cs) (zo (ux cs / 2)++cs)
noncomputable def i9 (ps:List PT) (g:PT):Bool:=(ps.foldr (fun p a=>kn p.dnf.1 a) g.dnf.2).all yT
noncomputable def val (ns:List Nat) (zs:List Int) (i:Nat):Int:=if i=0 then 1 else if i % 2=1 then Int.ofNat (ns.getD (i / 2) 0) else zs.getD (i / 2-1) 0
theorem AX (a:Int) (p:List Int) (f:Nat->Int):bM (a::p) f=a*f 0+bM p fun i=>f (i+1):=rfl
theorem kP (p:List Int):∀(q:List Int) (f:Nat->Int),bM (f3 p q) f=bM p f+bM q f:=by
 induction p with
 |nil=>exact fun q f=>(Int.zero_add _).symm
 |cons a p ih=>
  intro q f;cases q with
  |nil=>
   show(a+0)*f 0+bM (f3 p []) _=a*f 0+bM p _+0
   (erw [ih];erw [Int.add_zero];with_reducible refine bx (Int.add_zero ..) ?_)
   exact congrArg (a*f 0+·) (Int.add_zero _)
  |cons b q=>
   show(a+b)*f 0+bM (f3 p q) _=a*f 0+bM p _+(b*f 0+bM q _)
   (erw [ih];erw [Int.add_mul])
   omega
theorem jO (c:Int) (p:List Int):∀f:Nat->Int,bM (fR c p) f=c*bM p f:=by
 induction p with
 |nil=>exact fun f=>(Int.mul_zero c).symm
 |cons a p ih=>
  intro f;show c*a*f 0+bM (fR c p) _=c*(a*f 0+bM p _)
  (erw [ih];erw [Int.mul_add];erw [Int.mul_assoc];with_reducible rfl)
theorem AV (i:Nat):∀f:Nat->Int,bM (lR i) f=f i:=by
 induction i with
 |zero=>exact fun f=>(Int.add_zero _).trans (Int.one_mul _)
 |succ i ih=>
  intro f;show 0*f 0+bM (lR i) _=_
  (erw [ih];erw [Int.zero_mul];erw [Int.zero_add];with_reducible rfl)
theorem NT.lin_ok (ns:List Nat) (zs:List Int) (x:NT):bM x.lin (val ns zs)=((x.den ns:Nat):Int):=by
 induction x with
 |v i=>
  refine(AV _ _).trans ?_;unfold val
  (erw [if_neg (by omega)];erw [if_pos (by omega)];with_reducible refine bx ((show(2*i+1) / 2=i by omega) ..) ?_);rfl
 |k n=>exact(Int.add_zero _).trans (Int.mul_one _)
 |a x y hx hy=>
  show bM (f3 x.lin y.lin) _=_
  (erw [kP];erw [hx];erw [hy]);rfl
 |m c x hx=>
  show bM (fR (Int.ofNat c) x.lin) _=_
  (erw [jO];erw [hx]);rfl
theorem ZT.lin_ok (ns:List Nat) (zs:List Int) (x:ZT):bM x.lin (val ns zs)=x.den ns zs:=by
 induction x with
 |w i=>
  refine(AV _ _).trans ?_;unfold val
  (erw [if_neg (by omega)];erw [if_neg (by omega)];with_reducible refine bx ((show(2*i+2) / 2-1=i by omega) ..) ?_);rfl
 |c x=>exact x.lin_ok ns zs
 |k n=>exact(Int.add_zero _).trans (Int.mul_one _)
 |a x y hx hy=>
  show bM (f3 x.lin y.lin) _=_
  (erw [kP];erw [hx];erw [hy]);rfl
 |s x y hx hy=>
  show bM (f3 x.lin (fR (-1) y.lin)) _=x.den ns zs-y.den ns zs
  (erw [kP];erw [jO];erw [hx];erw [hy]);omega
 |n x hx=>
  show bM (fR (-1) x.lin) _=-x.den ns zs
  (erw [jO];erw [hx]);omega
 |m c x hx=>
  show bM (fR (Int.ofNat c) x.lin) _=_
  (erw [jO];erw [hx]);rfl
theorem AW (x y:List Int) (f):bM (fH x y) f=bM y f-bM x f:=by unfold fH;(erw [kP];erw [jO]);omega
theorem KG (x y:List Int) (ns zs):bM (fY x y) (val ns zs)=bM y (val ns zs)-bM x (val ns zs)-1:=by
 unfold fY;(erw [kP];erw [AW]);rfl
def Ok (f:Nat->Int) (cs:List (List Int)):Prop:=∀c∈cs,0<=bM c f
theorem Ok.nil {f}:Ok f []:=fun uz h=>nomatch h
theorem Ok.cons {f c cs}(h:0<=bM c f) (k:Ok f cs):Ok f (c::cs):=fun d hd=>by
 cases hd with
 |head=>exact h
 |tail _ q=>exact k d q
theorem Ok.app {f cs ds}(h:Ok f cs) (k:Ok f ds):Ok f (cs++ds):=fun d hd=>(dI hd).elim (h d) (k d)
theorem Ok.elim {f cs}(i:Nat) (h:Ok f cs):Ok f (elim i cs):=by
 refine Ok.app (fun d hd=>h d (List.mem_filter.mp hd).1) fun d hd=>?_;refine ag (List.mem_flatMap.mp hd) ?_;intro p hp hd;refine ag (List.mem_map.mp hd) ?_;intro q hq y2;subst y2;have hp:=List.mem_filter.mp hp;have hq:=List.mem_filter.mp hq
 (erw [kP];erw [jO];erw [jO])
 exact Int.add_nonneg (Int.mul_nonneg (Int.neg_nonneg_of_nonpos (Int.le_of_lt (cK hq.2))) (h p hp.1)) (Int.mul_nonneg (Int.le_of_lt (cK hp.2)) (h q hq.1))
theorem KF (p:List Int) (h:p.all (·==0)=true):∀f,bM p f=0:=by
 induction p with
 |nil=>exact fun uz=>rfl
 |cons a p ih=>
  intro f;rw [List.all_cons,cD] at h
  (erw [AX];refine bx (ih h.2 ..) ?_;erw [eq_of_beq h.1];erw [Int.zero_mul];erw [Int.add_zero];with_reducible rfl)
theorem G7 {ns zs p}(h:0<=bM p (val ns zs)):¬kU p=true:=fun hb=>by
 unfold kU at hb;rw [cD] at hb;cases p with
 |nil=>exact absurd (cK hb.1) (by decide)
 |cons a r=>
  rw [AX,KF r hb.2,Int.add_zero] at h;exact absurd (cK hb.1) (Int.not_lt.mpr ((Int.mul_one a)▸h))
theorem zl {ns zs cs}(h:Ok (val ns zs) cs):cs.any kU=false:=List.any_eq_false.mpr fun p hp=>G7 (h p hp)
theorem JU {ns zs}(k:Nat):∀cs,Ok (val ns zs) cs->fm k cs=false:=by
 induction k with
 |zero=>exact fun cs h=>zl h
 |succ k ih=>
  intro cs h;show(cs.any kU||fm k (elim (k+1) cs))=false
  (erw [zl h];erw [ih _ (h.elim _)]);rfl
theorem Ha (ns zs n):Ok (val ns zs) (zo n):=fun d hd=>by
 refine ag (List.mem_map.mp hd) ?_;intro i _ y2;subst y2;exact(NT.lin_ok ns zs (.v i)).symm▸Int.natCast_nonneg _
theorem Gm {ns zs cs}(hr:yT cs=true):¬Ok (val ns zs) cs:=fun h=>
 Bool.false_ne_true ((JU _ _ ((Ha ns zs _).app h)).symm.trans hr)
theorem Jl {a b:Int}(h:a<=b):0<=b-a:=Int.sub_nonneg_of_le h
theorem Jk {a b:Int}(h:a<b):0<=b-a-1:=by omega
section
variable {ns:List Nat}{zs:List Int}{x y:List Int}{a b:Int}
theorem kt (hx:bM x (val ns zs)=a) (hy:bM y (val ns zs)=b) (h:a<=b):Ok (val ns zs) [fH x y]:=.cons (by(erw [AW];erw [hx];erw [hy]);exact Jl h) .nil
theorem kr (hx:bM x (val ns zs)=a) (hy:bM y (val ns zs)=b) (h:a<b):Ok (val ns zs) [fY x y]:=.cons (by(erw [KG];erw [hx];erw [hy]);exact Jk h) .nil
theorem zc (hx:bM x (val ns zs)=a) (hy:bM y (val ns zs)=b) (h:a=b):Ok (val ns zs) [fH x y,fH y x]:=(kt hx hy (Int.le_of_eq h)).app (kt hy hx (Int.le_of_eq h.symm))
theorem gz {cs:List (List Int)}(h:Ok (val ns zs) cs):∃c∈[cs],Ok (val ns zs) c:=(aj cs (.head _) h)
theorem zb (hx:bM x (val ns zs)=a) (hy:bM y (val ns zs)=b) (h:¬a=b):∃c∈[[fY x y],[fY y x]],Ok (val ns zs) c:=(Int.lt_or_gt_of_ne h).elim (fun q=>(aj _ (.head _) (kr hx hy q))) fun q=>(aj _ (.tail _ (.head _)) (kr hy hx q))
theorem nN {c d:List (List (List Int))}(h:∃a∈c,Ok (val ns zs) a) (k:∃a∈d,Ok (val ns zs) a):∃a∈kn c d,Ok (val ns zs) a:=
 h.elim fun a h=>k.elim fun b k=>(aj (a++b) (List.mem_flatMap.mpr (aj a h.1 (List.mem_map.mpr (aj b k.1 rfl)))) (h.2.app k.2))
theorem qM {c d:List (List (List Int))}(h:∃a∈c,Ok (val ns zs) a):∃a∈c++d,Ok (val ns zs) a:=h.elim fun a h=>(aj a (List.mem_append_left _ h.1) h.2)
theorem qJ {c d:List (List (List Int))}(h:∃a∈d,Ok (val ns zs) a):∃a∈c++d,Ok (val ns zs) a:=h.elim fun a h=>(aj a (List.mem_append_right _ h.1) h.2)
end
theorem AY (ns zs) (p:PT):(p.den ns zs->∃c∈p.dnf.1,Ok (val ns zs) c)/\(¬p.den ns zs->∃c∈p.dnf.2,Ok (val ns zs) c):=by
 induction p with
 |le x y=>exact⟨fun h=>gz (kt (x.lin_ok ns zs) (y.lin_ok ns zs) (Int.ofNat_le.mpr h)),fun h=>gz (kr (y.lin_ok ns zs) (x.lin_ok ns zs) (Int.ofNat_lt.mpr (Nat.lt_of_not_le h)))⟩
 |lt x y=>exact⟨fun h=>gz (kr (x.lin_ok ns zs) (y.lin_ok ns zs) (Int.ofNat_lt.mpr h)),fun h=>gz (kt (y.lin_ok ns zs) (x.lin_ok ns zs) (Int.ofNat_le.mpr (Nat.le_of_not_lt h)))⟩
 |eq x y=>exact⟨fun h=>gz (zc (x.lin_ok ns zs) (y.lin_ok ns zs) (congrArg Int.ofNat h)),fun h=>zb (x.lin_ok ns zs) (y.lin_ok ns zs) fun q=>h (Int.ofNat.inj q)⟩
 |Le x y=>exact⟨fun h=>gz (kt (x.lin_ok ns zs) (y.lin_ok ns zs) h),fun h=>gz (kr (y.lin_ok ns zs) (x.lin_ok ns zs) (Int.lt_of_not_ge h))⟩
 |Lt x y=>exact⟨fun h=>gz (kr (x.lin_ok ns zs) (y.lin_ok ns zs) h),fun h=>gz (kt (y.lin_ok ns zs) (x.lin_ok ns zs) (Int.le_of_not_gt h))⟩
 |Eq x y=>exact⟨fun h=>gz (zc (x.lin_ok ns zs) (y.lin_ok ns zs) h),fun h=>zb (x.lin_ok ns zs) (y.lin_ok ns zs) h⟩
 |and p q hp hq=>exact⟨fun h=>nN (hp.1 h.1) (hq.1 h.2),fun h=>(Classical.em (p.den ns zs)).elim (fun a=>qJ (hq.2 fun b=>h ⟨a,b⟩)) fun a=>qM (hp.2 a)⟩
 |or p q hp hq=>exact⟨fun h=>h.elim (fun a=>qM (hp.1 a)) fun b=>qJ (hq.1 b),fun h=>nN (hp.2 fun a=>h (.inl a)) (hq.2 fun b=>h (.inr b))⟩
 |imp p q hp hq=>exact⟨fun h=>(Classical.em (p.den ns zs)).elim (fun a=>qJ (hq.1 (h a))) fun a=>qM (hp.2 a),fun h=>nN (hp.1 (Classical.byContradiction fun a=>h fun b=>absurd b a)) (hq.2 fun b=>h fun uz=>b)⟩
 |not p hp=>exact⟨fun h=>hp.2 h,fun h=>hp.1 (Classical.byContradiction h)⟩
 |F=>exact⟨fun h=>h.elim,fun h=>gz .nil⟩
theorem lin (ns:List Nat) (zs:List Int) (ps:List PT) (g:PT) (h:i9 ps g=true) (hp:∀p∈ps,p.den ns zs):g.den ns zs:=Classical.byContradiction fun n=>by
 have all:∀ps:List PT,(∀p∈ps,p.den ns zs)->∃c∈ps.foldr (fun p a=>kn p.dnf.1 a) g.dnf.2,Ok (val ns zs) c:=fun ps=>by
  induction ps with
  |nil=>exact fun uz=>(AY ns zs g).2 n
  |cons p ps ih=>exact fun h=>nN ((AY ns zs p).1 (h p (.head _))) (ih fun q hq=>h q (.tail _ hq))
 exact(all ps hp).elim fun c hc=>Gm (List.all_eq_true.mp h c hc.1) hc.2
noncomputable def PT.sb (t x y:NT):PT:=.or (.and (.le y x) (.eq (.a t y) x)) (.and (.lt x y) (.eq t (.k 0)))
noncomputable def PT.mn (t x y:NT):PT:=.or (.and (.le x y) (.eq t x)) (.and (.lt y x) (.eq t y))
noncomputable def PT.mx (t x y:ZT):PT:=.or (.and (.Le x y) (.Eq t y)) (.and (.Lt y x) (.Eq t x))
noncomputable def PT.tn (t:NT) (x:ZT):PT:=.or (.and (.Le (.k 0) x) (.Eq (.c t) x)) (.and (.Lt x (.k 0)) (.eq t (.k 0)))
theorem bg (a b:Nat):(b<=a/\a-b+b=a)\/(a<b/\a-b=0):=(Nat.lt_or_ge a b).elim (fun h=>.inr ⟨h,Nat.sub_eq_zero_of_le (Nat.le_of_lt h)⟩) fun h=>.inl ⟨h,Nat.sub_add_cancel h⟩
theorem eg (a b:Nat):(a<=b/\min a b=a)\/(b<a/\min a b=b):=(Nat.lt_or_ge b a).elim (fun h=>.inr ⟨h,Nat.min_eq_right (Nat.le_of_lt h)⟩) fun h=>.inl ⟨h,Nat.min_eq_left h⟩
theorem rd (a b:Int):(a<=b/\max a b=b)\/(b<a/\max a b=a):=(Int.lt_or_le b a).elim (fun h=>.inr ⟨h,Int.max_eq_left (Int.le_of_lt h)⟩) fun h=>.inl ⟨h,Int.max_eq_right h⟩
theorem di (a:Int):(0<=a/\((a.toNat:Nat):Int)=a)\/(a<0/\a.toNat=0):=(Int.lt_or_le a 0).elim (fun h=>.inr ⟨h,Int.toNat_of_nonpos (Int.le_of_lt h)⟩) fun h=>.inl ⟨h,Int.toNat_of_nonneg h⟩
section
variable (ns:List Nat) (zs:List Int) (p1 p2 p3 p4 p5 p6 p7 g:PT)
noncomputable def Lj:=i9 [p1] g
noncomputable def Li:=i9 [p1,p2] g
noncomputable def Lh:=i9 [p1,p2,p3] g
noncomputable def Lg:=i9 [p1,p2,p3,p4] g
noncomputable def Lf:=i9 [p1,p2,p3,p4,p5] g
noncomputable def Ld:=i9 [p1,p2,p3,p4,p5,p6] g
theorem jH:∀p∈([]:List PT),p.den ns zs:=fun uz h=>nomatch h
theorem dE {p:PT}{ps:List PT}(h:p.den ns zs) (k:∀p∈ps,p.den ns zs):∀q∈p::ps,q.den ns zs:=fun q hq=>by
 cases hq with
 |head=>exact h
 |tail _ r=>exact k q r
theorem aH (h:i9 [] g=true:=by kernel_rfl):g.den ns zs:=lin ns zs _ g h (jH ns zs)
theorem al (h1:p1.den ns zs) (h:Lj p1 g=true:=by kernel_rfl):g.den ns zs:=lin ns zs _ g h (dE ns zs h1 (jH ns zs))
theorem aL (h1:p1.den ns zs) (h2:p2.den ns zs) (h:Li p1 p2 g=true:=by kernel_rfl):g.den ns zs:=lin ns zs _ g h (dE ns zs h1 (dE ns zs h2 (jH ns zs)))
theorem bQ (h1:p1.den ns zs) (h2:p2.den ns zs) (h3:p3.den ns zs) (h:Lh p1 p2 p3 g=true:=by kernel_rfl):g.den ns zs:=lin ns zs _ g h (dE ns zs h1 (dE ns zs h2 (dE ns zs h3 (jH ns zs))))
theorem f8 (h1:p1.den ns zs) (h2:p2.den ns zs) (h3:p3.den ns zs) (h4:p4.den ns zs) (h:Lg p1 p2 p3 p4 g=true:=by kernel_rfl):g.den ns zs:=lin ns zs _ g h (dE ns zs h1 (dE ns zs h2 (dE ns zs h3 (dE ns zs h4 (jH ns zs)))))
theorem IJ (h1:p1.den ns zs) (h2:p2.den ns zs) (h3:p3.den ns zs) (h4:p4.den ns zs) (h5:p5.den ns zs) (h:Lf p1 p2 p3 p4 p5 g=true:=by kernel_rfl):g.den ns zs:=lin ns zs _ g h (dE ns zs h1 (dE ns zs h2 (dE ns zs h3 (dE ns zs h4 (dE ns zs h5 (jH ns zs))))))
theorem II (h1:p1.den ns zs) (h2:p2.den ns zs) (h3:p3.den ns zs) (h4:p4.den ns zs) (h5:p5.den ns zs) (h6:p6.den ns zs) (h:Ld p1 p2 p3 p4 p5 p6 g=true:=by kernel_rfl):g.den ns zs:=lin ns zs _ g h (dE ns zs h1 (dE ns zs h2 (dE ns zs h3 (dE ns zs h4 (dE ns zs h5 (dE ns zs h6 (jH ns zs)))))))
end
end
section
set_option genInjectivity true in
inductive V where
 |none
 |bool (b:Bool)
 |int (i:Int)
 |str (x:List Nat)
 |bytes (b:List UInt8)
 |tup (vs:List V)
 |lst (vs:List V)
 |obj (n:Nat)
 |rng (a b c:Int)
 |val (v:Value)
inductive Cell where
 |list (vs:List V)
 |barr (b:List UInt8)
 |inst (C:Addr) (fs:List (Str×V))
abbrev Wd:=List (Addr×Addr)
noncomputable def tr (ws:Wd):List Addr:=ws.flatMap fun p=>[p.1,p.2]
mutual
def Rep (ws:Wd) (h:Heap):V->Value->Prop
 | .none,v=>v=.none
 | .bool b,v=>v=.bool b
 | .int i,v=>∃t,v=.int i t
 | .str x,v=>x.length<=sizeLine/\∃t,v=.str ⟨x.toArray⟩ t
 | .bytes b,v=>b.length<=sizeLine/\∃t,v=.bytes b.toArray t
 | .tup vs,v=>vs.length<=sizeLine/\∃a items,v=.ref a/\a∉tr ws/\IsTup h a (List.toArray items)/\Reps ws h vs items
 | .lst vs,v=>vs.length<=sizeLine/\∃a items,v=.ref a/\a∉tr ws/\h.IsList a (List.toArray items)/\Reps ws h vs items
 | .obj n,v=>∃p,ws[n]? = some p/\v=.ref p.1
 | .rng a b c,v=>∃r t u q,v=.ref r/\r∉tr ws/\IsRange h r a b c t u q
 | .val x,v=>v=x
def Reps (ws:Wd) (h:Heap):List V->List Value->Prop
 | [],l=>l=[]
 |a::r,l=>∃x xs,l=x::xs/\Rep ws h a x/\Reps ws h r xs
end
def Ch (o:Obj):Prop:=(∃xs n,o.data=.seq xs n)\/∃vs,o={cls:=.type "range",data:=.fields vs}
structure Mv (ws:Wd) (h:Heap) (ws':Wd) (h':Heap):Prop where
 seq:∀a o,a∉tr ws->h.get? a=some o->Ch o->h'.get? a=some o/\a∉tr ws'
 pre:∀(n:Nat) p,ws[n]? = some p->ws'[n]? = some p
mutual
theorem Rep.mv {ws h ws' h'}(m:Mv ws h ws' h'):∀{a:V}{v:Value},Rep ws h a v->Rep ws' h' a v
 | .none,_,r=>r
 | .bool _,_,r=>r
 | .int _,_,r=>r
 | .str _,_,r=>r
 | .bytes _,_,r=>r
 | .tup vs,_,r=>by
  refine af r ?_;clear r;intro hl y1;refine b0 y1 ?_;clear y1;intro a items y22 ht y24 hr;subst y22;refine a8 y24 ?_;clear y24;intro o ho hc y43;refine an y43 ?_;clear y43;intro n hd;refine af (m.seq a o ht ho (.inl (mS _ _ hd))) ?_;intro g1 g2;exact⟨hl,a,items,rfl,g2,(aQ o g1 hc ⟨n,hd⟩),Reps.mv m hr⟩
 | .lst vs,_,r=>by
  refine af r ?_;clear r;intro hl y1;refine b0 y1 ?_;clear y1;intro a items y22 ht y24 hr;subst y22;refine a8 y24 ?_;clear y24;intro o ho hc y43;refine an y43 ?_;clear y43;intro n hd;refine af (m.seq a o ht ho (.inl (mS _ _ hd))) ?_;intro g1 g2;exact⟨hl,a,items,rfl,g2,(aQ o g1 hc ⟨n,hd⟩),Reps.mv m hr⟩
 | .obj n,_,r=>by
  refine ag r ?_;clear r;intro p hp y2;subst y2;exact aj p (m.pre _ _ hp) rfl
 | .rng a b c,_,r=>by
  refine eX r ?_;clear r;intro p t u q y4 hp hr;subst y4;refine af (m.seq p _ hp hr (.inr ⟨_,rfl⟩)) ?_;intro g1 g2;exact jf p t u q rfl g2 g1
 | .val _,_,r=>r
theorem Reps.mv {ws h ws' h'}(m:Mv ws h ws' h'):∀{as:List V}{vs:List Value},Reps ws h as vs->Reps ws' h' as vs
 | [],_,r=>r
 |a::as,_,r=>by
  refine aY r ?_;clear r;intro x xs y2 h1 h2;subst y2;exact bj x xs rfl (Rep.mv m h1) (Reps.mv m h2)
end
theorem Mv.refl {ws h}:Mv ws h ws h:=⟨fun uz uz a b uz=>⟨b,a⟩,fun uz uz e=>e⟩
theorem Mv.trans {ws h ws' h' ws'' h''}(x:Mv ws h ws' h') (y:Mv ws' h' ws'' h''):Mv ws h ws'' h'':=
 ⟨fun a o b e d=>y.seq a o (x.seq a o b e d).2 (x.seq a o b e d).1 d,fun n p e=>y.pre _ _ (x.pre n p e)⟩
theorem Reps.nil_inv {ws h vs}(r:Reps ws h [] vs):vs=[]:=r
theorem Reps.length {ws h as}:∀{vs},Reps ws h as vs->vs.length=as.length:=by
 induction as with
 |nil=>intro vs r;cases r.nil_inv;rfl
 |cons a as ih=>intro vs r;(refine aY r ?_;clear r;intro x xs y2 _ h2;subst y2);exact congrArg (·+1) (ih h2)
theorem Reps.get {ws h as}:∀{vs},Reps ws h as vs->∀{i:Nat}{a},as[i]? = some a->∃v,vs[i]? = some v/\Rep ws h a v:=by
 induction as with
 |nil=>intro vs r i a e;cases e
 |cons b as ih=>
  intro vs r i a e;refine aY r ?_;clear r;intro x xs y2 h1 h2;subst y2;induction i with
  |zero=>cases e;exact aj x rfl h1
  |succ i=>exact ih h2 e
theorem Reps.nil {ws h}:Reps ws h [] []:=(rfl:([]:List Value)=[])
theorem Reps.cons {ws h a v as vs}(x:Rep ws h a v) (y:Reps ws h as vs):Reps ws h (a::as) (v::vs):=(bj _ _ rfl x y)
theorem Reps.one {ws h a v}(x:Rep ws h a v):Reps ws h [a] [v]:=.cons x .nil
theorem Reps.append {ws h as bs us}:∀{vs},Reps ws h as vs->Reps ws h bs us->Reps ws h (as++bs) (vs++us):=by
 induction as with
 |nil=>intro vs r q;cases r.nil_inv;exact q
 |cons a as ih=>intro vs r q;(refine aY r ?_;clear r;intro x xs y2 h1 h2;subst y2);exact .cons h1 (ih h2 q)
theorem Reps.drop {ws h as}:∀{vs},Reps ws h as vs->∀n:Nat,Reps ws h (as.drop n) (vs.drop n):=by
 induction as with
 |nil=>intro vs r n;cases r.nil_inv;(erw [List.drop_nil];erw [List.drop_nil]);exact .nil
 |cons a as ih=>
  intro vs r n;induction n with
  |zero=>exact r
  |succ n=>(refine aY r ?_;clear r;intro x xs y2 _ h2;subst y2);exact ih h2 n
theorem Reps.set {ws h as}:∀{vs},Reps ws h as vs->∀(n:Nat) {a v},Rep ws h a v->Reps ws h (as.set n a) (vs.set n v):=by
 induction as with
 |nil=>intro vs r n a v q;cases r.nil_inv;exact .nil
 |cons b as ih=>
  intro vs r n a v q;refine aY r ?_;clear r;intro x xs y2 h1 h2;subst y2;induction n with
  |zero=>exact .cons q h2
  |succ n=>exact .cons h1 (ih h2 n q)
theorem zP {α β:Type}{f:α->Option β}{x:α}{l:List α}{bs:List β}(h:(x::l).mapM f=some bs):∃b r,f x=some b/\l.mapM f=some r/\bs=b::r:=by
 rw [List.mapM_cons] at h;cases h1:f x with
 |none=>rw [h1] at h;cases h
 |some b=>cases h2:l.mapM f with
  |none=>rw [h1,h2] at h;cases h
  |some r=>rw [h1,h2] at h;cases h;exact bj b r rfl rfl rfl
theorem mapM_nil {α β:Type}{f:α->Option β}{bs:List β}(h:([]:List α).mapM f=some bs):bs=[]:=by
 rw [List.mapM_nil] at h;cases h;rfl
theorem lP {ws h}{β:Type}{f:V->Option β}{R:List β->List Value->Prop}(nil:R [] []) (cons:∀v b x bs xs,f v=some b->Rep ws h v x->R bs xs->R (b::bs) (x::xs)) {vs:List V}:∀{bs:List β}{items:List Value},vs.mapM f=some bs->Reps ws h vs items->R bs items:=by
 induction vs with
 |nil=>intro bs items e r;cases mapM_nil e;cases r.nil_inv;exact nil
 |cons v vs ih=>
  intro bs items e r;refine aY (zP e) ?_;intro b r' h1 h2 y4;subst y4;refine aY r ?_;clear r;intro x xs y2 r1 r2;subst y2;exact cons _ _ _ _ _ h1 r1 (ih h2 r2)
def Fields (P:Params) (ws:Wd) (h:Heap):List (Str×V)->List DictEntry->Prop
 | [],l=>l=[]
 |(x,a)::r,l=>∃t v es,l=⟨PyData.keyHash P x,.str x t,v⟩::es/\Rep ws h a v/\Fields P ws h r es
def CellAt (P:Params) (ws:Wd) (h:Heap) (p:Addr×Addr):Cell->Prop
 | .list vs=>p.2=p.1/\vs.length<=sizeLine/\∃items n,h.get? p.1=some {cls:=.type "list",data:=.seq (List.toArray items) n}/\Reps ws h vs items
 | .barr b=>p.2=p.1/\b.length<=sizeLine/\h.get? p.1=some {cls:=.type "bytearray",data:=.bytearray b.toArray 0}
 | .inst C fs=>p.1≠p.2/\h.get? p.1=some (instObj C p.2)/\∃es n,h.get? p.2=some (dictOf es n)/\Fields P ws h fs es
theorem Fields.mv {P ws h ws' h'}(m:Mv ws h ws' h'):∀{fs es},Fields P ws h fs es->Fields P ws' h' fs es
 | [],_,r=>r
 |(_,_)::_,_,r=>by
  refine cu r ?_;clear r;intro t v es y3 h1 h2;subst y3;exact dG t v es rfl (h1.mv m) (h2.mv m)
theorem CellAt.mv {P ws h ws' h' p c}(r:CellAt P ws h p c) (m:Mv ws h ws' h') (k1:∀o,h.get? p.1=some o->h'.get? p.1=some o) (k2:∀o,h.get? p.2=some o->h'.get? p.2=some o):CellAt P ws' h' p c:=by
 induction c with
 |list vs=>(refine be r ?_;clear r;intro e hl y2;refine bd y2 ?_;clear y2;intro items n ho hr);exact(aI e hl (bB items n (k1 _ ho) (hr.mv m)))
 |barr b=>(refine be r ?_;clear r;intro e hl q);exact aI e hl (k1 _ q)
 |inst C fs=>(refine be r ?_;clear r;intro e q1 y2;refine bd y2 ?_;clear y2;intro es n q2 q3);exact(aI e (k1 _ q1) (bB es n (k2 _ q2) (q3.mv m)))
theorem CellAt.there {P ws h p c}(r:CellAt P ws h p c):∀a∈[p.1,p.2],∃o,h.get? a=some o/\(∀vs,o.data≠.fields vs)/\(∀v,o.data≠.cell v)/\(∀f,o.data≠.func f):=by
 have two:∀{P:Addr->Prop},P p.1->P p.2->∀a∈[p.1,p.2],P a:=fun h1 h2 a ha=>by
  refine av (bC ha) ?_ ?_
  ·rintro rfl;exact h1
  ·intro ha
   (focus (refine aK (bC ha) ?_ ?_;intro ha;rotate_left;rintro rfl))
   ·exact h2
   ·cases ha
 induction c with
 |list vs=>
  refine be r ?_;clear r;intro e _ y2;refine bd y2 ?_;clear y2;intro items n ho _;have q:∃o,h.get? p.1=some o/\(∀vs,o.data≠.fields vs)/\(∀v,o.data≠.cell v)/\(∀f,o.data≠.func f):=(gM _ ho (by simp) (by simp) (by simp));exact two (P:=fun a=>∃o,h.get? a=some o/\(∀vs,o.data≠.fields vs)/\(∀v,o.data≠.cell v)/\(∀f,o.data≠.func f)) q (by erw [e];exact q)
 |barr b=>
  refine be r ?_;clear r;intro e _ ho;have q:∃o,h.get? p.1=some o/\(∀vs,o.data≠.fields vs)/\(∀v,o.data≠.cell v)/\(∀f,o.data≠.func f):=(gM _ ho (by simp) (by simp) (by simp));exact two (P:=fun a=>∃o,h.get? a=some o/\(∀vs,o.data≠.fields vs)/\(∀v,o.data≠.cell v)/\(∀f,o.data≠.func f)) q (by erw [e];exact q)
 |inst C fs=>
  refine be r ?_;clear r;intro _ h1 y2;refine bd y2 ?_;clear y2;intro es n h2 _;exact two (P:=fun a=>∃o,h.get? a=some o/\(∀vs,o.data≠.fields vs)/\(∀v,o.data≠.cell v)/\(∀f,o.data≠.func f)) (gM _ h1 (by simp) (by simp) (by simp)) (gM _ h2 (by simp) (by simp) (by simp))
structure Gd where
 prog:Program
 w:World
 K:Frag
 base:Heap
 p:Program
 loose:List Str
 mg:Str->Option Value
 mb:Str->Option Value
 tab:Addr
 tabC:Addr
 tabL:Int
 tabK:Int
 tabQ:Str
 X:K.In base
 T:TopRead p loose mg mb base
 tabFree:base.get? tab=none
 tabHd:CodeHd base tabC tab
 seer:base.NoSeer
 tree:prog.given.tree=none
structure Step (fr mu:List Addr) (h h':Heap):Prop where
 keep:∀b o,h.get? b=some o->b∉mu->b∉fr->h'.get? b=some o
 frk:∀b o,h.get? b=some o->b∉mu->b∈fr->∃sl,h'.get? b=some {o with slots:=sl}
 dom:∀b o,h.get? b=some o->∃o',h'.get? b=some o'
theorem Step.refl {fr mu h}:Step fr mu h h:=⟨fun uz uz e uz uz=>e,fun uz o e uz uz=>⟨o.slots,e⟩,fun uz o e=>⟨o,e⟩⟩
theorem Step.trans {fr mu mu1 h h1 h2}(x:Step fr mu h h1) (y:Step fr mu1 h1 h2) (hm:∀b∈mu1,b∈mu\/h.get? b=none):Step fr mu h h2:=by
 have out:∀b o,h.get? b=some o->b∉mu->b∉mu1:=fun b o e n q=>by
  refine av (hm b q) (fun q=>?_) fun q=>?_
  ·exact n q
  ·rw [e] at q;exact dy q
 refine⟨fun b o e n f=>y.keep b o (x.keep b o e n f) (out b o e n) f,fun b o e n f=>?_,fun b o e=>?_⟩
 ·refine an (x.frk b o e n f) ?_;intro sl e1;refine an (y.frk b _ e1 (out b o e n) f) ?_;intro sl' e2;exact⟨sl',e2⟩
 ·refine an (x.dom b o e) ?_;intro o1 e1;exact y.dom b o1 e1
theorem Step.of_keeps {fr mu h h'}(k:∀b o,h.get? b=some o->h'.get? b=some o):Step fr mu h h':=
 ⟨fun b o e uz uz=>k b o e,fun b o e uz uz=>⟨o.slots,k b o e⟩,fun b o e=>⟨o,k b o e⟩⟩
theorem Step.mono {fr fr' mu mu' h h'}(x:Step fr mu h h') (h1:∀b∈mu,b∈mu') (h2:∀b∈fr,b∈mu'\/b∈fr'):Step fr' mu' h h':=by
 refine⟨fun b o e n f=>x.keep b o e (fun q=>n (h1 b q)) fun q=>(h2 b q).elim n f,fun b o e n f=>?_,x.dom⟩;by_cases q:b∈fr
 ·exact x.frk b o e (fun q=>n (h1 b q)) q
 ·exact⟨o.slots,x.keep b o e (fun q=>n (h1 b q)) q⟩
structure Grow (ws:Wd) (h:Heap) (ws':Wd):Prop where
 pre:∀(n:Nat) p,ws[n]? = some p->ws'[n]? = some p
 new:∀a∈tr ws',a∉tr ws->h.get? a=none
theorem Grow.refl {ws h}:Grow ws h ws:=⟨fun uz uz e=>e,fun uz a b=>absurd a b⟩
theorem Grow.trans {fr mu ws h ws1 h1 ws2}(x:Grow ws h ws1) (s:Step fr mu h h1) (y:Grow ws1 h1 ws2):Grow ws h ws2:=by
 refine⟨fun n p e=>y.pre n p (x.pre n p e),fun a ha hn=>?_⟩;by_cases q:a∈tr ws1
 ·exact x.new a q hn
 ·cases e:h.get? a with
  |none=>rfl
  |some o=>
   refine an (s.dom a o e) ?_;intro o' e';rw [y.new a ha q] at e';exact ba e'
noncomputable abbrev d7 (frs:List Env):List Addr:=frs.filterMap (·.frame)
structure Amb (G:Gd) (frs:List Env) (ws:Wd) (st:List Cell) (h:Heap):Prop where
 base:G.base.StaysIn h
 frames:∀e∈frs,e.scope.kind≠.module/\∃L o es n,e.frame=some L/\h.get? L=some o/\o.data=.dict es n/\G.base.get? L=none/\L∉tr ws
 tab:∃ps,h.get? G.tab=some (tabObj ps)/\(ps=#[]\/∃c,ps=#[rawInt G.tabL,rawInt G.tabK,.ref c]/\c≠G.tab/\h.CodeRec (.ref c) G.tabQ)
 tabF:G.tab∉tr ws
 len:ws.length=st.length
 cells:∀(n:Nat) p c,ws[n]? = some p->st[n]? = some c->CellAt G.w.params ws h p c
 fresh:∀a∈tr ws,G.base.get? a=none
 apart:ws.Pairwise fun p q=>p.1≠q.1/\p.1≠q.2/\p.2≠q.1/\p.2≠q.2
structure Cx where
 env:Env
 frs:List Env
 own:List Addr
 nm:List Str
def VarAt (env:Env) (h:Heap) (m:Str->Option Value) (x:Str) (v:Value):Prop:=
 (env.kindOf x=some .local/\m x=some v)\/((env.kindOf x=some .cell\/env.kindOf x=some .free)/\∃c,env.cells.lookup x=some c/\h.IsCell c (some v))
structure Loc (G:Gd) (C:Cx) (ws:Wd) (loc:List (Option V)) (h:Heap):Prop where
 kind:C.env.scope.kind=.function
 glob:C.env.globals=mainGlobals
 blt:C.env.builtins=builtinsNs
 ns:∃m,h.Ns C.env.locals m/\∀(i:Nat) x a,C.nm[i]? = some x->loc[i]? = some (some a)->∃v,Rep ws h a v/\VarAt C.env h m x v
 cells:∀x c,C.env.cells.lookup x=some c->(∃v,h.IsCell c v)/\c∉tr ws/\G.base.get? c=none
 capart:∀x y c,C.env.cells.lookup x=some c->C.env.cells.lookup y=some c->x=y
 ownL:C.env.locals∈C.own
 own:∀a∈C.own,a=C.env.locals\/∃x,C.env.cells.lookup x=some a
 freshL:G.base.get? C.env.locals=none/\C.env.locals∉tr ws
 len:loc.length=C.nm.length
 nodup:C.nm.Nodup
 head:∃e l,C.frs=e::l/\e.scope.isGenerator=false/\e.scope.isCoroutine=false/\e.builtins=builtinsNs/\e.globals=mainGlobals
structure St where
 loc:List (Option V)
 st:List Cell
structure Rel (G:Gd) (C:Cx) (ws:Wd) (S:St) (h:Heap):Prop where
 amb:Amb G C.frs ws S.st h
 lc:Loc G C ws S.loc h
noncomputable abbrev mu (G:Gd) (C:Cx) (ws:Wd):List Addr:=G.tab::(C.own++tr ws)
noncomputable abbrev Cx.fr (C:Cx):List Addr:=d7 C.frs
theorem Mv.of_keeps {ws h h'}(k:∀b o,h.get? b=some o->h'.get? b=some o):Mv ws h ws h':=⟨fun a o n e uz=>⟨k a o e,n⟩,fun uz uz e=>e⟩
theorem fa {ws:Wd}{n:Nat}{p:Addr×Addr}(e:ws[n]? = some p):∀a∈[p.1,p.2],a∈tr ws:=fun a ha=>List.mem_flatMap.mpr (aj p (List.mem_of_getElem? e) ha)
theorem GX {ws:Wd}{a:Addr}(h:a∈tr ws):∃(n:Nat) (p:Addr×Addr),ws[n]? = some p/\a∈[p.1,p.2]:=by
 refine ag (List.mem_flatMap.mp h) ?_;intro p hp ha;refine an (List.getElem?_of_mem hp) ?_;intro n hn;exact bB n p hn ha
section
set_option backward.match.sparseCases true
variable {G:Gd}{C:Cx}{frs:List Env}{ws ws':Wd}{st st':List Cell}{S S':St}{h h':Heap}
theorem Amb.trThere (a:Amb G frs ws st h) {b:Addr}(hb:b∈tr ws):∃o,h.get? b=some o/\(∀vs,o.data≠.fields vs)/\(∀v,o.data≠.cell v)/\(∀f,o.data≠.func f):=by
 refine bd (GX hb) ?_;intro n p hn ha;have hl:n<st.length:=a.len▸(ce hn).1;exact(a.cells n p st[n] hn (by simp)).there b ha
theorem Amb.keeps (a:Amb G frs ws st h) (k:∀b o,h.get? b=some o->h'.get? b=some o):Amb G frs ws st h' where
 base:=fun b o e=>k b o (a.base b o e)
 frames:=fun e he=>let ⟨q1,L,o,es,n,q2,q3,q⟩:=a.frames e he;⟨q1,L,o,es,n,q2,k _ _ q3,q⟩
 tab:=let ⟨ps,q1,q2⟩:=a.tab;(aj ps (k _ _ q1) (q2.imp id fun⟨c,e,n,q⟩=>(aQ c e n (q.keeps k))))
 tabF:=a.tabF
 len:=a.len
 cells:=fun n p c e1 e2=>(a.cells n p c e1 e2).mv (Mv.of_keeps k) (fun o=>k _ o) fun o=>k _ o
 fresh:=a.fresh
 apart:=a.apart
theorem VarAt.keeps {env:Env}{m:Str->Option Value}{x:Str}{v:Value}(q:VarAt env h m x v) (k:∀c,env.cells.lookup x=some c->∀v,h.IsCell c v->h'.IsCell c v):VarAt env h' m x v:=
 q.imp id fun⟨a,c,b,d⟩=>⟨a,c,b,k c b _ d⟩
theorem Loc.keeps {loc:List (Option V)}(l:Loc G C ws loc h) (k:∀b o,h.get? b=some o->h'.get? b=some o):Loc G C ws loc h' where
 kind:=l.kind
 glob:=l.glob
 blt:=l.blt
 ns:=let ⟨m,q1,q2⟩:=l.ns;(aj m (q1.keeps k) (fun i x a e1 e2=>let ⟨v,q3,q4⟩:=q2 i x a e1 e2;(aj v (q3.mv (Mv.of_keeps k)) (q4.keeps fun uz uz uz d=>d.keeps k))))
 cells:=fun x c e=>let ⟨⟨v,q⟩,r⟩:=l.cells x c e;⟨⟨v,q.keeps k⟩,r⟩
 capart:=l.capart
 ownL:=l.ownL
 own:=l.own
 freshL:=l.freshL
 len:=l.len
 nodup:=l.nodup
 head:=l.head
theorem Rel.keeps (r:Rel G C ws S h) (k:∀b o,h.get? b=some o->h'.get? b=some o):Rel G C ws S h':=⟨r.amb.keeps k,r.lc.keeps k⟩
theorem Rel.notOwn (r:Rel G C ws S h) {a:Addr}{o:Obj}(e:h.get? a=some o) (h1:∀es n,o.data≠.dict es n) (h2:∀v,o.data≠.cell v):a∉C.own/\a∉C.fr:=by
 refine⟨fun q=>?_,fun q=>?_⟩
 ·refine av (r.lc.own a q) ?_ ?_
  ·rintro rfl;refine ag r.lc.ns ?_;intro m y1 _;refine cu y1 ?_;clear y1;intro o' es ep ho hd _;rw [e] at ho;cases ho;exact h1 _ _ hd
  ·intro y0;refine an y0 ?_;clear y0;intro x hx;refine af (r.lc.cells x a hx) ?_;intro y0 _;refine bd y0 ?_;clear y0;intro v o' ho hd;rw [e] at ho;cases ho;exact h2 _ hd
 ·refine ag (List.mem_filterMap.mp q) ?_;intro env he hf;refine af (r.amb.frames env he) ?_;intro _ y1;refine eW y1 ?_;clear y1;intro L o' es n q2 q3 q4 _;rw [hf] at q2;cases q2;rw [e] at q3;cases q3;exact h1 _ _ q4
theorem Rel.notTab (r:Rel G C ws S h) {a:Addr}{o:Obj}(e:h.get? a=some o) (h1:∀vs,o.data≠.fields vs):a≠G.tab:=by
 rintro rfl;refine ag r.amb.tab ?_;intro ps q _;rw [e] at q;cases q;exact h1 _ rfl
theorem Rel.mvOf (r:Rel G C ws S h) (s:Step C.fr (mu G C ws) h h') (g:Grow ws h ws'):Mv ws h ws' h':=by
 refine⟨fun a o n e hd=>?_,g.pre⟩;have hh:(∀es n,o.data≠.dict es n)/\(∀v,o.data≠.cell v)/\a≠G.tab:=by
  refine av hd ?_ ?_<;>clear hd
  ·intro y0;refine du y0 ?_;clear y0;intro xs k hd;exact aI (by simp [hd]) (by simp [hd]) (r.notTab e (by simp [hd]))
  ·intro y0;refine an y0 ?_;clear y0;intro vs y2;subst y2;refine aI (by simp) (by simp) ?_;rintro rfl;refine ag r.amb.tab ?_;intro ps q _;rw [e] at q;cases q
 refine af (r.notOwn e hh.1 hh.2.1) ?_;intro n1 n2;have n3:=hh.2.2;refine⟨s.keep a o e (fun q=>?_) n2,fun q=>?_⟩
 ·refine av (bC q) (fun q=>?_) fun q=>?_
  ·exact n3 q
  ·exact(dI q).elim n1 n
 ·rw [g.new a q n] at e;exact ba e
end
structure Out (G:Gd) (C:Cx) (ws:Wd) (s:Shared) (ws':Wd) (S':St) (s':Shared):Prop where
 rel:Rel G C ws' S' s'.heap
 step:Step C.fr (mu G C ws) s.heap s'.heap
 grow:Grow ws s.heap ws'
 gens:s'.gens=s.gens
 os:s'.os=s.os
section
set_option backward.match.sparseCases true
variable {G:Gd}{C:Cx}{ws ws1 ws2:Wd}{S S1 S2:St}{s s1 s2:Shared}
theorem Ir {fr:List Addr}(a:Step fr (mu G C ws) s.heap s1.heap) (g:Grow ws s.heap ws1):∀b∈mu G C ws1,b∈mu G C ws\/s.heap.get? b=none:=fun b hb=>by
 refine av (bC hb) ?_ ?_
 ·rintro rfl;exact .inl (.head _)
 ·intro hb;refine av (dI hb) (fun hb=>?_) fun hb=>?_
  ·exact .inl (.tail _ (List.mem_append_left _ hb))
  ·by_cases q:b∈tr ws
   ·exact .inl (.tail _ (List.mem_append_right _ q))
   ·exact .inr (g.new b hb q)
theorem Out.trans (a:Out G C ws s ws1 S1 s1) (b:Out G C ws1 s1 ws2 S2 s2):Out G C ws s ws2 S2 s2:=
 ⟨b.rel,a.step.trans b.step (Ir a.step a.grow),a.grow.trans a.step b.grow,b.gens.trans a.gens,b.os.trans a.os⟩
theorem Out.mv (r:Rel G C ws S s.heap) (a:Out G C ws s ws1 S1 s1):Mv ws s.heap ws1 s1.heap:=r.mvOf a.step a.grow
theorem Out.refl (r:Rel G C ws S s.heap):Out G C ws s ws S s:=⟨r,.refl,.refl,rfl,rfl⟩
theorem Out.of_keeps (r:Rel G C ws S s.heap) (k:∀b o,s.heap.get? b=some o->s1.heap.get? b=some o) (g:s1.gens=s.gens) (o:s1.os=s.os):Out G C ws s ws S s1:=
 ⟨r.keeps k,.of_keeps k,.refl,g,o⟩
end
structure Exn where
 cls:Addr
 spot:Int
def ExcObj (G:Gd) (h0 h:Heap) (e:Addr) (x:Exn) (at_:Value->Prop):Prop:=
 h0.get? e=none/\e≠G.tab/\∃oe vs d es n t,h.get? e=some oe/\oe.cls=.ref x.cls/\oe.data=.fields vs/\oe.dict=some d/\h.get? d=some (dictOf es n)/\h0.get? d=none/\
  getL "spot" es=some (some (.int x.spot t))/\4<vs.size/\
  ((vs[1]? = some .none/\at_ .none)\/∃T oT ts y,vs[1]? = some (.ref T)/\T≠e/\T≠d/\h0.get? T=none/\T≠G.tab/\h.get? T=some oT/\oT.cls=.type "traceback"/\ oT.data=.fields ts/\ts[3]? = some y/\at_ y)
theorem ExcObj.el {G h0 h e x}{at_:Value->Prop}{p:Prop}(r:ExcObj G h0 h e x at_) (k:h0.get? e=none->e≠G.tab->∀oe vs d es n t,h.get? e=some oe->oe.cls=.ref x.cls->oe.data=.fields vs->oe.dict=some d->h.get? d=some (dictOf es n)->h0.get? d=none->
  getL "spot" es=some (some (.int x.spot t))->4<vs.size->
  ((vs[1]? = some .none/\at_ .none)\/∃T oT ts y,vs[1]? = some (.ref T)/\T≠e/\T≠d/\h0.get? T=none/\T≠G.tab/\h.get? T=some oT/\oT.cls=.type "traceback"/\ oT.data=.fields ts/\ts[3]? = some y/\at_ y)->p):p:=by
 refine be r ?_;clear r;intro a1 a2 y2;refine tA y2 ?_;clear y2;intro oe vs d es n t b1 b2 b3 b4 b5 b6 b7 b8 b9;exact k a1 a2 oe vs d es n t b1 b2 b3 b4 b5 b6 b7 b8 b9
end
section
inductive ME where
 |loc (i:Nat)
 |cst (v:V)
 |bin (op:Operator) (l r:ME)
 |neg (e:ME)
 |not (e:ME)
 |cmp (l:ME) (op:CmpOp) (r:ME)
 |cmp2 (l:ME) (o1:CmpOp) (m:ME) (o2:CmpOp) (r:ME)
 |and (es:List ME)
 |or (es:List ME)
 |ite (t b o:ME)
 |call (f:ME) (args:List ME)
 |meth (o:ME) (name:Str) (args:List ME)
 |repl (o:ME) (y z:List Nat)
 |attr (o:ME) (name:Str)
 |sub (o i:ME)
 |cut (o:ME) (lo hi:Option ME)
 |tup (es:List ME)
 |lst (es:List ME)
 |newl (es:List ME)
 |comp (elt:ME) (mask:List Bool) (iter:ME) (ifs:List ME)
 |heardL (i:Nat)
 |heardM (i:Nat)
inductive MS where
 |expr (e:ME)
 |set (i:Nat) (e:ME)
 |setT (is:List Nat) (e:ME)
 |setAttr (o:ME) (name:Str) (e:ME)
 |setItem (o i e:ME)
 |aug (i:Nat) (op:Operator) (e:ME)
 |augAttr (i:Nat) (name:Str) (op:Operator) (e:ME)
 |ret (e:ME)
 |ite (t:ME) (b o:List MS)
 |while (t:ME) (b:List MS)
 |for (is:List Nat) (it:ME) (b:List MS)
 |raise (C:Addr) (args:List ME)
 |try (b:List MS) (C:Addr) (i:Nat) (z:Option (List Nat))
structure Cc where
 K:Frag
 scope:Scope
 nm:List Str
 code:Value
 qual:Str
 h:Option (Int×Int)
noncomputable def gd {α:Type}(b:Bool) (a:Option α):Option α:=bif b then a else none
noncomputable def fB {α β:Type}(a:Option α) (f:α->Option β) (g:Option β):Option β:=match a with
 |some x=>f x
 |none=>g
noncomputable def DA (o:Obj):Option {x:Option Addr×Array Value×Nat×Array (Option Value) // o=⟨.type "tuple",x.1,.seq x.2.1 x.2.2.1,x.2.2.2⟩}:=match o with
 |⟨.type "tuple",d,.seq items k,sl⟩=>some ⟨(d,items,k,sl),rfl⟩
 |_=>none
noncomputable def rF (f:Addr->Option V) (v:Value):Option V:=match v with
 | .none=>some .none
 | .bool b=>some (.bool b)
 | .int i _=>some (.int i)
 | .str x _=>gd (decide (x.cps.toList.length<=sizeLine)) (some (.str x.cps.toList))
 | .ref a=>f a
 |v=>some (.val v)
noncomputable def pA (K:Frag):Nat->Value->Option V
 | 0=>rF fun a=>some (.val (.ref a))
 |n+1=>rF fun a=>(K.lookup a).bind fun o=>fB (DA o) (fun t=>gd (decide (t.1.2.1.toList.length<=sizeLine)) ((t.1.2.1.toList.mapM (pA K n)).map .tup)) (some (.val (.ref a)))
noncomputable def LE (v:Value):Option V:=match v with
 | .type n=>some (.val (.type n))
 | .builtin n=>some (.val (.builtin n))
 |_=>none
noncomputable def gb (K:Frag) (x:Str):Option V:=(nsIn K mainGlobals x).bind fun o=>fB o (pA K 3) (gd (!(x =="__name__")) ((bootBuiltins x).bind LE))
noncomputable def cr (sc:Scope) (x:Str) (k:NameKind):Bool:=decide (sc.names.lookup x=some k)
noncomputable def rU (k:Const):Option V:=match k with
 | .none=>some .none
 | .bool b=>some (.bool b)
 | .int i=>some (.int i)
 | .str s=>gd (decide (s.cps.toList.length<=sizeLine)) (some (.str s.cps.toList))
 | .bytes b=>gd (decide (b.length<=sizeLine)) (some (.bytes b))
 |_=>none
noncomputable def idxOf? (nm:List Str) (x:Str):Option Nat:=nm.findIdx? (·==x)
noncomputable def cZ (x:Str):Bool:=!(x==("__debug__":Str))&&!(x==("__classdict__":Str))&&!(x==("super":Str))
noncomputable def Ja (sc:Scope) (x:Str):Bool:=cr sc x .local ||cr sc x .cell||cr sc x .free
noncomputable def noStar:List Expr->Bool
 | []=>true
 | .Starred ..::_=>false
 |_::r=>noStar r
noncomputable def fE (sc:Scope) (nm:List Str):List Bool:=nm.map fun x=>cr sc x .free
noncomputable def fZ (f:Expr->Option ME):List Expr->Option (List ME)
 | []=>some []
 |e::r=>(f e).bind fun a=>(fZ f r).map (a::·)
noncomputable def lZ:Expr->Bool
 | .Call (.Name id _) [] [] _=>id != ("super":Str)
 |_=>true
noncomputable def kR (c:Cc) (sc:Scope) (x:Str):Bool:=
 decide (sc.kind=.function)&&!(c.nm.contains x)&&cZ x&&cr sc x .local &&(sc.names.all fun p=>decide (p.2≠.cell))&&(sc.names.all fun p=>decide (p.2≠.local )||cr sc p.1 .local )&&
 (sc.names.all fun p=>decide (p.2≠.free)||cr c.scope p.1 .cell)&&decide ((sc.names.map (·.1)).Nodup)
noncomputable def z8:Expr->Bool
 | .Slice ..=>true
 |_=>false
noncomputable def fV:Expr->Bool
 | .ListComp ..=>true
 | .SetComp ..=>true
 | .DictComp ..=>true
 |_=>false
noncomputable def mz:Expr->Bool
 | .Set ..=>true
 |_=>false
noncomputable def c2 {α β γ:Type}(a:Option α) (b:Option β) (f:α->β->γ):Option γ:=a.bind fun x=>b.bind fun y=>some (f x y)
noncomputable def c3 {α β γ δ:Type}(a:Option α) (b:Option β) (d:Option γ) (f:α->β->γ->δ):Option δ:=a.bind fun x=>c2 b d (f x)
theorem oF {α β:Type}{a:Option α}{f:α->β}{m:β}(h:a.map f=some m):∃x,a=some x/\m=f x:=by
 induction a with
 |none=>cases h
 |some x=>cases h;exact aj x rfl rfl
theorem Lq {α β γ δ:Type}{a:Option α}{b:Option β}{d:Option γ}{f:α->β->γ->δ}{m:δ}(h:c3 a b d f=some m):∃x y w,a=some x/\b=some y/\d=some w/\m=f x y w:=by
 induction a with
 |none=>cases h
 |some x=>induction b with
  |none=>cases h
  |some y=>induction d with
   |none=>cases h
   |some w=>cases h;exact ed x y w rfl rfl rfl rfl
theorem rA {α:Type}{b:Bool}{a:Option α}(h:b=true):gd b a=a:=by erw [h];rfl
theorem dF {α:Type}{b:Bool}{a:Option α}{m:α}(h:gd b a=some m):b=true/\a=some m:=by
 induction b with
 |false=>cases h
 |true=>exact⟨rfl,h⟩
noncomputable def iD (c:Cc) (x:Str):Option Nat:=gd (cZ x&&Ja c.scope x) (idxOf? c.nm x)
theorem GK {α β:Type}{a:Option α}{f:α->Option β}{g:Option β}{m:β}(h:fB a f g=some m):(∃x,a=some x/\f x=some m)\/g=some m:=by
 induction a with
 |none=>exact .inr h
 |some x=>exact .inl (aj x rfl h)
theorem gl {α β:Type}{a:Option α}{f:α->Option β}{m:β}(h:a.bind f=some m):∃x,a=some x/\f x=some m:=by
 induction a with
 |none=>cases h
 |some x=>exact aj x rfl h
theorem bb {a b:Bool}(h:(a&&b)=true):a=true/\b=true:=by
 induction a with
 |false=>cases h
 |true=>exact⟨rfl,h⟩
theorem or2 {a b:Bool}(h:(a||b)=true):a=true\/b=true:=by
 induction a with
 |false=>exact .inr h
 |true=>exact .inl rfl
theorem qS {a:Bool}(h:(!a)=true):a=false:=by
 induction a with
 |false=>rfl
 |true=>cases h
theorem Lr {α β γ:Type}{a:Option α}{b:Option β}{f:α->β->γ}{m:γ}(h:c2 a b f=some m):∃x y,a=some x/\b=some y/\m=f x y:=by
 induction a with
 |none=>cases h
 |some x=>induction b with
  |none=>cases h
  |some y=>cases h;exact bj x y rfl rfl rfl
theorem l0 {x:Str}(h:cZ x=true):(x==("__debug__":Str))=false/\(x==("__classdict__":Str))=false:=
 ⟨qS (bb (bb h).1).1,qS (bb (bb h).1).2⟩
def ca {α:Type}(P:α->Prop) (o:Option α):Prop:=∀m,o=some m->P m
theorem dS {α:Type}{P:α->Prop}:ca P none:=fun uz h=>nomatch h
theorem iI {α:Type}{P:α->Prop}{a:α}(h:P a):ca P (some a):=fun uz e=>Option.some.inj e▸h
theorem ec {α β:Type}{P:β->Prop}{a:Option α}{f:α->β}(h:∀x,a=some x->P (f x)):ca P (a.map f):=by
 induction a with
 |none=>exact dS
 |some x=>exact iI (h x rfl)
theorem cI {α β:Type}{P:β->Prop}{a:Option α}{f:α->Option β}(h:∀x,a=some x->ca P (f x)):ca P (a.bind f):=by
 induction a with
 |none=>exact dS
 |some x=>exact h x rfl
theorem fK {α β γ:Type}{P:γ->Prop}{a:Option α}{b:Option β}{f:α->β->γ}(h:∀x y,a=some x->b=some y->P (f x y)):ca P (c2 a b f):=cI fun x hx=>cI fun y hy=>iI (h x y hx hy)
theorem jV {α β γ δ:Type}{P:δ->Prop}{a:Option α}{b:Option β}{d:Option γ}{f:α->β->γ->δ}(h:∀x y w,a=some x->b=some y->d=some w->P (f x y w)):ca P (c3 a b d f):=cI fun x hx=>fK fun y w hy hw=>h x y w hx hy hw
theorem cy {α:Type}{P:α->Prop}{b:Bool}{a:Option α}(h:b=true->ca P a):ca P (gd b a):=by
 induction b with
 |false=>exact dS
 |true=>exact h rfl
theorem oO {α β:Type}{P:β->Prop}{a:Option α}{f:α->Option β}{g:Option β}(h1:∀x,ca P (f x)) (h2:ca P g):ca P (fB a f g):=by
 induction a with
 |none=>exact h2
 |some x=>exact h1 x
noncomputable def f5 (e:Expr):Option {x:Str×Pos // e=.Name x.1 x.2}:=match e with
 | .Name x p=>some ⟨(x,p),rfl⟩
 |_=>none
noncomputable def sZ (e:Expr):Option {x:Expr×Str×Pos // e=.Attribute x.1 x.2.1 x.2.2}:=match e with
 | .Attribute o x p=>some ⟨(o,x,p),rfl⟩
 |_=>none
noncomputable def uR (e:Expr):Option {s:Str // ∃kd p,e=.Constant (.str s) kd p}:=match e with
 | .Constant (.str s) kd p=>some ⟨s,kd,p,rfl⟩
 |_=>none
noncomputable def oE (e:Expr):Option {x:Expr×List Expr×List Keyword×Pos // e=.Call x.1 x.2.1 x.2.2.1 x.2.2.2}:=match e with
 | .Call f as ks p=>some ⟨(f,as,ks,p),rfl⟩
 |_=>none
noncomputable def IU (e:Expr):Option {x:Arguments×Expr×Scope×Pos // e=.Lambda x.1 x.2.1 x.2.2.1 x.2.2.2}:=match e with
 | .Lambda ps b sc p=>some ⟨(ps,b,sc,p),rfl⟩
 |_=>none
noncomputable def Dz (e:Expr):Option {x:List Expr×Nat×Pos // e=.Tuple x.1 x.2.1 x.2.2}:=match e with
 | .Tuple es k p=>some ⟨(es,k,p),rfl⟩
 |_=>none
noncomputable def kq {α:Type}(l:List α):Option {a:α // l=[a]}:=match l with
 | [a]=>some ⟨a,rfl⟩
 |_=>none
theorem eP {α:Type}{l:List α}(h:l.isEmpty=true):l=[]:=by
 induction l with
 |nil=>rfl
 |cons=>cases h
noncomputable def zm (ps:Arguments):Bool:=ps.posonlyargs.isEmpty&&ps.args.isEmpty&&ps.vararg.isNone&&ps.kwonlyargs.isEmpty&&ps.kw_defaults.isEmpty&&ps.kwarg.isNone&&ps.defaults.isEmpty
noncomputable def Jq (c:Cc) (f:Str) (ps:Arguments) (sc:Scope) (lp:Pos) (x y:Str) (ap:Pos) (w:Str) (cp:Pos):Option (Bool×Nat):=
 gd (f==("_law_heard":Str)&&(y==("expect":Str)&&(w==("nowhere":Str)&&(zm ps&&(ap.endLine==cp.line&&(cr c.scope x .cell&&(cr c.scope f .globalImplicit&&(cZ x&&(cZ f&&
   (decide (sc.names=[(x,.free)])&&(decide (sc.kind=.function)&&(!sc.isGenerator&&(!sc.isCoroutine&&decide (c.h=some ((lp.line:Int),(lp.col:Int)))))))))))))))) ((idxOf? c.nm x).map (true,·))
noncomputable def Jp (c:Cc) (f x y:Str):Option (Bool×Nat):=
 gd (f==("_law_heard":Str)&&(y==("name":Str)&&(cr c.scope f .globalImplicit&&cZ f))) ((iD c x).map (false,·))
noncomputable def Jt (c:Cc) (f:Str) (a:Expr):Option (Bool×Nat):=fB (IU a)
 (fun l=>(oE l.1.2.1).bind fun q=>gd q.1.2.2.1.isEmpty ((sZ q.1.1).bind fun o=>(f5 o.1.1).bind fun n=>(kq q.1.2.1).bind fun k=>(uR k.1).bind fun w=>Jq c f l.1.1 l.1.2.2.1 l.1.2.2.2 n.1.1 o.1.2.1 o.1.2.2 w.1 q.1.2.2.2))
 ((sZ a).bind fun o=>(f5 o.1.1).bind fun n=>Jp c f n.1.1 o.1.2.1)
noncomputable def Ai (c:Cc) (e:Expr):Option (Bool×Nat):=
 (oE e).bind fun q=>gd q.1.2.2.1.isEmpty ((f5 q.1.1).bind fun f=>(kq q.1.2.1).bind fun a=>Jt c f.1.1 a.1)
noncomputable def zg (p:Pos):Bool:=[(177,17),(230,11),(278,17),(289,57)].contains (p.line,p.col)
noncomputable def HP (c:Cc) (x:Str):Option ME:=fB (iD c x) (fun i=>some (.loc i)) (gd (cZ x&&cr c.scope x .globalImplicit) ((gb c.K x).map .cst))
noncomputable def unM (op:UnaryOp) (a:Option ME):Option ME:=match op with
 | .USub=>a.map .neg
 | .Not=>a.map .not
 |_=>none
noncomputable def LC (op:BoolOp) (a:Option (List ME)):Option ME:=match op with
 | .And=>a.map .and
 | .Or=>a.map .or
noncomputable def K8 (f:Expr->Option ME) (l:Expr) (o1 o2:CmpOp) (m r:Expr):Option ME:=gd (!behindInMarks o1 m&&!behindInMarks o2 r) (c3 (f l) (f m) (f r) fun a b d=>.cmp2 a o1 b o2 d)
noncomputable def Bi (f:Expr->Option ME) (l:Expr) (ops:List CmpOp) (rs:List Expr):Option ME:=match ops with
 | []=>none
 |o1::os=>match rs with
  | []=>none
  |m::rs=>match os with
   | []=>gd (rs.isEmpty&&!behindInMarks o1 m) (c2 (f l) (f m) fun a b=>.cmp a o1 b)
   |o2::os=>match rs with
    | []=>none
    |r::rs=>gd (os.isEmpty&&rs.isEmpty) (K8 f l o1 o2 m r)
noncomputable def yO (l:List Expr):Option {x:Str×Str // ∃k1 p1 k2 p2,l=[.Constant (.str x.1) k1 p1,.Constant (.str x.2) k2 p2]}:=match l with
 | [.Constant (.str y) k1 p1,.Constant (.str z) k2 p2]=>some ⟨(y,z),k1,p1,k2,p2,rfl⟩
 |_=>none
noncomputable def zM (f:Expr->Option ME) (o:Expr) (x:Str) (ap:Pos) (args:List Expr) (cp:Pos):Option ME:=gd (ap.endLine==cp.line&&lZ o) (fB (gd (x==("replace":Str)) (yO args))
 (fun y=>gd (decide (y.1.1.cps.toList.length<=sizeLine)&&decide (y.1.2.cps.toList.length<=sizeLine)) ((f o).map fun a=>.repl a y.1.1.cps.toList y.1.2.cps.toList))
 (gd (noStar args&&decide (args.length<20)) (c2 (f o) (fZ f args) fun a as=>.meth a x as)))
noncomputable def Bk (f:Expr->Option ME) (g:Expr) (args:List Expr) (cp:Pos):Option ME:=fB (sZ g)
 (fun o=>zM f o.1.1 o.1.2.1 o.1.2.2 args cp)
 (gd ((f5 g).isSome&&(noStar args&&decide (args.length<20))) (c2 (f g) (fZ f args) .call))
noncomputable def qH (f:Expr->Option ME):Option Expr->Option (Option ME)
 |none=>some none
 |some e=>(f e).map some
noncomputable def ET (i:Expr):Option {x:Option Expr×Option Expr×Option Expr×Pos // i=.Slice x.1 x.2.1 x.2.2.1 x.2.2.2}:=match i with
 | .Slice lo hi st p=>some ⟨(lo,hi,st,p),rfl⟩
 |_=>none
noncomputable def uQ (f:Expr->Option ME) (o i:Expr):Option ME:=fB (ET i)
 (fun x=>gd (x.1.2.2.1.isNone&&(x.1.1.isSome||x.1.2.1.isSome)) (c3 (f o) (qH f x.1.1) (qH f x.1.2.1) .cut))
 (gd (!z8 i) (c2 (f o) (f i) .sub))
noncomputable def rX (rec:Cc->Expr->Option ME) (c:Cc) (elt:Expr) (sc:Scope) (g:Comprehension):Option ME:=(f5 g.target).bind fun x=>
 gd (kR c sc x.1.1&&(!mz g.iter&&decide (g.is_async=0))) (c3 (rec {c with scope:=sc,nm:=c.nm++[x.1.1],h:=none} elt) (rec c g.iter) (fZ (rec {c with scope:=sc,nm:=c.nm++[x.1.1],h:=none}) g.ifs) fun a b d=>.comp a (fE sc c.nm) b d)
noncomputable def oB (rec:Cc->Expr->Option ME) (c:Cc) (e:Expr):Option ME:=match e with
  | .Constant k _ _=>(rU k).map .cst
  | .Name x _=>HP c x
  | .BinOp l op r _=>c2 (rec c l) (rec c r) fun a b=>.bin op a b
  | .UnaryOp op e _=>unM op (rec c e)
  | .Compare l ops rs _=>Bi (rec c) l ops rs
  | .BoolOp op es _=>LC op (fZ (rec c) es)
  | .IfExp t b o _=>c3 (rec c t) (rec c b) (rec c o) .ite
  | .Call f args ks cp=>gd ks.isEmpty (Bk (rec c) f args cp)
  | .Attribute o x _=>gd (f5 o).isSome ((rec c o).map fun a=>.attr a x)
  | .Subscript o i _=>uQ (rec c) o i
  | .Tuple es _ _=>gd (noStar es) ((fZ (rec c) es).map .tup)
  | .List es p=>gd (noStar es) ((fZ (rec c) es).map fun ms=>bif zg p then .newl ms else .lst ms)
  | .ListComp elt gens sc _=>(kq gens).bind fun g=>rX rec c elt sc g.1
  |_=>none
noncomputable def kJ (c:Cc) (e:Expr):Option ME:=(gd c.h.isSome (Ai c e)).map fun p=>if p.1 then .heardL p.2 else .heardM p.2
noncomputable def fh:Nat->Cc->Expr->Option ME
 | 0,_,_=>none
 |n+1,c,e=>fB (kJ c e) some (oB (fh n) c e)
noncomputable def dU (c:Cc) (x:Str):Option Nat:=gd (cZ x&&(cr c.scope x .local ||cr c.scope x .cell)) (idxOf? c.nm x)
noncomputable def jt (c:Cc):List Expr->Option (List Nat)
 | []=>some []
 |e::r=>(f5 e).bind fun x=>c2 (dU c x.1.1) (jt c r) List.cons
noncomputable def gi (f:Stmt->Option MS):List Stmt->Option (List MS)
 | []=>some []
 |e::r=>(f e).bind fun a=>(gi f r).map (a::·)
noncomputable def pD:Expr->Bool
 | .Tuple vs _ _=>!(vs.all (constantsAlone 8))
 |_=>true
noncomputable def uZ (y:Str) (e:Expr):Option {p:Pos×Pos // e=.Attribute (.Name y p.1) ("spot":Str) p.2}:=match e with
 | .Attribute (.Name y2 p) a q=>if h:y2=y/\a=("spot":Str) then some ⟨(p,q),by(erw [h.1];erw [h.2];with_reducible rfl)⟩ else none
 |_=>none
noncomputable def JA (y:Str):List Expr->Option (Option (List Nat))
 | []=>none
 |a::r=>(uR a).bind fun z=>(kq r).bind fun b=>(uZ y b.1).bind fun uz=>gd (decide (z.1.cps.toList.length<=sizeLine)) (some (some z.1.cps.toList))
noncomputable def mD (y:Str) (e:Expr):Option (Option (List Nat)):=fB (uZ y e) (fun uz=>some none) ((Dz e).bind fun t=>JA y t.1.1)
noncomputable def Go (v:V):Option {C:Addr // v=.val (.ref C)}:=match v with
 | .val (.ref C)=>some ⟨C,rfl⟩
 |_=>none
noncomputable def rL (c:Cc) (e:Expr):Option Addr:=(f5 e).bind fun x=>gd (cZ x.1.1&&cr c.scope x.1.1 .globalImplicit) ((gb c.K x.1.1).bind fun v=>(Go v).map (·.1))
noncomputable def BH (f:Expr->Option ME) (c:Cc) (e:Expr) (t:Expr):Option MS:=match t with
 | .Name x _=>c2 (dU c x) (f e) .set
 | .Tuple ts _ _=>gd (!fV e&&pD e) (c2 ((jt c ts).bind fun is=>gd (decide is.Nodup) (some is)) (f e) .setT)
 | .Attribute o x _=>gd (!fV e&&(f5 o).isSome) (c2 (f o) (f e) fun o a=>.setAttr o x a)
 | .Subscript o i _=>gd (!fV e&&(f5 o).isSome) (c3 (f o) (f i) (f e) .setItem)
 |_=>none
noncomputable def BC (f:Expr->Option ME) (c:Cc) (op:Operator) (e:Expr) (t:Expr):Option MS:=match t with
 | .Name x _=>c2 (dU c x) (f e) fun i a=>.aug i op a
 | .Attribute o x _=>(f5 o).bind fun y=>c2 (iD c y.1.1) (f e) fun o a=>.augAttr o x op a
 |_=>none
noncomputable def uM (c:Cc) (t:Expr):Option (List Nat):=match t with
 | .Name x _=>(dU c x).map fun i=>[i]
 | .Tuple ts _ _=>(jt c ts).bind fun is=>gd (decide (2<=is.length)) (some is)
 |_=>none
noncomputable def yW (f:Expr->Option ME) (c:Cc) (e:Expr):Option MS:=(oE e).bind fun q=>gd (q.1.2.2.1.isEmpty&&noStar q.1.2.1) (c2 (rL c q.1.1) (fZ f q.1.2.1) .raise)
noncomputable def Gi (s:Stmt):Option {x:Expr×Pos // s=.Return (some x.1) x.2}:=match s with
 | .Return (some e) p=>some ⟨(e,p),rfl⟩
 |_=>none
noncomputable def uI (c:Cc) (b:Option (List MS)) (x:Expr) (y:Str) (r:Stmt):Option MS:=(Gi r).bind fun e=>gd (cr c.scope y .local ) (c2 (rL c x) (c3 b (dU c y) (mD y e.1.1) fun b i z=>(b,i,z)) fun C p=>.try p.1 C p.2.1 p.2.2)
noncomputable def Aj (h:ExceptHandler):Option {x:Expr×Str×Stmt×Pos // h=.ExceptHandler (some x.1) (some x.2.1) [x.2.2.1] x.2.2.2}:=match h with
 | .ExceptHandler (some t) (some y) [r] p=>some ⟨(t,y,r,p),rfl⟩
 |_=>none
noncomputable def Bb (f:Expr->Option ME) (g:Stmt->Option MS) (c:Cc) (s:Stmt):Option MS:=match s with
  | .Expr e _=>gd (oE e).isSome ((f e).map .expr)
  | .Assign ts e _=>(kq ts).bind fun t=>BH f c e t.1
  | .AugAssign t op e _=>BC f c op e t
  | .Return e _=>e.bind fun e=>(f e).map .ret
  | .If t b o _=>c3 (f t) (gi g b) (gi g o) .ite
  | .While t b o _=>gd o.isEmpty (c2 (f t) (gi g b) .while)
  | .For t it b o _=>gd (o.isEmpty&&!mz it) (c3 (uM c t) (f it) (gi g b) .for)
  | .Raise e cs _=>gd cs.isNone (e.bind (yW f c))
  | .Try b hs o fin _=>gd (o.isEmpty&&fin.isEmpty) ((kq hs).bind fun h=>(Aj h.1).bind fun p=>uI c (gi g b) p.1.1 p.1.2.1 p.1.2.2.1)
  |_=>none
noncomputable def oA:Nat->Cc->Stmt->Option MS
 | 0,_,_=>none
 |n+1,c,s=>Bb (fh n c) (oA n c) c s
end
section
noncomputable def S_ (x:List Nat):Str:=⟨x.toArray⟩
structure Fx where
 fn:Addr->List V->List Cell->(V->List Cell->Prop)->(Exn->List Cell->Prop)->Prop
 dict:Addr->Option (List (List Nat×Int))
 meth:Addr->Str->Option Addr
 heardL:V->List Cell->(V->List Cell->Prop)->Prop
 heardM:V->List Cell->(V->List Cell->Prop)->Prop
 z:Bool
 field:Addr->Str->Bool
 exc:Addr->Bool
 lo:Nat
abbrev QE:=V->St->Prop
abbrev XE:=Exn->St->Prop
noncomputable def kF:Cell->Option (List V)
 | .list vs=>some vs
 |_=>none
theorem zU {c:Cell}{vs:List V}(h:kF c=some vs):c=.list vs:=by
 induction c with
 |list ys=>cases h;rfl
 |_=>cases h
noncomputable def bY (st:List Cell):V->Option (List V)
 | .lst vs=>some vs
 | .obj n=>st[n]?.bind kF
 |_=>none
theorem fU {st:List Cell}{n:Nat}{vs:List V}(h:st[n]? = some (.list vs)):bY st (.obj n)=some vs:=(congrArg (Option.bind · kF) h).trans rfl
noncomputable def eM:V->Option (List Nat)
 | .str x=>some x
 |_=>none
noncomputable def EA (st:List Cell):V->Option (List (List Nat))
 | .tup vs=>vs.mapM eM
 |a=>(bY st a).bind fun vs=>vs.mapM eM
noncomputable def n7:V->Option Int
 | .int x=>some x
 |_=>none
noncomputable def mI:V->Option (List UInt8)
 | .bytes x=>some x
 |_=>none
theorem uT {v:V}{y:List Nat}(h:eM v=some y):v=.str y:=by
 induction v using V.casesOn with
 |str z=>cases h;rfl
 |_=>cases h
theorem Je {v:V}{y:Int}(h:n7 v=some y):v=.int y:=by
 induction v using V.casesOn with
 |int z=>cases h;rfl
 |_=>cases h
theorem Lu {v:V}{y:List UInt8}(h:mI v=some y):v=.bytes y:=by
 induction v using V.casesOn with
 |bytes z=>cases h;rfl
 |_=>cases h
noncomputable def gF (x y:List Nat):Bool:=!(Builtin.Str.occurrences (S_ x) (S_ y) 0 x.length 1).isEmpty
mutual
noncomputable def V.flat:V->Bool
 | .none=>true
 | .bool _=>true
 | .int _=>true
 | .str _=>true
 | .bytes _=>true
 | .tup vs=>Ay vs
 |_=>false
noncomputable def Ay:List V->Bool
 | []=>true
 |a::r=>a.flat&&Ay r
end
noncomputable def gJ:V->Bool
 | .none=>true
 | .bool _=>true
 | .int _=>true
 | .str _=>true
 | .bytes _=>true
 |_=>false
def bu (a:V) (k:Int->Prop):Prop:=match a with
 | .int x=>k x
 |_=>False
def dD (a:V) (k:Bool->Prop):Prop:=match a with
 | .bool x=>k x
 |_=>False
def isStr (a:V) (k:List Nat->Prop):Prop:=match a with
 | .str x=>k x
 |_=>False
def rt (a:V) (k:List UInt8->Prop):Prop:=match a with
 | .bytes x=>k x
 |_=>False
def jG (a:V) (k:List V->Prop):Prop:=match a with
 | .tup x=>k x
 |_=>False
def mB (a:V) (k:Addr->Prop):Prop:=match a with
 | .val (.ref d)=>k d
 |_=>False
def iC (st:List Cell) (a:V) (k:List V->Prop):Prop:=match a with
 | .lst x=>k x
 |a=>∃x,bY st a=some x/\k x
def fe (o:Option (Option V)) (k:V->Prop):Prop:=match o with
 |some (some a)=>k a
 |_=>False
theorem da {a:V}{k:Int->Prop}(h:bu a k):∃x,a=.int x/\k x:=by
 induction a using V.casesOn with
 |int x=>exact aj x rfl h
 |_=>exact h.elim
theorem mC {a:V}{k:Bool->Prop}(h:dD a k):∃x,a=.bool x/\k x:=by
 induction a using V.casesOn with
 |bool x=>exact aj x rfl h
 |_=>exact h.elim
theorem f9 {a:V}{k:List Nat->Prop}(h:isStr a k):∃x,a=.str x/\k x:=by
 induction a using V.casesOn with
 |str x=>exact aj x rfl h
 |_=>exact h.elim
theorem Ab {a:V}{k:List UInt8->Prop}(h:rt a k):∃x,a=.bytes x/\k x:=by
 induction a using V.casesOn with
 |bytes x=>exact aj x rfl h
 |_=>exact h.elim
theorem n5 {a:V}{k:List V->Prop}(h:jG a k):∃x,a=.tup x/\k x:=by
 induction a using V.casesOn with
 |tup x=>exact aj x rfl h
 |_=>exact h.elim
theorem n6 {a:V}{k:Addr->Prop}(h:mB a k):∃d,a=.val (.ref d)/\k d:=by
 induction a using V.casesOn with
 |val v=>induction v with
  |ref d=>exact aj d rfl h
  |_=>exact h.elim
 |_=>exact h.elim
theorem md {st:List Cell}{a:V}{k:List V->Prop}(h:iC st a k):∃x,bY st a=some x/\k x:=by
 induction a using V.casesOn with
 |lst x=>exact aj x rfl h
 |_=>exact h
theorem mq {o:Option (Option V)}{k:V->Prop}(h:fe o k):∃a,o=some (some a)/\k a:=by
 induction o with
 |none=>exact h.elim
 |some o=>induction o with
  |none=>exact h.elim
  |some a=>exact aj a rfl h
def i0 (as:List V) (p:Prop):Prop:=match as with
 | []=>p
 |_::_=>False
theorem jB {as:List V}{p:Prop}(h:i0 as p):as=[]/\p:=by
 induction as with
 |nil=>exact⟨rfl,h⟩
 |cons=>exact h.elim
def gk (b:Bool) (p:Prop):Prop:=match b with
 |true=>p
 |false=>False
theorem jR {b:Bool}{p:Prop}(h:gk b p):b=true/\p:=by
 induction b with
 |true=>exact⟨rfl,h⟩
 |false=>exact h.elim
noncomputable def short:Nat->List V->Bool
 | 0,_=>false
 |_+1,[]=>true
 |n+1,_::r=>short n r
theorem E0 {vs:List V}:∀{n:Nat},short n vs=true->vs.length<=n:=by
 induction vs with
 |nil=>exact fun{_} _=>Nat.zero_le _
 |cons a r ih=>
  intro n h;induction n with
  |zero=>cases h
  |succ n=>exact Nat.succ_le_succ (ih (n:=n) h)
def na (vs:List V) (j:Int) (k:V->Prop):Prop:=fe ((seqIndex? j vs.length).map fun n=>vs[n]?) k
def BM (st:List Cell) (a b:V) (k:V->Prop):Prop:=match a with
 | .int x=>bu b fun y=>k (.int (x+y))
 | .str x=>isStr b fun y=>x.length+y.length<=sizeLine/\k (.str (x++y))
 |a=>iC st a fun x=>iC st b fun y=>x.length+y.length<=sizeLine/\k (.lst (x++y))
def zK (a b:V) (k:V->Prop):Prop:=match a with
 | .int x=>bu b fun y=>IntMulOk x y/\k (.int (x*y))
 | .str x=>bu b fun n=>0<n/\n<=1000/\x.length<=1000/\k (.str (List.replicate n.toNat x).flatten)
 |_=>False
def fJ (op:Operator) (st:List Cell) (a b:V) (k:V->Prop):Prop:=
 match op with
 | .Add=>BM st a b k
 | .Sub=>bu a fun x=>bu b fun y=>k (.int (x-y))
 | .Mult=>zK a b k
 | .FloorDiv=>bu a fun x=>bu b fun y=>0<y/\k (.int (x / y))
 | .Mod=>bu a fun x=>bu b fun y=>0<y/\k (.int (x % y))
 | .Pow=>bu a fun x=>bu b fun y=>0<=y/\(Builtin.Int.intBits x:Int)*y<=2 ^ 27/\k (.int (x ^ y.toNat))
 |_=>False
noncomputable def isNone:V->Bool
 | .none=>true
 |_=>false
def qT (a b:V) (k:Bool->Prop):Prop:=match b with
 | .none=>(∀x,a≠.val x)/\k (isNone a)
 |_=>False
def rN (st:List Cell) (a:V) (k:Bool->Prop):V->Prop
 | .lst []=>iC st a fun x=>k (!x.isEmpty)
 |_=>False
def AO (a b:V) (k:Bool->Prop):Prop:=match a with
 | .int x=>bu b fun y=>k (decide (x=y))
 | .str x=>isStr b fun y=>k (decide (x=y))
 | .tup x=>jG b fun y=>x=y/\x.all gJ=true/\k true
 |_=>False
def zu (st:List Cell) (a b:V) (k:Bool->Prop):Prop:=match a with
 | .int x=>bu b fun y=>k (!decide (x=y))
 | .str x=>isStr b fun y=>k (!decide (x=y))
 | .bool x=>dD b fun y=>k (x != y)
 | .bytes x=>rt b fun y=>k (!decide (x=y))
 | .tup x=>jG b fun y=>x=y/\x.all gJ=true/\k false
 |a=>rN st a k b
def kI (st:List Cell) (x:List Nat) (b:V) (k:Bool->Prop):Prop:=match b with
 | .str y=>k (gF y x)
 | .tup vs=>∃ys,vs.mapM eM=some ys/\k (ys.contains x)
 | .lst vs=>∃ys,vs.mapM eM=some ys/\k (ys.contains x)
 |c=>∃ys,EA st c=some ys/\k (ys.contains x)
def Af (D:Addr->Option (List (List Nat×Int))) (st:List Cell) (x:List Nat) (b:V) (k:Bool->Prop):Prop:=match b with
 | .val v=>mB (.val v) fun d=>∃t,D d=some t/\k (t.lookup x).isSome
 |b=>kI st x b k
def cG (D:Addr->Option (List (List Nat×Int))) (op:CmpOp) (st:List Cell) (a b:V) (k:Bool->Prop):Prop:=
 match op with
 | .Eq=>AO a b k
 | .NotEq=>zu st a b k
 | .Lt=>bu a fun x=>bu b fun y=>k (decide (x<y))
 | .LtE=>bu a fun x=>bu b fun y=>k (decide (x<=y))
 | .Gt=>bu a fun x=>bu b fun y=>k (decide (y<x))
 | .GtE=>bu a fun x=>bu b fun y=>k (decide (y<=x))
 | .In=>isStr a fun x=>Af D st x b k
 | .NotIn=>isStr a fun x=>kI st x b fun c=>k (!c)
 | .Is=>qT a b k
 | .IsNot=>qT a b fun c=>k (!c)
def f2 (D:Addr->Option (List (List Nat×Int))) (st:List Cell) (o i:V) (k:V->Prop):Prop:=
 match o with
 | .str x=>bu i fun j=>∃n c,seqIndex? j x.length=some n/\x[n]? = some c/\k (.str [c])
 | .tup vs=>bu i fun j=>na vs j k
 | .lst vs=>bu i fun j=>∃n a,seqIndex? j vs.length=some n/\vs[n]? = some a/\k a
 | .val v=>mB (.val v) fun d=>isStr i fun x=>∃t n,D d=some t/\t.lookup x=some n/\k (.int n)
 |o=>bu i fun j=>∃vs n a,bY st o=some vs/\seqIndex? j vs.length=some n/\vs[n]? = some a/\k a
noncomputable def cW {α:Type}(x:List α) (lo hi:Option Int):List α:=(x.take ((hi.map Int.toNat).getD x.length)).drop ((lo.map Int.toNat).getD 0)
def KR (x:List Nat) (lo hi:Option V) (k:V->Prop):Prop:=match lo with
 |some l=>bu l fun l=>(match hi with
  |some u=>bu u fun u=>0<=l/\0<=u/\k (.str (cW x (some l) (some u)))
  |none=>0<=l/\k (.str (cW x (some l) none)))
 |none=>match hi with
  |some u=>bu u fun u=>0<=u/\k (.str (cW x none (some u)))
  |none=>False
def A8 (st:List Cell) (o:V) (lo hi:Option V) (k:V->Prop):Prop:=match lo with
 |some l=>bu l fun l=>gk hi.isNone (iC st o fun vs=>0<=l/\k (.lst (vs.drop l.toNat)))
 |none=>False
def jP (st:List Cell) (o:V) (lo hi:Option V) (k:V->Prop):Prop:=match o with
 | .str x=>KR x lo hi k
 |o=>A8 st o lo hi k
noncomputable def kD:List Int->Int
 | []=>0
 |x::r=>r.foldl (fun m y=>if m<y then y else m) x
noncomputable def gX:V->Option UInt8
 | .int x=>if 0<=x/\x<256 then some (UInt8.ofNat x.toNat) else none
 |_=>none
theorem GZ {v:V}{y:UInt8}(h:gX v=some y):∃n,v=.int n/\(0<=n/\n<256)/\y=UInt8.ofNat n.toNat:=by
 induction v using V.casesOn with
 |int n=>
  have h:(if 0<=n/\n<256 then some (UInt8.ofNat n.toNat) else none)=some y:=h;by_cases hc:0<=n/\n<256
  ·rw [if_pos hc] at h;cases h;exact aQ n rfl hc rfl
  ·rw [if_neg hc] at h;exact ba h
 |_=>cases h
def IL (a:V) (S:St) (k:V->St->Prop):Prop:=
 match a with
 | .str x=>k (.int x.length) S
 |a=>iC S.st a fun vs=>k (.int vs.length) S
def Bl (a:V) (S:St) (k:V->St->Prop):Prop:=
 match a with
 | .obj n=>∃b,S.st[n]? = some (.barr b)/\k (.bytes b) S
 | .lst vs=>∃b,vs.mapM gX=some b/\k (.bytes b) S
 |_=>False
def se (n:String) (a:V) (S:St) (k:V->St->Prop):Prop:=
 if n ="len" then IL a S k else if n ="ord" then isStr a fun x=>∃c,x=[c]/\k (.int c) S
  else if n ="max" then ∃vs is,bY S.st a=some vs/\vs.mapM n7=some is/\is≠[]/\k (.int (kD is)) S else False
def sd (n:String) (a b:V) (S:St) (k:V->St->Prop):Prop:=
 if n ="min" then bu a fun x=>bu b fun y=>k (.int (if y<x then y else x)) S else if n ="max" then bu a fun x=>bu b fun y=>k (.int (if x<y then y else x)) S else False
def Br (n:String) (as:List V) (S:St) (k:V->St->Prop):Prop:=
 match as with
 | []=>False
 |a::r=>match r with
  | []=>se n a S k
  |b::r=>i0 r (sd n a b S k)
def r7 (n:String) (a:V) (S:St) (k:V->St->Prop):Prop:=
 if n ="str" then bu a fun x=>x=100/\k (.str [49,48,48]) S else if n ="int" then dD a fun b=>k (.int (if b then 1 else 0)) S
  else if n ="bytes" then Bl a S k else if n ="list" then ∃vs,bY S.st a=some vs/\k (.lst vs) S else if n ="range" then bu a fun b=>k (.rng 0 b 1) S else False
def Gh (a b:V) (S:St) (k:V->St->Prop):Prop:=bu a fun x=>bu b fun y=>k (.rng x y 1) S
def Gg (a b c:V) (S:St) (k:V->St->Prop):Prop:=bu a fun x=>bu b fun y=>bu c fun w=>w≠0/\k (.rng x y w) S
def Bq (n:String) (a b:V) (r:List V) (S:St) (k:V->St->Prop):Prop:=
 if n ="range" then(match r with
  | []=>Gh a b S k
  |c::r=>i0 r (Gg a b c S k)) else False
def r8 (z:Bool) (n:String) (S:St) (k:V->St->Prop):Prop:=
 if n ="bytearray" then z=true/\k (.obj S.st.length) {S with st:=S.st++[.barr []]} else False
def r9 (z:Bool) (n:String) (as:List V) (S:St) (k:V->St->Prop):Prop:=
 match as with
 | []=>r8 z n S k
 |a::r=>match r with
  | []=>r7 n a S k
  |b::r=>Bq n a b r S k
def d9 (z:Bool) (f:Value) (as:List V) (S:St) (k:V->St->Prop):Prop:=
 match f with
 | .builtin n=>Br n as S k
 | .type n=>r9 z n as S k
 |_=>False
noncomputable def cX (S:St) (n:Nat) (c:Cell):St:={S with st:=S.st.set n c}
noncomputable def fC (x:Str) (s:String):Bool:=x==Str.ofString s
noncomputable def gI (x y:List Nat) (lo hi:Nat):Int:=match Builtin.Str.occurrences (S_ x) (S_ y) lo hi 1 with
 |k::_=>k
 | []=>-1
noncomputable def fb (x:Str):Nat:=if fC x "find" then 0 else if fC x "split" then 1 else if fC x "lower" then 2 else if fC x "upper" then 3 else if fC x "join" then 4 else 5
noncomputable def q9 (D:Addr->Option (List (List Nat×Int))) (o:V) (x:Str):Bool:=match o with
 | .str _=>fb x != 5
 | .bytes _=>fC x "join"
 | .val (.ref d)=>fC x "get" && (D d).isSome
 |_=>false
def J1 (s y:List Nat) (i:Int) (as:List V) (S:St) (k:V->St->Prop):Prop:=match as with
 | []=>k (.int (gI s y i.toNat s.length)) S
 |j::r=>i0 r (bu j fun j=>0<=j/\k (.int (gI s y i.toNat (min j.toNat s.length))) S)
def J2 (s y:List Nat) (as:List V) (S:St) (k:V->St->Prop):Prop:=match as with
 | []=>k (.int (gI s y 0 s.length)) S
 |i::r=>bu i fun i=>0<=i/\J1 s y i r S k
def AE (s:List Nat) (as:List V) (S:St) (k:V->St->Prop):Prop:=match as with
 | []=>False
 |a::r=>isStr a fun y=>J2 s y r S k
def mK (as:List V) (k:V->Prop):Prop:=match as with
 | []=>False
 |a::r=>i0 r (k a)
def uU (m:Nat) (s:List Nat) (as:List V) (S:St) (k:V->St->Prop):Prop:=match m with
 | 0=>AE s as S k
 | 1=>mK as fun a=>isStr a fun y=>y.length≠0/\(∃r:List (List Nat),(Txt.split (S_ s) (S_ y))=r.map S_/\(∀z∈r,z.length<=sizeLine)/\r.length<=sizeLine/\k (.lst (r.map .str)) S)
 | 2=>i0 as ((Txt.lower (S_ s)).cps.toList.length<=sizeLine/\k (.str (Txt.lower (S_ s)).cps.toList) S)
 | 3=>i0 as ((Txt.upper (S_ s)).cps.toList.length<=sizeLine/\k (.str (Txt.upper (S_ s)).cps.toList) S)
 | 4=>mK as fun a=>s=[]/\∃vs ys,bY S.st a=some vs/\vs.mapM eM=some ys/\ys.flatten.length<=sizeLine/\k (.str ys.flatten) S
 |_=>False
noncomputable def Aq (t:List (List Nat×Int)) (y:List Nat):V:=match t.lookup y with
 |some n=>.int n
 |none=>.none
def dB (D:Addr->Option (List (List Nat×Int))) (o:V) (x:Str) (as:List V) (S:St) (k:V->St->Prop):Prop:=
 match o with
 | .str s=>uU (fb x) s as S k
 | .bytes s=>mK as fun a=>s=[]/\∃vs ys,bY S.st a=some vs/\vs.mapM mI=some ys/\ys.flatten.length<=sizeLine/\k (.bytes ys.flatten) S
 | .val v=>mB (.val v) fun d=>mK as fun a=>isStr a fun y=>∃t,D d=some t/\k (Aq t y) S
 |_=>False
def BE (ok:Addr->Str->Bool) (st:List Cell) (o:V) (x:Str) (k:V->Prop):Prop:=
 match o with
 | .obj n=>∃C fs a,st[n]? = some (.inst C fs)/\fs.lookup x=some a/\ok C x=true/\(∀v,a≠.val v)/\k a
 |_=>False
noncomputable def setField (x:Str) (a:V):List (Str×V)->List (Str×V)
 | []=>[(x,a)]
 |(y,b)::r=>if y==x then(y,a)::r else(y,b)::setField x a r
noncomputable def dA (a c:Int):Nat->List V
 | 0=>[]
 |n+1=>.int a::dA (a+c) c n
noncomputable def d6 (st:List Cell):V->Option (List V)
 | .tup vs=>some vs
 | .lst vs=>some vs
 | .obj n=>st[n]?.bind kF
 | .str x=>some (x.map fun c=>.str [c])
 | .rng a b c=>gd (Builtin.Range.small a b c) (some (dA a c (Builtin.Range.rangeSize a b c).toNat))
 |_=>none
noncomputable def dC:List Bool->List (Option V)->List (Option V)
 |b::m,a::r=>(match b with | true=>a | false=>none)::dC m r
 |_,_=>[]
theorem rm {st:List Cell}{n:Nat}{vs:List V}(h:st[n]? = some (.list vs)):d6 st (.obj n)=some vs:=(congrArg (Option.bind · kF) h).trans rfl
def iH (F:Fx) (g:V) (vs:List V) (S2:St) (Q:QE) (X:XE):Prop:=
 match g with
 | .val (.ref p)=>F.fn p vs S2.st (fun a st'=>Q a {S2 with st:=st'}) (fun x st'=>X x {S2 with st:=st'})
 | .val v=>d9 F.z v vs S2 Q
 |_=>False
def Bj (F:Fx) (n:Nat) (x:Str) (c:Option Cell) (k:(List V->St->Prop)->Prop) (Q:QE) (X:XE):Prop:=match c with
 |some (.inst C fs)=>∃f,F.meth C x=some f/\fs.lookup x=none/\k (fun vs S2=>F.fn f (.obj n::vs) S2.st (fun a st'=>Q a {S2 with st:=st'}) (fun x st'=>X x {S2 with st:=st'}))
 |some (.list _)=>fC x "append" = true/\k (fun vs S2=>∃a ys,vs=[a]/\S2.st[n]? = some (.list ys)/\ys.length<sizeLine/\Q .none (cX S2 n (.list (ys++[a]))))
 |_=>False
def dX (F:Fx) (g:V) (x:Str) (S1:St) (k:(List V->St->Prop)->Prop) (Q:QE) (X:XE):Prop:=
 match g with
 | .obj n=>Bj F n x S1.st[n]? k Q X
 | .str s=>gk (fb x != 5) (k fun vs S2=>dB F.dict (.str s) x vs S2 Q)
 | .bytes s=>gk (fC x "join") (k fun vs S2=>dB F.dict (.bytes s) x vs S2 Q)
 | .val v=>gk (fC x "get") (mB (.val v) fun d=>(F.dict d).isSome=true/\k fun vs S2=>dB F.dict (.val v) x vs S2 Q)
 |_=>False
theorem Iv {F:Fx}{g:V}{x:Str}{S1:St}{k:(List V->St->Prop)->Prop}{Q:QE}{X:XE}(hg:∀n,g≠.obj n) (h:dX F g x S1 k Q X):q9 F.dict g x=true/\k (fun vs S2=>dB F.dict g x vs S2 Q):=by
 induction g using V.casesOn with
 |obj n=>exact absurd rfl (hg n)
 |str s=>exact jR h
 |bytes s=>exact jR h
 |val v=>
  refine af (jR h) ?_;intro h1 h2;refine a8 (n6 h2) ?_;intro d e h3 h4;cases e;refine⟨?_,h4⟩;show(fC x "get" && (F.dict d).isSome)=true
  (erw [h1];erw [h3]);rfl
 |_=>exact h.elim
mutual
def aF (F:Fx):ME->St->QE->XE->Prop
 | .loc i,S,Q,_=>fe S.loc[i]? fun a=>Q a S
 | .cst v,S,Q,_=>Q v S
 | .bin op l r,S,Q,X=>aF F l S (fun a S1=>aF F r S1 (fun b S2=>fJ op S2.st a b fun c=>Q c S2) X) X
 | .neg e,S,Q,X=>aF F e S (fun a S1=>bu a fun x=>Q (.int (-x)) S1) X
 | .not e,S,Q,X=>aF F e S (fun a S1=>dD a fun b=>Q (.bool !b) S1) X
 | .cmp l op r,S,Q,X=>aF F l S (fun a S1=>aF F r S1 (fun b S2=>cG F.dict op S2.st a b fun c=>Q (.bool c) S2) X) X
 | .cmp2 l o1 m o2 r,S,Q,X=>aF F l S (fun a S1=>aF F m S1 (fun b S2=>cG F.dict o1 S2.st a b fun c=>
   (c=true->aF F r S2 (fun d S3=>cG F.dict o2 S3.st b d fun c'=>Q (.bool c') S3) X)/\(c=false->Q (.bool false) S2)) X) X
 | .and es,S,Q,X=>jp F es S Q X
 | .or es,S,Q,X=>jl F es S Q X
 | .ite t b o,S,Q,X=>cL F t S (fun c S1=>(c=true->aF F b S1 Q X)/\(c=false->aF F o S1 Q X)) X
 | .call f as,S,Q,X=>aF F f S (fun g S1=>df F as S1 (fun vs S2=>iH F g vs S2 Q X) X) X
 | .meth o x as,S,Q,X=>aF F o S (fun g S1=>dX F g x S1 (fun Qs=>df F as S1 Qs X) Q X) X
 | .repl o y z,S,Q,X=>aF F o S (fun g S1=>isStr g fun x=>y≠z/\x.length+(x.length+1)*z.length<=16777216/\Q (.str (Txt.replace (S_ x) (S_ y) (S_ z)).cps.toList) S1) X
 | .attr o x,S,Q,X=>aF F o S (fun a S1=>BE F.field S1.st a x fun b=>Q b S1) X
 | .sub o i,S,Q,X=>aF F o S (fun a S1=>aF F i S1 (fun b S2=>f2 F.dict S2.st a b fun c=>Q c S2) X) X
 | .cut o lo hi,S,Q,X=>aF F o S (fun a S1=>jm F lo S1 (fun l S2=>jm F hi S2 (fun u S3=>jP S3.st a l u fun c=>Q c S3) X) X) X
 | .tup es,S,Q,X=>df F es S (fun vs S1=>gk (short 100 vs) (Q (.tup vs) S1)) X
 | .lst es,S,Q,X=>df F es S (fun vs S1=>gk (short 100 vs) (Q (.lst vs) S1)) X
 | .newl es,S,Q,X=>df F es S (fun vs S1=>gk (short 100 vs) (Q (.obj S1.st.length) {S1 with st:=S1.st++[.list vs]})) X
 | .comp elt m it ifs,S,Q,X=>F.z=false/\aF F it S (fun a S1=>∃items,d6 S1.st a=some items/\items.length<=sizeLine/\
   ∃I:List V->List V->List Cell->Prop,I [] items (S1.st++[.list []])/\(∀ys v rest st,I ys (v::rest) st->(∀n,a=.obj n->st[n]? = S1.st[n]?)/\ys.length<sizeLine/\
    gq F ifs ⟨dC m S1.loc++[some v],st⟩ (fun b S2=>(b=true->aF F elt S2 (fun c S3=>S3.st[S1.st.length]? = some (.list ys)/\I (ys++[c]) rest (S3.st.set S1.st.length (.list (ys++[c])))) (fun uz uz=>False))/\(b=false->I ys rest S2.st)) (fun uz uz=>False))/\
    (∀ys st,I ys [] st->(∀n,a=.obj n->st[n]? = S1.st[n]?)/\Q (.obj S1.st.length) {S1 with st:=st})) X
 | .heardL i,S,Q,_=>fe S.loc[i]? fun a=>F.heardL a S.st fun b st'=>Q b {S with st:=st'}
 | .heardM i,S,Q,_=>fe S.loc[i]? fun a=>F.heardM a S.st fun b st'=>Q b {S with st:=st'}
def df (F:Fx):List ME->St->(List V->St->Prop)->XE->Prop
 | [],S,Q,_=>Q [] S
 |e::r,S,Q,X=>aF F e S (fun a S1=>df F r S1 (fun vs S2=>Q (a::vs) S2) X) X
def jm (F:Fx):Option ME->St->(Option V->St->Prop)->XE->Prop
 |none,S,Q,_=>Q none S
 |some e,S,Q,X=>aF F e S (fun a S1=>Q (some a) S1) X
def jp (F:Fx):List ME->St->QE->XE->Prop
 | [],_,_,_=>False
 | [e],S,Q,X=>aF F e S Q X
 |e::r,S,Q,X=>aF F e S (fun a S1=>dD a fun b=>(b=true->jp F r S1 Q X)/\(b=false->Q (.bool false) S1)) X
def jl (F:Fx):List ME->St->QE->XE->Prop
 | [],_,_,_=>False
 | [e],S,Q,X=>aF F e S Q X
 |e::r,S,Q,X=>aF F e S (fun a S1=>dD a fun b=>(b=false->jl F r S1 Q X)/\(b=true->Q (.bool true) S1)) X
def cL (F:Fx):ME->St->(Bool->St->Prop)->XE->Prop
 | .not e,S,Q,X=>cL F e S (fun b S1=>Q (!b) S1) X
 | .and es,S,Q,X=>gq F es S Q X
 | .or es,S,Q,X=>jo F es S Q X
 | .ite t b o,S,Q,X=>cL F t S (fun c S1=>(c=true->cL F b S1 Q X)/\(c=false->cL F o S1 Q X)) X
 | .loc i,S,Q,_=>fe S.loc[i]? fun a=>dD a fun b=>Q b S
 | .cst v,S,Q,_=>dD v fun b=>Q b S
 | .cmp l op r,S,Q,X=>aF F l S (fun a S1=>aF F r S1 (fun b S2=>cG F.dict op S2.st a b fun c=>Q c S2) X) X
 | .cmp2 l o1 m o2 r,S,Q,X=>aF F l S (fun a S1=>aF F m S1 (fun b S2=>cG F.dict o1 S2.st a b fun c=>
   (c=true->aF F r S2 (fun d S3=>cG F.dict o2 S3.st b d fun c'=>Q c' S3) X)/\(c=false->Q false S2)) X) X
 | .call f as,S,Q,X=>aF F f S (fun g S1=>df F as S1 (fun vs S2=>iH F g vs S2 (fun a S1=>dD a fun b=>Q b S1) X) X) X
 | .meth o x as,S,Q,X=>aF F o S (fun g S1=>dX F g x S1 (fun Qs=>df F as S1 Qs X) (fun a S1=>dD a fun b=>Q b S1) X) X
 |_,_,_,_=>False
def gq (F:Fx):List ME->St->(Bool->St->Prop)->XE->Prop
 | [],S,Q,_=>Q true S
 |e::r,S,Q,X=>cL F e S (fun b S1=>(b=true->gq F r S1 Q X)/\(b=false->Q false S1)) X
def jo (F:Fx):List ME->St->(Bool->St->Prop)->XE->Prop
 | [],S,Q,_=>Q false S
 |e::r,S,Q,X=>cL F e S (fun b S1=>(b=false->jo F r S1 Q X)/\(b=true->Q true S1)) X
end
inductive Fl where
 |next
 |brk
 |cont
 |ret (v:V)
noncomputable def aJ (S:St) (i:Nat) (a:V):St:={S with loc:=S.loc.set i (some a)}
noncomputable def cw (S:St):List Nat->List V->St
 |i::is,a::as=>cw (aJ S i a) is as
 |_,_=>S
def jT (S:St) (is:List Nat) (v:V) (k:St->Prop):Prop:=
 match is with
 | [i]=>k (aJ S i v)
 |is=>jG v fun vs=>vs.length=is.length/\k (cw S is vs)
def ko (op:Operator) (p:Prop):Prop:=match op with
 | .Add=>p
 |_=>False
theorem za {op:Operator}{p:Prop}(h:ko op p):op=.Add/\p:=by
 induction op with
 |Add=>exact⟨rfl,h⟩
 |_=>exact h.elim
def BB (z:Bool) (S1:St) (i:Nat) (old b:V) (k:St->Prop):Prop:=match old with
 | .int x=>bu b fun y=>k (aJ S1 i (.int (x+y)))
 | .obj n=>rt b fun y=>z=true/\∃x,S1.st[n]? = some (.barr x)/\x.length+y.length<=sizeLine/\k (aJ (cX S1 n (.barr (x++y))) i (.obj n))
 |_=>False
def nH (vs:List V) (k:Int->Prop):Prop:=match vs with
 | []=>False
 |a::r=>match r with
  | []=>False
  |b::r=>i0 r (isStr a fun uz=>bu b k)
noncomputable def jI (z:Option (List Nat)) (n:Int):V:=match z with
 |none=>.int n
 |some z=>.tup [.str z,.int n]
def vd (f:Fl) (a b:Prop):Prop:=match f with
 | .next=>a
 |_=>b
def nQ (f:Fl) (a b:Prop) (r:V->Prop):Prop:=match f with
 | .next=>a
 | .cont=>a
 | .brk=>b
 | .ret v=>r v
mutual
def dk (F:Fx):MS->St->(Fl->St->Prop)->XE->Prop
 | .expr e,S,Q,X=>aF F e S (fun uz S1=>Q .next S1) X
 | .set i e,S,Q,X=>aF F e S (fun a S1=>Q .next (aJ S1 i a)) X
 | .setT is e,S,Q,X=>aF F e S (fun a S1=>jG a fun vs=>vs.length=is.length/\Q .next (cw S1 is vs)) X
 | .setAttr o x e,S,Q,X=>aF F e S (fun a S1=>aF F o S1 (fun b S2=>∃n C fs,b=.obj n/\S2.st[n]? = some (.inst C fs)/\F.field C x=true/\fs.length<100/\Q .next (cX S2 n (.inst C (setField x a fs)))) X) X
 | .setItem o i e,S,Q,X=>aF F e S (fun a S1=>aF F o S1 (fun b S2=>aF F i S2 (fun j S3=>∃n vs k,b=.obj n/\S3.st[n]? = some (.list vs)/\j=.int k/\0<=k/\k<vs.length/\Q .next (cX S3 n (.list (vs.set k.toNat a)))) X) X) X
 | .aug i op e,S,Q,X=>fe S.loc[i]? fun old=>aF F e S (fun b S1=>ko op (BB F.z S1 i old b (Q .next))) X
 | .augAttr i x op e,S,Q,X=>∃n C fs k,S.loc[i]? = some (some (.obj n))/\S.st[n]? = some (.inst C fs)/\fs.lookup x=some (.int k)/\F.field C x=true/\fs.length<100/\aF F e S (fun b S1=>ko op (bu b fun y=>S1=S/\Q .next (cX S1 n (.inst C (setField x (.int (k+y)) fs))))) X
 | .ret e,S,Q,X=>aF F e S (fun a S1=>Q (.ret a) S1) X
 | .ite t b o,S,Q,X=>cL F t S (fun c S1=>(c=true->bN F b S1 Q X)/\(c=false->bN F o S1 Q X)) X
 | .while t b,S,Q,X=>∃I:Nat->St->Prop,(∃n,I n S)/\∀n S',I n S'->cL F t S' (fun c S1=>
   (c=true->bN F b S1 (fun f S2=>nQ f (∃m,m<n/\I m S2) (Q .next S2) fun v=>Q (.ret v) S2) X)/\(c=false->Q .next S1)) X
 | .for is it b,S,Q,X=>aF F it S (fun a S1=>∃items,d6 S1.st a=some items/\
   ∃I:List V->St->Prop,I items S1/\(∀v rest S',I (v::rest) S'->(∀n,a=.obj n->S'.st[n]? = S1.st[n]?)/\jT S' is v fun S2=>bN F b S2 (fun f S3=>nQ f (I rest S3) (Q .next S3) fun v=>Q (.ret v) S3) X)/\(∀S',I [] S'->(∀n,a=.obj n->S'.st[n]? = S1.st[n]?)/\Q .next S')) X
 | .raise C as,S,_,X=>F.exc C=true/\df F as S (fun vs S1=>nH vs fun n=>X ⟨C,n⟩ S1) X
 | .try b C i z,S,Q,X=>F.exc C=true/\bN F b S (fun f S1=>Q f S1) (fun x S1=>x.cls=C/\Q (.ret (jI z x.spot)) ⟨S1.loc.set i none,S1.st⟩)
def bN (F:Fx):List MS->St->(Fl->St->Prop)->XE->Prop
 | [],S,Q,_=>Q .next S
 |e::r,S,Q,X=>dk F e S (fun f S1=>vd f (bN F r S1 Q X) (Q f S1)) X
end
noncomputable def dO (Q:V->List Cell->Prop) (f:Fl) (S:St):Prop:=match f with
 | .ret v=>Q v S.st
 | .next=>Q .none S.st
 |_=>False
noncomputable def dc (X:Exn->List Cell->Prop):XE:=fun x S=>X x S.st
theorem bG (Q:V->List Cell->Prop) (v:V) (S:St):dO Q (.ret v) S=Q v S.st:=rfl
theorem bc (Q:V->List Cell->Prop) (S:St):dO Q .next S=Q .none S.st:=rfl
theorem eN (X:Exn->List Cell->Prop) (x:Exn) (S:St):dc X x S=X x S.st:=rfl
end
section
theorem Rep.none_ {ws h v}(r:Rep ws h .none v):v=.none:=r
theorem Rep.bool_ {ws h b v}(r:Rep ws h (.bool b) v):v=.bool b:=r
theorem Rep.int_ {ws h x v}(r:Rep ws h (.int x) v):∃t,v=.int x t:=r
theorem Rep.str_ {ws h x v}(r:Rep ws h (.str x) v):x.length<=sizeLine/\∃t,v=.str (S_ x) t:=r
theorem Rep.bytes_ {ws h x v}(r:Rep ws h (.bytes x) v):x.length<=sizeLine/\∃t,v=.bytes x.toArray t:=r
theorem Rep.val_ {ws h x v}(r:Rep ws h (.val x) v):v=x:=r
theorem lQ {ws h}:Rep ws h .none .none:=rfl
theorem iX {ws h b}:Rep ws h (.bool b) (.bool b):=rfl
theorem cJ {ws h x t}:Rep ws h (.int x) (.int x t):=⟨t,rfl⟩
theorem fQ {ws h x t}(hl:x.length<=sizeLine):Rep ws h (.str x) (.str (S_ x) t):=⟨hl,t,rfl⟩
theorem nE {ws h x t}(hl:x.length<=sizeLine):Rep ws h (.bytes x) (.bytes x.toArray t):=⟨hl,t,rfl⟩
theorem iW {ws h x}:Rep ws h (.val x) x:=rfl
@[simp] theorem cS (x:List Nat):(S_ x).length=x.length:=by simp [S_,Str.length]
@[simp] theorem mP (x:List Nat):(S_ x).cps.toList=x:=by simp [S_]
theorem jc (x:Str):S_ x.cps.toList=x:=congrArg Str.mk (Array.toArray_toList)
theorem yQ {ws h t}{x:Str}(hl:x.cps.toList.length<=sizeLine):Rep ws h (.str x.cps.toList) (.str x t):=⟨hl,t,congrArg (Value.str · t) (jc x).symm⟩
theorem th (x y:List Nat):S_ x++S_ y=S_ (x++y):=by
 show Str.append (S_ x) (S_ y)=_;simp [Str.append,S_]
theorem Cj {x y:List Nat}(h:S_ x=S_ y):x=y:=by simpa [S_] using h
def PQ (ws:Wd) (s:Shared) (k:V->Prop) (Qm:VP):Prop:=
 ∀h' tk c r,(∀b o,s.heap.get? b=some o->h'.get? b=some o)->Rep ws h' c r->k c->Qm r {s with heap:=h',toks:=tk}
theorem PQ.same {ws:Wd}{s:Shared}{k:V->Prop}{Qm:VP}(q:PQ ws s k Qm) {tk c r}(hr:Rep ws s.heap c r) (hk:k c):Qm r {s with toks:=tk}:=q s.heap tk c r (fun uz uz e=>e) hr hk
theorem PQ.here {ws:Wd}{s:Shared}{k:V->Prop}{Qm:VP}(q:PQ ws s k Qm) {c r}(hr:Rep ws s.heap c r) (hk:k c):Qm r s:=q s.heap s.toks c r (fun uz uz e=>e) hr hk
structure AOk (A:Around) (frs:List Env) (d:Nat):Prop where
 frames:A.frames=some frs
 handled:A.handled=none
 guards:A.guards=some []
 depth:A.depth+4*d<=600
 units:A.units+20*d<=5000
theorem AOk.mono {A:Around}{frs:List Env}{d d':Nat}(a:AOk A frs d) (h:d'<=d):AOk A frs d':=⟨a.frames,a.handled,a.guards,by have:=a.depth;exact aL [d',d,A.depth] [] (.le aa ae) (.le (.a ai (.m 4 ae)) (.k 600)) (.le (.a ai (.m 4 aa)) (.k 600)) h this,by have:=a.units;exact aL [d',d,A.units] [] (.le aa ae) (.le (.a ai (.m 20 ae)) (.k 5000)) (.le (.a ai (.m 20 aa)) (.k 5000)) h this⟩
theorem AOk.room {A:Around}{frs:List Env}{d:Nat}(a:AOk A frs d):A.depth<recursionLimit:=by have:=a.depth;unfold recursionLimit;exact al [A.depth,d] [] (.le (.a aa (.m 4 ae)) (.k 600)) (.lt aa (.k 1000)) this
theorem AOk.cunits {A:Around}{frs:List Env}{d:Nat}(a:AOk A frs d):A.units<cLine:=by have:=a.units;unfold cLine;exact al [A.units,d] [] (.le (.a aa (.m 20 ae)) (.k 5000)) (.lt aa (.k 9900)) this
theorem gH {G:Gd}{frs:List Env}{ws:Wd}{st:List Cell}{h:Heap}(a:Amb G frs ws st h) {b:Addr}(e:h.objs.size<=b):b∉tr ws:=fun q=>by
 refine ag (a.trThere q) ?_;intro o ho _;exact absurd (Heap.lt_size ho) (Nat.not_lt.mpr e)
theorem f7 {G:Gd}{frs:List Env}{ws:Wd}{st:List Cell}{h:Heap}(A:Amb G frs ws st h) {a:V}{v:Value}{vs:List V}(e:bY st a=some vs) (r:Rep ws h a v) :
  vs.length<=sizeLine/\∃l items,v=.ref l/\h.IsList l (List.toArray items)/\Reps ws h vs items:=by
 induction a using V.casesOn with
 |lst ys=>
  cases e
  refine af r ?_;clear r;intro hl y1;refine b0 y1 ?_;clear y1;intro l items y22 _ h1 h2;subst y22;exact⟨hl,l,items,rfl,h1,h2⟩
 |obj n=>
  refine ag (gl e) ?_;intro c hc e;cases zU e;refine gn fun Pz kz=>?_;refine ag r ?_;clear r;intro p hp y2;subst y2;refine be (A.cells n p _ hp hc) ?_;intro _ hl y2;refine bd y2 ?_;clear y2;intro items m h1 h2;refine kz ?_;clear kz Pz;exact⟨hl,p.1,items,rfl,(aQ _ h1 rfl ⟨m,rfl⟩),h2⟩
 |_=>cases e
theorem IsListL.size {h:Heap}{l:Addr}{items:List Value}{vs:List V}{ws:Wd}(r:Reps ws h vs items):(List.toArray items).size=vs.length:=by erw [List.size_toArray];exact r.length
section
variable {G:Gd}{C:Cx}{ws:Wd}{S:St}{A:Around}{s:Shared}{Qm:VP}{Em:VP}{d:Nat}{k:V->Prop}
 {a b:V} {u v:Value}
theorem yX (R:Rel G C ws S s.heap) (hA:AOk A C.frs d):PylongRoom (model G.prog G.w) A s:=
 let ⟨_,_,e,h1,h2,h3,h4⟩:=R.lc.head
 PylongRoom.of (G.T.nolimit.keeps R.amb.base) (by have:=hA.depth;unfold recursionLimit Builtin.pylongFrames;exact al [A.depth,d] [] (.le (.a aa (.m 4 ae)) (.k 600)) (.lt (.a aa (.k 100)) (.k 1000)) this) (SeerAt.of (G.seer.keeps R.amb.base) G.tree (hA.frames.trans (by(erw [e];with_reducible rfl))) h1 h2 h3 h4)
end
section
variable {G:Gd}{C:Cx}{ws:Wd}{S:St}{A:Around}{s:Shared}{Qm:VP}{Em:VP}{d:Nat}{k:V->Prop}
 {a b:V} {u v:Value}
set_option tactic.hygienic true in
theorem Dy (x:List Nat) (n:Int) (h:0<n):Txt.mul (S_ x) n=S_ (List.replicate n.toNat x).flatten:=by
 have fold:∀(m:Nat) (acc:List Nat),((List.replicate m (x.toArray)).foldl (·++·) acc.toArray)=(acc++(List.replicate m x).flatten).toArray:=by
  intro m;induction m with
  |zero=>intro acc;simp
  |succ m ih=>intro acc;(erw [List.replicate_succ];erw [List.foldl_cons];erw [List.append_toArray];erw [ih]);simp [List.replicate_succ]
 unfold Txt.mul;rw [if_neg (by exact al [] [n] (.Lt (.k 0) aw) (.not (.Lt aw (.k 1))) h)]
 split
 ·rename_i hc
  rw [Bool.or_eq_true,beq_iff_eq,beq_iff_eq] at hc;refine av hc ?_ ?_<;>clear hc
  ·rintro rfl;simp
  ·intro hc;rw [cS] at hc;have:x=[]:=List.length_eq_zero_iff.mp hc;subst this;simp [S_]
 ·have:=fold n.toNat []
  simpa [S_] using this
theorem Nj (R:Rel G C ws S s.heap) {x y:List V}(hx:bY S.st a=some x) (hy:bY S.st b=some y) (hl:x.length+y.length<=sizeLine)
  (ra:Rep ws s.heap a v) (rb:Rep ws s.heap b u) (q:PQ ws s (fun c=>c=.lst (x++y)) Qm):wpAny (model G.prog G.w) A (binaryOp .Add v u) Qm Em s:=by
 refine gn fun Pz kz=>?_;refine af (f7 R.amb hx ra) ?_;intro _ y1;refine aY y1 ?_;clear y1;intro l its y22 il i1;subst y22;refine af (f7 R.amb hy rb) ?_;intro _ y1;refine aY y1 ?_;clear y1;intro b its2 y22 ib i2;subst y22;refine a8 (id il) ?_;intro y0 ho hc y3;obtain⟨cls,dd,data,sl⟩:=y0;refine an y3 ?_;clear y3;intro n hd;refine a8 (id ib) ?_;intro y0 ho2 hc2 y3;obtain⟨cls2,dd2,data2,sl2⟩:=y0;refine an y3 ?_;clear y3;intro n2 hd2;refine kz ?_;clear kz Pz;simp only at hc hd hc2 hd2;refine gn fun Pz kz=>?_;subst hc hd hc2 hd2;refine kz ?_;clear kz Pz;have e:its.toArray++its2.toArray=(its++its2).toArray:=by simp
 have z:its.length+its2.length<=sizeLine:=by(erw [i1.length];erw [i2.length]);exact hl
 refine concat_meets (aj _ ho rfl) (aj _ ho2 rfl) noFill_list_add seq_list_add PySem.F.slot_list_add PySem.F.entry_list_add (PySem.F.args_list_add_2 _ _) (list_addW l b its.toArray its2.toArray n n2 dd dd2 sl sl2 (by simpa using z)) (aI ho ho2 ?_)
 erw [e]
 have kp:∀b o,s.heap.get? b=some o->(s.heap.push {cls:=.type "list",data:=.seq (its++its2).toArray}).get? b=some o:=fun uz uz z=>bL _ z;refine q (s.heap.push {cls:=.type "list",data:=.seq (its++its2).toArray}) s.toks (.lst (x++y)) _ kp ?_ rfl;exact⟨by simpa using hl,_,_,rfl,gH R.amb (bw _),(aQ _ (dv _ rfl) rfl ⟨_,rfl⟩),(i1.mv (Mv.of_keeps kp)).append (i2.mv (Mv.of_keeps kp))⟩
theorem Nk {st:List Cell}(h:BM st a b k):(∃x y,a=.int x/\b=.int y/\k (.int (x+y)))\/(∃x y,a=.str x/\b=.str y/\x.length+y.length<=sizeLine/\k (.str (x++y)))\/
  ∃x y,bY st a=some x/\bY st b=some y/\x.length+y.length<=sizeLine/\k (.lst (x++y)):=by
 have l:iC st a (fun x=>iC st b fun y=>x.length+y.length<=sizeLine/\k (.lst (x++y)))->∃x y,bY st a=some x/\bY st b=some y/\x.length+y.length<=sizeLine/\k (.lst (x++y)):=fun h=>by
  refine ag (md h) ?_;intro x hx g1;refine ag (md g1) ?_;intro y hy g2;exact bj x y hx hy g2
 induction a using V.casesOn with
 |int x=>
  refine ag (da h) ?_;intro y y1 g3;subst y1;exact .inl (bj x y rfl rfl g3)
 |str x=>
  refine ag (f9 h) ?_;intro y y1 g4;subst y1;exact .inr (.inl (bj x y rfl rfl g4))
 |_=>exact .inr (.inr (l h))
theorem Iq (h:zK a b k):(∃x y,a=.int x/\b=.int y/\IntMulOk x y/\k (.int (x*y)))\/∃x n,a=.str x/\b=.int n/\0<n/\n<=1000/\x.length<=1000/\k (.str (List.replicate n.toNat x).flatten):=by
 induction a using V.casesOn with
 |int x=>
  refine ag (da h) ?_;intro y y1 g5;subst y1;exact .inl (bj x y rfl rfl g5)
 |str x=>
  refine ag (da h) ?_;intro y y1 g6;subst y1;exact .inr (bj x y rfl rfl g6)
 |_=>exact h.elim
theorem f1 {k:Int->Int->Prop}(ra:Rep ws s.heap a v) (rb:Rep ws s.heap b u) (h:bu a fun x=>bu b fun y=>k x y):∃x y t t',v=.int x t/\u=.int y t'/\k x y:=by
 refine ag (da h) ?_;intro x y1 g7;subst y1;refine ag (da g7) ?_;intro y y1 g8;subst y1;refine an ra.int_ ?_;intro t y1;subst y1;refine an rb.int_ ?_;intro t' y1;subst y1;exact jf x y t t' rfl rfl g8
theorem LV {op:Operator}(R:Rel G C ws S s.heap) (hA:AOk A C.frs d) (h:fJ op S.st a b k) (ra:Rep ws s.heap a v) (rb:Rep ws s.heap b u) (q:PQ ws s k Qm) :
  wpAny (model G.prog G.w) A (binaryOp op v u) Qm Em s:=by
 induction op with
 |Add=>
  (focus (refine av (Nk h) ?_ ?_;intro y0;refine aY y0 ?_;clear y0;intro x y y3 y4 g9;subst y3 y4;rotate_left;intro y0;(focus (refine av y0 ?_ ?_<;>clear y0;intro y1;refine b0 y1 ?_;clear y1;intro x y y4 y5 hl g9;subst y4 y5;rotate_left;intro y1;refine b0 y1 ?_;clear y1;intro x y hx hy hl hk;rotate_left));rotate_left 2))
  ·refine an ra.int_ ?_;intro t y1;subst y1;refine an rb.int_ ?_;intro t' y1;subst y1;exact add_int (q.same cJ g9)
  ·refine af ra.str_ ?_;intro hx y1;refine an y1 ?_;clear y1;intro t y21;subst y21;refine af rb.str_ ?_;intro hy y1;refine an y1 ?_;clear y1;intro t' y21;subst y21;refine PyProof.Rows.add_str (fun t tk=>?_) (by(erw [cS];erw [cS]);exact hl)
   erw [th]
   exact q.same (fQ (by erw [cf];exact hl)) g9
  ·exact Nj R hx hy hl ra rb fun h' tk c r kp rp e=>q h' tk c r kp rp (e▸hk)
 |Sub=>
  refine eX (f1 ra rb h) ?_;intro x y t t' y4 y5 g10;subst y4 y5;exact sub_int (q.same cJ g10)
 |Mult=>
  refine av (Iq h) ?_ ?_
  ·intro y0;refine aY y0 ?_;clear y0;intro x y y3 y4 g11;subst y3 y4;refine an ra.int_ ?_;intro t y1;subst y1;refine an rb.int_ ?_;intro t' y1;subst y1;exact mul_int (q.same cJ g11.2) g11.1
  ·intro y0;refine CR y0 ?_;clear y0;intro x n y3 y4 hn hn2 hz hk;subst y3 y4;refine af ra.str_ ?_;intro hx y1;refine an y1 ?_;clear y1;intro t y21;subst y21;refine an rb.int_ ?_;intro t' y1;subst y1;have hz2:=sizeLine_eq;have hf:((List.replicate n.toNat x).flatten).length=x.length*n.toNat:=by(erw [List.length_flatten];erw [List.map_replicate];erw [List.sum_replicate_nat];erw [Nat.mul_comm];with_reducible rfl)
   have hm:x.length*n.toNat<=1000*1000:=Nat.mul_le_mul hz (aL [n.toNat] [n] (.Le aw (.k 1000)) (.tn aa aw) (.le aa (.k 1000)) hn2 (di (n)));refine SB.mul (aI ?_ (fun uz uz=>?_) (fun uz uz=>?_)) fun t' j=>?_
   ·rw [Bool.or_eq_false_iff];exact⟨decide_eq_false (by omega),decide_eq_false (by omega)⟩
   ·erw [cS]
    have:(1000:Int)<=(2 ^ 63-1) / n:=Int.le_ediv_of_mul_le hn (by omega)
    omega
   ·erw [cS];unfold Builtin.Str.tooLong;exact decide_eq_false (by omega)
   ·erw [Dy x n hn]
    exact q.same (fQ (by erw [hf];omega)) hk
 |FloorDiv=>
  refine eX (f1 ra rb h) ?_;intro x y t t' y4 y5 g12;subst y4 y5;refine floordiv_int (Int.ne_of_gt g12.1) ?_ (.inr (yX R hA))
  erw [Int.fdiv_eq_ediv_of_nonneg _ (Int.le_of_lt g12.1)]
  exact q.same cJ g12.2
 |Mod=>
  refine eX (f1 ra rb h) ?_;intro x y t t' y4 y5 g13;subst y4 y5;refine mod_int' (Int.ne_of_gt g13.1) ?_
  erw [Int.fmod_eq_emod_of_nonneg _ (Int.le_of_lt g13.1)]
  exact q.same cJ g13.2
 |Pow=>
  refine eX (f1 ra rb h) ?_;intro x y t t' y4 y5 g14;subst y4 y5;exact pow_int g14.1 g14.2.1 (q.same cJ g14.2.2)
 |_=>exact h.elim
end
end
noncomputable def rQ (t:List (List Nat×Int)):List (PyData×PyData):=t.map fun p=>(PyData.str (S_ p.1),PyData.int p.2)
def lr (G:Gd) (D:Addr->Option (List (List Nat×Int))):Prop:=∀d t,D d=some t->StrTab G.prog G.w G.base d (rQ t)
theorem oy (x:List Nat):∀t:List (List Nat×Int),PySem.Spec.lookup (.str (S_ x)) (rQ t)=(t.lookup x).map PyData.int
 | []=>rfl
 |(y,n)::r=>by
  have e:PySem.Spec.same (.str (S_ y)) (.str (S_ x))=(x==y):=by
   show(S_ y==S_ x)=_;by_cases h:x=y
   ·subst h;simp
   ·rw [beq_eq_false_iff_ne.mpr h,beq_eq_false_iff_ne.mpr (fun q=>h (Cj q).symm)]
  show(if PySem.Spec.same (.str (S_ y)) (.str (S_ x))=true then some (PyData.int n) else PySem.Spec.lookup (.str (S_ x)) (rQ r))=_
  (erw [e];erw [List.lookup_cons];erw [oy x r])
  cases x==y<;>rfl
theorem nf {ws:Wd}{h:Heap}{vs:List V}{ys:List (List Nat)}{items:List Value}(e:vs.mapM eM=some ys) (r:Reps ws h vs items):StrsAre items (ys.map S_):=
 lP (R:=fun ys items=>StrsAre items (ys.map S_)) .nil (fun v b x bs xs e r k=>by
  cases uT e
  refine af r.str_ ?_;intro _ y1;refine an y1 ?_;clear y1;intro t y21;subst y21
  exact .cons _ t k) e r
theorem mM (x:List Nat):∀ys:List (List Nat),(ys.map S_).any (·==S_ x)=ys.contains x
 | []=>rfl
 |y::ys=>by
  (erw [List.map_cons];erw [List.any_cons];erw [mM x ys];erw [List.contains_cons])
  congr 1
  by_cases e:y=x
  ·subst e;simp
  ·rw [beq_eq_false_iff_ne.mpr (fun q=>e (Cj q)),beq_eq_false_iff_ne.mpr (Ne.symm e)]
section
variable {G:Gd}{C:Cx}{ws:Wd}{S:St}{A:Around}{s:Shared}{Qm:VP}{Em:VP}{d:Nat}{k:Bool->Prop}
 {a b:V} {u v:Value} {D:Addr->Option (List (List Nat×Int))}
open SeqAt in
theorem Kr (h:gJ a=true) (ra:Rep ws s.heap a v) (rb:Rep ws s.heap a u):EqAt A s v u true:=by
 induction a using V.casesOn with
 |none=>obtain rfl:=ra.none_;obtain rfl:=rb.none_;exact .same _
 |bool c=>obtain rfl:=ra.bool_;obtain rfl:=rb.bool_;exact .same _
 |int x=>
  refine gn fun Pz kz=>?_;refine an ra.int_ ?_;intro t y1;subst y1;refine an rb.int_ ?_;intro t' y1;subst y1;refine kz ?_;clear kz Pz;by_cases e:t=t'
  ·subst e;exact .same _
  ·intro prog w E Q hq;refine wpAny_holding (wpAny_ite_split (fun h=>by simp [e] at h) fun uz=>?_);exact az (PyProof.Rows.eq_int (by erw [beq_self_eq_true];exact wpAny_truthy_bool hq))
 |str x=>
  refine af ra.str_ ?_;intro _ y1;refine an y1 ?_;clear y1;intro t y21;subst y21;refine af rb.str_ ?_;intro _ y1;refine an y1 ?_;clear y1;intro t' y21;subst y21;intro prog w E Q hq;exact eqBool_str (by simpa using hq)
 |bytes x=>
  refine af ra.bytes_ ?_;intro _ y1;refine an y1 ?_;clear y1;intro t y21;subst y21;refine af rb.bytes_ ?_;intro _ y1;refine an y1 ?_;clear y1;intro t' y21;subst y21;by_cases e:t=t'
  ·subst e;exact .same _
  ·intro prog w E Q hq;refine wpAny_holding (wpAny_ite_split (fun h=>by simp [e] at h) fun uz=>?_);exact az (PySem.W.eq_bytes (by erw [beq_self_eq_true];exact wpAny_truthy_bool hq))
 |_=>simp [gJ] at h
theorem z6 {h:Heap}{a:Addr}{items:Array Value}(x:IsTup h a items):h.IsTuple a items:=x
theorem yV (n:Nat):(List.range n).all (fun uz=>true)=true:=by simp
open SeqAt in
theorem uF {x:List V}{A:Around}(hf:x.all gJ=true) (ra:Rep ws s.heap (.tup x) v) (rb:Rep ws s.heap (.tup x) u) :
  ∃l b items items2,v=.ref l/\u=.ref b/\s.heap.IsTuple l items/\s.heap.IsTuple b items2/\items.size=items2.size/\
   ∀j (h1:j<items.size) (h2:j<items2.size),EqAt A s items[j] items2[j] ((fun uz=>true) j):=by
 refine af ra ?_;clear ra;intro _ y1;refine b0 y1 ?_;clear y1;intro l its y22 _ i1 r1;subst y22;refine af rb ?_;clear rb;intro _ y1;refine b0 y1 ?_;clear y1;intro b its2 y22 _ i2 r2;subst y22;refine mR l b _ _ rfl rfl (z6 i1) (z6 i2) (by simp [r1.length,r2.length]) (fun j h1 h2=>?_);have hj:j<x.length:=by rw [List.size_toArray,r1.length] at h1;exact h1
 refine ag (r1.get (i:=j) (a:=x[j]) (by simp [hj])) ?_;intro v1 e1 q1;refine ag (r2.get (i:=j) (a:=x[j]) (by simp [hj])) ?_;intro v2 e2 q2;have z1:its.toArray[j]=v1:=by simpa using (ce e1).2
 have z2:its2.toArray[j]=v2:=by simpa using (ce e2).2
 (erw [z1];erw [z2])
 exact Kr (List.all_eq_true.mp hf _ (List.getElem_mem hj)) q1 q2
theorem z9 (R:Rel G C ws S s.heap) (ra:Rep ws s.heap a v) (hn:∀x,a≠.val x) {A:Around}{E:VP}{Q:Bool->Shared->Prop}(h:Q (isNone a) s):wpAny (model G.prog G.w) A (isSame v .none) Q E s:=by
 have e:∀{x:Value},(∀b,x≠.ref b->True)->plainIs x .none=true->(x==.none)=isNone a->v=x->wpAny (model G.prog G.w) A (isSame v .none) Q E s:=fun uz hp he hv=>by
  subst hv;exact wpAny_isSame_plain hp (he▸h)
 induction a using V.casesOn with
 |none=>obtain rfl:=ra.none_;exact wpAny_isSame_plain rfl h
 |bool c=>obtain rfl:=ra.bool_;exact wpAny_isSame_plain rfl h
 |int x=>(refine an ra.int_ ?_;intro t y1;subst y1);exact wpAny_isSame_plain rfl h
 |str x=>(refine af ra.str_ ?_;intro _ y1;refine an y1 ?_;clear y1;intro t y21;subst y21);exact wpAny_isSame_plain rfl h
 |bytes x=>(refine af ra.bytes_ ?_;intro _ y1;refine an y1 ?_;clear y1;intro t y21;subst y21);exact wpAny_isSame_plain rfl h
 |tup x=>simp only [Rep] at ra;(refine af ra ?_;clear ra;intro _ y1;refine bd y1 ?_;clear y1;intro b its y22 _;subst y22);exact wpAny_isSame_plain rfl h
 |lst x=>simp only [Rep] at ra;(refine af ra ?_;clear ra;intro _ y1;refine bd y1 ?_;clear y1;intro b its y22 _;subst y22);exact wpAny_isSame_plain rfl h
 |obj n=>simp only [Rep] at ra;(refine ag ra ?_;clear ra;intro p _ y2;subst y2);exact wpAny_isSame_plain rfl h
 |rng x y z=>simp only [Rep] at ra;(refine mT ra ?_;clear ra;intro p _ _ _ y4 _;subst y4);exact wpAny_isSame_plain rfl h
 |val x=>exact absurd rfl (hn x)
theorem sf {α:Type}[BEq α] [LawfulBEq α] [DecidableEq α] (x y:α):(x==y)=decide (x=y):=by
 by_cases h:x=y
 ·subst h;simp
 ·erw [beq_eq_false_iff_ne.mpr h];simp [h]
theorem qQ {α:Type}[BEq α] [LawfulBEq α] [DecidableEq α] (x y:α):(x != y) = !decide (x=y):=by
 rw [bne,sf]
theorem zk (h:qT a b k):b=.none/\(∀x,a≠.val x)/\k (isNone a):=by
 induction b using V.casesOn with
 |none=>exact⟨rfl,h⟩
 |_=>exact h.elim
theorem Kt {st:List Cell}(h:rN st a k b):b=.lst []/\∃x,bY st a=some x/\k (!x.isEmpty):=by
 induction b using V.casesOn with
 |lst l=>induction l with
  |nil=>exact⟨rfl,md h⟩
  |cons=>exact h.elim
 |_=>exact h.elim
theorem Ae {st:List Cell}{x:List Nat}(h:kI st x b k):(∃y,b=.str y/\k (gF y x))\/(∃vs ys,b=.tup vs/\vs.mapM eM=some ys/\k (ys.contains x))\/∃vs ys,bY st b=some vs/\vs.mapM eM=some ys/\k (ys.contains x):=by
 have l:(∃ys,(bY st b).bind (fun vs=>vs.mapM eM)=some ys/\k (ys.contains x))->∃vs ys,bY st b=some vs/\vs.mapM eM=some ys/\k (ys.contains x):=fun h=>by
  refine ag h ?_;clear h;intro ys h hk;refine ag (Option.bind_eq_some_iff.mp h) ?_;intro vs h1 h2;exact bj vs ys h1 h2 hk
 induction b using V.casesOn with
 |str y=>exact .inl (aj y rfl h)
 |tup vs=>
  refine ag h ?_;clear h;intro ys h1 h2;exact .inr (.inl (bj vs ys rfl h1 h2))
 |lst vs=>
  refine ag h ?_;clear h;intro ys h1 h2;exact .inr (.inr (bj vs ys rfl h1 h2))
 |_=>exact .inr (.inr (l h))
theorem Jh {st:List Cell}{x:List Nat}(h:Af D st x b k):(∃d t,b=.val (.ref d)/\D d=some t/\k (t.lookup x).isSome)\/kI st x b k:=by
 induction b using V.casesOn with
 |val v=>
  refine ag (n6 h) ?_;intro d e y2;refine an y2 ?_;clear y2;intro t g3;exact .inl (bB d t e g3)
 |_=>exact .inr h
section
variable (R:Rel G C ws S s.heap) (hu:A.units<cLine) (ra:Rep ws s.heap a v) (rb:Rep ws s.heap b u) (q:∀c,k c->Qm (.bool c) s)
include hu ra rb q
open SeqAt in
theorem Kq (h:AO a b k):wpAny (model G.prog G.w) A (compareOp .Eq v u) Qm Em s:=by
 induction a using V.casesOn with
 |int x=>
  refine ag (da h) ?_;intro y y1 g4;subst y1;refine an ra.int_ ?_;intro t y1;subst y1;refine an rb.int_ ?_;intro t' y1;subst y1;exact PyProof.Rows.eq_int (q _ (by erw [sf];exact g4))
 |str x=>
  refine ag (f9 h) ?_;intro y y1 g5;subst y1;refine af ra.str_ ?_;intro _ y1;refine an y1 ?_;clear y1;intro t y21;subst y21;refine af rb.str_ ?_;intro _ y1;refine an y1 ?_;clear y1;intro t' y21;subst y21;refine PySem.P.eq_str (q _ ?_)
  (erw [mP];erw [mP];erw [sf])
  exact g5
 |tup x=>
  refine iL (n5 h) ?_;intro y y1 y2 hf hk;subst y1 y2;obtain⟨l,b,i1,i2,rfl,rfl,h1,h2,hs,he⟩:=uF hf ra rb;refine eq_tupleAt h1 h2 hu he (q _ ?_)
  (erw [yV];erw [hs];erw [beq_self_eq_true])
  exact hk
 |_=>exact h.elim
include R
open SeqAt in
theorem HM (h:zu S.st a b k):wpAny (model G.prog G.w) A (compareOp .NotEq v u) Qm Em s:=by
 have em:rN S.st a k b->wpAny (model G.prog G.w) A (compareOp .NotEq v u) Qm Em s:=fun h=>by
  refine af (Kt h) ?_;intro y0 y1;subst y0;refine ag y1 ?_;clear y1;intro x hx hk;refine af (f7 R.amb hx ra) ?_;intro _ y1;refine aY y1 ?_;clear y1;intro l its y22 i1 r1;subst y22;refine af rb ?_;clear rb;intro _ y1;refine b0 y1 ?_;clear y1;intro b its2 y22 _ i2 e;subst y22;cases (show its2=[] from e);induction x with
  |nil=>
   have:=r1.length
   induction its with
   |nil=>exact cmp_ofNotEq (RcNeAt.lists (e:=fun uz=>true) i1 i2 rfl hu (fun j h1=>absurd h1 (Nat.not_lt_zero j)) G.prog G.w Em Qm (q _ hk))
   |cons=>cases this
  |cons y ys=>
   refine cmp_ofNotEq (RcNeAt.lists_lengths i1 i2 (by(erw [List.size_toArray];erw [r1.length]);rfl) hu G.prog G.w Em Qm (q _ hk))
 induction a using V.casesOn with
 |int x=>
  refine ag (da h) ?_;intro y y1 g6;subst y1;refine an ra.int_ ?_;intro t y1;subst y1;refine an rb.int_ ?_;intro t' y1;subst y1;exact PyProof.Rows.ne_int (q _ (by erw [qQ];exact g6))
 |str x=>
  refine ag (f9 h) ?_;intro y y1 g7;subst y1;refine af ra.str_ ?_;intro _ y1;refine an y1 ?_;clear y1;intro t y21;subst y21;refine af rb.str_ ?_;intro _ y1;refine an y1 ?_;clear y1;intro t' y21;subst y21;refine PySem.P.ne_str (q _ ?_)
  (erw [mP];erw [mP];erw [qQ])
  exact g7
 |bool x=>
  refine ag (mC h) ?_;intro y y1 g8;subst y1;obtain rfl:=ra.bool_;obtain rfl:=rb.bool_;exact ne_bool (q _ g8)
 |bytes x=>
  refine ag (Ab h) ?_;intro y y1 g9;subst y1;refine af ra.bytes_ ?_;intro _ y1;refine an y1 ?_;clear y1;intro t y21;subst y21;refine af rb.bytes_ ?_;intro _ y1;refine an y1 ?_;clear y1;intro t' y21;subst y21;refine PySem.W.ne_bytes (q _ ?_)
  (erw [List.toList_toArray];erw [List.toList_toArray];erw [qQ])
  exact g9
 |tup x=>
  refine iL (n5 h) ?_;intro y y1 y2 hf hk;subst y1 y2;refine lq (uF (A:=A.in1) hf ra rb) ?_;intro l b i1 i2 y4 y5 h1 h2 hs he;subst y4 y5;refine cmp_ofNotEq (RcNeAt.tuples h1 h2 hu he G.prog G.w Em Qm (q _ ?_))
  (erw [yV];erw [hs];erw [beq_self_eq_true])
  exact hk
 |_=>exact em h
omit hu in
theorem Jg {x:List Nat}(e:a=.str x) (h:kI S.st x b k):wpAny (model G.prog G.w) A (compareOp .In v u) Qm Em s:=by
 subst e;refine af ra.str_ ?_;intro _ y1;refine an y1 ?_;clear y1;intro t y21;subst y21
 (focus (refine av (Ae h) ?_ ?_;intro y0;refine ag y0 ?_;clear y0;intro y y2 g10;subst y2;rotate_left;intro y0;(focus (refine av y0 ?_ ?_<;>clear y0;intro y1;refine aY y1 ?_;clear y1;intro vs ys y4 hm hk;subst y4;rotate_left;intro y1;refine aY y1 ?_;clear y1;intro vs ys hl hm hk;rotate_left));rotate_left 2))
 ·refine af rb.str_ ?_;intro _ y1;refine an y1 ?_;clear y1;intro t' y21;subst y21;refine PySem.P.in_str (q _ ?_)
  erw [cS];exact g10
 ·refine af rb ?_;clear rb;intro _ y1;refine b0 y1 ?_;clear y1;intro l its y22 _ i1 r1;subst y22;refine in_tuple_strs i1 (by erw [List.toList_toArray];exact nf hm r1) (q _ ?_)
  erw [mM];exact hk
 ·refine af (f7 R.amb hl rb) ?_;intro _ y1;refine aY y1 ?_;clear y1;intro l its y22 i1 r1;subst y22;refine in_list_strs i1 (nf hm r1) (q _ ?_)
  erw [mM];exact hk
omit hu in
theorem G6 {x:List Nat}(e:a=.str x) (h:kI S.st x b fun c=>k (!c)):wpAny (model G.prog G.w) A (compareOp .NotIn v u) Qm Em s:=by
 subst e;refine af ra.str_ ?_;intro _ y1;refine an y1 ?_;clear y1;intro t y21;subst y21
 (focus (refine av (Ae h) ?_ ?_;intro y0;refine ag y0 ?_;clear y0;intro y y2 g11;subst y2;rotate_left;intro y0;(focus (refine av y0 ?_ ?_<;>clear y0;intro y1;refine aY y1 ?_;clear y1;intro vs ys y4 hm hk;subst y4;rotate_left;intro y1;refine aY y1 ?_;clear y1;intro vs ys hl hm hk;rotate_left));rotate_left 2))
 ·refine af rb.str_ ?_;intro _ y1;refine an y1 ?_;clear y1;intro t' y21;subst y21;refine PySem.P.notIn_str (q _ ?_)
  erw [cS];exact g11
 ·refine af rb ?_;clear rb;intro _ y1;refine b0 y1 ?_;clear y1;intro l its y22 _ i1 r1;subst y22;refine notin_tuple_strs i1 (by erw [List.toList_toArray];exact nf hm r1) (q _ ?_)
  erw [mM];exact hk
 ·refine af (f7 R.amb hl rb) ?_;intro _ y1;refine aY y1 ?_;clear y1;intro l its y22 i1 r1;subst y22;refine notin_list_strs i1 (nf hm r1) (q _ ?_)
  erw [mM];exact hk
end
open SeqAt in
theorem kT {op:CmpOp}(R:Rel G C ws S s.heap) (hA:AOk A C.frs d) (hD:lr G D) (h:cG D op S.st a b k) (ra:Rep ws s.heap a v) (rb:Rep ws s.heap b u)
  (q:∀c tk,k c->Qm (.bool c) {s with toks:=tk}):wpAny (model G.prog G.w) A (compareOp op v u) Qm Em s:=by
 have q0:∀c,k c->Qm (.bool c) s:=fun c hc=>q c s.toks hc;have hu:A.units<cLine:=hA.cunits;induction op with
 |Eq=>exact Kq hu ra rb q0 h
 |NotEq=>exact HM R hu ra rb q0 h
 |Lt=>
  refine eX (f1 ra rb h) ?_;intro x y t t' y4 y5 g12;subst y4 y5;exact PyProof.Rows.lt_int (q0 _ g12)
 |LtE=>
  refine eX (f1 ra rb h) ?_;intro x y t t' y4 y5 g13;subst y4 y5;exact le_int (q0 _ g13)
 |Gt=>
  refine eX (f1 ra rb h) ?_;intro x y t t' y4 y5 g14;subst y4 y5;exact PyProof.Rows.gt_int (q0 _ g14)
 |GtE=>
  refine eX (f1 ra rb h) ?_;intro x y t t' y4 y5 g15;subst y4 y5;exact ge_int (q0 _ g15)
 |In=>
  refine ag (f9 h) ?_;intro x y1 g16;subst y1;refine av (Jh g16) ?_ ?_
  ·intro y0;refine aY y0 ?_;clear y0;intro d t y3 hd hk;subst y3;refine af ra.str_ ?_;intro _ y1;refine an y1 ?_;clear y1;intro t' y21;subst y21;obtain rfl:=rb.val_;refine in_strTab ((hD _ _ hd).keep R.amb.base) (q _ _ ?_)
   (erw [oy];erw [Option.isSome_map])
   exact hk
  ·intro g17;exact Jg R ra rb q0 rfl g17
 |NotIn=>
  refine ag (f9 h) ?_;intro x y1 g18;subst y1;exact G6 R ra rb q0 rfl g18
 |Is=>
  refine af (zk h) ?_;intro y0 g19;subst y0;obtain rfl:=rb.none_;exact az (z9 R ra g19.1 (aX (q0 _ g19.2)))
 |IsNot=>
  refine af (zk (k:=fun c=>k (!c)) h) ?_;intro y0 g20;subst y0;obtain rfl:=rb.none_;exact az (z9 R ra g20.1 (aX (q0 _ g20.2)))
end
theorem pK {j:Int}{n i:Nat}(e:seqIndex? j n=some i):i<n/\-(n:Int)<=j/\j<n/\(0<=j->i=j.toNat)/\(j<0->i=(j+n).toNat):=by
 unfold seqIndex? at e;by_cases hj:j<0
 ·rw [if_pos hj] at e;by_cases hc:(decide (0<=j+(n:Int))&&decide (j+(n:Int)<n))=true
  ·rw [if_pos hc] at e;simp only [cD,bi] at hc;cases e;omega
  ·rw [if_neg hc] at e;exact ba e
 ·rw [if_neg hj] at e;by_cases hc:(decide (0<=j)&&decide (j<(n:Int)))=true
  ·rw [if_pos hc] at e;simp only [cD,bi] at hc;cases e;omega
  ·rw [if_neg hc] at e;exact ba e
section
variable {G:Gd}{C:Cx}{ws:Wd}{S:St}{A:Around}{s:Shared}{Qm:VP}{Em:VP}{d:Nat}{k:V->Prop}
 {a b:V} {u v:Value} {D:Addr->Option (List (List Nat×Int))} {value slice:Expr}
theorem nT:(sizeLine:Int)<2 ^ 63:=by erw [sizeLine_eq];decide
theorem JP {l:Addr}{its:List Value}{j:Int}{t:Tok}{i:Nat}{x:Value}(hl:s.heap.IsList l its.toArray) (hz:its.length<=sizeLine)
  (e:seqIndex? j its.length=some i) (hx:its[i]? = some x) (h:Qm x s):wpAny (model G.prog G.w) A (getItem (.ref l) (.int j t)) Qm Em s:=by
 refine oW (pK e) ?_;intro h1 h2 h3 h4 h5;have:=nT;have hz2:its.toArray.size=its.length:=by simp
 by_cases hj:0<=j
 ·exact wpAny_getItem_list hl hj (by omega) (by(refine aZ (h4 hj ..) ?_);simpa using hx) h
 ·exact wpAny_getItem_list_neg hl (al [] [j] (.not (.Le (.k 0) aw)) (.Lt aw (.k 0)) hj) (by erw [hz2];exact al [its.length] [j] (.Le (.n (.c aa)) aw) (.Le (.n (.c aa)) aw) h2) (by omega) (by rw [hz2,←h5 (al [] [j] (.not (.Le (.k 0) aw)) (.Lt aw (.k 0)) hj)];simpa using hx) h
theorem uP (R:Rel G C ws S s.heap) {vs:List V}{j:Int}{n:Nat}{c:V}(hl:bY S.st a=some vs) (h1:seqIndex? j vs.length=some n) (h2:vs[n]? = some c) (hk:k c) (ra:Rep ws s.heap a v) (rb:Rep ws s.heap (.int j) u)
  (q:PQ ws s k Qm) (hs:∀o i,subscripted slice false o i=operate [o,i] (getItem o i)):wpAny (model G.prog G.w) A (subscriptTail value slice v u) Qm Em s:=by
 refine af (f7 R.amb hl ra) ?_;intro hz y1;refine aY y1 ?_;clear y1;intro l its y22 i1 r1;subst y22;refine an rb.int_ ?_;intro t' y1;subst y1;refine ag (r1.get h2) ?_;intro x e1 rx;exact tail_any i1.typeIs slot_list_getitem.lookup (JP i1 (by erw [r1.length];exact hz) (by erw [r1.length];exact h1) e1 (q.here rx hk)) (hs _ _)
theorem Ey (R:Rel G C ws S s.heap) (hA:AOk A C.frs d) (hD:lr G D) (h:f2 D S.st a b k) (ra:Rep ws s.heap a v) (rb:Rep ws s.heap b u)
  (q:PQ ws s k Qm) (hs:∀o i,subscripted slice false o i=operate [o,i] (getItem o i)):wpAny (model G.prog G.w) A (subscriptTail value slice v u) Qm Em s:=by
 have gen:(bu b fun j=>∃vs n a',bY S.st a=some vs/\seqIndex? j vs.length=some n/\vs[n]? = some a'/\k a')->wpAny (model G.prog G.w) A (subscriptTail value slice v u) Qm Em s:=fun h=>by
  refine ag (da h) ?_;intro j y1 y2;subst y1;refine f0 y2 ?_;clear y2;intro vs n c hl h1 h2 hk;exact uP R hl h1 h2 hk ra rb q hs
 induction a using V.casesOn with
 |str x=>
  refine ag (da h) ?_;intro j y1 y2;subst y1;refine aY y2 ?_;clear y2;intro n c h1 h2 hk;refine af ra.str_ ?_;intro hx y1;refine an y1 ?_;clear y1;intro t y21;subst y21;refine an rb.int_ ?_;intro t' y1;subst y1;refine ig (pK h1) ?_;intro g1 g2 g3 _;have l63:=nT;refine tail_any (typeIs_str s _ _) PySem.F.slot_str_getitem.lookup (PySem.P.getItem_str (c:=c) ?_ ?_ ?_) (hs _ _)
  ·rw [Bool.or_eq_false_iff];exact⟨decide_eq_false (by omega),decide_eq_false (by omega)⟩
  ·(erw [cS];erw [h1])
   exact(List.getElem?_toArray ..).trans h2
  ·exact q.same (fQ (x:=[c]) (by erw [sizeLine_eq];show 1<=_;decide)) hk
 |tup vs=>
  refine ag (da h) ?_;intro j y1 g0;subst y1;refine ag (mq g0) ?_;intro c g4 hk;refine ag (oF g4) ?_;intro n h1 h2;replace h2:=h2.symm;refine af ra ?_;clear ra;intro hz y1;refine b0 y1 ?_;clear y1;intro l its y22 hl i1 r1;subst y22;refine an rb.int_ ?_;intro t' y1;subst y1;refine ig (pK h1) ?_;intro g1 g2 g3 _;refine ag (r1.get h2) ?_;intro x e1 rx;have l63:=nT;exact tail_any i1.typeIs slot_tuple_getitem.lookup (getItem_tuple i1 (by omega) (by omega) (by(erw [List.size_toArray];erw [r1.length]);exact h1) ((List.getElem?_toArray ..).trans e1) (q.here rx hk)) (hs _ _)
 |lst vs=>
  refine ag (da h) ?_;intro j y1 y2;subst y1;refine aY y2 ?_;clear y2;intro n c h1 h2 hk;exact uP R rfl h1 h2 hk ra rb q hs
 |val w=>
  refine ag (n6 h) ?_;intro dd e g1;cases e;refine ag (f9 g1) ?_;intro x y1 y2;subst y1;refine aY y2 ?_;clear y2;intro t n hd hl hk;obtain rfl:=ra.val_;refine af rb.str_ ?_;intro _ y1;refine an y1 ?_;clear y1;intro t' y21;subst y21;have T:=(hD _ _ hd).keep R.amb.base;refine tail_any (T :="dict") (id :="dict.__getitem__") ?_ PySem.F.slot_dict_getitem.lookup (getItem_tab PyProof.V.same_str (strKind_is _ _ _ _) T (by(erw [oy];erw [hl]);rfl) (fun v hf=>?_)) (hs _ _)
  ·refine af T ?_;clear T;intro _ y1;refine ag y1 ?_;clear y1;intro kvs hd' _;exact hd'.mapOf.typeIs
  ·have:=hf s.heap
   cases this
   exact q.same cJ hk
 |_=>exact gen h
open Builtin.Str in
theorem EU (X:Str) (t:Tok) (l u:Option (Int×Tok)) {Q:VP}(hx:(StrLaws.sliceText X (l.map (·.1)) (u.map (·.1))).length<=sizeLine)
  (h:∀t' tk,Q (.str (StrLaws.sliceText X (l.map (·.1)) (u.map (·.1))) t') {s with toks:=tk}):(sliceMade X t l u none).post Q s:=by
 unfold StrLaws.sliceText at h hx;show(if((1:Int)==1&&(strSliceIndices (l.map (·.1)) (u.map (·.1)) 1 X.length).length==X.length)=true then Made.val (.str X t) else Made.str ⟨((strSliceIndices (l.map (·.1)) (u.map (·.1)) 1 X.length).filterMap (X.cps[·]?)).toArray⟩).post Q s;by_cases hc:((1:Int)==1&&(strSliceIndices (l.map (·.1)) (u.map (·.1)) 1 X.length).length==X.length)=true
 ·rw [if_pos hc] at h⊢;exact h t s.toks
 ·rw [if_neg hc] at h hx⊢;exact⟨hx,h s.toks (s.toks+1)⟩
theorem rz (a b n:Nat):Builtin.Str.strSliceIndices (some (a:Int)) (some (b:Int)) 1 n=sliceRange ((min a n:Nat):Int) ((min b n:Nat):Int) 1:=by
 have f:∀c:Nat,max (0:Int) (min (if(c:Int)<0 then(c:Int)+n else(c:Int)) n)=((min c n:Nat):Int):=fun c=>by
  rw [if_neg (by exact aH [c] [] (.not (.Lt (.c aa) (.k 0))))];omega
 unfold Builtin.Str.strSliceIndices;simp only [show((1:Int)>0)=True by simp,if_true,f]
theorem Jj (a b n:Nat):Builtin.Str.strSliceIndices (some (a:Int)) (some (b:Int)) 1 n=Builtin.Str.strSliceIndices (some ((min a n:Nat):Int)) (some ((min b n:Nat):Int)) 1 n:=by
 (erw [rz];erw [rz];erw [Nat.min_assoc];erw [Nat.min_self];erw [Nat.min_assoc];erw [Nat.min_self];with_reducible rfl)
theorem Ji (a b n:Nat) (h:min b n<=min a n):Builtin.Str.strSliceIndices (some (a:Int)) (some (b:Int)) 1 n=[]:=by
 erw [rz]
 unfold sliceRange;rw [if_pos (by decide),if_neg (by exact al [min b n,min a n] [] (.le aa ae) (.not (.Lt (.c ae) (.c aa))) h)];rfl
set_option tactic.hygienic true in
theorem DG (x:List Nat) (a b:Nat):StrLaws.sliceText (S_ x) (some (a:Int)) (some (b:Int))=S_ ((x.take b).drop a):=by
 by_cases h:min a x.length<=min b x.length
 ·have e:StrLaws.sliceText (S_ x) (some (a:Int)) (some (b:Int))=StrLaws.sliceText (S_ x) (some ((min a x.length:Nat):Int)) (some ((min b x.length:Nat):Int)):=by
   unfold StrLaws.sliceText
   (erw [Jj];erw [cS];with_reducible rfl)
  rw [e,StrLaws.sliceText_nat (S_ x) h (by erw [cS];exact al [b,x.length,min b x.length] [] (.mn ai aa ae) (.le ai ae) (eg (b) (x.length))),mP];show S_ _=_
  congr 1
  erw [List.drop_take]
  apply List.ext_getElem?;intro i;simp only [List.getElem?_take,List.getElem?_drop];by_cases ha:a<=x.length
  ·erw [Nat.min_eq_left ha]
   by_cases hb:b<=x.length
   ·(erw [Nat.min_eq_left hb];with_reducible rfl)
   ·rw [Nat.min_eq_right (by exact al [b,x.length] [] (.not (.le aa ae)) (.le ae aa) hb)];by_cases hi:i<x.length-a
    ·rw [if_pos hi,if_pos (by exact f8 [b,x.length,i,a,x.length-a,b-a] [] (.not (.le aa ae)) (.lt ai cb) (.sb cb ae aG) (.sb j4 aa aG) (.lt ai j4) hb hi (bg (x.length) (a)) (bg (b) (a)))]
    ·erw [if_neg hi]
     split
     ·rw [List.getElem?_eq_none (by exact aL [i,x.length,a,x.length-a] [] (.not (.lt aa aG)) (.sb aG ae ai) (.le ae (.a ai aa)) hi (bg (x.length) (a)))]
     ·rfl
  ·have hm:min a x.length=x.length:=by exact aL [a,x.length,min a x.length] [] (.not (.le aa ae)) (.mn ai aa ae) (.eq ai ae) ha (eg (a) (x.length))
   rw [hm,List.getElem?_eq_none (l:=x) (i:=x.length+i) (aH [x.length,i] [] (.le aa (.a aa ae))),List.getElem?_eq_none (l:=x) (i:=a+i) (al [a,x.length,i] [] (.not (.le aa ae)) (.le ae (.a aa ai)) ha)];simp
 ·have hd:(x.take b).drop a=[]:=by
   rw [List.drop_eq_nil_iff,List.length_take];exact bQ [a,x.length,min a x.length,b,min b x.length] [] (.not (.le ai cb)) (.mn ai aa ae) (.mn cb aG ae) (.le cb aa) h (eg (a) (x.length)) (eg (b) (x.length))
  unfold StrLaws.sliceText;rw [Ji a b _ (by erw [cS];exact al [min a x.length,min b x.length] [] (.not (.le aa ae)) (.le ae aa) h),hd]
  split
  ·rename_i hc
   simp only [List.length_nil,cS,cD,beq_iff_eq] at hc;have:x=[]:=List.length_eq_zero_iff.mp hc.2.symm
   (erw [this];with_reducible rfl)
  ·rfl
theorem uK (x:List Nat) (l u:Option Int) (hl:∀i,l=some i->0<=i) (hu:∀i,u=some i->0<=i):StrLaws.sliceText (S_ x) l u=S_ (cW x l u):=by
 have e:StrLaws.sliceText (S_ x) l u=StrLaws.sliceText (S_ x) (some (((l.map Int.toNat).getD 0:Nat):Int)) (some (((u.map Int.toNat).getD x.length:Nat):Int)):=by
  unfold StrLaws.sliceText;induction l with
  |none=>
   erw [StrLaws.sliceIdx_none_lo]
   induction u with
   |none=>(erw [StrLaws.sliceIdx_none_hi];erw [cS]);rfl
   |some i=>
    have:=hu i rfl
    simp only [Option.map_some,Option.getD_some,Int.toNat_of_nonneg this];rfl
  |some j=>
   have hj:=hl j rfl;induction u with
   |none=>
    (erw [StrLaws.sliceIdx_none_hi];erw [cS])
    simp only [Option.map_some,Option.getD_some,Int.toNat_of_nonneg hj];rfl
   |some i=>
    have:=hu i rfl
    simp only [Option.map_some,Option.getD_some,Int.toNat_of_nonneg this,Int.toNat_of_nonneg hj]
 (erw [e];erw [DG])
 rfl
theorem A5 {α:Type}(x:List α) (l u:Option Int):(cW x l u).length<=x.length:=by
 (erw [dJ];erw [List.length_take]);exact aL [(Option.map Int.toNat u).getD x.length,x.length,min ((Option.map Int.toNat u).getD x.length) x.length,(Option.map Int.toNat l).getD 0,min ((Option.map Int.toNat u).getD x.length) x.length-(Option.map Int.toNat l).getD 0] [] (.mn ai aa ae) (.sb cb ai aG) (.le cb ae) (eg ((Option.map Int.toNat u).getD x.length) (x.length)) (bg (min ((Option.map Int.toNat u).getD x.length) x.length) ((Option.map Int.toNat l).getD 0))
noncomputable def Cs (ws:Wd) (h:Heap):Option V->Value->Prop
 |some a,v=>Rep ws h a v
 |none,v=>v=.none
noncomputable def tD (G:Gd) (A:Around) (s:Shared) (Qm Em:VP) (v vl vu:Value):Prop:=
 ∃T id,s.TypeIs v T/\typeLookup (.type T) "__getitem__" = pure (some (.builtin id))/\
  wpAny (model G.prog G.w) A (getItem v (.ref s.heap.objs.size)) Qm Em {s with heap:=s.heap.push {cls:=.type "slice",data:=.fields #[vl,vu,.none]}}
theorem KO {o:V}{lo hi:Option V}{vl vu:Value}(R:Rel G C ws S s.heap) (h:jP S.st o lo hi k) (ro:Rep ws s.heap o v)
  (rl:Cs ws s.heap lo vl) (ru:Cs ws s.heap hi vu) (q:PQ ws s k Qm) :
  tD G A s Qm Em v vl vu:=by
 have str:∀(x:List Nat) (l u:Option (Int×Tok)),Rep ws s.heap (.str x) v->vl=partValue l->vu=partValue u->(∀i,l.map (·.1)=some i->0<=i)->(∀i,u.map (·.1)=some i->0<=i)->k (.str (cW x (l.map (·.1)) (u.map (·.1))))->
   tD G A s Qm Em v vl vu:=by
  intro x l u r e1 e2 h1 h2 hk;refine af r.str_ ?_;intro hx y1;refine an y1 ?_;clear y1;intro t y21;subst y21;subst e1 e2;refine bj ("str") _ (typeIs_str s _ _) PySem.F.slot_str_getitem.lookup (wpAny_getItem_str_slice (l:=l) (u:=u) (st:=none) (aQ _ (dv _ rfl) rfl rfl) rfl (EU _ _ _ _ ?_ fun t' tk=>?_))
  ·(erw [uK _ _ _ h1 h2];erw [cS]);exact aW (A5 _ _ _) hx
  ·erw [uK _ _ _ h1 h2]
   exact q _ _ _ _ (fun uz uz e=>bL _ e) (fQ (aW (A5 _ _ _) hx)) hk
 have lst:A8 S.st o lo hi k->tD G A s Qm Em v vl vu:=fun h=>by
  induction lo with
  |none=>exact h.elim
  |some l=>
   refine ag (da h) ?_;intro l y1 g0;subst y1;refine af (jR g0) ?_;intro e0 g1;cases Option.isNone_iff_eq_none.mp e0;refine a8 (md g1) ?_;intro vs hl h0 hk;refine an (Rep.int_ (ws:=ws) (h:=s.heap) rl) ?_;intro t1 y1;subst y1;refine af (f7 R.amb hl ro) ?_;intro hz y1;refine aY y1 ?_;clear y1;intro a its y22 i1 r1;subst y22;cases (show vu=.none from ru);refine bj ("list") _ i1.typeIs list_getitem_lookup (wpAny_getItem_list_slice (i1.push _) (Heap.IsSliceOf.new ..) (.int l t1) .none .none (by simp) ?_ (by(erw [List.size_toArray];erw [r1.length]);exact hz));have e:slicePick its.toArray (some l) none none=(its.drop l.toNat).toArray:=by
    have:=slicePick_from' its.toArray l.toNat
    rw [Int.toNat_of_nonneg h0] at this;simpa using this
   erw [e]
   refine q _ s.toks (.lst (vs.drop l.toNat)) _ (fun uz uz e=>bL _ (bL _ e)) ?_ hk;exact⟨by erw [dJ];omega,_,_,rfl,gH R.amb (by(with_reducible refine bx (Heap.size_push ..) ?_);exact aH [s.heap.objs.size] [] (.le aa (.a aa (.k 1)))),(aQ _ (dv _ rfl) rfl ⟨_,rfl⟩),(r1.drop _).mv (Mv.of_keeps fun uz uz e=>bL _ (bL _ e))⟩
 induction o using V.casesOn with
 |str x=>induction lo with
  |none=>induction hi with
   |none=>exact h.elim
   |some u=>
    refine a8 (da h) ?_;intro u y1 h0 hk;subst y1;refine an (Rep.int_ (ws:=ws) (h:=s.heap) ru) ?_;intro t2 y1;subst y1;exact str x none (some (u,t2)) ro rl rfl (fun i e=>nomatch e) (fun i e=>by cases e;exact h0) hk
  |some l=>
   refine ag (da h) ?_;intro l y1 g2;subst y1;refine an (Rep.int_ (ws:=ws) (h:=s.heap) rl) ?_;intro t1 y1;subst y1;induction hi with
   |none=>exact str x (some (l,t1)) none ro rfl ru (fun i e=>by cases e;exact g2.1) (fun i e=>nomatch e) g2.2
   |some u=>
    refine iL (da g2) ?_;intro u y1 h0 h1 hk;subst y1;refine an (Rep.int_ (ws:=ws) (h:=s.heap) ru) ?_;intro t2 y1;subst y1;exact str x (some (l,t1)) (some (u,t2)) ro rfl rfl (fun i e=>by cases e;exact h0) (fun i e=>by cases e;exact h1) hk
 |_=>exact lst h
end
section
set_option backward.match.sparseCases true
open Sem (wp)
noncomputable def iu:Code->Bool
 | .builtin id _=>!Builtin.Bytes.decodersThatHold.contains id
 |_=>true
def Cl (z:Bool) (Γ:Ctx):Prop:=z=true->iu Γ.code=true/\∀x∈Γ.below,iu x.1=true
def CT (z:Bool) (Γ:Ctx):Prop:=z=true->∀x∈Γ.below,iu x.1=true
def ah {α:Type}(z:Bool) (M:Model) (A:Around) (t:Sem α) (Q:α->Shared->Prop) (E:VP) (s:Shared):Prop:=
 ∀Γ p,Γ.In A->Cl z Γ->wp M Γ t (fun a uz s'=>Q a s') (fun e uz s'=>E e s') p s
def cn (z:Bool) (M:Model) (A:Around) (c:Code) (R:Result->Shared->Prop) (s:Shared):Prop:=
 ∀Γ p,Γ.code=c->Γ.Below A->CT z Γ->wpCode M Γ R p s
section
variable {α β:Type}{z:Bool}{M:Model}{A:Around}{E:VP}{s:Shared}
theorem aE {t:Sem α}{Q:α->Shared->Prop}(h:wpAny M A t Q E s):ah z M A t Q E s:=fun Γ p hΓ _=>h Γ p hΓ
theorem jn {t:Sem α}{Q:α->Shared->Prop}(h:ah false M A t Q E s):wpAny M A t Q E s:=fun Γ p hΓ=>h Γ p hΓ fun e=>nomatch e
theorem rY {c:Code}{R:Result->Shared->Prop}(h:codeAny M A c R s):cn z M A c R s:=fun Γ p hc hΓ _=>h Γ p hc hΓ
theorem r0 {c:Code}{R:Result->Shared->Prop}(h:cn false M A c R s):codeAny M A c R s:=fun Γ p hc hΓ=>h Γ p hc hΓ fun e=>nomatch e
theorem Dk {t:Sem α}{Q:α->Shared->Prop}(h:ah false M A t Q E s):ah z M A t Q E s:=aE (jn h)
theorem KY {c:Code}{R:Result->Shared->Prop}(h:cn false M A c R s):cn z M A c R s:=rY (r0 h)
theorem aP {a:α}{Q:α->Shared->Prop}(h:Q a s):ah z M A (pure a) Q E s:=fun uz uz uz uz=>h
theorem ef {t:Sem α}{Q Q':α->Shared->Prop}{E':VP}(h:ah z M A t Q E s) (hQ:∀a s,Q a s->Q' a s) (hE:∀e s,E e s->E' e s):ah z M A t Q' E' s:=
 fun Γ p hΓ hz=>Sem.wp_mono M Γ t (fun a uz s=>hQ a s) (fun e uz s=>hE e s) p s (h Γ p hΓ hz)
theorem aR {m:Sem α}{f:α->Sem β}{Q:β->Shared->Prop}(h:ah z M A m (fun a s'=>ah z M A (f a) Q E s') E s):ah z M A (m>>=f) Q E s:=fun Γ p hΓ hz=>by
 erw [Sem.wp_bind']
 exact Sem.wp_mono M Γ m (fun a p' s' h'=>h' Γ p' hΓ hz) (fun uz uz uz h'=>h') p s (h Γ p hΓ hz)
theorem kC {m:Sem α}{k:Value->Sem Unit}{Q:α->Shared->Prop}(h:ah z M A m Q (fun e s'=>ah z M A (k e) (fun uz s''=>E e s'') E s') s):ah z M A (m.onRaise k) Q E s:=fun Γ p hΓ hz=>by
 erw [Sem.wp_onRaise]
 exact Sem.wp_mono M Γ m (fun uz uz uz h'=>h') (fun e p' s' h'=>h' Γ p' hΓ hz) p s (h Γ p hΓ hz)
theorem H8 {m:Sem α}{Q:Except Value α->Shared->Prop}(h:ah z M A m (fun a=>Q (.ok a)) (fun e=>Q (.error e)) s):ah z M A m.attempt Q E s:=fun Γ p hΓ hz=>by
 erw [Sem.wp_attempt];exact h Γ p hΓ hz
theorem bP {vs:List Value}{m:Sem α}{Q:α->Shared->Prop}(h:ah z M A m Q E s):ah z M A (holding vs m) Q E s:=fun Γ p hΓ hz=>by
 erw [Sem.wp_holding];exact h Γ p hΓ hz
theorem iy {vs:List Value}{m:Sem Value}{Q:VP}(h:ah z M A m Q E s):ah z M A (operate vs m) Q E s:=fun Γ p hΓ hz=>by
 erw [Sem.wp_operate];exact h Γ p hΓ hz
theorem l7 {vs keep:List Value}{Q:Unit->Shared->Prop}(h:Q () s):ah z M A (release vs keep) Q E s:=fun Γ p _ _=>by
 erw [Sem.wp_release];exact h
theorem zw {pos:Pos}{Q:Unit->Shared->Prop}(h:Q () s):ah z M A (standAt pos) Q E s:=fun uz uz uz uz=>h
theorem qX {Q:Unit->Shared->Prop}(h:Q () s):ah z M A point Q E s:=fun uz uz uz uz=>h
theorem zy {tag:String}{Q:Unit->Shared->Prop}(h:Q () s):ah z M A (rule tag) Q E s:=fun uz uz uz uz=>h
theorem zD {env:Env}{x:Str}{v:Value}{Q:Unit->Shared->Prop}(h:ah z M A (storeName env x v) Q E s):ah z M A (bindName env x v) Q E s:=fun Γ p hΓ hz=>by
 erw [Sem.wp_bindName];exact h Γ p hΓ hz
theorem bS {pos:Pos}{f:Unit->Sem β}{Q:β->Shared->Prop}(h:ah z M A (f ()) Q E s):ah z M A (standAt pos>>=f) Q E s:=aR (zw h)
theorem Cl.enter {Γ:Ctx}(h:Cl z Γ) (c:Code) (hd:Option Value) (p:Pos):CT z (Γ.enter c hd p):=fun e x hx=>by
 refine av (bC hx) ?_ ?_
 ·rintro rfl;exact(h e).1
 ·intro hx;exact(h e).2 x hx
theorem HU {c:Code}{h:Option Value}{Q:Flow->Shared->Prop}(hc:cn z M (A.mark h) c (fun r s'=>match r with | .ok f=>Q f s' | .error e=>E e s') s) (hnb:h≠some byPass) :
  ah z M A (run c h) Q E s:=fun Γ p hΓ hz=>by erw [Sem.wp_run];exact hc _ p rfl (hΓ.enter c h p hnb) (hz.enter c h p)
theorem HT {c:Code}{Q:VP}(hc:cn z M A c (fun r s'=>match r with | .ok (.ret v)=>Q v s' | .ok _=>False | .error e=>E e s') s):ah z M A (runValue c) Q E s:=
 fun Γ p hΓ hz=>by erw [Sem.wp_runValue];exact hc _ p rfl (hΓ.enter c none p (by intro x;exact ba x)) (hz.enter c none p)
theorem iA {f:Value}{pos:List Value}{kw:List (Str×Value)}{Q:VP}(hc:cn z M A (.call f ⟨pos,kw⟩) (fun r s'=>match r with | .ok (.ret v)=>Q v s' | .ok _=>False | .error e=>E e s') s) :
  ah z M A (call f pos kw) Q E s:=HT hc
theorem Bh {c:Code}{R R':Result->Shared->Prop}(h:cn z M A c R s) (hR:∀r s,R r s->R' r s):cn z M A c R' s:=fun Γ p hc hΓ hz=>wpCode_mono hR (h Γ p hc hΓ hz)
theorem gj {c:Code}{R:Result->Shared->Prop}(hn:iu c=true)
  (h:ah z M (A.under c) (M.den c) (fun fin s'=>match fin with | .done f=>R (.ok f) s' | .again c'=>c'.quiet=true/\cn z M A c' R s') (fun e s'=>R (.error e) s') s):cn z M A c R s:=fun Γ p hc hΓ hz=>by
 rw [wpCode_iff_wp,hc];refine Sem.wp_mono M Γ _ (fun fin p' s' h'=>?_) (fun uz uz uz h'=>h') p s (h Γ p (hc▸hΓ.in) fun e=>⟨hc▸hn,hz e⟩);induction fin with
 |done f=>exact h'
 |again c'=>exact⟨h'.1,h'.2 (Γ.goto c') p' rfl (hΓ.goto c') hz⟩
theorem K0 {c:Code}{R:Result->Shared->Prop}(hn:iu c=true) (hq:c.quiet=true) (I:Nat->Shared->Prop)
  (turn:∀n s,I n s->ah z M (A.under c) (M.den c) (fun fin s'=>match fin with | .done f=>R (.ok f) s' | .again c'=>c'=c/\∃m,m<n/\I m s') (fun e s'=>R (.error e) s') s)
  (n:Nat) (h:I n s):cn z M A c R s:=by
 induction n using Nat.strongRecOn generalizing s with
 |ind n ih=>
  refine gj hn (ef (turn n s h) (fun fin s' hf=>?_) fun uz uz h'=>h');induction fin with
  |done f=>exact hf
  |again c'=>(refine af hf ?_;clear hf;intro y0 y1;subst y0;refine ag y1 ?_;clear y1;intro m hm hI);exact⟨hq,ih m hm hI⟩
theorem HS {Q:List (Code×Pos)->Shared->Prop}(h:∀st:List (Code×Pos),(∀g,A.guards=some g->guardsOf st=g)->(z=true->∀x∈st,iu x.1=true)->Q st s):ah z M A stack Q E s:=fun Γ p hΓ hz=>by
 refine h _ (fun g hg=>by erw [guardsOf_cons];exact hΓ.2.2.2.1 g hg) fun e x hx=>?_;refine av (bC hx) ?_ ?_
 ·rintro rfl;exact(hz e).1
 ·intro hx;exact(hz e).2 x hx
theorem zC {v:Value}{Q:Bool->Shared->Prop}(hz:z=true) (hg:A.guards=some []) (h:Q false s):ah z M A (Builtin.Bytes.exported v) Q E s:=by
 refine aR (HS fun st h1 h2=>aP ?_);have e:∀x∈st,x.1.isGuard=false:=fun x hx=>by
  have:=h1 [] hg
  unfold guardsOf at this;have hx':=List.filter_eq_nil_iff.mp this x.1 (List.mem_map_of_mem hx);simpa using hx'
 have fin:∀b:Bool,b=false->Q b s:=fun b e=>e▸h;refine fin _ ?_;rw [List.any_eq_false];intro x hx;have g:=e x hx;have d:=h2 hz x hx;obtain⟨c,p⟩:=x;induction c with
 |builtin id args=>
  have d':Builtin.Bytes.decodersThatHold.contains id=false:=(cN _).mp d;have gg:∀s:String,guardIds.contains s=true->id≠s:=fun s h e=>by
   rw [←e] at h;exact absurd (h.symm.trans g) (by decide)
  obtain⟨pos,kw⟩:=args
  delta PySem.Builtin.Bytes.exported.match_1
  show ¬(dite _ _ _=true)
  (erw [dif_neg (gg _ (by decide))];erw [dif_neg (gg _ (by decide))];erw [dif_neg (gg _ (by decide))];erw [dif_neg (gg _ (by decide))];erw [dif_neg (gg _ (by decide))])
  induction pos with
  |nil=>exact Bool.false_ne_true
  |cons a r=>
   show ¬((Builtin.Bytes.sameRef a v&&Builtin.Bytes.decodersThatHold.contains id)=true)
   (erw [d'];erw [Bool.and_false])
   exact Bool.false_ne_true
 |_=>exact Bool.false_ne_true
end
end
section
variable {α β:Type}{z:Bool}{M:Model}{A:Around}{E:VP}{s:Shared}{env:Env}
theorem aM {m:Sem α}{f:α->Sem β}{Q:β->Shared->Prop}{Q1:α->Shared->Prop}(h:ah z M A m Q1 E s) (k:∀a s',Q1 a s'->ah z M A (f a) Q E s'):ah z M A (m>>=f) Q E s:=
 aR (ef h k fun uz uz x=>x)
theorem HW {vs:List Value}{m:Sem α}{Q:α->Shared->Prop}(h:ah z M A m Q E s):ah z M A (m.keep vs) Q E s:=fun Γ p hΓ hz=>by erw [Sem.wp_keep];exact h Γ p hΓ hz
theorem HV {t:Sem α}{r:α}{f:α->Sem β}{Q:β->Shared->Prop}(L:Looks M s.heap t r) (h:ah z M A (f r) Q E s):ah z M A (t>>=f) Q E s:=fun Γ p hΓ hz=>by
 erw [Sem.wp_bind']
 have:=aE (z:=z) (M:=M) (A:=A) (E:=fun uz uz=>False) (s:=s) (t:=t) (Q:=fun a s'=>a=r/\s'=s) (L.here ⟨rfl,rfl⟩)
 exact Sem.wp_mono M Γ t (fun a p' s' ⟨e1,e2⟩=>by subst e1 e2;exact h Γ p' hΓ hz) (fun uz uz uz x=>x.elim) p s (this Γ p hΓ hz)
theorem Ij {l op r pos}{Q:VP}
  (h:ah z M A (eval l env) (fun a s₁=>ah z M A (eval r env) (fun b s₂=>ah z M A (binaryOp op a b) Q E s₂) E s₁) E s):ah z M A (eval (.BinOp l op r pos) env) Q E s:=by
 erw [eval_BinOp]
 exact aM h fun a s₁ h₁=>aM (bP h₁) fun b s₂ h₂=>bS (iy h₂)
theorem zG {op x pos}{Q:VP}(h:ah z M A (eval x env) (fun v s₁=>ah z M A (unaryOp op v) Q E s₁) E s):ah z M A (eval (.UnaryOp op x pos) env) Q E s:=
 aM (m:=eval x env) (f:=fun v=>standAt pos>>=fun uz=>holding [v] (unaryOp op v)) h fun v s₁ h₁=>bS (bP h₁)
theorem Ii {l op r pos}{Q:VP}
  (h:ah z M A (eval l env) (fun a s₁=>ah z M A (eval r env) (fun b s₂=>ah z M A (compareOp op a b) Q E s₂) E s₁) E s) (hm:behindInMarks op r=false):ah z M A (eval (.Compare l [op] [r] pos) env) Q E s:=by
 (erw [eval_Compare1];erw [markedBehindIn_of_false hm])
 exact aM h fun a s₁ h₁=>aM (bP h₁) fun b s₂ h₂=>bS (iy h₂)
theorem Ko (l o1 o2 m r pos):eval (.Compare l [o1,o2] [m,r] pos) env=(do
  let a ←eval l env
  let b ←holding [a] (eval m env)
  standAt pos
  let c ←holding [a,b] (compareOp o1 a b)
  release [a,b] [c]
  if ←holding [c,b] (truthy c) then(do let d ←holding [b] (markedBehindIn o2 r (eval r env));standAt pos;operate [b,d] (compareOp o2 b d)) else pure c):=rfl
theorem Ih {l o1 o2 m r pos}{Q:VP}
  (h:ah z M A (eval l env) (fun a s₁=>ah z M A (eval m env) (fun b s₂=>ah z M A (compareOp o1 a b) (fun c s₃=>ah z M A (truthy c) (fun t s₄=>
   if t then ah z M A (eval r env) (fun d s₅=>ah z M A (compareOp o2 b d) Q E s₅) E s₄ else Q c s₄) E s₃) E s₂) E s₁) E s) (hm:behindInMarks o2 r=false) :
  ah z M A (eval (.Compare l [o1,o2] [m,r] pos) env) Q E s:=by
 (erw [Ko];erw [markedBehindIn_of_false hm])
 refine aM h fun a s₁ h₁=>aM (bP h₁) fun b s₂ h₂=>bS (aM (bP h₂) fun c s₃ h₃=>aR (l7 (aM (bP h₃) fun t s₄ h₄=>?_)));induction t with
 |true=>exact aM (bP h₄) fun d s₅ h₅=>bS (iy h₅)
 |false=>exact aP h₄
theorem H7 {pos op}{t t':Sem Value}{r:List (Sem Value)}{Q:VP}
  (h:ah z M A t (fun v s₁=>ah z M A (truthy v) (fun b s₂=>match op,b with | .And,false | .Or,true=>Q v s₂ | _,_=>ah z M A (boolOp pos op (t'::r)) Q E s₂) E s₁) E s):ah z M A (boolOp pos op (t::t'::r)) Q E s:=by
 refine aM (m:=t) h fun v s₁ h₁=>bS (aM (bP h₁) fun b s₂ h₂=>?_);cases op<;>cases b<;>first | exact aP h₂ | exact h₂
theorem Ic {test body orelse pos}{Q:VP}(h:ah z M A (isTrue test env (eval test env)) (fun b s₂=>if b then ah z M A (eval body env) Q E s₂ else ah z M A (eval orelse env) Q E s₂) E s) :
  ah z M A (eval (.IfExp test body orelse pos) env) Q E s:=
 aM (m:=isTrue test env (eval test env)) (f:=fun b=>if b=true then eval body env else eval orelse env) h fun b s₁ h₁=>by cases b<;>exact h₁
theorem HY {x pos whole}{Q:Bool->Shared->Prop}(h:ah z M A (isTrue x env (eval x env)) (fun b s₁=>Q (!b) s₁) E s):ah z M A (isTrue (.UnaryOp .Not x pos) env whole) Q E s:=
 aM (m:=isTrue x env (eval x env)) (f:=fun b=>pure !b) h fun b s₁ h₁=>aP h₁
theorem zB {op values pos whole}{Q:Bool->Shared->Prop}(h:ah z M A (allTrue op values env) Q E s):ah z M A (isTrue (.BoolOp op values pos) env whole) Q E s:=h
theorem zE {op}{Q:Bool->Shared->Prop}(h:Q (op==.And) s):ah z M A (allTrue op [] env) Q E s:=aP h
theorem zF {op x rest}{Q:Bool->Shared->Prop}(h:ah z M A (isTrue x env (eval x env)) (fun b s₁=>match op,b with | .And,false=>Q false s₁ | .Or,true=>Q true s₁ | _,_=>ah z M A (allTrue op rest env) Q E s₁) E s) :
  ah z M A (allTrue op (x::rest) env) Q E s:=by
 refine aM (m:=isTrue x env (eval x env)) h fun b s₁ h₁=>?_;cases op<;>cases b<;>first | exact aP h₁ | exact h₁
theorem HZ {test body orelse pos whole}{Q:Bool->Shared->Prop}(h:ah z M A (isTrue test env (eval test env)) (fun b s₂=>if b then ah z M A (isTrue body env (eval body env)) Q E s₂ else ah z M A (isTrue orelse env (eval orelse env)) Q E s₂) E s) :
  ah z M A (isTrue (.IfExp test body orelse pos) env whole) Q E s:=
 aM (m:=isTrue test env (eval test env)) (f:=fun b=>if b=true then isTrue body env (eval body env) else isTrue orelse env (eval orelse env)) h fun b s₁ h₁=>by cases b<;>exact h₁
theorem H3 {l op r pos whole}{Q:Bool->Shared->Prop}
  (h:ah z M A (eval l env) (fun a s₁=>ah z M A (eval r env) (fun b s₂=>ah z M A (compareOp op a b) (fun c s₃=>ah z M A (truthy c) Q E s₃) E s₂) E s₁) E s)
  (hm:behindInMarks op r=false):ah z M A (isTrue (.Compare l [op] [r] pos) env whole) Q E s:=by
 (erw [isTrue_Compare1];erw [markedBehindIn_of_false hm])
 exact aM h fun a s₁ h₁=>aM (bP h₁) fun b s₂ h₂=>bS (aM (iy h₂) fun c s₃ h₃=>bP h₃)
theorem I7 (l o1 o2 m r pos whole):isTrue (.Compare l [o1,o2] [m,r] pos) env whole=(do
  let a ←eval l env
  let b ←holding [a] (eval m env)
  standAt pos
  let c ←holding [a,b] (compareOp o1 a b)
  release [a,b] [c]
  if ←holding [c,b] (truthy c) then(do let d ←holding [b] (markedBehindIn o2 r (eval r env));standAt pos;let c ←operate [b,d] (compareOp o2 b d);holding [c] (truthy c)) else pure false):=rfl
theorem H0 {l o1 o2 m r pos whole}{Q:Bool->Shared->Prop}
  (h:ah z M A (eval l env) (fun a s₁=>ah z M A (eval m env) (fun b s₂=>ah z M A (compareOp o1 a b) (fun c s₃=>ah z M A (truthy c) (fun t s₄=>
   if t then ah z M A (eval r env) (fun d s₅=>ah z M A (compareOp o2 b d) (fun c s₆=>ah z M A (truthy c) Q E s₆) E s₅) E s₄ else Q false s₄) E s₃) E s₂) E s₁) E s) (hm:behindInMarks o2 r=false) :
  ah z M A (isTrue (.Compare l [o1,o2] [m,r] pos) env whole) Q E s:=by
 (erw [I7];erw [markedBehindIn_of_false hm])
 refine aM h fun a s₁ h₁=>aM (bP h₁) fun b s₂ h₂=>bS (aM (bP h₂) fun c s₃ h₃=>aR (l7 (aM (bP h₃) fun t s₄ h₄=>?_)));induction t with
 |true=>exact aM (bP h₄) fun d s₅ h₅=>bS (aM (iy h₅) fun c s₆ h₆=>bP h₆)
 |false=>exact aP h₄
noncomputable def qD:Expr->Bool
 | .UnaryOp .Not _ _=>false
 | .BoolOp ..=>false
 | .IfExp ..=>false
 | .Compare ..=>false
 |_=>true
theorem HX {e whole}{Q:Bool->Shared->Prop}(hp:qD e=true) (h:ah z M A whole (fun v s₁=>ah z M A (truthy v) Q E s₁) E s):ah z M A (isTrue e env whole) Q E s:=by
 have:isTrue e env whole=(do let v ←whole;standAt e.pos;holding [v] (truthy v)):=by
  induction e using Expr.casesOn with
  |UnaryOp op x p=>cases op<;>first | rfl | exact ft hp
  |BoolOp=>exact ft hp
  |IfExp=>exact ft hp
  |Compare=>exact ft hp
  |_=>rfl
 erw [this]
 exact aM h fun v s₁ h₁=>bS (bP h₁)
theorem jE {Q:List Value->Shared->Prop}(h:Q [] s):ah z M A (spliced []) Q E s:=aP h
theorem ix {x:Sem Value}{rest:List (Bool×Sem Value)}{Q:List Value->Shared->Prop}(h:ah z M A x (fun v s₁=>ah z M A (spliced rest) (fun vs s₂=>Q (v::vs) s₂) E s₁) E s):ah z M A (spliced ((false,x)::rest)) Q E s:=by
 rw [spliced];refine aM h fun v s₁ h₁=>?_;exact aR (aP (aM (bP h₁) fun vs s₂ h₂=>aP h₂))
theorem pG {e:Expr}{r:List Expr}(h:noStar (e::r)=true):starEach (e::r) env=(false,eval e env)::starEach r env/\noStar r=true:=by
 cases e<;>first | exact ft h | exact⟨rfl,h⟩
theorem zH {elts k pos}{Q:VP}(h:ah z M A (spliced (backTo pos (starEach elts env))) (fun vs s₁=>ah z M A (newTuple vs) Q E s₁) E s):ah z M A (eval (.Tuple elts k pos) env) Q E s:=
 bS (aM (m:=spliced (backTo pos (starEach elts env))) (f:=newTuple) h fun uz uz h₁=>h₁)
theorem zI {elts pos}{Q:VP}(h:ah z M A (spliced (backTo pos (starEach elts env))) (fun vs s₁=>ah z M A (newList vs) Q E s₁) E s):ah z M A (eval (.List elts pos) env) Q E s:=
 bS (aM (m:=spliced (backTo pos (starEach elts env))) (f:=newList) h fun uz uz h₁=>h₁)
theorem sh {pos:Pos}:∀{es:List Expr},noStar es=true->((backTo pos (starEach es env)).any (·.1))=false
 | [],_=>rfl
 |e::r,h=>by
  refine af (pG (env:=env) h) ?_;intro h1 h2
  erw [h1]
  erw [sh h2];rfl
theorem H5 {f:Value}{pos:Pos}{es:List Expr}{Q:Args->Shared->Prop}(hn:noStar es=true) (h:ah z M A (spliced (backTo pos (starEach es env))) (fun vs s'=>Q ⟨vs,[]⟩ s') E s):ah z M A (evalArgs f true (backTo pos (starEach es env)) []) Q E s:=by
 induction es with
 |nil=>
  refine aR (ef h (fun vs s' h'=>?_) fun uz uz x=>x);exact bP (aR (aP (aR (aP (aP h')))))
 |cons e r=>
  refine af (pG (env:=env) hn) ?_;intro h1 h2;rw [h1] at h⊢;refine aR (ef h (fun vs s' h'=>?_) fun uz uz x=>x);exact bP (aR (aP (aR (aP (aP h')))))
theorem hO {P:Heap->Prop}{pos ap:Pos}{f:Value}{first:List Value}{es:List Expr}{Q:VP}(hn:noStar es=true)
  (hk:∀h,P h->∃k,(k=Keeper.frame\/k=Keeper.machine\/k=Keeper.boundFrame)/\Looks M h (keeperOf f) k)
  (h:ah z M A (spliced (backTo ap (starEach es env))) (fun vs s₁=>P s₁.heap/\ah z M A (call f (first++vs)) Q E s₁) E s):ah z M A (callWith pos f first (backTo ap (starEach es env)) []) Q E s:=by
 refine aM (bP (H5 (Q:=fun a s₁=>P s₁.heap/\ah z M A (call f (first++a.pos) a.kw) Q E s₁) hn h)) fun a s₁ h₁=>bS ?_;refine ag (hk _ h₁.1) ?_;intro k hk' L
 erw [sh hn]
 refine HV L ?_;have tail:∀{t:Sem Value},ah z M A t Q E s₁->ah z M A (t>>=fun r=>holding [r] point>>=fun uz=>pure r) Q E s₁:=
  fun ht=>aM ht fun r s₂ hr=>aR (bP (qX (aP hr)))
 have marked (mk:Value):ah z M A (callMarked mk f (first++a.pos) a.kw) Q E s₁:=by unfold callMarked;exact HW h₁.2
 have mi {c:Prop} [Decidable c] {t1 t2:Sem Value} (h1:ah z M A t1 Q E s₁) (h2:ah z M A t2 Q E s₁):ah z M A (if c then t1 else t2) Q E s₁:=by
  by_cases q:c
  ·erw [if_pos q];exact h1
  ·erw [if_neg q];exact h2
 (focus (refine av hk' ?_ ?_<;>clear hk';rintro rfl;rotate_left;intro y0;(focus (refine av y0 ?_ ?_<;>clear y0;rintro rfl;rotate_left;rintro rfl;rotate_left));rotate_left 2))
 ·exact mi (tail h₁.2) (tail (marked _))
 ·exact tail h₁.2
 ·exact mi (tail h₁.2) (tail (marked _))
noncomputable def zj:Expr->Bool
 | .Attribute ..=>false
 |_=>true
theorem l9 {f:Expr}{es pos}{Q:VP}(hf:zj f=true)
  (h:ah z M A (eval f env) (fun g s₁=>ah z M A (callWith pos g [] (backTo pos (starEach es env)) []) Q E s₁) E s):ah z M A (eval (.Call f es [] pos) env) Q E s:=by
 have e:eval (.Call f es [] pos) env=(do callWith pos (←eval f env) [] (backTo pos (starEach es env)) []):=by
  cases f<;>first | rfl | exact ft hf
 erw [e]
 exact aM h fun uz uz h₁=>h₁
theorem Dr {o:Expr}{name:Str}{whole:Sem Value}(h:(match o with | .Call (.Name id _) [] [] _=>id != ("super":Str) | _=>true)=true):attributeBase o name env whole=whole:=by
 induction o using Expr.casesOn with
 |Call f as ks p=>induction f using Expr.casesOn with
  |Name id q=>induction as with
   |nil=>induction ks with
    |nil=>
     have h':(id != ("super":Str))=true:=h;unfold attributeBase;dsimp only
     erw [h'];rfl
    |cons=>rfl
   |cons=>rfl
  |_=>rfl
 |_=>rfl
theorem qZ {o:Expr}{name es apos pos}{Q:VP}(ho:(match o with | .Call (.Name id _) [] [] _=>id != ("super":Str) | _=>true)=true) (hn:noStar es=true) (hl:es.length<20) (hp:apos.endLine=pos.line)
  (h:ah z M A (eval o env) (fun v s₁=>ah z M A (getMethod v name (do return (←importBound o env).getD true)) (fun fx s₂=>ah z M A (callWith pos fx.1 fx.2 (backTo pos (starEach es env)) []) Q E s₂) E s₁) E s) :
  ah z M A (eval (.Call (.Attribute o name apos) es [] pos) env) Q E s:=by
 have e:eval (.Call (.Attribute o name apos) es [] pos) env=(do
   let ov ←attributeBase o name env (eval o env)
   standAt apos.atName
   methodCall o name apos pos env ov (es.length+0) (backTo pos (starEach es env)) []):=rfl
 (erw [e];erw [Dr ho])
 refine aM h fun v s₁ h₁=>bS ?_;have form:methodCallForm (es.length+0) (backTo pos (starEach es env)) []=true:=by
  unfold methodCallForm;have:(backTo pos (starEach es env)).all (!·.1)=true:=by
   have q:=sh (env:=env) (pos:=pos) hn;rw [List.any_eq_false] at q;rw [List.all_eq_true];intro x hx;simpa using q x hx
  erw [this]
  simp
  exact al [es.length] [] (.lt aa (.k 20)) (.lt aa (.k 30)) hl
 unfold methodCall
 erw [form]
 refine aM (bP h₁) fun fx s₂ h₂=>?_;have ep:methodCallPos true o env apos pos=pure pos:=by
  unfold methodCallPos;simp [hp]
 simp only [ep];exact aR (aP h₂)
set_option tactic.hygienic true in
theorem q7 {o:Expr}{name pos}{Q:VP}(ho:(match o with | .Name ..=>true | _=>false)=true)
  (h:ah z M A (eval o env) (fun v s₁=>ah z M A (getAttr v name true) Q E s₁) E s):ah z M A (eval (.Attribute o name pos) env) Q E s:=by
 cases o<;>try (cases ho;done)
 rename_i x p
 have e:eval (.Attribute (.Name x p) name pos) env=(do
   let o ←eval (.Name x p) env
   standAt pos.atName
   let r ←holding [o] (getAttr o name true)
   letTemporaryGo (.Name x p) o r
   pure r):=rfl
 erw [e]
 exact aM h fun v s₁ h₁=>bS (aM (bP h₁) fun r s₂ h₂=>aR (aP (aP h₂)))
end
section
variable {z:Bool}{prog:Program}{w:World}{A:Around}{E:VP}{s:Shared}{env:Env}
theorem Ib {o i pos}{Q:VP}
  (h:ah z (model prog w) A (eval o env) (fun v s₁=>ah z (model prog w) A (eval i env) (fun u s₂=>∃T id,s₂.TypeIs v T/\typeLookup (.type T) "__getitem__" = pure (some (.builtin id))/\ah z (model prog w) A (getItem v u) Q E s₂) E s₁) E s) :
  ah z (model prog w) A (eval (.Subscript o i pos) env) Q E s:=by
 have e:eval (.Subscript o i pos) env=(do
   let v ←eval o env
   let u ←holding [v] (eval i env)
   standAt pos
   let r ←subscripted i (←getitemInPython v) v u
   letTemporaryGo o v r
   pure r):=rfl
 erw [e]
 refine aM h fun v s₁ h₁=>aM (bP h₁) fun u s₂ hx=>bS ?_;refine aY hx ?_;clear hx;intro T id h2 h3 h4;have fin:ah z (model prog w) A (subscripted i false v u>>=fun r=>letTemporaryGo o v r>>=fun uz=>pure r) Q E s₂:=by
  have:ah z (model prog w) A (subscripted i false v u) Q E s₂:=by
   induction i using Expr.casesOn with
   |Slice a b c q=>cases c<;>exact iy h4
   |_=>exact iy h4
  exact aM this fun r s₃ h₅=>aR (aE (wpAny_letTemporaryGo (aP h₅)))
 exact aR (aR (aE (eR h2 h3 (aP fin))))
end
section
set_option backward.match.sparseCases true
section
variable {α β:Type}{z:Bool}{M:Model}{A:Around}{E:VP}{s:Shared}{env:Env}
set_option tactic.hygienic true in
theorem l8 {Q:Flow->Shared->Prop}(h:Q .next s):ah z M A (execs [] env) Q E s:=fun uz uz uz uz=>h
theorem jF {st rest}{Q:Flow->Shared->Prop}(h:ah z M A (exec st env) (fun f s'=>match f with | .next=>ah z M A (execs rest env) Q E s' | f=>Q f s') E s):ah z M A (execs (st::rest) env) Q E s:=by
 erw [execs_cons]
 refine aM h fun f s' h'=>?_;cases f<;>first | exact h' | exact aP h'
theorem Ig {f as ks p pos}{Q:Flow->Shared->Prop}(hi:env.scope.kind=.function)
  (h:ah z M A (eval (.Call f as ks p) env) (fun v s₁=>ah z M A (dropValue (.Call f as ks p) pos v) Q E s₁) E s):ah z M A (exec (.Expr (.Call f as ks p) pos) env) Q E s:=by
 have e:exec (.Expr (.Call f as ks p) pos) env=(do
   standAt pos
   if interactive env then printExpr (eval (.Call f as ks p) env)
   else if ←swapsWith (.Call f as ks p) none pos.line env then do evalThenUse (.Call f as ks p) env fun uz=>point;pure .next
   else do dropValue (.Call f as ks p) pos (←eval (.Call f as ks p) env)):=rfl
 have hi':interactive env=false:=by unfold interactive;erw [hi];rfl
 (erw [e];erw [hi'])
 exact bS (aR (aP (aM h fun uz uz h₁=>h₁)))
theorem Ew {e:Expr}{t:Option Expr}{l:Nat}(h:fV e=false):swapsWith e t l env=pure false:=by
 cases e<;>first | exact tf h | rfl
theorem nP {t value pos}{Q:Flow->Shared->Prop}(hc:fV value=false)
  (h:ah z M A (eval value env) (fun v s₁=>ah z M A (swappedStores [t] value env) (fun o s₂=>ah z M A (assignStores env v o ((assignEach [t] env).map (·.2))) Q E s₂) E s₁) E s):ah z M A (exec (.Assign [t] value pos) env) Q E s:=by
 have e:exec (.Assign [t] value pos) env=(do
   standAt pos
   if ←swapsWithSole [t] value pos.line env then do
    evalThenUse value env fun v=>assignAll v ((assignEach [t] env).map (·.2))
    pure .next
   else do
    let v ←eval value env
    assignStores env v (←swappedStores [t] value env) ((assignEach [t] env).map (·.2))):=rfl
 erw [e]
 have hs:swapsWithSole [t] value pos.line env=pure false:=Ew hc
 erw [hs]
 exact bS (aR (aP (aM h fun v s₁ h₁=>aM h₁ fun uz uz h₂=>h₂)))
theorem Io {x p value pos}{Q:Flow->Shared->Prop}(hc:fV value=false)
  (h:ah z M A (eval value env) (fun v s₁=>ah z M A (storeName env x v) (fun uz=>Q .next) E s₁) E s):ah z M A (exec (.Assign [.Name x p] value pos) env) Q E s:=by
 refine nP hc (ef h (fun v s₁ h₁=>?_) fun uz uz x=>x);refine aP (a:=none) ?_;exact aM (m:=assign (.Name x p) env v) (bS (zD h₁)) fun uz uz h₂=>aP h₂
theorem q8 {o x p value pos}{Q:Flow->Shared->Prop}(hc:fV value=false)
  (h:ah z M A (eval value env) (fun v s₁=>ah z M A (eval o env) (fun ov s₂=>ah z M A (setAttr ov x v) (fun uz=>Q .next) E s₂) E s₁) E s):ah z M A (exec (.Assign [.Attribute o x p] value pos) env) Q E s:=by
 refine nP hc (ef h (fun v s₁ h₁=>?_) fun uz uz x=>x);refine aP (a:=none) ?_;refine aM (m:=assign (.Attribute o x p) env v) (Q1:=fun uz=>Q .next) ?_ fun uz uz h₂=>aP h₂;exact aM (bP h₁) fun ov s₂ h₂=>bS (aM (bP h₂) fun uz uz h₃=>l7 h₃)
theorem Im {o i p value pos}{Q:Flow->Shared->Prop}(hc:fV value=false)
  (h:ah z M A (eval value env) (fun v s₁=>ah z M A (eval o env) (fun ov s₂=>ah z M A (eval i env) (fun iv s₃=>ah z M A (setItem ov iv v) (fun uz=>Q .next) E s₃) E s₂) E s₁) E s):ah z M A (exec (.Assign [.Subscript o i p] value pos) env) Q E s:=by
 refine nP hc (ef h (fun v s₁ h₁=>?_) fun uz uz x=>x);refine aP (a:=none) ?_;refine aM (m:=assign (.Subscript o i p) env v) (Q1:=fun uz=>Q .next) ?_ fun uz uz h₂=>aP h₂;exact aM (m:=holding [v] (eval o env)) (bP h₁) fun ov s₂ h₂=>aM (bP h₂) fun iv s₃ h₃=>bS (aM (bP h₃) fun uz uz h₄=>l7 h₄)
theorem Ik {x p op value pos}{Q:Flow->Shared->Prop}
  (h:ah z M A (loadName env x) (fun old s₁=>ah z M A (eval value env) (fun v s₂=>ah z M A (inplaceOp op old v) (fun r s₃=>ah z M A (storeName env x r) (fun uz=>Q .next) E s₃) E s₂) E s₁) E s) :
  ah z M A (exec (.AugAssign (.Name x p) op value pos) env) Q E s:=by
 erw [exec_AugAssign_Name]
 exact bS (aM h fun old s₁ h₁=>aM (bP h₁) fun v s₂ h₂=>bS (aM (iy h₂) fun r s₃ h₃=>bS (aM (zD h₃) fun uz uz h₄=>aP h₄)))
theorem Il {o x p op value pos}{Q:Flow->Shared->Prop}
  (h:ah z M A (eval o env) (fun ov s₁=>ah z M A (getAttr ov x true) (fun old s₂=>ah z M A (eval value env) (fun v s₃=>ah z M A (inplaceOp op old v) (fun r s₄=>ah z M A (setAttr ov x r) (fun uz=>Q .next) E s₄) E s₃) E s₂) E s₁) E s) :
  ah z M A (exec (.AugAssign (.Attribute o x p) op value pos) env) Q E s:=by
 have e:exec (.AugAssign (.Attribute o x p) op value pos) env=(do
   standAt pos
   let ov ←eval o env
   let new ←holding [ov] (do
    standAt p.atName
    let old ←getAttr ov x true
    let v ←holding [old] (eval value env)
    standAt pos
    operate [old,v] (inplaceOp op old v))
   standAt p.atName
   holding [new,ov] (setAttr ov x new)
   release [new,ov] []
   pure .next):=rfl
 erw [e]
 refine bS (aM h fun ov s₁ h₁=>?_);refine aM (Q1:=fun r s₄=>ah z M A (setAttr ov x r) (fun uz=>Q .next) E s₄) (bP (bS (aM h₁ fun old s₂ h₂=>aM (bP h₂) fun v s₃ h₃=>bS (iy h₃)))) fun r s₄ h₄=>?_;exact bS (aM (bP h₄) fun uz uz h₅=>aR (l7 (aP h₅)))
theorem Id {test body orelse pos}{Q:Flow->Shared->Prop}
  (h:ah z M A (isTrue test env (eval test env)) (fun b s₂=>if b then ah z M A (execs body env) Q E s₂ else ah z M A (execs orelse env) Q E s₂) E s):ah z M A (exec (.If test body orelse pos) env) Q E s:=by
 erw [exec_If]
 refine bS (aM h fun b s₂ h₂=>?_);cases b<;>exact h₂
theorem qY {e pos}{Q:Flow->Shared->Prop}(h:ah z M A (eval e env) (fun v=>Q (.ret v)) E s):ah z M A (exec (.Return (some e) pos) env) Q E s:=by
 erw [exec_Return_some]
 exact bS (aM h fun v s₁ h₁=>aP h₁)
def oD (z:Bool) (M:Model) (A:Around) (env:Env) (E:VP):Value->Shared->Prop:=
 fun x s'=>ah z M A (do
  if(←field x 1)==.none then unsupported "frame.own-activation:exception-without-traceback"
  setFlight x env.frame) (fun uz s''=>E x s'') E s'
def iZ (z:Bool) (M:Model) (A:Around) (env:Env) (E:VP):Value->Shared->Prop:=
 fun x s'=>ah z M A (noteFrame x env) (fun uz s''=>E x s'') E s'
theorem zx {c:Code}{h:Option Value}{Q:Flow->Shared->Prop}
  (hc:cn z M (A.mark h) c (fun r s'=>match r with | .ok f=>Q f s' | .error e=>oD z M A env E e s') s) (hnb:h≠some byPass):ah z M A (runOwn c env h) Q E s:=by
 exact kC (HU hc hnb)
theorem zA {m:Sem α}{Q:α->Shared->Prop}(h:ah z M A m Q (iZ z M A env E) s):ah z M A (m.onRaise fun x=>do noteFrame x env;theTreesLotGoes x) Q E s:=
 kC (ef h (fun uz uz q=>q) fun uz uz hx=>aM hx fun uz uz e=>aE (wpAny_theTreesLotGoes e))
theorem H9 {test body pos}{Q:Flow->Shared->Prop}
  (h:cn z M A (.whileLoop test body [] env) (fun r s'=>match r with | .ok f=>Q f s' | .error e=>oD z M A env E e s') s):ah z M A (exec (.While test body [] pos) env) Q E s:=by
 erw [exec_While];exact bS (zx h (by intro x;cases x))
theorem Ie {target iter body pos}{Q:Flow->Shared->Prop}
  (h:ah z M A (eval iter env) (fun x s₁=>ah z M A (pyIter x) (fun it s₂=>
   cn z M A (.forLoop target it body [] env) (fun r s'=>match r with | .ok f=>Q f s' | .error e=>oD z M A env E e s') s₂) E s₁) E s)
  (hs:∀x,foldedSetIterable iter env x=pure x):ah z M A (exec (.For target iter body [] pos) env) Q E s:=by
 erw [exec_For]
 refine bS (aM h fun x s₁ h₁=>?_)
 erw [hs x]
 exact aR (aP (bS (aM (bP h₁) fun it s₂ h₂=>zx h₂ (by intro x;cases x))))
theorem HR {body orelse:Sem Flow}{h₀:ExceptHandler}{hs:List ExceptHandler}{Q:Flow->Shared->Prop}
  (h:ah z M A body (fun f s₁=>match f with | .next=>ah z M A orelse Q E s₁ | f=>Q f s₁)
   (fun e s₁=>ah z M A (noteFrame e env) (fun uz s₂=>ah z M A (setFlight e none) (fun uz s₃=>ah z M A (handleBy e env (h₀::hs)) Q E s₃) E s₂) E s₁) s) :
  ah z M A (tryStmt false body (h₀::hs) orelse [] env) Q E s:=by
 refine aR (m:=body.attempt) (H8 (ef h (fun f s₁ h₁=>?_) fun e s₁ h₁=>?_))
 ·cases f<;>first | exact h₁ | exact aP h₁
 ·exact aM h₁ fun uz uz h₂=>aR h₂
theorem Ia {body orelse:List Stmt}{h₀:ExceptHandler}{hs:List ExceptHandler}{pos:Pos}{Q:Flow->Shared->Prop}
  (h:ah z M A (execs body env) (fun f s₁=>match f with | .next=>ah z M A (execs orelse env) Q E s₁ | f=>Q f s₁)
   (fun e s₁=>ah z M A (noteFrame e env) (fun uz s₂=>ah z M A (setFlight e none) (fun uz s₃=>ah z M A (handleBy e env (h₀::hs)) Q E s₃) E s₂) E s₁) s) :
  ah z M A (exec (.Try body (h₀::hs) orelse [] pos) env) Q E s:=by
 exact bS (HR h)
end
section
variable {z:Bool}{prog:Program}{w:World}{A:Around}{E:VP}{R:Result->Shared->Prop}{s:Shared}{env:Env}
theorem KZ {M:Model}{c:Code}(hn:iu c=true) (hq:c.quiet=true) (I:Nat->Shared->Prop)
  (turn:∀n s,I n s->ah z M (A.under c) (M.den c) (fun fin s'=>match fin with
    | .done f=>R (.ok f) s'
    | .again c'=>(c'=c/\∃m,m<n/\I m s')\/(c'.quiet=true/\cn z M A c' R s')) (fun e s'=>R (.error e) s') s)
  (n:Nat) (h:I n s):cn z M A c R s:=by
 induction n using Nat.strongRecOn generalizing s with
 |ind n ih=>
  refine gj hn (ef (turn n s h) (fun fin s' hf=>?_) fun uz uz h'=>h');induction fin with
  |done f=>exact hf
  |again c'=>
   refine av hf ?_ ?_<;>clear hf
   ·intro y0;refine af y0 ?_;clear y0;intro y1 y2;subst y1;refine ag y2 ?_;clear y2;intro m hm hI;exact⟨hq,ih m hm hI⟩
   ·intro hf;exact hf
theorem KX {test body}(I:Nat->Shared->Prop)
  (turn:∀n s,I n s->ah z (model prog w) A (isTrue test env (eval test env)) (fun b s₂=>
    if b then ah z (model prog w) A (execs body env) (fun f s₃=>match f with
      | .next | .cont=>∃m,m<n/\I m s₃
      | .brk=>R (.ok .next) s₃
      | .ret v=>R (.ok (.ret v)) s₃) (iZ z (model prog w) A env fun e s'=>R (.error e) s') s₂
    else R (.ok .next) s₂) (iZ z (model prog w) A env fun e s'=>R (.error e) s') s)
  (n:Nat) (h:I n s):cn z (model prog w) A (.whileLoop test body [] env) R s:=by
 refine K0 rfl rfl I (fun n s hI=>?_) n h;show ah z _ A ((whileTurn test body [] env).onRaise (fun x=>do noteFrame x env;theTreesLotGoes x)) _ _ s;refine zA ?_;refine aM (m:=isTrue test env (eval test env)) (turn n s hI) fun b s₂ h₂=>?_;induction b with
 |false=>exact aR (m:=execs [] env) (l8 (aP h₂))
 |true=>
  refine aM (m:=execs body env) h₂ fun f s₃ h₃=>?_;induction f with
  |next=>exact aP ⟨rfl,h₃⟩
  |cont=>exact aP ⟨rfl,h₃⟩
  |brk=>exact aP h₃
  |ret v=>exact aP h₃
theorem K7 (h:R (.ok .next) s):cn z (model prog w) A (.block [] env) R s:=by
 refine gj rfl ?_;exact aR (kC (l8 (aP h)))
theorem K5 {target it body}(I:Nat->Shared->Prop)
  (turn:∀n s,I n s->ah z (model prog w) A (pyNext it) (fun r s₁=>match r with
   |none=>R (.ok .next) s₁
   |some v=>ah z (model prog w) A (letOwnedTupleGo target it v) (fun uz s₁'=>ah z (model prog w) A (assign target env v) (fun uz s₂=>ah z (model prog w) A (execs body env) (fun f s₃=>match f with
     | .next | .cont=>∃m,m<n/\I m s₃
     | .brk=>R (.ok .next) s₃
     | .ret v=>R (.ok (.ret v)) s₃) (iZ z (model prog w) A env fun e s'=>R (.error e) s') s₂) (iZ z (model prog w) A env fun e s'=>R (.error e) s') s₁')
      (iZ z (model prog w) A env fun e s'=>R (.error e) s') s₁) (iZ z (model prog w) A env fun e s'=>R (.error e) s') s)
  (n:Nat) (h:I n s):cn z (model prog w) A (.forLoop target it body [] env) R s:=by
 refine KZ rfl rfl I (fun n s hI=>?_) n h;refine zA ?_;refine bS (aR (m:=(pyNext it).onRaise (fun uz=>standAt {target.pos with line:=0})) (kC (ef (turn n s hI) (fun r s₁ h₁=>?_) fun uz uz h'=>zw h')));induction r with
 |none=>exact aP (.inr ⟨rfl,K7 h₁⟩)
 |some v=>
  refine aM h₁ fun uz s₁' h₁'=>aM h₁' fun uz s₂ h₂=>aM h₂ fun f s₃ h₃=>?_;induction f with
  |next=>exact aP (.inl ⟨rfl,h₃⟩)
  |cont=>exact aP (.inl ⟨rfl,h₃⟩)
  |brk=>exact aP h₃
  |ret v=>exact aP h₃
theorem K4 {body}
  (h:ah z (model prog w) (A.deeper env) (execs body env) (fun f s'=>R (.ok (.ret (match f with | .ret v=>v | _=>.none))) s')
   (fun e s'=>ah z (model prog w) (A.deeper env) (leaving env e) (fun uz s''=>R (.error e) s'') (fun e' s''=>R (.error e') s'') s') s) :
  cn z (model prog w) A (.func body env) R s:=by
 refine gj rfl ?_;show ah z _ (A.deeper env) (do point;match ←(execs body env).onRaise (leaving env) with | .ret v=>ret v | _=>ret .none) _ _ s;refine aR (qX (aR (kC (ef h (fun f s' h'=>?_) fun uz uz h'=>h'))));cases f<;>exact aP h'
theorem K1 {e}
  (h:ah z (model prog w) (A.deeper env) (eval e env) (fun v s'=>R (.ok (.ret v)) s')
   (fun e s'=>ah z (model prog w) (A.deeper env) (leaving env e) (fun uz s''=>R (.error e) s'') (fun e' s''=>R (.error e') s'') s') s) :
  cn z (model prog w) A (.expr e env) R s:=by
 refine gj rfl ?_;show ah z _ (A.deeper env) (do point;ret (←(eval e env).onRaise (leaving env))) _ _ s;exact aR (qX (aR (kC (ef h (fun f s' h'=>aP h') fun uz uz h'=>h'))))
theorem K3 {a:Addr}{args:Args}{o:Obj}{fd:FuncData}{body:List Stmt}(hroom:A.depth<recursionLimit)
  (ho:s.heap.get? a=some o) (hd':o.data=.func fd) (hco:fd.scope.isCoroutine=false) (hgen:fd.scope.isGenerator=false) (hbody:fd.body=.stmts body) (hcd:s.heap.CodeRec fd.code fd.qualname)
  (h:ah z (model prog w) A.in1 (bindArgs fd args) (fun binds s₁=>
   ah z (model prog w) A.in1 (newFunctionEnv fd.scope fd.globals fd.closure binds (fd.qualname ++ ".<locals>.") (some a) fd.code none fd.builtins)
    (fun env s₂=>s₂.heap.NoLimit/\cn z (model prog w) A (.func body env) R s₂) (fun e s'=>R (.error e) s') s₁) (fun e s'=>R (.error e) s') s) :
  cn z (model prog w) A (.call (.ref a) args) R s:=by
 refine gj rfl ?_;show ah z _ A.in1 (callAny (.ref a) args) _ _ s;refine aR (m:=load a) (aE (wpAny_load ho ?_))
 erw [hd']
 refine eW hcd ?_;clear hcd;intro c oc vs tq hc hoc hdc hq;show ah z _ A.in1 (callFunction a fd args) _ _ s
 delta callFunction
 rw [hc] at h⊢;refine aR (m:=field (.ref c) 1) (aE (wpAny_field hoc hdc hq (aR (aP ?_))));refine aM h fun binds s₁ h₁=>aM h₁ fun env s₂ h₂=>aR (aE (wpAny_enterFrame h₂.1 hroom ?_))
 (erw [hco];erw [hgen];erw [hbody])
 exact aP (And.intro rfl h₂.2)
end
end
section
set_option backward.match.sparseCases true
section
variable {α β:Type}{z:Bool}{M:Model}{A:Around}{E:VP}{s:Shared}
theorem iz {t:Sem α}{a:α}{f:α->Sem β}{Q:β->Shared->Prop}(e:t=pure a) (h:ah z M A (f a) Q E s):ah z M A (t>>=f) Q E s:=e▸aR (aP h)
theorem f6 {c:Bool}{a b:Sem α}{Q:α->Shared->Prop}(hc:c=false) (h:ah z M A b Q E s):ah z M A (if c=true then a else b) Q E s:=by subst hc;exact h
theorem H4 {c:Bool}{a b:Sem α}{Q:α->Shared->Prop}(hc:c=true) (h:ah z M A a Q E s):ah z M A (if c=true then a else b) Q E s:=by subst hc;exact h
end
section
variable {z:Bool}{prog:Program}{w:World}{A:Around}{E:VP}{R:Result->Shared->Prop}{s:Shared}
theorem rZ {id:String}{args:Args}{b:Builtin}(hn:iu (.builtin id args)=true) (hb:entryFor table id=some b)
  (h:ah z (model prog w) (A.under (.builtin id args)) (b args) (fun fin s'=>match fin with | .done f=>R (.ok f) s' | .again c'=>c'.quiet=true/\cn z (model prog w) A c' R s') (fun e s'=>R (.error e) s') s) :
  cn z (model prog w) A (.builtin id args) R s:=by
 refine gj hn ?_;show ah z _ _ (match entryFor table id with | some b=>b args | none=>unsupported ((withoutEnding? id "#data").getD id)) _ _ s
 erw [hb];exact h
theorem H6 {T newId initId:String}{args:List Value}{Q Q₁:VP}(ft:TypeCalled T newId initId) (hct:checkTypeCall T ⟨args,[]⟩=pure ())
  (hnew:cn z (model prog w) A.in1 (.call (.builtin newId) ⟨.type T::args,[]⟩) (wants Q₁ E) s)
  (hnext:∀obj s₁,Q₁ obj s₁->s₁.TypeIs obj T/\cn z (model prog w) A.in1 (.call (.builtin initId) ⟨obj::args,[]⟩) (wants (fun r s₂=>r=.none/\Q obj s₂) E) s₁) :
  ah z (model prog w) A (call (.type T) args) Q E s:=by
 refine du ft.mro ?_;intro c tl hmro;refine iA (gj rfl ?_);refine aP ⟨Code.quiet_builtin _ (by decide +kernel),rZ rfl F.entry_type_call ?_⟩
 erw [Around.under_plain (weight_type_call_type T args []) rfl]
 unfold Builtin.«type.__call__»;refine f6 ft.notType ?_;refine f6 ft.canCreate ?_;refine iz hct ?_;refine iz hmro ?_;refine f6 rfl ?_;refine iz ft.made ?_;refine aR (aP ?_);refine aM (Q1:=Q₁) (bP (iA (Bh hnew fun r s₁ hr=>?_))) fun obj s₁ hobj=>?_
 ·induction r with
  |error e=>exact hr
  |ok fl=>cases fl<;>first | exact hr | exact hr.elim
 refine af (hnext _ _ hobj) ?_;intro hT hinit;refine aR (aE (wpAny_isInstance hT ft.sub ?_));refine f6 rfl ?_;refine aM (Q1:=fun o s₂=>o=some .none/\Q obj s₂) (bP ?_) fun o s₂ ho=>?_
 ·refine aR (aE (eR hT ft.init.lookup ?_));simp only [ft.init.bind];refine bP (aR (aP (aM (iA (Q:=fun v s₂=>v=.none/\Q obj s₂) (Bh hinit fun r s₁ hr=>?_)) fun v s₂ hv=>aP ⟨by(erw [hv.1];with_reducible rfl),hv.2⟩)));induction r with
  |error e=>exact hr
  |ok fl=>cases fl<;>first | exact hr | exact hr.elim
 ·refine af ho ?_;clear ho;intro y0 hQ;subst y0;refine f6 rfl ?_;exact aP hQ
end
theorem BA:mroOf (.type "bytearray")=pure [.type "bytearray",.type "object"]:=by erw [mroOf_type];kernel_rfl
theorem Mn:typeLookup (.type "bytearray") "__new__" = pure (some (.builtin "bytearray.__new__")):=by(erw [typeLookup_type];erw [fk]);kernel_rfl
theorem Bu:Slot "bytearray" "__init__" "bytearray.__init__":=
 .of (owner :="bytearray") (n :="__init__") (by(erw [typeLookup_type];erw [fk]);kernel_rfl) (by decide +kernel) (by decide +kernel) (by decide +kernel)
  (by first | exact .inl (by decide +kernel) | exact .inr (by decide +kernel)) (by erw [isSubtype_type];kernel_rfl)
theorem oG:isSubtype (.type "bytearray") (.type "bytearray")=pure true:=by erw [isSubtype_type];kernel_rfl
theorem Mt:TypeCalled "bytearray" "bytearray.__new__" "bytearray.__init__":=
 ⟨by decide +kernel,by decide +kernel,(mS _ _ BA),madeBy_type BA Mn (by decide +kernel),by decide +kernel,oG,Bu⟩
theorem Md:checkTypeCall "bytearray" ⟨[],[]⟩=pure ():=by kernel_rfl
theorem Ml:checkBuiltinCall "bytearray.__new__" ⟨[.type "bytearray"],[]⟩=pure ():=by kernel_rfl
theorem Bx:plainId "bytearray.__new__" = true:=by decide +kernel
theorem Bv:plainId "bytearray.__init__" = true:=by decide +kernel
theorem Bw:plainId "bytearray.__iadd__" = true:=by decide +kernel
theorem Ms:entryFor table "bytearray.__new__" = some Builtin.«list.__new__»:=entryFor_alias (id' :="list.__new__") (by kernel_rfl) (by decide +kernel) (by decide +kernel) (by kernel_rfl)
theorem Mq:entryFor table "bytearray.__init__" = some Builtin.«bytearray.__init__»:=by first | exact entryFor_of_fast (by kernel_rfl) | exact entryFor_of_tree (by kernel_rfl)
theorem Mr:entryFor table "bytearray.__iadd__" = some Builtin.«bytearray.__iadd__»:=by first | exact entryFor_of_fast (by kernel_rfl) | exact entryFor_of_tree (by kernel_rfl)
set_option maxRecDepth 1000000 in
set_option maxHeartbeats 4000000 in
theorem Mh:("bytearray.__new__".splitOn ".__new__").headD "" ="bytearray":= congrArg (fun l=>l.headD "") PySem.W.split_bytearray
theorem si:Slot "bytearray" (dunderI "add") "bytearray.__iadd__":=
 .of (owner :="bytearray") (n :="__iadd__") (by(erw [typeLookup_type];erw [fk]);kernel_rfl) (by decide +kernel) (by decide +kernel) (by decide +kernel)
  (by first | exact .inl (by decide +kernel) | exact .inr (by decide +kernel)) (by erw [isSubtype_type];kernel_rfl)
theorem Mx:typeLookup (.type "bytearray") (dunder "add")=pure (some (.builtin "bytearray.__add__")):=by(erw [typeLookup_type];erw [fk]);kernel_rfl
theorem Mg:typeLookup (.type "bytearray") (dunderR "add")=pure none:=by(erw [typeLookup_type];erw [fk]);kernel_rfl
theorem LA:typeLookup (.type "bytes") (dunder "add")=pure (some (.builtin "bytes.__add__")):=by(erw [typeLookup_type];erw [fk]);kernel_rfl
theorem Lx:typeLookup (.type "bytes") (dunderR "add")=pure none:=by(erw [typeLookup_type];erw [fk]);kernel_rfl
theorem Mi:fillsNumberSlot (.type "bytearray") "add" = pure false:=PySem.fillsNumberSlot_seq (id :="bytearray.__add__") (r:=none) Mx (by decide +kernel) Mg rfl
theorem Lz:fillsNumberSlot (.type "bytes") "add" = pure false:=PySem.fillsNumberSlot_seq (id :="bytes.__add__") (r:=none) LA (by decide +kernel) Lx rfl
theorem Me:seqSlot? (.type "bytearray") (dunderI "add")=pure (some (.builtin "bytearray.__iadd__")):=PySem.seqSlot_of si.lookup (by decide +kernel)
theorem Mf:typeLookup (.type "bytearray") "__release_buffer__" = pure (some (.builtin "bytearray.__release_buffer__")):=by(erw [typeLookup_type];erw [fk]);kernel_rfl
theorem jS:typeLookup (.type "bytes") "__buffer__" = pure (some (.builtin "bytes.__buffer__")):=by(erw [typeLookup_type];erw [fk]);kernel_rfl
theorem sj:typeLookup (.type "bytearray") "__buffer__" = pure (some (.builtin "bytearray.__buffer__")):=by(erw [typeLookup_type];erw [fk]);kernel_rfl
theorem Lw:typeLookup (.type "bytes") "__release_buffer__" = pure none:=by(erw [typeLookup_type];erw [fk]);kernel_rfl
theorem Lv:isSubtype (.type "bytes") (.type "bytes")=pure true:=by erw [isSubtype_type];kernel_rfl
theorem Mk:typeLookup (.type "bytearray") "__bytes__" = pure none:=by(erw [typeLookup_type];erw [fk]);kernel_rfl
theorem Mj:typeLookup (.type "bytearray") "__index__" = pure none:=by(erw [typeLookup_type];erw [fk]);kernel_rfl
theorem Mw:Builtin.Bytes.bindOptional "bytearray.__init__" "bytearray" ["source","encoding","errors"] [] []=pure [none,none,none]:=by kernel_rfl
theorem Nd (a:Value):argsOk "bytearray.__init__" ⟨[a],[]⟩:=by
 unfold argsOk;kernel_rfl
theorem Nf (a b:Value):argsOk "bytearray.__iadd__" ⟨[a,b],[]⟩:=by
 unfold argsOk;kernel_rfl
section
variable {z:Bool}{prog:Program}{w:World}{A:Around}{E:VP}{R:Result->Shared->Prop}{s:Shared}
theorem Mm {Q₁:VP}(h:Q₁ (.ref s.heap.objs.size) {s with heap:=s.heap.push {cls:=.type "bytearray",data:=.bytearray #[]}}) :
  codeAny (model prog w) A (.call (.builtin "bytearray.__new__") ⟨[.type "bytearray"],[]⟩) (wants Q₁ E) s:=by
 refine codeAny_of_tree ?_;refine az (wpAny_of_eq Ml (aX ⟨plainId_quiet Bx _,codeAny_builtin_stack Ms rfl fun p st=>?_⟩))
 erw [Around.under_plainId Bx _]
 have hsub:=oG;have hown:=Mh;obtain⟨hp,g,d,tk,os⟩:=s;simp only [hown]
 wp_walk
 exact h
theorem zn {id:String}{args:Args}(h:Builtin.Bytes.decodersThatHold.contains id=false):iu (.builtin id args)=true:=by
 show(!Builtin.Bytes.decodersThatHold.contains id)=true
 erw [h];rfl
theorem Bz {M:Model}{v:Value}{Q:Bool->Shared->Prop}(hT:s.TypeIs v "bytearray") (h:Q false s):wpAny M A (Builtin.Bytes.ownRelease v) Q E s:=by
 refine az (az (eR hT Mf ?_));show wpAny M A (if(!("bytearray.__release_buffer__".endsWith ("."++ "__release_buffer__")))=true then _ else _) _ _ _
 (with_reducible refine bx ((show(!("bytearray.__release_buffer__".endsWith ("."++ "__release_buffer__")))=false by decide +kernel) ..) ?_)
 (with_reducible refine bx ((show("bytearray.__release_buffer__".dropRight ("__release_buffer__".length+1)) ="bytearray" by decide +kernel) ..) ?_)
 exact wpAny_isInstance hT oG (aX h)
theorem Bt {M:Model}{v:Addr}{o:Obj}{b:Array UInt8}{n:Nat}{f:Array UInt8->Array UInt8}{Q:Unit->Shared->Prop}(ho:s.heap.get? v=some o) (hd:o.data=.bytearray b n) (hz:(f b).size<=sizeLine)
  (h:Q () {s with heap:=s.heap.update v (Obj.mapBytearray f)}):wpAny M A (Builtin.Bytes.write (.ref v) f) Q E s:=by
 obtain⟨c,dd,dt,sl⟩:=o;simp only at hd;subst hd;refine az (wpAny_load ho ?_);refine az (wpAny_update ho ?_);refine wpAny_lookBehind (Heap.get?_update_self (Obj.mapBytearray f) ho rfl) ?_ h;show(if(f b).size>sizeLine then some "bytearray:memory" else none)=none
 (erw [if_neg (Nat.not_lt.mpr hz)];with_reducible rfl)
theorem Mo {v:Addr}{Q:VP}(hz:z=true) (hg:A.guards=some []) (ho:s.heap.get? v=some {cls:=.type "bytearray",data:=.bytearray #[]})
  (h:Q .none {s with heap:=s.heap.update v (Obj.mapBytearray fun uz=>#[])}) :
  cn z (model prog w) A (.call (.builtin "bytearray.__init__") ⟨[.ref v],[]⟩) (wants Q E) s:=by
 have hT:s.TypeIs (.ref v) "bytearray":= (aj _ ho rfl);refine gj rfl ?_;show ah z _ A.in1 (do checkBuiltinCall "bytearray.__init__" ⟨[.ref v],[]⟩;again (.builtin "bytearray.__init__" ⟨[.ref v],[]⟩)) _ _ s;refine aR (aE (Bu.check _ _ _ _ _ _ _ _ hT (Nd _) (aP ⟨plainId_quiet Bv _,rZ (zn (by decide +kernel)) Mq ?_⟩)))
 erw [Around.under_plainId Bv _]
 unfold Builtin.«bytearray.__init__»;refine aR (aE (Bz hT ?_));refine f6 rfl ?_;refine iz Mw ?_;refine iz (a:=()) rfl ?_;refine iz (a:=()) rfl ?_;refine aR (aR (zC hz hg ?_));refine aR (m:=Builtin.Bytes.exportsOf (.ref v)) (aR (aE (wpAny_load ho (aP (aP ?_)))));refine f6 rfl ?_;refine aR (aE (Bt ho rfl (Nat.zero_le _) ?_));exact aP h
end
section
variable {z:Bool}{prog:Program}{w:World}{A:Around}{E:VP}{R:Result->Shared->Prop}{s:Shared}
theorem Lo {Q:VP}(hz:z=true) (hg:A.guards=some [])
  (h:∀h',(∀b o,s.heap.get? b=some o->h'.get? b=some o)->h'.get? s.heap.objs.size=some {cls:=.type "bytearray",data:=.bytearray #[]}->Q (.ref s.heap.objs.size) {s with heap:=h'}) :
  ah z (model prog w) A (call (.type "bytearray") []) Q E s:=by
 refine H6 (Q₁:=fun v s₁=>v=.ref s.heap.objs.size/\s₁={s with heap:=s.heap.push {cls:=.type "bytearray",data:=.bytearray #[]}}) Mt Md (rY (Mm ⟨rfl,rfl⟩)) fun obj s₁ h₁=>?_;refine af h₁ ?_;clear h₁;intro y0 y1;subst y0 y1;have ho:(s.heap.push {cls:=.type "bytearray",data:=.bytearray #[]}).get? s.heap.objs.size=some {cls:=.type "bytearray",data:=.bytearray #[]}:=dv _ rfl;refine⟨(aj _ ho rfl),Mo (Q:=fun r s₂=>r=.none/\Q (.ref s.heap.objs.size) s₂) hz hg ho ⟨rfl,h _ (fun b o e=>?_) ?_⟩⟩
 ·have hb:b≠s.heap.objs.size:=fun e'=>Nat.lt_irrefl _ (e'▸Heap.lt_size e);exact(fq _ _ (Ne.symm hb)).trans (bL _ e)
 ·exact Heap.get?_update_self (Obj.mapBytearray fun uz=>#[]) ho rfl
theorem qF {M:Model}{v:Value}{Q:Bool->Shared->Prop}(hT:s.TypeIs v "bytes") (h:Q true s):wpAny M A (Builtin.Bytes.slotIsOwn v "__buffer__") Q E s:=by
 refine az (eR hT jS ?_);show wpAny M A (if(!("bytes.__buffer__".endsWith ("."++ "__buffer__")))=true then _ else _) _ _ _
 (with_reducible refine bx ((show(!("bytes.__buffer__".endsWith ("."++ "__buffer__")))=false by decide +kernel) ..) ?_)
 (with_reducible refine bx ((show("bytes.__buffer__".dropRight ("__buffer__".length+1)) ="bytes" by decide +kernel) ..) ?_)
 exact wpAny_isInstance hT Lv h
theorem GH {M:Model}{v:Value}{Q:Bool->Shared->Prop}(hT:s.TypeIs v "bytearray") (h:Q true s):wpAny M A (Builtin.Bytes.slotIsOwn v "__buffer__") Q E s:=by
 refine az (eR hT sj ?_);show wpAny M A (if(!("bytearray.__buffer__".endsWith ("."++ "__buffer__")))=true then _ else _) _ _ _
 (with_reducible refine bx ((show(!("bytearray.__buffer__".endsWith ("."++ "__buffer__")))=false by decide +kernel) ..) ?_)
 (with_reducible refine bx ((show("bytearray.__buffer__".dropRight ("__buffer__".length+1)) ="bytearray" by decide +kernel) ..) ?_)
 exact wpAny_isInstance hT oG h
theorem Ly {M:Model}{v:Value}{Q:Bool->Shared->Prop}(hT:s.TypeIs v "bytes") (h:Q false s):wpAny M A (Builtin.Bytes.ownRelease v) Q E s:=by
 delta Builtin.Bytes.ownRelease Builtin.Bytes.slotIsOwn
 exact az (az (eR hT Lw (aX (aX h))))
theorem Bm {M:Model}{id:String}{v:Value}{b:Array UInt8}{full:Bool}{Q:Option (Array UInt8)->Shared->Prop}(hT:s.TypeIs v "bytes") (hp:wpAny M A (Builtin.Bytes.payload v) (fun b' s'=>b'=b/\s'=s) E s) (h:Q (some b) s) :
  wpAny M A (Builtin.Bytes.buffer? id v full) Q E s:=by
 refine az (eR hT jS ?_);refine az (qF hT ?_);refine bm_if_false rfl ?_;refine az (eR hT jS ?_);refine az (Ly hT ?_);refine bm_if_false rfl ?_;refine az (wpAny_mono hp (fun b' s' e=>?_) fun uz uz x=>x);refine af e ?_;clear e;intro y0 y1;subst y0 y1;exact aX h
theorem Mu {M:Model}{id:String}{v:Value}{b:Array UInt8}{full:Bool}{Q:Option (Array UInt8)->Shared->Prop}(hT:s.TypeIs v "bytearray") (hp:wpAny M A (Builtin.Bytes.payload v) (fun b' s'=>b'=b/\s'=s) E s) (h:Q (some b) s) :
  wpAny M A (Builtin.Bytes.buffer? id v full) Q E s:=by
 refine az (eR hT sj ?_);refine az (GH hT ?_);refine bm_if_false rfl ?_;refine az (eR hT sj ?_);refine az (Bz hT ?_);refine bm_if_false rfl ?_;refine az (wpAny_mono hp (fun b' s' e=>?_) fun uz uz x=>x);refine af e ?_;clear e;intro y0 y1;subst y0 y1;exact aX h
theorem By {M:Model}{v:Addr}{o:Obj}{b:Array UInt8}{n:Nat}{Q:Array UInt8->Shared->Prop}(ho:s.heap.get? v=some o) (hd:o.data=.bytearray b n) (h:Q b s):wpAny M A (Builtin.Bytes.payload (.ref v)) Q E s:=by
 refine az (az (wpAny_load ho ?_))
 erw [hd]
 exact aX (aX h)
theorem Mp {v:Addr}{b y:Array UInt8}{t:Tok}{Q:VP}(hz:z=true) (hg:A.guards=some []) (ho:s.heap.get? v=some {cls:=.type "bytearray",data:=.bytearray b}) (hl:b.size+y.size<=sizeLine)
  (h:Q (.ref v) {s with heap:=s.heap.update v (Obj.mapBytearray (·++y))}):ah z (model prog w) A (inplaceOp .Add (.ref v) (.bytes y t)) Q E s:=by
 have hT:s.TypeIs (.ref v) "bytearray":= (aj _ ho rfl);have hU:s.TypeIs (.bytes y t) "bytes":= j5 _ _ _;refine bP ?_;have hfi:fillsInplaceSlot (.type "bytearray") "add" (Operator.Add==.Add)=pure false:=by
  erw [si.lookup]
  (with_reducible refine bx ((show isSeqSlot (some (.builtin "bytearray.__iadd__"))=true by decide +kernel) ..) ?_);rfl
 refine aR (aE (wpAny_typeOf hT ?_));refine iz hfi ?_;refine f6 rfl ?_;have b1:wpAny (model prog w) A (binaryOp1 "add" (.ref v) (.bytes y t)) (fun o s'=>o=none/\s'=s) E s:=by
  refine az (wpAny_typeOf hT (az (wpAny_typeOf hU (az (wpAny_of_eq Mi ?_)))));refine bm_if_false (by decide +kernel) ?_;refine az (wpAny_of_eq Lz ?_);exact aX ⟨rfl,rfl⟩
 refine aR (ef (aE b1) (fun o s' e=>?_) fun uz uz x=>x);refine af e ?_;clear e;intro y0 y1;subst y0 y1;refine iz Me ?_;refine aR (zy ?_);refine iA (gj rfl ?_);refine aR (aE (si.check _ _ _ _ _ _ _ _ hT (Nf _ _) (aP ⟨plainId_quiet Bw _,rZ (zn (by decide +kernel)) Mr ?_⟩)))
 erw [Around.under_plainId Bw _]
 refine iz (a:=(.ref v,[.bytes y t])) rfl ?_;have hb:wpAny (model prog w) A.in1 (Builtin.Bytes.takeBufferQuiet? "bytearray.__iadd__" (.bytes y t) 0) (fun o s''=>o=some (y,none)/\s''=s') E s':=by
  refine az (wpAny_attempt ?_);refine az (eR hU jS ?_);refine az (qF hU ?_);refine bm_if_false rfl ?_;refine az (eR hU jS ?_);refine az (Bm hU (b:=y) (aX ⟨rfl,rfl⟩) ?_);exact aX (aX ⟨rfl,rfl⟩)
 refine aR (ef (aE hb) (fun o s'' e=>?_) fun uz uz x=>x);refine af e ?_;clear e;intro y0 y1;subst y0 y1;have tailP:ah z (model prog w) A.in1 (do
   if Builtin.Bytes.tooLong ((←Builtin.Bytes.payload (.ref v)).size+y.size) then unsupported "bytearray.__iadd__:memory"
   Builtin.Bytes.write (.ref v) (·++y)
   ret (.ref v)) (fun fin s'=>match fin with
    | .done f=>(match (Except.ok f:Except Value Flow) with | .ok (.ret v)=>Q v s' | .ok _=>False | .error e=>E e s')
    | .again c'=>c'.quiet=true/\cn z (model prog w) A c' (fun r s'=>match r with | .ok (.ret v)=>Q v s' | .ok _=>False | .error e=>E e s') s') E s'':=by
  refine aR (aE (By ho rfl ?_));refine f6 (by unfold Builtin.Bytes.tooLong;exact decide_eq_false (by omega)) ?_;refine aR (aE (Bt ho rfl (by simpa using hl) ?_));exact aP h
 by_cases hy:(!y.isEmpty)=true
 ·refine H4 hy ?_;refine f6 rfl ?_;refine aR ?_;refine aR (aR (zC hz hg ?_));refine aR (m:=Builtin.Bytes.exportsOf (.ref v)) (aR (aE (wpAny_load ho (aP (aP ?_)))));exact aP tailP
 ·refine f6 (by simpa using hy) ?_;exact tailP
theorem Ln {v:Addr}{b:Array UInt8}{Q:VP}(ho:s.heap.get? v=some {cls:=.type "bytearray",data:=.bytearray b}) (hl:b.size<=sizeLine)
  (h:∀t k,Q (.bytes b t) {s with toks:=k}):wpAny (model prog w) A (call (.type "bytes") [.ref v]) Q E s:=by
 have hT:s.TypeIs (.ref v) "bytearray":= (aj _ ho rfl);refine callType_codes (Q₁:=fun obj s₁=>s₁.TypeIs obj "bytes"/\ Q obj s₁) F.bm_called (F.bm_typeCall _) F.entry_object_init ?_ fun obj s₁ h₁=>
  (aI (h₁.1) (F.args_object_init_2 obj _) (object_init_meets F.bm_called.init.lookup F.bm_called.made (by decide) prog w A.in1 _ s₁ (aI (h₁.1) rfl (h₁.2))))
 refine codeAny_of_tree ?_;show wpAny _ A.in1.in1 (do checkBuiltinCall "bytes.__new__" ⟨[.type "bytes",.ref v],[]⟩;again (.builtin "bytes.__new__" ⟨[.type "bytes",.ref v],[]⟩)) _ _ s;refine az (wpAny_of_eq (F.bm_newCall _) (aX ⟨plainId_quiet F.bm_plain _,codeAny_builtin F.bm_entry ?_⟩))
 erw [Around.under_plainId F.bm_plain _]
 refine az (wpAny_of_eq (a:=true) rfl ?_);refine bm_if_false rfl ?_;refine az (wpAny_of_eq F.bm_sub ?_);refine bm_if_false rfl ?_;refine az (wpAny_of_eq (F.bm_bind _) ?_);refine az (wpAny_of_eq (a:=()) rfl ?_);refine az (wpAny_of_eq (a:=()) rfl ?_);refine bm_if_false rfl ?_;refine az (eR hT Mk ?_);refine az (az ?_);refine az (wpAny_load ho ?_);refine aX (aX ?_);refine bm_if_false rfl ?_;refine az (eR hT Mj ?_);refine bm_if_true rfl ?_;have fin:wpAny (model prog w) A.in1.in1 (Builtin.Bytes.buffer? "bytes.__new__" (.ref v) true) (fun o s'=>o=some b/\s'=s) (fun uz uz=>False) s:=Mu hT (By ho rfl ⟨rfl,rfl⟩) ⟨rfl,rfl⟩
 first
  |show wpAny _ _ (Builtin.Bytes.buffer? "bytes.__new__" (.ref v) true>>=_) _ _ _
  |refine az ?_;show wpAny _ _ (Builtin.Bytes.buffer? "bytes.__new__" (.ref v) true>>=_) _ _ _
 refine az (wpAny_mono fin (fun o s' e=>?_) fun uz uz x=>x.elim);refine af e ?_;clear e;intro y0 y1;subst y0 y1;refine az (wpAny_rule (az (wpAny_mkBytes ?_ hl)));exact aX ⟨j5 _ _ _,h _ _⟩
end
end
theorem DC (ws:Wd) (p:Addr×Addr):tr (ws++[p])=tr ws++[p.1,p.2]:=by simp [tr]
theorem iB {ws:Wd}{p:Addr×Addr}{a:Addr}:a∈tr (ws++[p])↔a∈tr ws\/a=p.1\/a=p.2:=by
 erw [DC];simp
section
variable {G:Gd}{C:Cx}{ws:Wd}{S:St}{h h':Heap}{p:Addr×Addr}{c:Cell}
theorem nc (k:∀b o,h.get? b=some o->h'.get? b=some o) (hp1:h.get? p.1=none) (hp2:h.get? p.2=none):Mv ws h (ws++[p]) h':=by
 refine⟨fun a o n e uz=>⟨k a o e,fun q=>?_⟩,fun n q e=>?_⟩
 ·(focus (refine av (iB.mp q) ?_ ?_;intro q;rotate_left;intro y0;(focus (refine av y0 ?_ ?_<;>clear y0;rintro rfl;rotate_left;rintro rfl;rotate_left));rotate_left 2))
  ·exact n q
  ·rw [e] at hp1;exact dy hp1
  ·rw [e] at hp2;exact dy hp2
 ·have:=(ce e).1
  erw [dT this];exact e
theorem oj (hp1:h.get? p.1=none) (hp2:h.get? p.2=none):Grow ws h (ws++[p]):=by
 refine⟨fun n q e=>?_,fun a ha hn=>?_⟩
 ·have:=(ce e).1
  erw [dT this];exact e
 ·(focus (refine av (iB.mp ha) ?_ ?_;intro ha;rotate_left;intro y0;(focus (refine av y0 ?_ ?_<;>clear y0;rintro rfl;rotate_left;rintro rfl;rotate_left));rotate_left 2))
  ·exact absurd ha hn
  ·exact hp1
  ·exact hp2
theorem Rel.track (R:Rel G C ws S h) (k:∀b o,h.get? b=some o->h'.get? b=some o) (hp1:h.get? p.1=none) (hp2:h.get? p.2=none) (hc:CellAt G.w.params (ws++[p]) h' p c) :
  Rel G C (ws++[p]) {S with st:=S.st++[c]} h':=by
 have hne:∀{a:Addr} {o:Obj},h.get? a=some o->a≠p.1/\a≠p.2:=fun{a o} e=>⟨fun q=>(by rw [q,hp1] at e;exact ba e),fun q=>(by rw [q,hp2] at e;exact ba e)⟩;have out:∀{a:Addr} {o:Obj},h.get? a=some o->a∉tr ws->a∉tr (ws++[p]):=fun{a o} e n q=>by
  (focus (refine av (iB.mp q) ?_ ?_;intro q;rotate_left;intro y0;(focus (refine av y0 ?_ ?_<;>clear y0;intro q;rotate_left;intro q;rotate_left));rotate_left 2))
  ·exact n q
  ·exact(hne e).1 q
  ·exact(hne e).2 q
 have mv:=nc (ws:=ws) (p:=p) k hp1 hp2;have fr:∀{q:Addr},h.get? q=none->G.base.get? q=none:=fun{q} e=>by
  cases hq:G.base.get? q with
  |none=>rfl
  |some o=>rw [R.amb.base q o hq] at e;exact dy e
 refine⟨⟨(R.amb.keeps k).base,fun e he=>?_,(R.amb.keeps k).tab,?_,by simp [R.amb.len],fun n q d e1 e2=>?_,fun a ha=>?_,?_⟩,?_⟩
 ·refine af (R.amb.frames e he) ?_;intro q1 y1;refine j0 y1 ?_;clear y1;intro L o es n q2 q3 q4 q5 q6;exact⟨q1,L,o,es,n,q2,k _ _ q3,q4,q5,out q3 q6⟩
 ·refine ag R.amb.tab ?_;intro ps q1 q2;exact out q1 R.amb.tabF
 ·have hl:=R.amb.len;by_cases hn:n<ws.length
  ·rw [dT hn] at e1;rw [dT (by exact aL [List.length ws,S.st.length,n] [] (.eq aa ae) (.lt ai aa) (.lt ai ae) hl hn)] at e2;exact(R.amb.cells n q d e1 e2).mv mv (fun o=>k _ o) fun o=>k _ o
  ·have hn':n<(ws++[p]).length:=(ce e1).1;rw [cf,List.length_singleton] at hn';have:n=ws.length:=by exact aL [n,List.length ws] [] (.not (.lt aa ae)) (.lt aa (.a ae (.k 1))) (.eq aa ae) hn hn'
   subst this;simp at e1;subst e1;rw [hl] at e2;simp at e2;subst e2;exact hc
 ·(focus (refine av (iB.mp ha) ?_ ?_;intro ha;rotate_left;intro y0;(focus (refine av y0 ?_ ?_<;>clear y0;rintro rfl;rotate_left;rintro rfl;rotate_left));rotate_left 2))
  ·exact R.amb.fresh a ha
  ·exact fr hp1
  ·exact fr hp2
 ·refine List.pairwise_append.mpr (aI R.amb.apart (by simp) (fun x hx y hy=>?_));simp at hy;subst hy;refine gn fun Pz kz=>?_;refine an (List.getElem?_of_mem hx) ?_;intro n hn;refine ag (R.amb.trThere (fa hn x.1 (by simp))) ?_;intro o1 h1 _;refine ag (R.amb.trThere (fa hn x.2 (by simp))) ?_;intro o2 h2 _;refine kz ?_;clear kz Pz;exact dq ((hne h1).1) ((hne h1).2) ((hne h2).1) ((hne h2).2)
 ·have l:=R.lc;refine⟨l.kind,l.glob,l.blt,?_,fun x c e=>?_,l.capart,l.ownL,l.own,⟨l.freshL.1,?_⟩,l.len,l.nodup,l.head⟩
  ·refine ag l.ns ?_;intro m q1 q2;exact aj m (q1.keeps k) (fun i x a e1 e2=>let ⟨v,q3,q4⟩:=q2 i x a e1 e2;(aj v (q3.mv mv) (q4.keeps fun uz uz uz d=>d.keeps k)))
  ·refine gn fun Pz kz=>?_;refine be (l.cells x c e) ?_;intro y0 n b;refine an y0 ?_;clear y0;intro v q;refine ag (id q) ?_;intro o ho _;refine kz ?_;clear kz Pz;exact aI (⟨v,q.keeps k⟩) (out ho n) b
  ·refine ag l.ns ?_;intro m y1 _;refine cu y1 ?_;clear y1;intro o es ep ho hd _;exact out ho l.freshL.2
theorem gc (h:Heap) {a:Addr}(e:h.objs.size<=a):h.get? a=none:=by
 cases q:h.get? a with
 |none=>rfl
 |some o=>exact absurd (Heap.lt_size q) (Nat.not_lt.mpr e)
def WQ (G:Gd) (C:Cx) (ws:Wd) (s:Shared) (Q:QE) (Qm:VP):Prop:=
 ∀ws' S' s' a r,Out G C ws s ws' S' s'->Rep ws' s'.heap a r->Q a S'->Qm r s'
end
section
variable {G:Gd}{C:Cx}{ws:Wd}{S:St}{A:Around}{s:Shared}{Q:QE}{Qm:VP}{Em:VP}{d:Nat}{z:Bool}
 {f a:V} {u v:Value} {as:List V} {vs:List Value}
theorem WQ.keep (q:WQ G C ws s Q Qm) (R:Rel G C ws S s.heap) {h':Heap}{tk:Nat}{a:V}{r:Value}(k:∀b o,s.heap.get? b=some o->h'.get? b=some o) (hr:Rep ws h' a r) (hk:Q a S):Qm r {s with heap:=h',toks:=tk}:=
 q ws S _ a r (Out.of_keeps R k rfl rfl) hr hk
theorem WQ.same (q:WQ G C ws s Q Qm) (R:Rel G C ws S s.heap) {tk:Nat}{a:V}{r:Value}(hr:Rep ws s.heap a r) (hk:Q a S):Qm r {s with toks:=tk}:=
 q.keep (h':=s.heap) (tk:=tk) R (fun uz uz e=>e) hr hk
theorem WQ.here (q:WQ G C ws s Q Qm) (R:Rel G C ws S s.heap) {a:V}{r:Value}(hr:Rep ws s.heap a r) (hk:Q a S):Qm r s:=q.keep (h':=s.heap) (tk:=s.toks) R (fun uz uz e=>e) hr hk
theorem WQ.toPQ (q:WQ G C ws s Q Qm) (R:Rel G C ws S s.heap):PQ ws s (fun c=>Q c S) Qm:=fun uz uz uz uz k hr hk=>q.keep R k hr hk
theorem qw {h:Heap}{items:List Value}{vs:List V}{l:Addr}(hl:vs.length<=sizeLine) (hn:l∉tr ws) (i:h.IsList l items.toArray) (r:Reps ws h vs items):Rep ws h (.lst vs) (.ref l):=by
 simp only [Rep];exact⟨hl,l,items,rfl,hn,i,r⟩
theorem qu {h:Heap}{items:List Value}{vs:List V}{l:Addr}(hl:vs.length<=sizeLine) (hn:l∉tr ws) (i:IsTup h l items.toArray) (r:Reps ws h vs items):Rep ws h (.tup vs) (.ref l):=by
 simp only [Rep];exact⟨hl,l,items,rfl,hn,i,r⟩
theorem Jd {h:Heap}{vs:List V}{ys:List Int}{items:List Value}(e:vs.mapM n7=some ys) (r:Reps ws h vs items):IntsAre items ys:=
 lP (R:=fun ys items=>IntsAre items ys) .nil (fun v b x bs xs e r k=>by
  cases Je e
  refine an r.int_ ?_;intro t y1;subst y1
  exact .cons _ t k) e r
theorem GY {h:Heap}{vs:List V}{b:List UInt8}{items:List Value}(e:vs.mapM gX=some b) (r:Reps ws h vs items):∃ns,IntsAre items ns/\(∀n∈ns,0<=n/\n<256)/\byteArr ns=b.toArray:=by
 have key:∃ns,IntsAre items ns/\(∀n∈ns,0<=n/\n<256)/\ns.map (fun n=>n.toNat.toUInt8)=b:=
  lP (R:=fun b items=>∃ns,IntsAre items ns/\(∀n∈ns,0<=n/\n<256)/\ns.map (fun n=>n.toNat.toUInt8)=b) (aQ ([]) .nil ((fun uz h=>nomatch h)) rfl) (fun v b x bs xs e r k=>by
   refine a8 (GZ e) ?_;intro n y1 hc y3;subst y1 y3
   refine an r.int_ ?_;intro t y1;subst y1
   refine a8 k ?_;clear k;intro ns i1 i2 i3
   exact aQ (n::ns) (.cons _ t i1) (fun m hm=>(bC hm).elim (fun q=>q▸hc) (i2 m)) (congrArg (_::·) i3)) e r
 refine a8 key ?_;clear key;intro ns i1 i2 i3;refine aQ ns i1 i2 ?_;(refine aZ (i3 ..) ?_);rfl
theorem Iy:∀(x:Int) (r:List Int),kD (x::r)∈x::r/\∀a∈x::r,a<=kD (x::r):=by
 have main:∀(r:List Int) (x:Int),(r.foldl (fun m y=>if m<y then y else m) x)∈x::r/\∀a∈x::r,a<=r.foldl (fun m y=>if m<y then y else m) x:=by
  intro r;induction r with
  |nil=>intro x;simp
  |cons y r ih=>
   intro x;simp only [List.foldl_cons];refine af (ih (if x<y then y else x)) ?_;intro h1 h2;refine⟨?_,fun a ha=>?_⟩
   ·refine av (bC h1) (fun h1=>?_) fun h1=>?_
    ·erw [h1];split<;>simp
    ·simp [h1]
   ·have h3:=h2 _ (.head _);generalize List.foldl (fun m y=>if m<y then y else m) (if x<y then y else x) r=M at h2 h3;have h4:x<=M/\y<=M:=by split at h3<;>omega
    refine av (bC ha) ?_ ?_
    ·rintro rfl;exact h4.1
    ·intro ha
     (focus (refine aK (bC ha) ?_ ?_;intro ha;rotate_left;rintro rfl))
     ·exact h4.2
     ·exact h2 a (.tail _ ha)
 exact fun x r=>main r x
theorem Iz {is:List Int}{M:Int}(hne:is≠[]) (h1:M∈is) (h2:∀a∈is,a<=M):M=kD is:=by
 induction is with
 |nil=>exact absurd rfl hne
 |cons x r=>
  refine af (Iy x r) ?_;intro h3 h4;have:=h4 M h1;have:=h2 _ h3;omega
theorem Iw {l:Addr}{vs:List Value}{ns:List Int}{Q:VP}{prog:Program}{w:World}(hh:A.handled=none)
  (hl:s.heap.IsList l vs.toArray) (hi:IntsAre vs ns) (hne:ns≠[])
  (h:∀h' (t:Tok) tk,(∀b o,s.heap.get? b=some o->h'.get? b=some o)->Q (.int (kD ns) t) {s with heap:=h',toks:=tk}) :
  wpAny (model prog w) A (call (.builtin "max") [.ref l]) Q Em s:=by
 refine an hi.allInts.items ?_;intro xs e;have hns:ns=xs.toList.map (·.1):=by
  (refine aZ (hi.numsOf ..) ?_;refine aZ (nums_intItems ..) ?_;refine aZ (e ..) ?_;with_reducible rfl)
 have hsz:0<xs.size:=by
  have h3:=List.length_pos_iff.mpr hne;rw [hns,eQ,Array.length_toList] at h3;exact h3
 rw [e] at hl;refine max_intList hh hl hsz fun v h' tk hv hk=>?_;refine an (intItems_at hv) ?_;intro t y1;subst y1;refine af (argBest_gt (numAt xs) (xs.size-1)) ?_;intro h1 h2;have key:=Iz (is:=ns) (M:=numAt xs (argBest (fun i j=>decide (numAt xs i>numAt xs j)) (xs.size-1))) hne ?_ fun a ha=>?_
 ·erw [key];exact h _ t tk hk
 ·(erw [hns];erw [numAt_eq]);exact getD_mem (by(erw [eQ];erw [Array.length_toList]);exact bQ [xs.size,argBest (fun(i j:Nat)=>decide (numAt xs i>numAt xs j)) (xs.size-1),xs.size-1] [] (.lt (.k 0) aa) (.le ae ai) (.sb ai aa (.k 1)) (.lt ae aa) hsz h1 (bg (xs.size) (1)))
 ·rw [hns] at ha;refine ag (mem_getD ha) ?_;intro j hj y2;subst y2;rw [eQ,Array.length_toList] at hj;(refine aZ (numAt_eq ..) ?_);exact h2 j (aL [j,xs.size,xs.size-1] [] (.lt aa ae) (.sb ai ae (.k 1)) (.le aa ai) hj (bg (xs.size) (1)))
theorem Reps.cons_inv {h:Heap}{a:V}{as:List V}{vs:List Value}(r:Reps ws h (a::as) vs):∃v us,vs=v::us/\Rep ws h a v/\Reps ws h as us:=r
theorem Reps.one_inv {h:Heap}{a:V}{vs:List Value}(r:Reps ws h [a] vs):∃v,vs=[v]/\Rep ws h a v:=by
 refine aY r.cons_inv ?_;intro v us y2 r1 r2;subst y2;cases r2.nil_inv;exact aj v rfl r1
theorem Reps.two_inv {h:Heap}{a b:V}{vs:List Value}(r:Reps ws h [a,b] vs):∃v u,vs=[v,u]/\Rep ws h a v/\Rep ws h b u:=by
 refine aY r.cons_inv ?_;intro v us y2 r1 r2;subst y2;refine ag r2.one_inv ?_;intro u y1 r3;subst y1;exact bj v u rfl r1 r3
theorem qv {h:Heap}{r:Addr}{x y w:Int}{t u q:Tok}(hn:r∉tr ws) (i:IsRange h r x y w t u q):Rep ws h (.rng x y w) (.ref r):=(jf _ _ _ _ rfl hn i)
section
variable (R:Rel G C ws S s.heap) (q:WQ G C ws s Q Qm)
include R q
set_option tactic.hygienic true in
theorem L5 {n:String}(hA:AOk A C.frs d) (h:se n a S Q) (r:Rep ws s.heap a v):ah z (model G.prog G.w) A (call (.builtin n) [v]) Qm Em s:=by
 have l63:=nT;unfold se at h
 split at h
 ·rename_i hn;subst hn
  have lst:iC S.st a (fun vs=>Q (.int vs.length) S)->ah z (model G.prog G.w) A (call (.builtin "len") [v]) Qm Em s:=fun h=>by
   refine ag (md h) ?_;intro vs hl hk;refine af (f7 R.amb hl r) ?_;intro hz y1;refine aY y1 ?_;clear y1;intro l its y22 i1 r1;subst y22;have e:its.toArray.size=vs.length:=r1.length;refine aE (Calls.call_len_list i1 (by omega) ?_)
   erw [e]
   exact q.same R cJ hk
  induction a using V.casesOn with
  |str x=>
   refine af r.str_ ?_;intro hx y1;refine an y1 ?_;clear y1;intro t y21;subst y21;refine aE (PySem.P.len_str (by erw [cS];omega) ?_)
   erw [cS]
   exact q.same R cJ h
  |_=>exact lst h
 split at h
 ·rename_i hn;subst hn
  refine ag (f9 h) ?_;intro x e y2;refine ag y2 ?_;clear y2;intro c e2 hk;subst e e2;refine af r.str_ ?_;intro hx y1;refine an y1 ?_;clear y1;intro t y21;subst y21;exact aE (PySem.P.ord_of_char (q.same R cJ hk))
 split at h
 ·rename_i hn;subst hn
  refine b0 h ?_;clear h;intro vs' is hl hm hne hk;refine af (f7 R.amb hl r) ?_;intro hz y1;refine aY y1 ?_;clear y1;intro l its y22 i1 r1;subst y22;exact aE (Iw hA.handled i1 (Jd hm r1) hne fun h' t tk k=>q.keep R k cJ hk)
 ·exact h.elim
set_option tactic.hygienic true in
theorem LZ {n:String}{b:V}(hA:AOk A C.frs d) (h:sd n a b S Q) (r:Rep ws s.heap a v) (r':Rep ws s.heap b u):ah z (model G.prog G.w) A (call (.builtin n) [v,u]) Qm Em s:=by
 unfold sd at h
 split at h
 ·rename_i hn;subst hn
  refine eX (f1 r r' h) ?_;intro x y t t' y4 y5 hk;subst y4 y5;refine aE (min_two_ints hA.handled fun h' tk k=>?_);by_cases hc:y<x
  ·rw [if_pos hc] at hk⊢;exact q.keep R k cJ hk
  ·rw [if_neg hc] at hk⊢;exact q.keep R k cJ hk
 split at h
 ·rename_i hn;subst hn
  refine eX (f1 r r' h) ?_;intro x y t t' y4 y5 hk;subst y4 y5;refine aE (max_two_ints hA.handled fun h' tk k=>?_);by_cases hc:x<y
  ·rw [if_pos hc] at hk⊢;exact q.keep R k cJ hk
  ·rw [if_neg hc] at hk⊢;exact q.keep R k cJ hk
 ·exact h.elim
theorem LY {n:String}(hA:AOk A C.frs d) (h:Br n as S Q) (ra:Reps ws s.heap as vs):ah z (model G.prog G.w) A (call (.builtin n) vs) Qm Em s:=by
 cases as with
 |nil=>exact h.elim
 |cons a as=>
  cases as with
  |nil=>
   refine ag ra.one_inv ?_;intro v y1 r;subst y1;exact L5 R q hA h r
  |cons b as=>
   refine af (jB h) ?_;intro e h2;cases e;refine aY ra.two_inv ?_;intro v u y2 r r';subst y2;exact LZ R q hA h2 r r'
set_option tactic.hygienic true in
theorem L8 (hA:AOk A C.frs d) (h:r8 z n S Q):ah z (model G.prog G.w) A (call (.type n) []) Qm Em s:=by
 unfold r8 at h
 split at h
 ·rename_i hn;subst hn
  refine af h ?_;clear h;intro hz hk;refine Lo hz hA.guards fun h' k ho=>?_;have hp:s.heap.get? s.heap.objs.size=none:=gc _ (bw _);have R':=R.track (p:=(s.heap.objs.size,s.heap.objs.size)) (c:=.barr []) k hp hp (aI rfl (Nat.zero_le _) ho);exact q _ _ _ (.obj S.st.length) _ ⟨R',.of_keeps k,oj hp hp,rfl,rfl⟩ (aj ((s.heap.objs.size,s.heap.objs.size)) (by(refine aZ (R.amb.len ..) ?_);exact List.getElem?_concat_length) rfl) hk
 ·exact h.elim
theorem L7 (hA:AOk A C.frs d) (h:Bl a S Q) (r:Rep ws s.heap a v):ah z (model G.prog G.w) A (call (.type "bytes") [v]) Qm Em s:=by
 induction a using V.casesOn with
 |obj n=>
  refine ag h ?_;clear h;intro b hb hk;refine ag r ?_;clear r;intro p hp y2;subst y2;refine be (R.amb.cells _ _ _ hp hb) ?_;intro _ hl ho;exact aE (Ln ho (by simpa using hl) fun t k=>q.same R (nE hl) hk)
 |lst vs=>
  refine ag h ?_;clear h;intro b hb hk;refine af r ?_;clear r;intro hz y1;refine b0 y1 ?_;clear y1;intro l its y22 _ i1 r1;subst y22;refine a8 (GY hb r1) ?_;intro ns j1 j2 j3;have hbl:b.length<=sizeLine:=by
   have e1:=congrArg Array.size j3;rw [byteArr_size,List.size_toArray] at e1;(refine aZ (e1 ..) ?_;refine aZ (j1.length ..) ?_;erw [r1.length]);exact hz
  refine aE (call_bytes_ints i1 j1 j2 (by erw [r1.length];exact hz) hA.handled fun h' t k kk=>?_)
  erw [j3]
  exact q.keep R kk (nE hbl) hk
 |_=>exact h.elim
set_option tactic.hygienic true in
theorem LW {n:String}(hA:AOk A C.frs d) (h:r7 n a S Q) (r:Rep ws s.heap a v):ah z (model G.prog G.w) A (call (.type n) [v]) Qm Em s:=by
 unfold r7 at h
 split at h
 ·rename_i hn;subst hn
  refine a8 (da h) ?_;intro x e e2 hk;subst e e2;refine an r.int_ ?_;intro t y1;subst y1;refine aE (PySem.P.str_of_int (by decide +kernel) ?_)
  (with_reducible refine bx ((show(toString (100:Int):String) ="100" by decide +kernel) ..) ?_)
  have:(Str.ofString "100")=S_ [49,48,48]:=by decide +kernel
  erw [this]
  exact q.same R (fQ (by erw [sizeLine_eq];decide)) hk
 split at h
 ·rename_i hn;subst hn
  refine gn fun Pz kz=>?_;refine ag (mC h) ?_;intro b e hk;subst e;obtain rfl:=r.bool_;refine kz ?_;clear kz Pz;exact aE (call_int_bool (q.same R cJ hk))
 split at h
 ·rename_i hn;subst hn
  exact L7 R q hA h r
 split at h
 ·rename_i hn;subst hn
  refine gn fun Pz kz=>?_;refine ag h ?_;clear h;intro vs hl hk;refine af (f7 R.amb hl r) ?_;intro hz y1;refine aY y1 ?_;clear y1;intro l its y22 i1 r1;subst y22;refine a8 (id i1) ?_;intro o ho hc y3;refine an y3 ?_;clear y3;intro n hd;refine kz ?_;clear kz Pz;refine aE (call_list_seq l (.inl rfl) ho hc hd (fun h' c' k e=>?_) (by(erw [List.size_toArray];erw [r1.length]);exact hz));exact q.keep (tk:=s.toks) R k (qw hz (gH R.amb (bw _)) (aQ _ e rfl ⟨_,rfl⟩) (r1.mv (Mv.of_keeps k))) hk
 split at h
 ·rename_i hn;subst hn
  refine ag (da h) ?_;intro b e hk;subst e;refine an r.int_ ?_;intro t y1;subst y1;exact aE (call_range_1 (q.keep (tk:=s.toks+1+1) R (fun uz uz e=>bL _ e) (qv (gH R.amb (bw _)) (IsRange.new ..)) hk))
 ·exact h.elim
set_option tactic.hygienic true in
theorem LX {n:String}(hA:AOk A C.frs d) (h:r9 z n as S Q) (ra:Reps ws s.heap as vs):ah z (model G.prog G.w) A (call (.type n) vs) Qm Em s:=by
 cases as with
 |nil=>
  cases ra.nil_inv
  exact L8 R q hA h
 |cons a as=>cases as with
  |nil=>
   refine ag ra.one_inv ?_;intro v y1 r;subst y1;exact LW R q hA h r
  |cons b as=>
   unfold r9 Bq at h;dsimp only at h
   split at h
   ·rename_i hn;subst hn
    refine aY ra.cons_inv ?_;intro v us y2 r rb;subst y2;refine aY rb.cons_inv ?_;intro v' us y2 r' rc;subst y2;cases as with
    |nil=>
     cases rc.nil_inv
     refine eX (f1 r r' h) ?_;intro x y t t' y4 y5 hk;subst y4 y5;exact aE (call_range_2 (q.keep (tk:=s.toks+1) R (fun uz uz e=>bL _ e) (qv (gH R.amb (bw _)) (IsRange.new ..)) hk))
    |cons c as=>
     refine af (jB h) ?_;intro e hk;cases e;refine ag rc.one_inv ?_;intro v'' y1 r'';subst y1;refine eX (f1 r r' hk) ?_;intro x y t t' y4 y5 g1;subst y4 y5;refine a8 (da g1) ?_;intro w e h0 g2;subst e;refine an r''.int_ ?_;intro t'' y1;subst y1;exact aE (call_range_3 h0 (q.keep (tk:=s.toks) R (fun uz uz e=>bL _ e) (qv (gH R.amb (bw _)) (IsRange.new ..)) g2) (.inr (yX R hA)))
   ·exact h.elim
theorem L6 (hA:AOk A C.frs d) (h:d9 z u as S Q) (ra:Reps ws s.heap as vs):ah z (model G.prog G.w) A (call u vs) Qm Em s:=by
 induction u with
 |builtin n=>exact LY R q hA h ra
 |type n=>exact LX R q hA h ra
 |_=>exact h.elim
end
end
theorem Bo:Slot "bytes" "join" "bytes.join":=
 .of (owner :="bytes") (n :="join") (by(erw [typeLookup_type];erw [fk]);kernel_rfl) (by decide +kernel) (by decide +kernel) (by decide +kernel)
  (by first | exact .inl (by decide +kernel) | exact .inr (by decide +kernel)) (by erw [isSubtype_type];kernel_rfl)
theorem LF:typeOf (.builtin "bytes.join")=pure (.type "method_descriptor"):=by show builtinType _=_;erw [builtinType_eq_fast];kernel_rfl
theorem LG:entryFor table "bytes.join" = some Builtin.«bytes.join»:=by first | exact entryFor_of_fast (by kernel_rfl) | exact entryFor_of_tree (by kernel_rfl)
theorem LH (a b:Value):argsOk "bytes.join" ⟨[a,b],[]⟩:=by unfold argsOk;kernel_rfl
noncomputable def ia (l:List (List UInt8×Tok)):List Value:=l.map fun p=>.bytes p.1.toArray p.2
theorem I1:∀(l:List (List UInt8)),Builtin.Bytes.joined #[] (l.map List.toArray)=l.flatten.toArray:=by
 have main:∀(l:List (List UInt8)) (k:Nat) (acc:Array UInt8),((l.map List.toArray).zipIdx k).foldl (fun out (p,i)=>(if i>0 then out++#[] else out)++p) acc=acc++l.flatten.toArray:=by
  intro l;induction l with
  |nil=>intro k acc;simp
  |cons x l ih=>
   intro k acc
   (erw [List.map_cons];erw [List.zipIdx_cons];erw [List.foldl_cons];erw [ih])
   by_cases h:k>0<;>simp [h,Array.append_assoc]
 intro l;unfold Builtin.Bytes.joined
 erw [main l 0 #[]]
 simp
section
variable {prog:Program}{w:World}{A:Around}{E:VP}{s:Shared}
theorem Dl {M:Model}{β:Type}(f:Nat->β->Sem (ForInStep β)) (n:Nat) (I:Nat->β->Shared->Prop) (Q:β->Shared->Prop) (b:β)
  (turn:∀i b s,i<n->I i b s->wpAny M A (f i b) (fun r s'=>match r with | .yield b'=>I (i+1) b' s' | .done b'=>Q b' s') E s)
  (fin:∀b s,I n b s->Q b s) (h:I 0 b s):wpAny M A (forIn [0:n] b f) Q E s:=by
 have e:forIn [0:n] b f=forIn (List.range' 0 n 1) b f:=by
  simp [Std.Legacy.Range.forIn_eq_forIn_range',Std.Legacy.Range.size]
 erw [e]
 have main:∀(m i:Nat) (b:β) (s:Shared),i+m=n->I i b s->wpAny M A (forIn (List.range' i m 1) b f) Q E s:=by
  intro m;induction m with
  |zero=>
   intro i b s hi hI;have:i=n:=by exact al [i,n] [] (.eq (.a aa (.k 0)) ae) (.eq aa ae) hi
   subst this;exact aX (fin _ _ hI)
  |succ m ih=>
   intro i b s hi hI
   (erw [List.range'_succ];erw [List.forIn_cons])
   refine az (wpAny_mono (turn i b s (al [i,m,n] [] (.eq (.a aa (.a ae (.k 1))) ai) (.lt aa ai) hi) hI) (fun r s' hr=>?_) fun uz uz x=>x);induction r with
   |done b'=>exact aX hr
   |yield b'=>exact ih (i+1) b' s' (al [i,m,n] [] (.eq (.a aa (.a ae (.k 1))) ai) (.eq (.a (.a aa (.k 1)) ae) ai) hi) hr
 exact main n 0 b s (aH [n] [] (.eq (.a (.k 0) aa) aa)) h
theorem Dm {M:Model}{α:Type}{arr:Array Value}{f:Value->Sem α}{g:Sem α}{Q:α->Shared->Prop}(h1:∀x,arr=#[x]->wpAny M A (f x) Q E s) (h2:wpAny M A g Q E s) :
  wpAny M A (match arr with | #[x]=>f x | _=>g) Q E s:=by
 obtain⟨l⟩:=arr;rcases l with _ | ⟨x,_ | ⟨y,r⟩⟩
 ·exact h2
 ·exact h1 x rfl
 ·exact h2
set_option maxHeartbeats 2000000 in
theorem Lm {v:Addr}{l:List (List UInt8×Tok)}{t:Tok}{Q:VP}(hl:s.heap.IsList v (ia l).toArray) (hz:(l.map (·.1)).flatten.length<=sizeLine)
  (h:∀t' k,Q (.bytes (l.map (·.1)).flatten.toArray t') {s with toks:=k}):wpAny (model prog w) A (call (.builtin "bytes.join") [.bytes #[] t,.ref v]) Q E s:=by
 have hT:s.TypeIs (.bytes #[] t) "bytes":= j5 _ _ _;refine wpAny_call_entry Bo hT LG ?_ (LH _ _);refine a8 (id hl) ?_;intro o ho hc y3;refine an y3 ?_;clear y3;intro n hd;refine az (wpAny_of_eq (a:=(.bytes #[] t,.ref v)) rfl ?_);refine bm_if_true rfl ?_;refine az ?_;refine az (wpAny_typeOf hl.typeIs ?_);refine bm_if_true rfl ?_;refine aX ?_;refine az (wpAny_seqItems ho hd ?_);refine bm_if_true rfl ?_;refine Dm (fun x hx=>?_) ?_
 ·skip
  have:l.length=1:=by have:=congrArg Array.size hx;simpa [ia] using this
  refine an (List.length_eq_one_iff.mp this) ?_;intro p y1;subst y1;simp [ia] at hx;subst hx;refine az (wpAny_typeOf (j5 _ _ _) ?_);refine bm_if_true rfl ?_;refine az (wpAny_rule (aX (aj _ rfl ?_)));have:=h p.2 s.toks;simpa using this
 ·refine az (wpAny_mono (Q:=fun b s'=>s'=s/\b.1=(l.map fun p=>p.1.toArray).toArray/\b.2=l.map fun p=>(Value.bytes p.1.toArray p.2,none)) ?_ ?_ fun uz uz x=>x)
  ·refine Dl _ _ (fun i b s'=>s'=s/\b.1=((l.take i).map fun p=>p.1.toArray).toArray/\b.2=(l.take i).map fun p=>(Value.bytes p.1.toArray p.2,none)) _ _ ?_ ?_ (aI rfl (by simp) (by simp))
   ·intro i;intro y40;obtain(⟨dW,taken⟩):=y40;intro s';intro hi;intro y160;refine be y160 ?_;clear y160;intro y161 h1 h2;subst y161;simp only at h1 h2;subst h1 h2;have hil:i<l.length:=by simpa [ia] using hi
    refine az (wpAny_seqItems ho hd ?_);have hx:(ia l).toArray.getD i Value.none=.bytes l[i].1.toArray l[i].2:=by simp [ia,hil]
    dsimp only
    erw [hx]
    refine bm_if_false ?_ ?_
    ·rw [Bool.or_eq_false_iff];refine⟨rfl,?_⟩;rw [List.any_eq_false];intro y hy;refine ag (List.mem_map.mp hy) ?_;intro p _ y2;subst y2;simp [Value.onHeap]
    have hU:s'.TypeIs (.bytes l[i].1.toArray l[i].2) "bytes":= j5 _ _ _;have hb:wpAny (model prog w) A.in1 (Builtin.Bytes.takeBufferQuiet? (toString Builtin.Bytes.Kind.bytes.name++toString ".join") (.bytes l[i].1.toArray l[i].2) 0) (fun o s''=>o=some (l[i].1.toArray,none)/\s''=s') E s':=by
     refine az (wpAny_attempt ?_);refine az (eR hU jS ?_);refine az (qF hU ?_);refine bm_if_false rfl ?_;refine az (eR hU jS ?_);refine az (Bm hU (b:=l[i].1.toArray) (aX ⟨rfl,rfl⟩) ?_);exact aX (aX ⟨rfl,rfl⟩)
    refine az (wpAny_holding (wpAny_mono hb (fun o s'' e=>?_) fun uz uz x=>x));refine af e ?_;clear e;intro y0 y1;subst y0 y1;refine az (wpAny_seqItems ho hd ?_);have take1:l.take (i+1)=l.take i++[l[i]]:=by(erw [List.take_add_one];erw [eT hil]);rfl
    refine bm_if_false (by simp) (aX (aI rfl ?_ ?_))
    ·show(((l.take i).map fun p=>p.1.toArray).toArray).push l[i].1.toArray=_
     (erw [take1];erw [List.map_append];erw [List.push_toArray]);rfl
    ·(erw [take1];erw [List.map_append]);rfl
   ·intro y0;obtain(⟨dW,taken⟩):=y0;intro s';intro y80;refine be y80 ?_;clear y80;intro y81 h1 h2;subst y81;simp only at h1 h2;have e:(ia l).toArray.size=l.length:=by simp [ia]
    rw [e,List.take_length] at h1 h2;exact aI rfl h1 h2
  ·intro y0;obtain(⟨dW,taken⟩):=y0;intro s';intro y80;refine be y80 ?_;clear y80;intro y81 h1 h2;subst y81;simp only at h1 h2;subst h1 h2;dsimp only;refine az (aX ?_);have hsum:∀(l:List (List UInt8×Tok)) (k:Nat),(l.map fun p=>p.1.toArray).foldl (fun x y=>x+y.size) k=k+((l.map (·.1)).flatten).length:=by
    intro l;induction l with
    |nil=>intro k;simp
    |cons p l ih=>intro k;simp [ih];exact aH [k,p.fst.length,(List.map (List.length∘fun(x:List UInt8×Tok)=>x.fst) l).sum] [] (.eq (.a (.a aa ae) ai) (.a aa (.a ae ai)))
   refine bm_if_false ?_ ?_
   ·refine decide_eq_false ?_;have:=hsum l 0;simp only [List.foldl_toArray',Array.size_empty,Nat.zero_mul] at this⊢;omega
   have ej:Builtin.Bytes.joined #[] (l.map fun p=>p.1.toArray)=(l.map (·.1)).flatten.toArray:=by
    have:=I1 (l.map (·.1))
    rw [List.map_map] at this;exact this
   erw [ej]
   refine az (wpAny_mkBytes ?_ (by simpa using hz));refine az (wpAny_holding (wpAny_point ?_));refine az ?_;have lg:∀(l:List (List UInt8×Tok)) (keep:List Value) (s:Shared) (Q:Unit->Shared->Prop),Q () s->wpAny (model prog w) A.in1 (Builtin.Bytes.joinLetGo (l.map fun p=>(Value.bytes p.1.toArray p.2,none)) keep) Q E s:=by
    intro l;induction l with
    |nil=>intro keep s Q hq;exact aX hq
    |cons p l ih=>
     intro keep s Q hq
     erw [List.map_cons]
     exact az (wpAny_letGo (ih _ _ _ hq))
   exact lg l _ _ _ (aX (aj _ rfl (h _ _)))
end
section
open Sem (wp)
section
variable {α:Type}{z:Bool}{M:Model}{A:Around}{E:VP}{s:Shared}
theorem Dj {M:Model}{Γ:Ctx}{s₀:Nat}:∀(t:Sem α) (Q:α->Pos->Shared->Prop) (E:Value->Pos->Shared->Prop) (p:Pos) (s:Shared),s₀<=s.toks->
  wp M Γ t (fun a p' s'=>s₀<=s'.toks->Q a p' s') (fun e p' s'=>s₀<=s'.toks->E e p' s') p s->wp M Γ t Q E p s:=by
 intro t;induction t with
 |pure a=>intro Q E p s h0 h;rw [wp] at h⊢;exact h h0
 |raise e=>intro Q E p s h0 h;rw [wp] at h⊢;exact h h0
 |unsupported=>intro Q E p s h0 h;rw [wp] at h;exact h.elim
 |finish=>intro Q E p s h0 h;rw [wp] at h;exact h.elim
 |rule _ k ih=>intro Q E p s h0 h;rw [wp] at h⊢;exact ih _ _ _ _ _ h0 h
 | «at» _ k ih=>intro Q E p s h0 h;rw [wp] at h⊢;exact ih _ _ _ _ _ h0 h
 |load a _ k ih=>intro Q E p s h0 h;rw [wp] at h⊢;(refine ag h ?_;clear h;intro o ho h);exact aj o ho (ih _ _ _ _ _ h0 h)
 |update a _ f k ih=>intro Q E p s h0 h;rw [wp] at h⊢;exact⟨h.1,ih _ _ _ _ _ h0 h.2⟩
 |loadIfAlive a k ih=>intro Q E p s h0 h;rw [wp] at h⊢;exact ih _ _ _ _ _ h0 h
 |point _ k ih=>intro Q E p s h0 h;rw [wp] at h⊢;exact ih _ _ _ _ _ h0 h
 |register=>intro Q E p s h0 h;rw [wp] at h;exact h.elim
 |alloc o k ih=>intro Q E p s h0 h;rw [wp] at h⊢;exact ih _ _ _ _ _ h0 h
 |fresh k ih=>intro Q E p s h0 h;rw [wp] at h⊢;exact ih _ _ _ _ _ (Nat.le_succ_of_le h0) h
 |ask k ih=>intro Q E p s h0 h;rw [wp] at h⊢;exact ih _ _ _ _ _ h0 h
 |choose src n k ih=>intro Q E p s h0 h;rw [wp] at h⊢;exact⟨h.1,ih _ _ _ _ _ h0 h.2⟩
 |os q _ k ih=>intro Q E p s h0 h;rw [wp] at h⊢;exact ih _ _ _ _ _ h0 h
 |call c hd _ _ k ih=>intro Q E p s h0 h;rw [wp] at h⊢;(refine bd h ?_;clear h;intro r s' hr h);exact bB r s' hr (ih _ _ _ _ _ (aW h0 hr.toks_le) h)
 |handled own k ih=>intro Q E p s h0 h;rw [wp] at h⊢;exact ih _ _ _ _ _ h0 h
 |genState g k ih=>intro Q E p s h0 h;rw [wp] at h⊢;(refine ag h ?_;clear h;intro st hg h);exact aj st hg (ih _ _ _ _ _ h0 h)
 |newGen c k ih=>intro Q E p s h0 h;rw [wp] at h⊢;exact ih _ _ _ _ _ h0 h
 |resume g r _ k ih=>intro Q E p s h0 h;rw [wp] at h⊢;(refine bd h ?_;clear h;intro res s' hr h);exact bB res s' hr (ih _ _ _ _ _ (aW h0 hr.toks_le) h)
 |yield=>intro Q E p s h0 h;rw [wp] at h;exact h.elim
 |stack k ih=>intro Q E p s h0 h;rw [wp] at h⊢;exact ih _ _ _ _ _ h0 h
 |fork=>intro Q E p s h0 h;rw [wp] at h;exact h.elim
 |thread k ih=>intro Q E p s h0 h;rw [wp] at h⊢;exact ih _ _ _ _ _ h0 h
 |await=>intro Q E p s h0 h;rw [wp] at h;exact h.elim
theorem bO {t:Sem α}{Q:α->Shared->Prop}(h:ah z M A t (fun a s'=>s.toks<=s'.toks->Q a s') (fun e s'=>s.toks<=s'.toks->E e s') s):ah z M A t Q E s:=
 fun Γ p hΓ hz=>Dj (s₀:=s.toks) t _ _ _ _ (bw _) (h Γ p hΓ hz)
end
theorem i4 {x:Str}{s:String}(h:fC x s=true):x=Str.ofString s:=by unfold fC at h;exact beq_iff_eq.mp h
theorem Ez {ws:Wd}{h:Heap}{vs:List V}{ys:List (List Nat)}{items:List Value}(e:vs.mapM eM=some ys) (r:Reps ws h vs items):∃l:List (Str×Tok),items=strValues l/\l.map (·.1)=ys.map S_:=
 lP (R:=fun ys items=>∃l:List (Str×Tok),items=strValues l/\l.map (·.1)=ys.map S_) (aj ([]) rfl rfl) (fun v b x bs xs e r k=>by
  cases uT e
  refine af r.str_ ?_;intro _ y1;refine an y1 ?_;clear y1;intro t y21;subst y21
  refine ag k ?_;clear k;intro l y1 hl;subst y1
  exact aj ((S_ b,t)::l) rfl (congrArg (_::·) hl)) e r
theorem Ls {ws:Wd}{h:Heap}{vs:List V}{ys:List (List UInt8)}{items:List Value}(e:vs.mapM mI=some ys) (r:Reps ws h vs items):∃l:List (List UInt8×Tok),items=ia l/\l.map (·.1)=ys:=
 lP (R:=fun ys items=>∃l:List (List UInt8×Tok),items=ia l/\l.map (·.1)=ys) (aj ([]) rfl rfl) (fun v b x bs xs e r k=>by
  cases Lu e
  refine af r.bytes_ ?_;intro _ y1;refine an y1 ?_;clear y1;intro t y21;subst y21
  refine ag k ?_;clear k;intro l y1 hl;subst y1
  exact aj ((b,t)::l) rfl (congrArg (_::·) hl)) e r
section
variable {G:Gd}{C:Cx}{ws:Wd}{S:St}{A:Around}{s:Shared}{Q:QE}{Qm:VP}{Em:VP}{d:Nat}{z:Bool}
 {g:V} {v:Value} {as:List V} {vs:List Value} {x:Str} {D:Addr->Option (List (List Nat×Int))}
theorem JX {prog:Program}{w:World}{X Y:Str}{i j:Int}{t u p q:Tok}{E:VP}{Q:VP}(hi:0<=i) (hj:0<=j)
  (h:Q (.int (match Builtin.Str.occurrences X Y i.toNat (min j.toNat X.length) 1 with | k::_=>(k:Int) | []=>-1) s.toks) {s with toks:=s.toks+1}) :
  wpAny (model prog w) A (call (.builtin "str.find") [.str X t,.str Y u,.int i p,.int j q]) Q E s:=by
 have g:Gives (Builtin.«str.find» ⟨[.str X t,.str Y u,.int i p,.int j q],[]⟩) (.int (match Builtin.Str.occurrences X Y i.toNat (min j.toNat X.length) 1 with | k::_=>(k:Int) | []=>-1)):=by
  have e1:(max (0:Int) (if i<0 then i+X.length else i)).toNat=i.toNat:=by rw [if_neg (by exact al [] [i] (.Le (.k 0) aw) (.not (.Lt aw (.k 0))) hi)];congr 1;exact aL [] [i,max 0 i] (.Le (.k 0) aw) (.mx cO (.k 0) aw) (.Eq cO aw) hi (rd (0) (i))
  have e2:(max (0:Int) (if j<0 then j+X.length else j)).toNat=j.toNat:=by rw [if_neg (by exact al [] [j] (.Le (.k 0) aw) (.not (.Lt aw (.k 0))) hj)];congr 1;exact aL [] [j,max 0 j] (.Le (.k 0) aw) (.mx cO (.k 0) aw) (.Eq cO aw) hj (rd (0) (j))
  show Gives (match Builtin.Str.occurrences X Y (max (0:Int) (if i<0 then i+X.length else i)).toNat (min (max (0:Int) (if j<0 then j+X.length else j)).toNat X.length) 1 with | i::_=>retInt i | []=>(do rule "str.find.not-found";retInt (-1))) _
  (erw [e1];erw [e2])
  cases Builtin.Str.occurrences X Y i.toNat (min j.toNat X.length) 1 with
  |nil=>exact .rule (.of_eq rfl)
  |cons i _=>exact .of_eq rfl
 exact call_gives PySem.F.slot_str_find (typeIs_str _ _ _) PySem.F.entry_str_find (PySem.F.args_str_find_4 _ _ _ _) g h
theorem EQ {prog:Program}{w:World}{X Y:Str}{t u:Tok}{E:VP}{Q:VP}(hy:Y.length≠0) (hsz:X.length<=sizeLine) (hn:(Txt.split X Y).length<=sizeLine)
  (hq:∀(l:List (Str×Tok)) tk,l.map (·.1)=Txt.split X Y->Q (.ref s.heap.objs.size) {s with heap:=s.heap.push {cls:=.type "list",data:=.seq (strValues l).toArray},toks:=tk}) :
  wpAny (model prog w) A (call (.builtin "str.split") [.str X t,.str Y u]) Q E s:=by
 have hy':(Y.length==0)=false:=beq_eq_false_iff_ne.mpr hy;cases h1:(decide (X.length<Y.length)||decide (Builtin.Str.strKind X<Builtin.Str.strKind Y))
 ·cases hf:(Builtin.Str.occurrences X Y 0 X.length (X.length+1)).isEmpty
  ·have e:Txt.split X Y=Builtin.Str.partsBetween X (Builtin.Str.occurrences X Y 0 X.length (X.length+1)) Y.length:=(if_neg (ne_true_of_eq_false h1)).trans (if_neg (ne_true_of_eq_false hf));rw [e] at hn hq;refine call_meets PySem.F.slot_str_split (typeIs_str _ _ _) PySem.F.entry_str_split (PySem.F.args_str_split_2 _ _) (meets_str_split_sep X Y t u h1 hy' hf hsz hn) ?_;show wants Q E _ {s with toks:=_,heap:=s.heap.push {cls:=.type "list",data:=.seq (strsFrom s.toks (Builtin.Str.partsBetween X (Builtin.Str.occurrences X Y 0 X.length (X.length+1)) Y.length)).toArray}}
   erw [strsFrom_eq]
   exact hq (numbered s.toks _) _ (numbered_texts _ _)
  ·exact call_meets PySem.F.slot_str_split (typeIs_str _ _ _) PySem.F.entry_str_split (PySem.F.args_str_split_2 _ _) (meets_str_split_not_found X Y t u h1 hy' hf)
    (hq [(X,t)] s.toks ((if_neg (ne_true_of_eq_false h1)).trans (if_pos hf)).symm)
 ·exact call_meets PySem.F.slot_str_split (typeIs_str _ _ _) PySem.F.entry_str_split (PySem.F.args_str_split_2 _ _) (meets_str_split_cannot_occur X Y t u h1)
   (hq [(X,t)] s.toks (if_pos h1).symm)
theorem I3 (ys:List (List Nat)):Txt.join (S_ []) (ys.map S_)=S_ ys.flatten:=by
 unfold Txt.join
 erw [StrLaws.glued_eq_join]
 induction ys with
 |nil=>rfl
 |cons y ys ih=>
  induction ys with
  |nil=>show S_ y=_;simp
  |cons y2 ys=>
   show S_ y++S_ []++Str.join (S_ []) (List.map S_ (y2::ys))=_
   (erw [ih];with_reducible refine bx (th ..) ?_;erw [th];erw [cz])
   simp
noncomputable def pE:Nat->String
 | 0 => "str.find"
 | 1 => "str.split"
 | 2 => "str.lower"
 | 3 => "str.upper"
 |_ => "str.join"
noncomputable def zN (g:V) (x:Str):String:=match g with
 | .str _=>pE (fb x)
 | .bytes _ => "bytes.join"
 |_ => "dict.get"
set_option tactic.hygienic true in
theorem zQ {x:Str}(h:(fb x != 5)=true):(x=("find":Str)/\fb x=0)\/(x=("split":Str)/\fb x=1)\/(x=("lower":Str)/\fb x=2)\/(x=("upper":Str)/\fb x=3)\/(x=("join":Str)/\fb x=4):=by
 unfold fb at h⊢
 split at h
 ·rename_i h1;exact .inl ⟨i4 h1,if_pos h1⟩
 rename_i h1;erw [if_neg h1]
 split at h
 ·rename_i h2;exact .inr (.inl ⟨i4 h2,if_pos h2⟩)
 rename_i h2;erw [if_neg h2]
 split at h
 ·rename_i h3;exact .inr (.inr (.inl ⟨i4 h3,if_pos h3⟩))
 rename_i h3;erw [if_neg h3]
 split at h
 ·rename_i h4;exact .inr (.inr (.inr (.inl ⟨i4 h4,if_pos h4⟩)))
 rename_i h4;erw [if_neg h4]
 split at h
 ·rename_i h5;exact .inr (.inr (.inr (.inr ⟨i4 h5,if_pos h5⟩)))
 ·cases h
theorem JN (R:Rel G C ws S s.heap) (hD:lr G D) (hok:q9 D g x=true) (rg:Rep ws s.heap g v) {pl:Sem Bool}{Q:Value×List Value->Shared->Prop}(h:Q (.builtin (zN g x),[v]) s) :
  wpAny (model G.prog G.w) A (getMethod v x pl) Q Em s:=by
 induction g using V.casesOn with
 |str y=>
  refine af rg.str_ ?_;intro _ y1;refine an y1 ?_;clear y1;intro t y21;subst y21;replace h:Q (.builtin (pE (fb x)),[.str (S_ y) t]) s:=h
  ((focus (refine av (zQ hok) ?_ ?_;intro y0;refine af y0 ?_;clear y0;intro e e2;rotate_left;intro y0;(focus (refine av y0 ?_ ?_<;>clear y0;intro y1;refine af y1 ?_;clear y1;intro e e2;rotate_left;intro y1;(focus (refine av y1 ?_ ?_<;>clear y1;intro y2;refine af y2 ?_;clear y2;intro e e2;rotate_left;intro y2;(focus (refine av y2 ?_ ?_<;>clear y2;intro y3;refine af y3 ?_;clear y3;intro e e2;rotate_left;intro y3;refine af y3 ?_;clear y3;intro e e2;rotate_left));rotate_left 2));rotate_left 3));rotate_left 4)))<;>rw [e2] at h<;>subst e
  ·have h:Q (.builtin "str.find",_) s:=h
   with_reducible exact GM.find h
  ·have h:Q (.builtin "str.split",_) s:=h
   with_reducible exact GM.split h
  ·have h:Q (.builtin "str.lower",_) s:=h
   with_reducible exact GM.lower h
  ·have h:Q (.builtin "str.upper",_) s:=h
   with_reducible exact GM.upper h
  ·have h:Q (.builtin "str.join",_) s:=h
   with_reducible exact GM.join h
 |bytes y=>
  refine af rg.bytes_ ?_;intro _ y1;refine an y1 ?_;clear y1;intro t y21;subst y21;rw [i4 hok];have h:Q (.builtin "bytes.join",_) s:=h
  with_reducible exact KBd.method_of _ (j5 _ _ _) Bo LF KBd.noRef h
 |val w=>induction w with
  |ref a=>
   obtain rfl:=rg.val_;refine af (bb hok) ?_;intro h1 h2;refine an (Option.isSome_iff_exists.mp h2) ?_;intro t ht
   erw [i4 h1]
   have h:Q (.builtin "dict.get",_) s:=h;have T:=(hD _ _ ht).keep R.amb.base
   with_reducible exact getMethod_strTab_get T h
  |_=>cases hok
 |_=>cases hok
theorem oK {k:V->Prop}(h:mK as k):∃a,as=[a]/\k a:=by
 induction as with
 |nil=>exact h.elim
 |cons a as=>
  refine af (jB h) ?_;intro e h2;exact aj a (by(erw [e];with_reducible rfl)) h2
theorem Gj {r:List (List Nat)}{h:Heap}:∀{l:List (Str×Tok)},(∀z∈r,z.length<=sizeLine)->l.map (·.1)=r.map S_->Reps ws h (r.map V.str) (strValues l):=by
 induction r with
 |nil=>
  intro l _ e;induction l with
  |nil=>exact .nil
  |cons=>cases e
 |cons c r ih=>
  intro l hz e;induction l with
  |nil=>cases e
  |cons p l=>
   refine af (List.cons.inj e) ?_;intro e1 e2;refine .cons ?_ (ih (fun z hz'=>hz z (.tail _ hz')) e2);show Rep ws h (V.str c) (Value.str p.1 p.2)
   erw [show p.1=S_ c from e1]
   exact fQ (hz c (.head _))
theorem JR {n:Nat}{i:Int}(hi:0<=i):PySem.fromIndex n i=i.toNat:=by
 unfold PySem.fromIndex;rw [if_neg (by exact al [] [i] (.Le (.k 0) aw) (.not (.Lt aw (.k 0))) hi)];congr 1;exact aL [] [i,max 0 i] (.Le (.k 0) aw) (.mx cO (.k 0) aw) (.Eq cO aw) hi (rd (0) (i))
theorem I2:∀(ys:List (List Nat)) (k:Nat),(ys.map S_).foldl (fun a b=>a+b.length+(S_ []).length) k=k+ys.flatten.length:=by
 intro ys;induction ys with
 |nil=>intro k;rfl
 |cons y ys ih=>
  intro k
  (erw [List.map_cons];erw [List.foldl_cons];erw [ih];erw [List.flatten_cons];erw [cf];erw [cS];erw [cS])
  exact aH [k,y.length,ys.flatten.length] [] (.eq (.a (.a (.a aa ae) (.k 0)) ai) (.a aa (.a ae ai)))
theorem I4 {ys:List (List Nat)}(hz:ys.flatten.length<=sizeLine):JoinOk (S_ []) (ys.map S_)=true:=by
 delta JoinOk Builtin.Str.tooLong
 rw [cN,List.foldl_toArray',I2]
 ·exact decide_eq_false (by omega)
 ·simp
section
variable (R:Rel G C ws S s.heap) (q:WQ G C ws s Q Qm)
include R q
theorem JZ {y:List Nat}{t:Tok}(ra:Reps ws s.heap as vs) (h:AE y as S Q):wpAny (model G.prog G.w) A (call (.builtin "str.find") (.str (S_ y) t::vs)) Qm Em s:=by
 cases as with
 |nil=>exact h.elim
 |cons a as=>
  refine aY ra.cons_inv ?_;intro v us y2 r ra1;subst y2;refine ag (f9 h) ?_;intro y' e h1;subst e;refine af r.str_ ?_;intro _ y1;refine an y1 ?_;clear y1;intro t' y21;subst y21;cases as with
  |nil=>
   cases ra1.nil_inv
   refine SC.find (q.same R cJ ?_);unfold Txt.find
   erw [cS]
   exact h1
  |cons a as=>
   refine aY ra1.cons_inv ?_;intro v us y2 r ra2;subst y2;refine a8 (da h1) ?_;intro i e h0 h2;subst e;refine an r.int_ ?_;intro t2 y1;subst y1;cases as with
   |nil=>
    cases ra2.nil_inv
    refine SC.find3 (q.same R cJ ?_);unfold Txt.find3
    (erw [cS];erw [JR h0])
    exact h2
   |cons a as=>
    refine af (jB h2) ?_;intro e h3;cases e;refine ag ra2.one_inv ?_;intro v y1 r;subst y1;refine a8 (da h3) ?_;intro j e hj h4;subst e;refine an r.int_ ?_;intro t3 y1;subst y1;refine JX h0 hj (q.same R cJ ?_)
    erw [cS]
    exact h4
theorem EO {y y':List Nat}{t t':Tok}(hx:y.length<=sizeLine) (h2:y'.length≠0) {r:List (List Nat)}(hr:(Txt.split (S_ y) (S_ y'))=r.map S_) (hz:∀z∈r,z.length<=sizeLine) (hl:r.length<=sizeLine) (hk:Q (.lst (r.map .str)) S) :
  wpAny (model G.prog G.w) A (call (.builtin "str.split") [.str (S_ y) t,.str (S_ y') t']) Qm Em s:=by
 refine EQ (by erw [cS];exact h2) (by erw [cS];exact hx) (by(erw [hr];erw [eQ]);exact hl) fun l tk hl'=>?_;exact q.keep R (fun uz uz e=>bL _ e) (qw (by erw [eQ];exact hl) (gH R.amb (bw _)) (aQ _ (dv _ rfl) rfl ⟨_,rfl⟩) (Gj hz (hl'.trans hr))) hk
theorem EB {y:List Nat}{t:Tok}(hx:y.length<=sizeLine) (hok:(fb x != 5)=true) (ra:Reps ws s.heap as vs) (h:uU (fb x) y as S Q):wpAny (model G.prog G.w) A (call (.builtin (pE (fb x))) (.str (S_ y) t::vs)) Qm Em s:=by
 ((focus (refine av (zQ hok) ?_ ?_;intro y0;refine af y0 ?_;clear y0;intro _ e2;rotate_left;intro y0;(focus (refine av y0 ?_ ?_<;>clear y0;intro y1;refine af y1 ?_;clear y1;intro _ e2;rotate_left;intro y1;(focus (refine av y1 ?_ ?_<;>clear y1;intro y2;refine af y2 ?_;clear y2;intro _ e2;rotate_left;intro y2;(focus (refine av y2 ?_ ?_<;>clear y2;intro y3;refine af y3 ?_;clear y3;intro _ e2;rotate_left;intro y3;refine af y3 ?_;clear y3;intro _ e2;rotate_left));rotate_left 2));rotate_left 3));rotate_left 4)))<;>rw [e2] at h⊢
 ·exact JZ R q ra h
 ·refine ag (oK h) ?_;intro a e h1;cases e;refine ag ra.one_inv ?_;intro v y1 r;subst y1;refine a8 (f9 h1) ?_;intro y' e h2 y3;refine iL y3 ?_;clear y3;intro r' hr hz hl hk;cases e;refine af r.str_ ?_;intro _ y1;refine an y1 ?_;clear y1;intro t' y21;subst y21;exact EO R q hx h2 hr hz hl hk
 ·refine be (jB h) ?_;intro e h2 hk;cases e;cases ra.nil_inv;refine SC.lower (by unfold Builtin.Str.tooLong;exact decide_eq_false (Nat.not_lt.mpr h2)) ?_;have:=fQ (ws:=ws) (h:=s.heap) (t:=s.toks) h2;rw [jc] at this;exact q.same R this hk
 ·refine be (jB h) ?_;intro e h2 hk;cases e;cases ra.nil_inv;refine SC.upper (by unfold Builtin.Str.tooLong;exact decide_eq_false (Nat.not_lt.mpr h2)) ?_;have:=fQ (ws:=ws) (h:=s.heap) (t:=s.toks) h2;rw [jc] at this;exact q.same R this hk
 ·refine a8 (oK h) ?_;intro a e h1 y3;refine b0 y3 ?_;clear y3;intro vs' ys hlo hy hz hk;cases e;cases h1;refine ag ra.one_inv ?_;intro v y1 r;subst y1;refine af (f7 R.amb hlo r) ?_;intro _ y1;refine aY y1 ?_;clear y1;intro a its y22 i1 r1;subst y22;refine ag (Ez hy r1) ?_;intro l y1 hl;subst y1;refine SC.join i1 hl (I4 hz) fun t' k=>?_
  erw [I3]
  exact q.same R (fQ hz) hk
theorem Iu (hD:lr G D) (hok:q9 D g x=true) (rg:Rep ws s.heap g v) (ra:Reps ws s.heap as vs) (h:dB D g x as S Q) :
  wpAny (model G.prog G.w) A (call (.builtin (zN g x)) (v::vs)) Qm Em s:=by
 induction g using V.casesOn with
 |str y=>
  refine af rg.str_ ?_;intro hx y1;refine an y1 ?_;clear y1;intro t y21;subst y21;exact EB R q hx hok ra h
 |bytes y=>
  refine af rg.bytes_ ?_;intro hx y1;refine an y1 ?_;clear y1;intro t y21;subst y21;refine a8 (oK h) ?_;intro a e h1 y3;refine b0 y3 ?_;clear y3;intro vs' ys hlo hy hz hk;cases e;cases h1;refine ag ra.one_inv ?_;intro v y1 r;subst y1;refine af (f7 R.amb hlo r) ?_;intro _ y1;refine aY y1 ?_;clear y1;intro a its y22 i1 r1;subst y22;refine ag (Ls hy r1) ?_;intro l y1 hl;subst y1;refine Lm i1 (by erw [hl];exact hz) fun t' k=>?_
  erw [hl]
  exact q.same R (nE hz) hk
 |val w=>
  refine ag (n6 h) ?_;intro dd e h1;cases e;obtain rfl:=rg.val_;refine ag (oK h1) ?_;intro a e h2;cases e;refine ag ra.one_inv ?_;intro v y1 r;subst y1;refine ag (f9 h2) ?_;intro y e y2;refine ag y2 ?_;clear y2;intro t ht hk;cases e;refine af r.str_ ?_;intro _ y1;refine an y1 ?_;clear y1;intro t' y21;subst y21;refine call_get1_strTab ((hD _ _ ht).keep R.amb.base) fun v hv=>?_;rw [oy] at hv;unfold Aq at hk;cases hl:t.lookup y with
  |none=>
   rw [hl] at hv hk;have:=hv s.heap;cases this;exact q.same R lQ hk
  |some n=>
   rw [hl] at hv hk;have:=hv s.heap;cases this;exact q.same R cJ hk
 |_=>exact h.elim
end
end
end
section
variable {G:Gd}{C:Cx}{ws:Wd}{S:St}{h h':Heap}{p:Addr×Addr}{c c':Cell}{n:Nat}{a:Addr}
theorem Ng {ws:Wd}(hp:ws.Pairwise fun p q=>p.1≠q.1/\p.1≠q.2/\p.2≠q.1/\p.2≠q.2) {i j:Nat}{p q:Addr×Addr}(hi:ws[i]? = some p) (hj:ws[j]? = some q) (hne:i≠j):p.1≠q.1/\p.1≠q.2/\p.2≠q.1/\p.2≠q.2:=by
 refine gn fun Pz kz=>?_;obtain⟨li,ei⟩:=ce hi;obtain⟨lj,ej⟩:=ce hj;refine kz ?_;clear kz Pz;rw [List.pairwise_iff_getElem] at hp;refine av (Nat.lt_or_gt_of_ne hne) (fun h=>?_) fun h=>?_
 ·have:=hp i j li lj h
  rw [ei,ej] at this;exact this
 ·have:=hp j i lj li h
  rw [ei,ej] at this;exact dq (Ne.symm this.1) (Ne.symm this.2.2.1) (Ne.symm this.2.1) (Ne.symm this.2.2.2)
theorem m9 (ha:a∈tr ws) (sb:∀b o,b≠a->h.get? b=some o->h'.get? b=some o):Mv ws h ws h':=
 ⟨fun b o n e uz=>⟨sb b o (fun q=>n (q▸ha)) e,n⟩,fun uz uz e=>e⟩
theorem Rel.upd (R:Rel G C ws S h) (hn:ws[n]? = some p) (hc:S.st[n]? = some c) (ha:a∈[p.1,p.2]) (sb:∀b o,b≠a->h.get? b=some o->h'.get? b=some o) (hc':CellAt G.w.params ws h' p c') :
  Rel G C ws (cX S n c') h':=by
 have hat:a∈tr ws:=fa hn a ha;have mv:=m9 hat sb;have out:∀{b:Addr} {o:Obj},b∉tr ws->h.get? b=some o->h'.get? b=some o:=fun{b o} n e=>sb b o (fun q=>n (q▸hat)) e;have nb:∀b o,G.base.get? b=some o->b∉tr ws:=fun b o e q=>by rw [R.amb.fresh b q] at e;exact ba e
 refine⟨⟨fun b o e=>out (nb b o e) (R.amb.base b o e),fun e he=>?_,?_,R.amb.tabF,by simp [cX,R.amb.len],fun m q d e1 e2=>?_,R.amb.fresh,R.amb.apart⟩,?_⟩
 ·refine af (R.amb.frames e he) ?_;intro q1 y1;refine j0 y1 ?_;clear y1;intro L o es n q2 q3 q4 q5 q6;exact⟨q1,L,o,es,n,q2,out q6 q3,q4,q5,q6⟩
 ·refine ag R.amb.tab ?_;intro ps q1 q2;refine aj ps (out R.amb.tabF q1) (q2.imp id fun⟨c,e,n,q⟩=>(aQ c e n ?_));refine eW q ?_;clear q;intro c' oc vs tq hc hoc hdc hq;cases hc;refine iJ c oc vs tq rfl (out (fun ht=>?_) hoc) hdc hq;refine a8 (R.amb.trThere ht) ?_;intro o' ho' hf _;rw [hoc] at ho';cases ho';exact hf _ hdc
 ·by_cases hm:m=n
  ·subst hm;rw [hn] at e1;cases e1;have hl:=(ce hc).1;simp only [cX] at e2;rw [fu hl] at e2;cases e2;exact hc'
  ·simp only [cX] at e2;rw [iO (fun q=>hm q.symm)] at e2;have ap:=Ng R.amb.apart e1 hn hm;refine(R.amb.cells m q d e1 e2).mv mv (fun o=>sb _ o ?_) fun o=>sb _ o ?_
   ·refine av (bC ha) ?_ ?_
    ·rintro rfl;exact ap.1
    ·intro ha;simp at ha;subst ha;exact ap.2.1
   ·refine av (bC ha) ?_ ?_
    ·rintro rfl;exact ap.2.2.1
    ·intro ha;simp at ha;subst ha;exact ap.2.2.2
 ·have l:=R.lc;refine⟨l.kind,l.glob,l.blt,?_,fun x c e=>?_,l.capart,l.ownL,l.own,l.freshL,l.len,l.nodup,l.head⟩
  ·refine ag l.ns ?_;intro m q1 q2;refine dH (id q1) ?_;intro o es ep ho hr;refine aj m ((ie o es ep (out l.freshL.2 ho) hr)) (fun i x a e1 e2=>let ⟨v,q3,q4⟩:=q2 i x a e1 e2;(aj v (q3.mv mv) (q4.keeps fun c hc v ⟨oc,h1,h2⟩=>(aj oc (out (l.cells x c hc).2.1 h1) h2))))
  ·refine be (l.cells x c e) ?_;intro y0 n b;refine bd y0 ?_;clear y0;intro v oc h1 h2;exact aI ((bB v oc (out n h1) h2)) n b
theorem m8 (hn:ws[n]? = some p) (ha:a∈[p.1,p.2]) (sb:∀b o,b≠a->h.get? b=some o->h'.get? b=some o) (hd:∃o,h'.get? a=some o):Step C.fr (mu G C ws) h h':=by
 have hat:a∈mu G C ws:=.tail _ (List.mem_append_right _ (fa hn a ha));refine⟨fun b o e n uz=>sb b o (fun q=>n (q▸hat)) e,fun b o e n uz=>⟨o.slots,sb b o (fun q=>n (q▸hat)) e⟩,fun b o e=>?_⟩;by_cases q:b=a
 ·subst q;exact hd
 ·exact⟨o,sb b o q e⟩
end
theorem z7 (x:Str) (t:Tok):(Value.str x t).isStr x=true:=beq_self_eq_true x
theorem rn {x y:Str}(t:Tok) (h:¬y=x):(Value.str y t).isStr x=false:=beq_eq_false_iff_ne.mpr h
theorem Fields.refKey {P ws h fs}:∀{es},Fields P ws h fs es->es.any (·.refKey)=false:=by
 induction fs with
 |nil=>intro es r;cases r;rfl
 |cons xa fs ih=>
  intro es r;refine cu r ?_;clear r;intro t v es y3 _ h2;subst y3
  (erw [List.any_cons];erw [ih h2]);rfl
theorem Fields.get {P ws h fs}{x:Str}:∀{es},Fields P ws h fs es->∀{a},fs.lookup x=some a->∃v,getL x es=some (some v)/\Rep ws h a v:=by
 induction fs with
 |nil=>intro es r a e;cases e
 |cons yb fs ih=>
  intro es r a e;refine cu r ?_;clear r;intro t v es y3 h1 h2;subst y3;rw [List.lookup_cons] at e;by_cases q:x=yb.1
  ·rw [←q,beq_self_eq_true] at e;cases e;refine aj v ?_ h1;unfold getL
   (erw [List.find?_cons];refine aZ (q ..) ?_;erw [z7];with_reducible rfl)
  ·rw [beq_eq_false_iff_ne.mpr q] at e;refine ag (ih h2 e) ?_;intro v' h3 h4;refine aj v' ?_ h4;unfold getL at h3⊢
   (erw [List.find?_cons];erw [rn t (Ne.symm q)])
   exact h3
theorem Fields.miss {P ws h fs}{x:Str}:∀{es},Fields P ws h fs es->fs.lookup x=none->getL x es=some none:=by
 induction fs with
 |nil=>intro es r e;cases r;rfl
 |cons yb fs ih=>
  intro es r e;refine gn fun Pz kz=>?_;refine cu r ?_;clear r;intro t v es y3 h1 h2;subst y3;refine kz ?_;clear kz Pz;rw [List.lookup_cons] at e;by_cases q:x=yb.1
  ·rw [←q,beq_self_eq_true] at e;exact dy e
  ·rw [beq_eq_false_iff_ne.mpr q] at e;have h3:=ih h2 e;unfold getL at h3⊢
   (erw [List.find?_cons];erw [rn t (Ne.symm q)])
   exact h3
theorem Fields.put {P ws h fs}{x:Str}{a:V}{v:Value}{t:Tok}(ra:Rep ws h a v):∀{es},Fields P ws h fs es->Fields P ws h (setField x a fs) (putL x (PyData.keyHash P x) (.str x t) v es):=by
 induction fs with
 |nil=>intro es r;cases r;exact dG t v ([]) rfl ra rfl
 |cons yb fs ih=>
  intro es r;refine cu r ?_;clear r;intro t' v' es y3 h1 h2;subst y3;unfold setField putL;by_cases q:yb.1=x
  ·refine aZ (q ..) ?_;erw [beq_self_eq_true];erw [if_pos rfl];erw [if_pos (z7 _ _)];exact dG t' v es rfl ra h2
  ·(erw [beq_eq_false_iff_ne.mpr q];erw [rn t' q];erw [if_neg Bool.false_ne_true];erw [if_neg Bool.false_ne_true])
   exact dG t' v' _ rfl h1 (ih h2)
theorem Fields.length {P ws h fs}:∀{es},Fields P ws h fs es->es.length=fs.length:=by
 induction fs with
 |nil=>intro es r;cases r;rfl
 |cons xa fs ih=>
  intro es r;refine cu r ?_;clear r;intro t v es y3 _ h2;subst y3;exact congrArg (·+1) (ih h2)
theorem yY (x:Str) (hs:Int) (k v:Value) (es:List DictEntry):(putL x hs k v es).length<=es.length+1:=by
 induction es with
 |nil=>exact bw _
 |cons e r ih=>
  unfold putL;by_cases q:e.key.isStr x=true
  ·erw [if_pos q];exact Nat.le_succ _
  ·erw [if_neg q];exact Nat.succ_le_succ ih
noncomputable def ll (K:Frag) (C:Addr) (x:Str):Bool:=
 plainGet K C x&&hasDictIn K C&&(match findIn K (.ref C) x with | some attr=>noGet K attr | none=>false)&&(findIn K (.ref C) "__setattr__"== some (some (.builtin "object.__setattr__")))&&plainOver K C&&(takerIn K C x==some none)
noncomputable def oQ (K:Frag) (C:Addr) (x:Str) (f:Addr):Bool:=plainGet K C x&&(findIn K (.ref C) x==some (some (.ref f)))&&isFn K (.ref f)
section
variable {G:Gd}{C:Cx}{ws:Wd}{S:St}{A:Around}{s:Shared}{k:V->Prop}{Qm:VP}{Em:VP}{d:Nat}{n:Nat}{Cl:Addr}{fs:List (Str×V)}{a:V}{v:Value}{x:Str}
theorem n9 (R:Rel G C ws S s.heap) (hc:S.st[n]? = some (.inst Cl fs)) (r:Rep ws s.heap (.obj n) v):∃p es m,ws[n]? = some p/\v=.ref p.1/\InstAt s.heap p.1 (instObj Cl p.2) Cl (some (dictOf es m))/\Fields G.w.params ws s.heap fs es/\s.heap.get? p.2=some (dictOf es m)/\p.1≠p.2:=by
 refine ag r ?_;clear r;intro p hp y2;subst y2;refine be (R.amb.cells _ _ _ hp hc) ?_;intro h0 h1 y2;refine bd y2 ?_;clear y2;intro es m h2 h3;exact jX p es m hp rfl (⟨h1,rfl,rfl,h2⟩) h3 h2 h0
theorem JB {h:Heap}(r:Rep ws h a v) (hn:∀x,a≠.val x):handedIn v=true:=by
 induction a using V.casesOn with
 |none=>obtain rfl:=r.none_;rfl
 |bool c=>obtain rfl:=r.bool_;rfl
 |int x=>(refine an r.int_ ?_;intro t y1;subst y1);rfl
 |str x=>(refine af r.str_ ?_;intro _ y1;refine an y1 ?_;clear y1;intro t y21;subst y21);rfl
 |bytes x=>(refine af r.bytes_ ?_;intro _ y1;refine an y1 ?_;clear y1;intro t y21;subst y21);rfl
 |tup x=>simp only [Rep] at r;(refine af r ?_;clear r;intro _ y1;refine bd y1 ?_;clear y1;intro b its y22 _;subst y22);rfl
 |lst x=>simp only [Rep] at r;(refine af r ?_;clear r;intro _ y1;refine bd y1 ?_;clear y1;intro b its y22 _;subst y22);rfl
 |obj n=>simp only [Rep] at r;(refine ag r ?_;clear r;intro p _ y2;subst y2);rfl
 |rng x y z=>simp only [Rep] at r;(refine mT r ?_;clear r;intro p _ _ _ y4 _;subst y4);rfl
 |val x=>exact absurd rfl (hn x)
set_option tactic.hygienic true in
theorem BD (R:Rel G C ws S s.heap) (hc:S.st[n]? = some (.inst Cl fs)) (hl:fs.lookup x=some a) (hn:∀x,a≠.val x) (ok:ll G.K Cl x=true) (r:Rep ws s.heap (.obj n) v) (hk:k a) (q:PQ ws s k Qm) :
  wpAny (model G.prog G.w) A (getAttr v x true) Qm Em s:=by
 refine iK (n9 R hc r) ?_;intro p es m hp y4 I hf _ _;subst y4;refine ag (hf.get hl) ?_;intro v' h1 h2;unfold ll at ok;simp only [cD] at ok;refine gn fun Pz kz=>?_;refine af ok ?_;clear ok;intro y0 o6;refine af y0 ?_;clear y0;intro y20 o5;refine af y20 ?_;clear y20;intro y40 o4;refine af y40 ?_;clear y40;intro y60 o3;refine af y60 ?_;clear y60;intro o1 o2;refine kz ?_;clear kz Pz
 split at o3
 ·rename_i attr ha
  exact get_value (G.X.keeps R.amb.base) I (plainGet_of o1).1 (findObj_own o2 ha o3 h1) (JB h2 hn) (q.same h2 hk)
 ·exact ft o3
theorem vb (R:Rel G C ws S s.heap) (hc:S.st[n]? = some (.inst Cl fs)) (ok:ll G.K Cl x=true) (hfs:fs.length<100) {u:Value}(r:Rep ws s.heap (.obj n) v) (ra:Rep ws s.heap a u)
  (q:∀s',Out G C ws s ws (cX S n (.inst Cl (setField x a fs))) s'->Qm .none s'):wpAny (model G.prog G.w) A (setAttr v x u) (fun uz=>Qm .none) Em s:=by
 refine iK (n9 R hc r) ?_;intro p es m hp y4 I hf hD hne;subst y4;unfold ll at ok;simp only [cD] at ok;refine gn fun Pz kz=>?_;refine af ok ?_;clear ok;intro y0 o6;refine af y0 ?_;clear y0;intro y20 o5;refine af y20 ?_;clear y20;intro y40 o4;refine af y40 ?_;clear y40;intro y60 o3;refine af y60 ?_;clear y60;intro o1 o2;refine kz ?_;clear kz Pz;have X:=G.X.keeps R.amb.base;refine set_plain X I (beq_iff_eq.mp o4) (osa_open (s:={s with toks:=s.toks+1}) X I o5 (beq_iff_eq.mp o6) fun b=>?_);refine ag (any_some o2) ?_;intro cd hcd hd';have hl:(getL x es).isSome=true:=by
  cases hx:fs.lookup x with
  |none=>erw [hf.miss hx];rfl
  |some a'=>(refine ag (hf.get hx) ?_;intro v' h1 _);erw [h1];rfl
 have hrk:=hf.refKey;have hI:=I;obtain⟨hx,hcl,hno,-⟩:=I;refine az (aX (az (az (wpAny_loadPart hx (az (looks_clsIn X hcd _ _ _ _ (fun uz uz e=>e) ?_))))))
 erw [hd']
 refine aX (a:=some p.2) (az (aX (az ?_)));refine az (az (wpAny_askSetting (aX (az (wpAny_mkText (az (wpAny_loadPart hD ?_)))))));dsimp only;have c:(!es.toArray.any (·.key.isStr x)&&es.toArray.any (·.refKey))=false:=by
  refine aZ (Array.any_toList ..) ?_;refine aZ (Array.any_toList ..) ?_
  (erw [hrk];erw [Bool.and_false];with_reducible rfl)
 (erw [aRefKeyMayBeTheName_at];erw [c])
 refine wpAny_updatePart hD ?_;have epn:=putName_dict x (PyData.keyHash G.w.params x) (.str x (s.toks+1)) u es m;have D':(s.heap.update p.2 (Obj.putName x (PyData.keyHash G.w.params x) (.str x (s.toks+1)) u)).get? p.2=some (dictOf (putL x (PyData.keyHash G.w.params x) (.str x (s.toks+1)) u es) (putN x es m)):=by
  (refine aZ (epn ..) ?_);exact Heap.get?_update_self _ hD (by erw [epn];rfl)
 have hlen:=yY x (PyData.keyHash G.w.params x) (.str x (s.toks+1)) u es;have hes:=hf.length;refine az (wpAny_lookBehind D' (pastItsLine_dict (by(erw [List.size_toArray];erw [sizeLine_eq]);exact bQ [fs.length,(putL x (PyData.keyHash G.w.params x) (Value.str x (s.toks+1)) u es).length,es.length] [] (.lt aa (.k 100)) (.le ae (.a ai (.k 1))) (.eq ai aa) (.le ae (.a (.k 16777216) (.k 1))) hfs hlen hes)) ?_);refine aX (q _ ?_);have sb:∀b o,b≠p.2->s.heap.get? b=some o->(s.heap.update p.2 (Obj.putName x (PyData.keyHash G.w.params x) (.str x (s.toks+1)) u)).get? b=some o:=fun b o hb e=>(Heap.get?_update_ne _ _ _ _ hb).trans e;have hat:p.2∈[p.1,p.2]:=by simp
 have mv:=m9 (fa hp _ hat) sb;refine⟨R.upd hp hc hat sb (aI hne (sb _ _ hne hx) (bB _ _ D' ((Fields.put ra hf).mv mv))),m8 hp hat sb ⟨_,D'⟩,.refl,rfl,rfl⟩
theorem JM (R:Rel G C ws S s.heap) (hc:S.st[n]? = some (.inst Cl fs)) {f:Addr}(ok:oQ G.K Cl x f=true) (hl:fs.lookup x=none) (r:Rep ws s.heap (.obj n) v) {pl:Sem Bool}{Q:Value×List Value->Shared->Prop}(h:Q (.ref f,[v]) s) :
  wpAny (model G.prog G.w) A (getMethod v x pl) Q Em s:=by
 refine iK (n9 R hc r) ?_;intro p es m hp y4 I hf _ _;subst y4;unfold oQ at ok;simp only [cD] at ok;refine af ok ?_;clear ok;intro y0 o3;refine af y0 ?_;clear y0;intro o1 o2;exact method_fn (G.X.keeps R.amb.base) I (plainGet_of o1).1 (plainGet_of o1).2 (beq_iff_eq.mp o2) (beq_iff_eq.mp o3) (by show(lookIn x (dictOf es m)).map _=_;(erw [lookIn_dict];erw [hf.miss hl]);rfl) h
theorem JO (R:Rel G C ws S s.heap) {vs:List V}(hc:S.st[n]? = some (.list vs)) (hx:fC x "append" = true) (r:Rep ws s.heap (.obj n) v) {pl:Sem Bool}{Q:Value×List Value->Shared->Prop}(h:Q (.builtin "list.append",[v]) s) :
  wpAny (model G.prog G.w) A (getMethod v x pl) Q Em s:=by
 refine ag r ?_;clear r;intro p hp y2;subst y2;refine be (R.amb.cells _ _ _ hp hc) ?_;intro e hl y2;refine bd y2 ?_;clear y2;intro items m ho hr
 erw [i4 hx]
 with_reducible exact Calls.getMethod_list_append ho rfl rfl h
theorem BI (R:Rel G C ws S s.heap) {vs:List V}(hc:S.st[n]? = some (.list vs)) (hz:vs.length<sizeLine) {u:Value}(r:Rep ws s.heap (.obj n) v) (ra:Rep ws s.heap a u)
  (q:∀s',Out G C ws s ws (cX S n (.list (vs++[a]))) s'->Qm .none s'):wpAny (model G.prog G.w) A (call (.builtin "list.append") [v,u]) Qm Em s:=by
 refine ag r ?_;clear r;intro p hp y2;subst y2;refine be (R.amb.cells _ _ _ hp hc) ?_;intro e hl y2;refine bd y2 ?_;clear y2;intro items m ho hr;have hz':items.toArray.size<=sizeLine:=by(erw [List.size_toArray];erw [hr.length]);exact hl
 refine PyProof.Rows.append_at ho (fun h' hs ho'=>q _ ?_) hz';have hat:p.1∈[p.1,p.2]:=by simp
 have sb:∀b o,b≠p.1->s.heap.get? b=some o->h'.get? b=some o:=fun b o hb e=>(hs.2 b hb).trans e;have mv:=m9 (fa hp _ hat) sb;refine⟨R.upd hp hc hat sb (aI e (by simp;omega) (bB (items++[u]) (m+1) ?_ ((hr.append (.one ra)).mv mv))),m8 hp hat sb ⟨_,ho'⟩,.refl,rfl,rfl⟩
 (erw [ho'];erw [List.push_toArray];with_reducible rfl)
end
section
variable {G:Gd}{C:Cx}{ws:Wd}{S:St}{A:Around}{s:Shared}{Q:QE}{Qm:VP}{Em:VP}{d i:Nat}{a:V}{v:Value}{x:Str}
theorem iE {M:Model}(R:Rel G C ws S s.heap) (hi:C.nm[i]? = some x) (ha:S.loc[i]? = some (some a)) (hx:(x==("__classdict__":Str))=false) (q:∀v,Rep ws s.heap a v->Qm v s):wpAny M A (loadName C.env x) Qm Em s:=by
 refine ag R.lc.ns ?_;intro m hn hv;refine ag (hv i x a hi ha) ?_;intro v hr hat;refine av hat ?_ ?_<;>clear hat
 ·intro y0;refine af y0 ?_;clear y0;intro h1 h2;exact wpAny_loadName_local R.lc.kind h1 hn h2 (q v hr)
 ·intro y0;refine af y0 ?_;clear y0;intro h1 y2;refine ag y2 ?_;clear y2;intro c h2 h3;refine av h1 ?_ ?_<;>clear h1<;>intro h1
  ·exact wpAny_loadName_cell R.lc.kind h1 h2 h3 (q v hr)
  ·exact wpAny_loadName_free R.lc.kind h1 h2 h3 (q v hr) hx
theorem qU {nm:List Str}(hd:nm.Nodup) {i j:Nat}{x:Str}(hi:nm[i]? = some x) (hj:nm[j]? = some x):i=j:=by
 obtain⟨li,ei⟩:=ce hi;obtain⟨lj,ej⟩:=ce hj;exact(List.getElem_inj hd).mp (ei.trans ej.symm)
theorem pJ {loc:List (Option V)}{i j:Nat}{a:V}{b:Option V}(h:(loc.set i b)[j]? = some (some a)):(j=i/\b=some a)\/(j≠i/\loc[j]? = some (some a)):=by
 by_cases e:j=i
 ·subst e;have hl:j<loc.length:=by
   have:=(ce h).1;simpa using this
  rw [fu hl] at h;exact .inl ⟨rfl,Option.some.inj h⟩
 ·rw [iO (fun q=>e q.symm)] at h;exact .inr ⟨e,h⟩
theorem Amb.own {h h':Heap}(Ra:Rel G C ws S h) {l:Addr}(hl:l∈C.own) (sb:∀b,b≠l->h'.get? b=h.get? b) (hfr:(∃o es n,h'.get? l=some o/\o.data=.dict es n)\/∀e∈C.frs,e.frame≠some l):Amb G C.frs ws S.st h':=by
 have R:=Ra.amb;have lt:l∉tr ws/\G.base.get? l=none:=by
  refine av (Ra.lc.own l hl) ?_ ?_
  ·rintro rfl;exact⟨Ra.lc.freshL.2,Ra.lc.freshL.1⟩
  ·intro y0;refine an y0 ?_;clear y0;intro x hx;exact⟨(Ra.lc.cells x l hx).2.1,(Ra.lc.cells x l hx).2.2⟩
 have no:∀{b o},h.get? b=some o->(∀es n,o.data≠.dict es n)->(∀v,o.data≠.cell v)->h'.get? b=some o:=fun{b o} e h1 h2=>by
  rw [sb b fun q=>(Ra.notOwn e h1 h2).1 (q▸hl)];exact e
 have mv:Mv ws h ws h':=⟨fun a o n e hd=>by
  have hh:(∀es n,o.data≠.dict es n)/\(∀v,o.data≠.cell v):=by
   refine av hd ?_ ?_<;>clear hd
   ·intro y0;refine du y0 ?_;clear y0;intro xs k hd
    exact⟨by simp [hd],by simp [hd]⟩
   ·intro y0;refine an y0 ?_;clear y0;intro vs y2;subst y2
    exact⟨by simp,by simp⟩
  exact⟨no e hh.1 hh.2,n⟩,fun uz uz e=>e⟩
 have tr':∀{b o},b∈tr ws->h.get? b=some o->h'.get? b=some o:=fun{b o} hb e=>by
  rw [sb b fun q=>lt.1 (q▸hb)];exact e
 refine⟨fun b o e=>?_,fun e he=>?_,?_,R.tabF,R.len,fun n p c e1 e2=>?_,R.fresh,R.apart⟩
 ·(erw [sb b fun q=>by rw [q,lt.2] at e;exact ba e]);exact R.base b o e
 ·refine af (R.frames e he) ?_;intro q1 y1;refine j0 y1 ?_;clear y1;intro L o es n q2 q3 q4 q5 q6;by_cases q:L=l
  ·subst q;refine av hfr ?_ ?_<;>clear hfr
   ·intro y0;refine dH y0 ?_;clear y0;intro o' es' n' h1 h2;exact⟨q1,L,o',es',n',q2,h1,h2,q5,q6⟩
   ·intro hfr;exact absurd q2 (hfr e he)
  ·exact⟨q1,L,o,es,n,q2,(sb L q).trans q3,q4,q5,q6⟩
 ·refine ag R.tab ?_;intro ps q1 q2;refine aj ps (no q1 (by simp) (by simp)) (q2.imp id fun⟨c,e,n,q⟩=>(aQ c e n ?_));refine eW q ?_;clear q;intro c' oc vs tq hc hoc hdc hq;cases hc;exact iJ c oc vs tq rfl (no hoc (by simp [hdc]) (by simp [hdc])) hdc hq
 ·exact(R.cells n p c e1 e2).mv mv (fun o=>tr' (fa e1 _ (by simp))) fun o=>tr' (fa e1 _ (by simp))
theorem uW {z:Bool}{M:Model}(R:Rel G C ws S s.heap) (hi:C.nm[i]? = some x) (hk:C.env.kindOf x=some .local\/C.env.kindOf x=some .cell) (hc:C.env.kindOf x=some .cell->∃c,C.env.cells.lookup x=some c) (ho:C.env.kindOf x=some .cell->∀c,C.env.cells.lookup x=some c->c∈C.own)
  (ra:Rep ws s.heap a v) {Qu:Unit->Shared->Prop} (q:∀s',Out G C ws s ws (aJ S i a) s'->(∀b,b∉C.own->s'.heap.get? b=s.heap.get? b)->Qu () s'):wpAny M A (storeName C.env x v) Qu Em s:=by
 refine ag R.lc.ns ?_;intro m hn hv;have lc:=R.lc;have hlen:i<S.loc.length:=by erw [lc.len];exact(ce hi).1
 refine av hk ?_ ?_<;>clear hk<;>intro hk
 ·refine wpAny_storeName_local hk hn (fun h' hn' hs=>q _ ?_ fun b hb=>hs.2 b fun e=>hb (e▸lc.ownL)) (by erw [lc.kind];rfl);have sb:∀b,b≠C.env.locals->h'.get? b=s.heap.get? b:=fun b hb=>hs.2 b hb;refine cu (id hn') ?_;intro oL es ep hoL hdL hrL;have hold:∃o es n,s.heap.get? C.env.locals=some o/\o.data=.dict es n:=by(refine cu hn ?_;clear hn;intro o es ep ho hd _);exact ie o es ep ho hd
  have amb:=Amb.own R lc.ownL sb (.inl (ie oL es ep hoL hdL));have mv:Mv ws s.heap ws h':=⟨fun b o n e hd=>(by
   refine dH hold ?_;clear hold;intro o' es' n' ho' hd'
   refine⟨(sb b ?_).trans e,n⟩
   rintro rfl
   rw [ho'] at e;cases e
   refine av hd ?_ ?_<;>clear hd
   ·intro y0;refine du y0 ?_;clear y0;intro xs k hd
    rw [hd] at hd';cases hd'
   ·intro y0;refine an y0 ?_;clear y0;intro vs y2;subst y2
    cases hd'),fun uz uz e=>e⟩
  have cl:∀y c,C.env.cells.lookup y=some c->c≠C.env.locals:=fun y c e q=>by
   refine af (lc.cells y c e) ?_;intro y0 _;refine bd y0 ?_;clear y0;intro v' o h1 h2;refine dH hold ?_;clear hold;intro o' es' n' ho' hd';rw [q,ho'] at h1;cases h1;rw [hd'] at h2;cases h2
  refine⟨⟨amb,⟨lc.kind,lc.glob,lc.blt,(aj _ hn' (fun j y b e1 e2=>?_)),fun y c e=>?_,lc.capart,lc.ownL,lc.own,lc.freshL,by simp [aJ,lc.len],lc.nodup,lc.head⟩⟩,?_,.refl,rfl,rfl⟩
  ·refine av (pJ e2) ?_ ?_
   ·intro y0;refine af y0 ?_;clear y0;intro y1 e;subst y1;cases e;rw [hi] at e1;cases e1;exact aj v (ra.mv mv) (.inl ⟨hk,if_pos rfl⟩)
   ·intro y0;refine af y0 ?_;clear y0;intro hne e;refine gn fun Pz kz=>?_;refine ag (hv j y b e1 e) ?_;intro v' h1 h2;refine kz ?_;clear kz Pz;have hxy:y≠x:=fun q=>hne (qU lc.nodup e1 (q▸hi));refine aj v' (h1.mv mv) ?_;refine av h2 ?_ ?_<;>clear h2
    ·intro y0;refine af y0 ?_;clear y0;intro k1 k2;exact .inl ⟨k1,(if_neg hxy).trans k2⟩
    ·intro y0;refine af y0 ?_;clear y0;intro k1 y2;refine ag y2 ?_;clear y2;intro c k2 y23;refine ag y23 ?_;clear y23;intro o k3 k4;exact .inr ⟨k1,c,k2,o,(sb c (cl y c k2)).trans k3,k4⟩
  ·refine af (lc.cells y c e) ?_;intro y0 h3;refine bd y0 ?_;clear y0;intro v' o h1 h2;exact⟨(bB v' o ((sb c (cl y c e)).trans h1) h2),h3⟩
  ·refine⟨fun b o e n f=>?_,fun b o e n f=>⟨o.slots,?_⟩,fun b o e=>?_⟩
   ·exact(sb b fun q=>n (.tail _ (List.mem_append_left _ (q▸lc.ownL)))).trans e
   ·exact(sb b fun q=>n (.tail _ (List.mem_append_left _ (q▸lc.ownL)))).trans e
   ·by_cases q:b=C.env.locals
    ·exact⟨oL,q▸hoL⟩
    ·exact⟨o,(sb b q).trans e⟩
 ·refine gn fun Pz kz=>?_;refine an (hc hk) ?_;intro c hcl;refine be (lc.cells x c hcl) ?_;intro y0 hct hcb;refine an y0 ?_;clear y0;intro v₀ hc0;refine kz ?_;clear kz Pz;have hown:c∈C.own:=ho hk c hcl;refine wpAny_storeName_cell lc.kind hk hcl hc0 fun h' hc' hs=>q _ ?_ fun b hb=>hs.2 b fun e=>hb (e▸hown);have sb:∀b,b≠c->h'.get? b=s.heap.get? b:=fun b hb=>hs.2 b hb;refine ag (id hc0) ?_;intro oc hoc hdc;refine ag (id hc') ?_;intro oc' hoc' hdc';have amb:=Amb.own R hown sb (.inr fun e he q=>by
   refine af (R.amb.frames e he) ?_;intro _ y1;refine eW y1 ?_;clear y1;intro L o es n q2 q3 q4 _
   rw [q] at q2;cases q2
   rw [hoc] at q3;cases q3
   rw [hdc] at q4;cases q4)
  have mv:Mv ws s.heap ws h':=⟨fun b o n e hd=>(by
   refine⟨(sb b ?_).trans e,n⟩
   rintro rfl
   rw [hoc] at e;cases e
   refine av hd ?_ ?_<;>clear hd
   ·intro y0;refine du y0 ?_;clear y0;intro xs k hd
    rw [hd] at hdc;cases hdc
   ·intro y0;refine an y0 ?_;clear y0;intro vs y2;subst y2
    cases hdc),fun uz uz e=>e⟩
  have hcL:C.env.locals≠c:=fun q=>by
   refine cu hn ?_;clear hn;intro o es ep ho hd _;rw [q,hoc] at ho;cases ho;rw [hdc] at hd;cases hd
  have hn':h'.Ns C.env.locals m:=by
   refine dH hn ?_;clear hn;intro o es ep ho hr;exact ie o es ep ((sb _ hcL).trans ho) hr
  refine⟨⟨amb,⟨lc.kind,lc.glob,lc.blt,(aj _ hn' (fun j y b e1 e2=>?_)),fun y c' e=>?_,lc.capart,lc.ownL,lc.own,lc.freshL,by simp [aJ,lc.len],lc.nodup,lc.head⟩⟩,?_,.refl,rfl,rfl⟩
  ·refine av (pJ e2) ?_ ?_
   ·intro y0;refine af y0 ?_;clear y0;intro y1 e;subst y1;cases e;rw [hi] at e1;cases e1;exact aj v (ra.mv mv) (.inr ⟨.inl hk,c,hcl,hc'⟩)
   ·intro y0;refine af y0 ?_;clear y0;intro hne e;refine ag (hv j y b e1 e) ?_;intro v' h1 h2;have hxy:y≠x:=fun q=>hne (qU lc.nodup e1 (q▸hi));refine aj v' (h1.mv mv) ?_;refine av h2 ?_ ?_<;>clear h2
    ·intro y0;refine af y0 ?_;clear y0;intro k1 k2;exact .inl ⟨k1,k2⟩
    ·intro y0;refine af y0 ?_;clear y0;intro k1 y2;refine ag y2 ?_;clear y2;intro c' k2 y23;refine ag y23 ?_;clear y23;intro o k3 k4;have:c'≠c:=fun q=>hxy (lc.capart y x c' k2 (q▸hcl));exact .inr ⟨k1,c',k2,o,(sb c' this).trans k3,k4⟩
  ·by_cases q:c'=c
   ·subst q;exact aI (⟨_,hc'⟩) hct hcb
   ·refine af (lc.cells y c' e) ?_;intro y0 h3;refine bd y0 ?_;clear y0;intro v' o h1 h2;exact⟨(bB v' o ((sb c' q).trans h1) h2),h3⟩
  ·refine⟨fun b o e n f=>?_,fun b o e n f=>⟨o.slots,?_⟩,fun b o e=>?_⟩
   ·exact(sb b fun q=>n (.tail _ (List.mem_append_left _ (q▸hown)))).trans e
   ·exact(sb b fun q=>n (.tail _ (List.mem_append_left _ (q▸hown)))).trans e
   ·by_cases q:b=c
    ·exact⟨oc',q▸hoc'⟩
    ·exact⟨o,(sb b q).trans e⟩
theorem ni {z:Bool}{M:Model}(R:Rel G C ws S s.heap) (hi:C.nm[i]? = some x) (hk:C.env.kindOf x=some .local\/C.env.kindOf x=some .cell) (hc:C.env.kindOf x=some .cell->∃c,C.env.cells.lookup x=some c) (ho:C.env.kindOf x=some .cell->∀c,C.env.cells.lookup x=some c->c∈C.own)
  (ra:Rep ws s.heap a v) {Qu:Unit->Shared->Prop} (q:∀s',Out G C ws s ws (aJ S i a) s'->Qu () s'):wpAny M A (storeName C.env x v) Qu Em s:=
 uW (z:=z) R hi hk hc ho ra fun s' o uz=>q s' o
end
section
inductive ExcAt (K:Frag) (C:Addr):Prop where
 |mk (nm q N bs bm hdct sn sub ab col dd k0 k1 k2 k3 k5) (hl:K.lookup C=some (excClassObj nm q C N bs bm hdct sn sub ab col dd k0 k1 k2 k3 k5 "Exception.__new__")) (hcB:(Value.ref C::bm).contains (.type "Exception")=true)
  (hcA:(Value.ref C::bm).contains (.type "AttributeError")=false) (hcN:(Value.ref C::bm).contains (.type "NameError")=false):ExcAt K C
structure ExcIs (K:Frag) (C:Addr):Prop where
 obj:ExcAt K C
 call:specialIn K (.ref C) "__call__" = some (some (.builtin "type.__call__"))
 typ:instIn K (.ref C) (.type "type")=some true
 base:subIn K (.ref C) (.type "BaseException")=some true
 init:findIn K (.ref C) "__init__" = some (some (.ref 29))
 fn:isFn K (.ref 29)=true
 exm:exmOne K (.ref C) (.ref C)=some true
 set:findIn K (.ref C) "__setattr__" = some (some (.builtin "object.__setattr__"))
 get:findIn K (.ref C) "__getattribute__" = some (some (.builtin "BaseException.__getattribute__"))
 hook:findIn K (.ref C) "__getattr__" = some none
 spot:findIn K (.ref C) "spot" = some none
 msg:findIn K (.ref C) "message" = some none
 top:subIn K (.ref C) (.type "object")=some true
 dict:hasDictIn K C=true
 mro:(clsIn K C).any (fun cd=>cd.mro==[.ref C,.ref 32,.type "Exception",.type "BaseException",.type "object"])=true
theorem ExcIs.elo {K:Frag}{C:Addr}{p:Prop}(Y:ExcIs K C) (k:∀nm q N bs bm hdct sn sub ab col dd k0 k1 k2 k3 k5,K.lookup C=some (excClassObj nm q C N bs bm hdct sn sub ab col dd k0 k1 k2 k3 k5 "Exception.__new__")->(Value.ref C::bm).contains (.type "Exception")=true->
  (Value.ref C::bm).contains (.type "AttributeError")=false->(Value.ref C::bm).contains (.type "NameError")=false->p):p:=by
 obtain⟨nm,q',N,bs,bm,hdct,sn,sub,ab,col,dd,k0,k1,k2,k3,k5,hl,hcB,hcA,hcN⟩:=Y.obj;exact k nm q' N bs bm hdct sn sub ab col dd k0 k1 k2 k3 k5 hl hcB hcA hcN
end
section
noncomputable abbrev jU (G:Gd) (ws:Wd):List Addr:=G.tab::tr ws
structure AOut (G:Gd) (frs:List Env) (ws:Wd) (s:Shared) (ws':Wd) (st':List Cell) (s':Shared):Prop where
 amb:Amb G frs ws' st' s'.heap
 step:Step (d7 frs) (jU G ws) s.heap s'.heap
 grow:Grow ws s.heap ws'
 gens:s'.gens=s.gens
 os:s'.os=s.os
section
variable {G:Gd}{C:Cx}{frs:List Env}{ws ws':Wd}{st st':List Cell}{S:St}{s s':Shared}{h h':Heap}
theorem Nh {b:Addr}(hb:b∈jU G ws):b∈mu G C ws:=by
 refine av (bC hb) ?_ ?_
 ·rintro rfl;exact .head _
 ·intro hb;exact .tail _ (List.mem_append_right _ hb)
theorem Step.up (x:Step C.fr (jU G ws) h h'):Step C.fr (mu G C ws) h h':=x.mono (fun b hb=>Nh hb) fun b hb=>.inr hb
theorem Rel.called (R:Rel G C ws S s.heap) (o:AOut G C.frs ws s ws' st' s'):Out G C ws s ws' {S with st:=st'} s':=by
 have st:=Step.up (C:=C) o.step;have mv:=R.mvOf st o.grow;have lc:=R.lc;have notMu:∀b o',s.heap.get? b=some o'->(∀vs,o'.data≠.fields vs)->b∉tr ws->b∉jU G ws:=fun b o' e h1 h2 q=>by
  refine av (bC q) (fun q=>?_) fun q=>?_
  ·exact R.notTab e h1 q
  ·exact h2 q
 have cellKept:∀{c v},s.heap.IsCell c v->c∉tr ws->s'.heap.IsCell c v:=fun{c v} ⟨oc,h1,h2⟩ hn=>by
  refine aj oc (o.step.keep c oc h1 (notMu c oc h1 (by simp [h2]) hn) (fun q=>?_)) h2;refine ag (List.mem_filterMap.mp q) ?_;intro env he hf;refine af (R.amb.frames env he) ?_;intro _ y1;refine eW y1 ?_;clear y1;intro L o' es n q2 q3 q4 _;rw [hf] at q2;cases q2;rw [h1] at q3;cases q3;rw [h2] at q4;cases q4
 have out:∀{b:Addr} {o':Obj},s.heap.get? b=some o'->b∉tr ws->b∉tr ws':=fun{b o'} e n q=>by
  rw [o.grow.new b q n] at e;exact ba e
 refine⟨⟨o.amb,?_⟩,st,o.grow,o.gens,o.os⟩;refine⟨lc.kind,lc.glob,lc.blt,?_,fun x c e=>?_,lc.capart,lc.ownL,lc.own,⟨lc.freshL.1,?_⟩,lc.len,lc.nodup,lc.head⟩
 ·refine ag lc.ns ?_;intro m hn hv;refine cu (id hn) ?_;intro oL es ep hoL hdL hrL;have hnm:=notMu _ _ hoL (by simp [hdL]) lc.freshL.2;have hn':s'.heap.Ns C.env.locals m:=by
   by_cases f:C.env.locals∈C.fr
   ·refine an (o.step.frk _ _ hoL hnm f) ?_;intro sl e;exact dG _ es ep e hdL hrL
   ·exact dG oL es ep (o.step.keep _ _ hoL hnm f) hdL hrL
  refine aj m hn' (fun i x a e1 e2=>?_);refine ag (hv i x a e1 e2) ?_;intro v h1 h2;exact aj v (h1.mv mv) (h2.keeps fun c hc v q=>cellKept q (lc.cells x c hc).2.1)
 ·refine gn fun Pz kz=>?_;refine be (lc.cells x c e) ?_;intro y0 h2 h3;refine an y0 ?_;clear y0;intro v q;refine ag (id q) ?_;intro oc hoc _;refine kz ?_;clear kz Pz;exact aI (⟨v,cellKept q h2⟩) (out hoc h2) h3
 ·refine ag lc.ns ?_;intro m y1 _;refine cu y1 ?_;clear y1;intro o' es ep ho hd _;exact out ho lc.freshL.2
theorem ExcObj.mono {h0 h0' h:Heap}{e:Addr}{x:Exn}{at_ at':Value->Prop}(hd:∀b o,h0.get? b=some o->∃o',h0'.get? b=some o') (hat:∀v,at_ v->at' v) (X:ExcObj G h0' h e x at_):ExcObj G h0 h e x at':=by
 have none_of:∀{b:Addr},h0'.get? b=none->h0.get? b=none:=fun{b} q=>by
  cases e:h0.get? b with
  |none=>rfl
  |some o=>(refine an (hd b o e) ?_;intro o' h);rw [q] at h;exact ba h
 refine X.el fun a1 a2 oe vs d es n t b1 b2 b3 b4 b5 b6 b7 b8 b9=>?_;refine(aI (none_of a1) a2 (lh oe vs d es n t b1 b2 b3 b4 b5 (none_of b6) b7 b8 (b9.imp (fun q=>⟨q.1,hat _ q.2⟩) ?_)));intro y0;refine CP y0 ?_;clear y0;intro T oT ts y c1 c2 c3 c4 c5 c6 c6' c7 c8 c9;exact CB T oT ts y c1 c2 c3 (none_of c4) c5 c6 c6' c7 c8 (hat _ c9)
end
def oJ (C:Cx) (v:Value):Prop:=v=.none\/∃L,C.env.frame=some L/\v=rawInt L
def WX (G:Gd) (C:Cx) (ws:Wd) (s:Shared) (X:XE) (Em:VP):Prop:=
 ∀ws' S' s' x e,Out G C ws s ws' S' s'->ExcObj G s.heap s'.heap e x (oJ C)->X x S'->Em (.ref e) s'
def FnOk (G:Gd) (z:Bool) (d:Nat) (p:Addr) (P:List V->List Cell->(V->List Cell->Prop)->(Exn->List Cell->Prop)->Prop):Prop:=
 ∀(frs:List Env) (ws:Wd) (st:List Cell) (A:Around) (s:Shared) (vs:List V) (us:List Value) (Q:V->List Cell->Prop) (X:Exn->List Cell->Prop) (Qm Em:VP),
  Amb G frs ws st s.heap->AOk A frs d->0<s.toks->Reps ws s.heap vs us->(∃e l,frs=e::l/\e.scope.isGenerator=false/\e.scope.isCoroutine=false/\e.builtins=builtinsNs/\e.globals=mainGlobals)->P vs st Q X->
  (∀ws' st' s' a r,AOut G frs ws s ws' st' s'->Rep ws' s'.heap a r->Q a st'->Qm r s')->
  (∀ws' st' s' x e,AOut G frs ws s ws' st' s'->ExcObj G s.heap s'.heap e x (·=.none)->X x st'->Em (.ref e) s')->
  ah z (model G.prog G.w) A (call (.ref p) us) Qm Em s
theorem FnOk.mono {G:Gd}{z:Bool}{d d':Nat}{p:Addr}{P}(h:FnOk G z d p P) (hd:d<=d'):FnOk G z d' p P:=
 fun frs ws st A s vs us Q X Qm Em a b=>h frs ws st A s vs us Q X Qm Em a (b.mono hd)
theorem FnOk.weak {G:Gd}{z:Bool}{d:Nat}{p:Addr}{P}(h:FnOk G false d p P):FnOk G z d p P:=
 fun frs ws st A s vs us Q X Qm Em a b c e f g i j=>Dk (h frs ws st A s vs us Q X Qm Em a b c e f g i j)
def ty (G:Gd) (Cl:Addr):Prop:=∀{frs:List Env}{ws:Wd}{st:List Cell}{A:Around}{s:Shared}{d:Nat}{m:Str}{t1 t2:Tok}{n:Int}{Q:VP}{E:VP},Amb G frs ws st s.heap->AOk A frs (d+2)->m.cps.toList.length<=sizeLine->
 (∀s' e,(∀b o,s.heap.get? b=some o->s'.heap.get? b=some o)->s'.gens=s.gens->s'.os=s.os->ExcObj G s.heap s'.heap e ⟨Cl,n⟩ (·=.none)->(∃T d,s'.heap.get? e=some {cls:=.ref Cl,dict:=some d,data:=.fields #[.ref T,.none,.none,.none,.bool false,.none]})->Q (.ref e) s')->
 wpAny (model G.prog G.w) A (call (.ref Cl) [.str m t1,.int n t2]) Q E s
structure FxOk (G:Gd) (z:Bool) (d:Nat) (F:Fx):Prop where
 zz:F.z=z
 deep:2<=d
 lo:F.lo<=d
 exc:∀C,F.exc C=true->ty G C/\ExcIs G.K C/\keepIn G.K (.ref C)=true
 dict:lr G F.dict
 field:∀C x,F.field C x=true->ll G.K C x=true
 meth:∀C x f,F.meth C x=some f->oQ G.K C x f=true
 fn:∀p vs st Q X,F.fn p vs st Q X->∃P,FnOk G z d p P/\P vs st Q X
 keeps:∀p vs st Q X,F.fn p vs st Q X->keepIn G.K (.ref p)=true
section
variable {G:Gd}{C:Cx}{ws:Wd}{S:St}{A:Around}{s:Shared}{Q:QE}{X:XE}{Qm:VP}{Em:VP}{d:Nat}{z:Bool}{F:Fx}
 {g:V} {u:Value} {as:List V} {vs:List Value}
theorem Aw (hF:FxOk G z d F) (R:Rel G C ws S s.heap) (hA:AOk A C.frs d) (ht:0<s.toks) {p:Addr}(h:F.fn p as S.st (fun a st'=>Q a {S with st:=st'}) (fun x st'=>X x {S with st:=st'})) (ra:Reps ws s.heap as vs) (q:WQ G C ws s Q Qm) (qx:WX G C ws s X Em) :
  ah z (model G.prog G.w) A (call (.ref p) vs) Qm Em s:=by
 refine ag (hF.fn _ _ _ _ _ h) ?_;intro P hP h;refine hP C.frs ws S.st A s as vs _ _ Qm Em R.amb hA ht ra R.lc.head h (fun ws' st' s' a r o rr hq=>?_) fun ws' st' s' x e o hx hX=>?_
 ·exact q _ _ _ _ _ (R.called o) rr hq
 ·exact qx _ _ _ _ _ (R.called o) (hx.mono (fun b o' e=>⟨o',e⟩) fun v hv=>.inl hv) hX
theorem Lp (hF:FxOk G z d F) (R:Rel G C ws S s.heap) (hA:AOk A C.frs d) (ht:0<s.toks) (h:iH F g as S Q X) (rg:Rep ws s.heap g u) (ra:Reps ws s.heap as vs) (q:WQ G C ws s Q Qm) (qx:WX G C ws s X Em) :
  ah z (model G.prog G.w) A (call u vs) Qm Em s:=by
 induction g using V.casesOn with
 |val v=>
  obtain rfl:=rg.val_;have k:d9 F.z u as S Q->ah z (model G.prog G.w) A (call u vs) Qm Em s:=fun h=>L6 R q hA (hF.zz▸h) ra;induction u with
  |ref p=>exact Aw hF R hA ht h ra q qx
  |_=>exact k h
 |_=>exact h.elim
end
end
section
structure ScOk (G:Gd) (c:Cc) (C:Cx):Prop where
 K:c.K=G.K
 nm:C.nm=c.nm
 names:∀x k,c.scope.names.lookup x=some k->C.env.kindOf x=some k\/(k=.free/\C.env.kindOf x=some .cell)
 cell:∀x,C.env.kindOf x=some .cell->∃a,C.env.cells.lookup x=some a
 own:∀x,c.scope.names.lookup x=some .cell->∀a,C.env.cells.lookup x=some a->a∈C.own
 code:C.env.code=c.code
 qual:C.env.qual=c.qual
theorem ScOk.kind {G:Gd}{c:Cc}{C:Cx}(sc:ScOk G c C) {x:Str}{k:NameKind}(h:cr c.scope x k=true) (hk:k≠.free):C.env.kindOf x=some k:=
 (sc.names x k (cK h)).resolve_right fun q=>hk q.1
theorem ScOk.idx {G:Gd}{c:Cc}{C:Cx}(sc:ScOk G c C) {x:Str}{i:Nat}(h:idxOf? c.nm x=some i):C.nm[i]? = some x:=by
 erw [sc.nm]
 obtain⟨hl,hx,_⟩:=List.findIdx?_eq_some_iff_getElem.mp h;exact(eT hl).trans (congrArg some (beq_iff_eq.mp hx))
section
variable {G:Gd}{C:Cx}{ws ws':Wd}{S S':St}{A:Around}{s s':Shared}{Q:QE}{X:XE}{Qm:VP}{Em:VP}{d:Nat}{z:Bool}{F:Fx}{c:Cc}
def WQt (G:Gd) (C:Cx) (ws:Wd) (s:Shared) (Q:QE) (Qm:VP):Prop:=
 ∀ws' S' s' a r,Out G C ws s ws' S' s'->s.toks<=s'.toks->Rep ws' s'.heap a r->Q a S'->Qm r s'
def WLt (G:Gd) (C:Cx) (ws:Wd) (s:Shared) (Q:List V->St->Prop) (Qm:List Value->Shared->Prop):Prop:=
 ∀ws' S' s' a r,Out G C ws s ws' S' s'->s.toks<=s'.toks->Reps ws' s'.heap a r->Q a S'->Qm r s'
def WTt (G:Gd) (C:Cx) (ws:Wd) (s:Shared) (Q:Bool->St->Prop) (Qm:Bool->Shared->Prop):Prop:=
 ∀ws' S' s' b,Out G C ws s ws' S' s'->s.toks<=s'.toks->Q b S'->Qm b s'
def WXt (G:Gd) (C:Cx) (ws:Wd) (s:Shared) (X:XE) (Em:VP):Prop:=
 ∀ws' S' s' x e,Out G C ws s ws' S' s'->s.toks<=s'.toks->ExcObj G s.heap s'.heap e x (oJ C)->X x S'->Em (.ref e) s'
theorem WQt.wq (q:WQt G C ws s Q Qm):WQ G C ws s Q (fun a s'=>s.toks<=s'.toks->Qm a s'):=fun ws' S' s' a r o rr hq ht=>q ws' S' s' a r o ht rr hq
theorem WXt.wx (q:WXt G C ws s X Em):WX G C ws s X (fun a s'=>s.toks<=s'.toks->Em a s'):=fun ws' S' s' x e o hx hX ht=>q ws' S' s' x e o ht hx hX
theorem WQt.after (q:WQt G C ws s Q Qm) (o:Out G C ws s ws' S' s') (ht:s.toks<=s'.toks):WQt G C ws' s' Q Qm:=fun w2 S2 s2 a r o2 t2 rr hq=>q _ _ _ _ _ (o.trans o2) (aW ht t2) rr hq
theorem WLt.after {Q:List V->St->Prop}{Qm:List Value->Shared->Prop}(q:WLt G C ws s Q Qm) (o:Out G C ws s ws' S' s') (ht:s.toks<=s'.toks):WLt G C ws' s' Q Qm:=fun w2 S2 s2 a r o2 t2 rr hq=>q _ _ _ _ _ (o.trans o2) (aW ht t2) rr hq
theorem WTt.after {Q:Bool->St->Prop}{Qm:Bool->Shared->Prop}(q:WTt G C ws s Q Qm) (o:Out G C ws s ws' S' s') (ht:s.toks<=s'.toks):WTt G C ws' s' Q Qm:=fun w2 S2 s2 b o2 t2 hq=>q _ _ _ _ (o.trans o2) (aW ht t2) hq
theorem WXt.after (q:WXt G C ws s X Em) (o:Out G C ws s ws' S' s') (ht:s.toks<=s'.toks):WXt G C ws' s' X Em:=fun w2 S2 s2 x e o2 t2 hx hX=>
 q _ _ _ _ _ (o.trans o2) (aW ht t2) (hx.mono o.step.dom fun uz h=>h) hX
theorem AB {h:Heap}{f:Addr->Option V}(hf:∀ad a,f ad=some a->Rep ws h a (.ref ad)) {v:Value}{a:V}(e:rF f v=some a):Rep ws h a v:=by
 induction v with
 |none=>cases e;exact lQ
 |bool b=>cases e;exact iX
 |int i t=>cases e;exact cJ
 |str x t=>
  refine af (dF e) ?_;intro hl e;cases e;exact yQ (cK hl)
 |ref ad=>exact hf ad a e
 |_=>cases e;exact iW
theorem IB {h:Heap}{f:Value->Option V}(hf:∀v a,f v=some a->Rep ws h a v) (l:List Value):∀as,l.mapM f=some as->Reps ws h as l:=by
 induction l with
 |nil=>intro as e;cases mapM_nil e;exact .nil
 |cons x l ih=>
  intro as e;refine aY (zP e) ?_;intro b r h1 h2 y4;subst y4;exact .cons (hf _ _ h1) (ih r h2)
theorem DD (ht:∀a∈tr ws,G.base.get? a=none) {h:Heap}(hb:G.base.StaysIn h) (n:Nat):∀{v:Value}{a:V},pA G.K n v=some a->Rep ws h a v:=by
 induction n with
 |zero=>exact fun{v a} e=>AB (fun ad a e=>by cases e;exact iW) e
 |succ n ih=>
  intro v a e;refine AB (fun ad a e=>?_) e;refine ag (gl e) ?_;intro o hlk e;refine av (GK e) ?_ ?_
  ·intro y0;refine ag y0 ?_;clear y0;intro y1 _ e;obtain⟨⟨dd,items,k,sl⟩,rfl⟩:=y1;refine af (dF e) ?_;intro hz e;refine ag (oF e) ?_;intro as has y2;subst y2;have rr:=IB (ws:=ws) (h:=h) (fun uz uz=>ih) _ as has;exact qu (items:=items.toList) (rr.length▸cK hz) (fun q=>by have:=G.X _ _ hlk;rw [ht _ q] at this;exact ba this) (aQ _ (hb _ _ (G.X _ _ hlk)) rfl ⟨k,rfl⟩) rr
  ·intro e;cases e;exact iW
theorem kL {x:Str}{pos:Pos}{a:V}{M:Model}(R:Rel G C ws S s.heap) (hk:C.env.kindOf x=some .globalImplicit) (hd:(x==("__debug__":Str))=false) (e:gb G.K x=some a) (q:∀v,Rep ws s.heap a v->Qm v s) :
  wpAny M A (eval (.Name x pos) C.env) Qm Em s:=by
 have G1:s.heap.Ns C.env.globals G.mg:=by erw [R.lc.glob];exact G.T.g.keeps R.amb.base
 have B1:s.heap.Ns C.env.builtins G.mb:=by erw [R.lc.blt];exact G.T.b.keeps R.amb.base
 refine ag (gl e) ?_;intro o hv e;induction o with
 |some v=>exact Calls.Name_function_global R.lc.kind hk (Calls.loadGlobal_global G1 (mg_of G.X G.T.g hv) (q v (DD R.amb.fresh R.amb.base _ e))) hd
 |none=>
  refine af (dF e) ?_;intro hn e;refine ag (gl e) ?_;intro v hb hv';refine Calls.Name_function_global R.lc.kind hk (Calls.loadGlobal_builtin G1 (mg_none_of G.X G.T.g hv) B1 ((G.T.builtins x fun h=>by rw [h] at hn;cases hn).trans hb) (q v ?_)) hd;induction v with
  |type n=>cases hv';exact iW
  |builtin n=>cases hv';exact iW
  |_=>cases hv'
theorem KS {k:Const}{kd pos}{a:V}{M:Model}(e:rU k=some a) (q:∀v tk,Rep ws s.heap a v->Qm v {s with toks:=tk}):wpAny M A (eval (.Constant k kd pos) C.env) Qm Em s:=by
 induction k with
 |none=>cases e;exact aX (q _ s.toks lQ)
 |bool b=>cases e;exact aX (q _ s.toks iX)
 |int i=>cases e;exact wpAny_Constant_int (q _ _ cJ)
 |str x=>
  refine af (dF e) ?_;intro hl e;cases e;exact wpAny_mkText (q _ _ (yQ (cK hl)))
 |bytes b=>
  refine af (dF e) ?_;intro hl e;cases e;exact PySem.W.Constant_bytes (q _ _ (nE (cK hl)))
 |_=>cases e
end
end
def SE (G:Gd) (z:Bool) (F:Fx) (c:Cc) (me:ME) (e:Expr):Prop:=
 ∀⦃C:Cx⦄ ⦃ws:Wd⦄ ⦃S:St⦄ ⦃s:Shared⦄ ⦃A:Around⦄ ⦃d:Nat⦄ ⦃Q:QE⦄ ⦃X:XE⦄ ⦃Qm Em:Value->Shared->Prop⦄,ScOk G c C->FxOk G z d F->Rel G C ws S s.heap->AOk A C.frs d->0<s.toks->
  aF F me S Q X->WQt G C ws s Q Qm->WXt G C ws s X Em->ah z (model G.prog G.w) A (eval e C.env) Qm Em s
def ST (G:Gd) (z:Bool) (F:Fx) (c:Cc) (me:ME) (e:Expr):Prop:=
 ∀⦃C:Cx⦄ ⦃ws:Wd⦄ ⦃S:St⦄ ⦃s:Shared⦄ ⦃A:Around⦄ ⦃d:Nat⦄ ⦃Q:Bool->St->Prop⦄ ⦃X:XE⦄ ⦃Qm:Bool->Shared->Prop⦄ ⦃Em:Value->Shared->Prop⦄,ScOk G c C->FxOk G z d F->Rel G C ws S s.heap->AOk A C.frs d->0<s.toks->
  cL F me S Q X->WTt G C ws s Q Qm->WXt G C ws s X Em->ah z (model G.prog G.w) A (isTrue e C.env (eval e C.env)) Qm Em s
section
variable {G:Gd}{z:Bool}{F:Fx}{c:Cc}{C:Cx}{ws ws':Wd}{S S':St}{A:Around}{s s':Shared}{Q:QE}{X:XE}{Qm:VP}{Em:VP}{d:Nat}{me m1 m2 m3:ME}{e e1 e2 e3:Expr}{pos:Pos}
theorem kB {M:Model}{b:Bool}{Q:Bool->Shared->Prop}(h:Q b s):ah z M A (truthy (.bool b)) Q Em s:=fun uz uz uz uz=>h
theorem vf {x:Str}{i:Nat}(h:iD c x=some i):SE G z F c (.loc i) (.Name x pos):=by
 intro C ws S s A d Q X Qm Em sc hF R hA ht hw q qx;refine af (dF h) ?_;intro hb h;refine af (l0 (bb hb).1) ?_;intro d1 d2;refine ag (mq hw) ?_;intro a ha hQ;exact aE (wpAny_Name (iE R (sc.idx h) ha d2 fun v hr=>q ws S s a v (.refl R) (bw _) hr hQ) d1)
theorem Fk {x:Str}{v:V}(hk:cZ x&&cr c.scope x .globalImplicit) (h:gb c.K x=some v):SE G z F c (.cst v) (.Name x pos):=by
 intro C ws S s A d Q X Qm Em sc hF R hA ht hw q qx;refine af (bb hk) ?_;intro hb1 hk;have hk':=sc.kind hk (fun e=>nomatch e);rw [sc.K] at h;exact aE (kL R hk' (l0 hb1).1 h fun u hr=>q ws S s v u (.refl R) (bw _) hr hw)
theorem vg {k:Const}{kd:Nat}{v:V}(h:rU k=some v):SE G z F c (.cst v) (.Constant k kd pos):=by
 intro C ws S s A d Q X Qm Em sc hF R hA ht hw q qx;refine bO (aE (KS (ws:=ws) h fun u tk hr ht=>?_));exact q ws S _ v u (Out.of_keeps R (fun uz uz e=>e) rfl rfl) ht hr hw
theorem Fs {op:Operator}(h1:SE G z F c m1 e1) (h2:SE G z F c m2 e2):SE G z F c (.bin op m1 m2) (.BinOp e1 op e2 pos):=by
 intro C ws S s A d Q X Qm Em sc hF R hA ht hw q qx;refine Ij (h1 sc hF R hA ht hw (fun ws1 S1 s1 a v o1 t1 ra h=>?_) qx);refine h2 sc hF o1.rel hA (bA ht t1) h (fun ws2 S2 s2 b u o2 t2 rb h=>?_) (qx.after o1 t1);exact bO (aE (LV o2.rel hA h (ra.mv (o2.mv o1.rel)) rb (((q.after o1 t1).after o2 t2).wq.toPQ o2.rel)))
theorem Ff (h1:SE G z F c m1 e1):SE G z F c (.neg m1) (.UnaryOp .USub e1 pos):=by
 intro C ws S s A d Q X Qm Em sc hF R hA ht hw q qx;refine zG (h1 sc hF R hA ht hw (fun ws1 S1 s1 a v o1 t1 ra h=>?_) qx);refine ag (da h) ?_;intro x y1 h';subst y1;refine an ra.int_ ?_;intro t y1;subst y1;refine bO (aE (PyProof.Rows.neg_int ?_));exact(q.after o1 t1).wq.same o1.rel cJ h'
theorem Fd (h1:SE G z F c m1 e1):SE G z F c (.not m1) (.UnaryOp .Not e1 pos):=by
 intro C ws S s A d Q X Qm Em sc hF R hA ht hw q qx;refine zG (h1 sc hF R hA ht hw (fun ws1 S1 s1 a v o1 t1 ra h=>?_) qx);refine ag (mC h) ?_;intro x y1 h';subst y1;obtain rfl:=ra.bool_;refine aE ?_;exact(fun uz uz uz=>q _ _ _ _ _ o1 t1 iX h':wpAny (model G.prog G.w) A (unaryOp .Not (.bool x)) Qm Em s1)
theorem Fp {op:CmpOp}(hm:behindInMarks op e2=false) (h1:SE G z F c m1 e1) (h2:SE G z F c m2 e2):SE G z F c (.cmp m1 op m2) (.Compare e1 [op] [e2] pos):=by
 intro C ws S s A d Q X Qm Em sc hF R hA ht hw q qx;refine Ii (h1 sc hF R hA ht hw (fun ws1 S1 s1 a v o1 t1 ra h=>?_) qx) hm;refine h2 sc hF o1.rel hA (bA ht t1) h (fun ws2 S2 s2 b u o2 t2 rb h=>?_) (qx.after o1 t1);refine bO (aE (kT o2.rel hA hF.dict h (ra.mv (o2.mv o1.rel)) rb fun cc tk hk=>?_));exact((q.after o1 t1).after o2 t2).wq.same o2.rel iX hk
theorem EI {op:CmpOp}(hm:behindInMarks op e2=false) (h1:SE G z F c m1 e1) (h2:SE G z F c m2 e2):ST G z F c (.cmp m1 op m2) (.Compare e1 [op] [e2] pos):=by
 intro C ws S s A d Q X Qm Em sc hF R hA ht hw q qx;refine H3 (h1 sc hF R hA ht hw (fun ws1 S1 s1 a v o1 t1 ra h=>?_) qx) hm;refine h2 sc hF o1.rel hA (bA ht t1) h (fun ws2 S2 s2 b u o2 t2 rb h=>?_) (qx.after o1 t1);refine bO (aE (kT o2.rel hA hF.dict h (ra.mv (o2.mv o1.rel)) rb fun cc tk hk ht'=>?_));refine kB ?_;exact((q.after o1 t1).after o2 t2) _ _ _ _ (Out.of_keeps o2.rel (fun uz uz e=>e) rfl rfl) ht' hk
theorem Fo {o1 o2:CmpOp}(hm2:behindInMarks o2 e3=false) (h1:SE G z F c m1 e1) (h2:SE G z F c m2 e2) (h3:SE G z F c m3 e3):SE G z F c (.cmp2 m1 o1 m2 o2 m3) (.Compare e1 [o1,o2] [e2,e3] pos):=by
 intro C ws S s A d Q X Qm Em sc hF R hA ht hw q qx;refine Ih (h1 sc hF R hA ht hw (fun ws1 S1 s1 a v o1 t1 ra h=>?_) qx) hm2;refine h2 sc hF o1.rel hA (bA ht t1) h (fun ws2 S2 s2 b u o2 t2 rb h=>?_) (qx.after o1 t1);have t12:=aW t1 t2;refine bO (aE (kT o2.rel hA hF.dict h (ra.mv (o2.mv o1.rel)) rb fun cc tk hk ht'=>?_));refine kB ?_;have o3:=Out.of_keeps (s1:={s2 with toks:=tk}) o2.rel (fun uz uz e=>e) rfl rfl;induction cc with
 |true=>
  refine h3 sc hF o3.rel hA (bA ht (aW t12 ht')) (hk.1 rfl) (fun ws3 S3 s3 b3 u3 o4 t4 rc h=>?_) (((qx.after o1 t1).after o2 t2).after o3 ht');refine bO (aE (kT o4.rel hA hF.dict h (rb.mv (o4.mv o3.rel)) rc fun cc tk hk=>?_));exact((((q.after o1 t1).after o2 t2).after o3 ht').after o4 t4).wq.same o4.rel iX hk
 |false=>exact((q.after o1 t1).after o2 t2) _ _ _ _ _ o3 ht' iX (hk.2 rfl)
theorem EH {o1 o2:CmpOp}(hm2:behindInMarks o2 e3=false) (h1:SE G z F c m1 e1) (h2:SE G z F c m2 e2) (h3:SE G z F c m3 e3):ST G z F c (.cmp2 m1 o1 m2 o2 m3) (.Compare e1 [o1,o2] [e2,e3] pos):=by
 intro C ws S s A d Q X Qm Em sc hF R hA ht hw q qx;refine H0 (h1 sc hF R hA ht hw (fun ws1 S1 s1 a v o1 t1 ra h=>?_) qx) hm2;refine h2 sc hF o1.rel hA (bA ht t1) h (fun ws2 S2 s2 b u o2 t2 rb h=>?_) (qx.after o1 t1);have t12:=aW t1 t2;refine bO (aE (kT o2.rel hA hF.dict h (ra.mv (o2.mv o1.rel)) rb fun cc tk hk ht'=>?_));refine kB ?_;have o3:=Out.of_keeps (s1:={s2 with toks:=tk}) o2.rel (fun uz uz e=>e) rfl rfl;induction cc with
 |true=>
  refine h3 sc hF o3.rel hA (bA ht (aW t12 ht')) (hk.1 rfl) (fun ws3 S3 s3 b3 u3 o4 t4 rc h=>?_) (((qx.after o1 t1).after o2 t2).after o3 ht');refine bO (aE (kT o4.rel hA hF.dict h (rb.mv (o4.mv o3.rel)) rc fun cc tk hk ht''=>?_));refine kB ?_;exact((((q.after o1 t1).after o2 t2).after o3 ht').after o4 t4) _ _ _ _ (Out.of_keeps o4.rel (fun uz uz e=>e) rfl rfl) ht'' hk
 |false=>exact((q.after o1 t1).after o2 t2) _ _ _ _ o3 ht' (hk.2 rfl)
theorem Fh (h1:ST G z F c m1 e1) (h2:SE G z F c m2 e2) (h3:SE G z F c m3 e3):SE G z F c (.ite m1 m2 m3) (.IfExp e1 e2 e3 pos):=by
 intro C ws S s A d Q X Qm Em sc hF R hA ht hw q qx;refine Ic (h1 sc hF R hA ht hw (fun ws1 S1 s1 b o1 t1 h=>?_) qx);induction b with
 |true=>exact h2 sc hF o1.rel hA (bA ht t1) (h.1 rfl) (q.after o1 t1) (qx.after o1 t1)
 |false=>exact h3 sc hF o1.rel hA (bA ht t1) (h.2 rfl) (q.after o1 t1) (qx.after o1 t1)
theorem EG (h1:ST G z F c m1 e1) (h2:ST G z F c m2 e2) (h3:ST G z F c m3 e3):ST G z F c (.ite m1 m2 m3) (.IfExp e1 e2 e3 pos):=by
 intro C ws S s A d Q X Qm Em sc hF R hA ht hw q qx;refine HZ (h1 sc hF R hA ht hw (fun ws1 S1 s1 b o1 t1 h=>?_) qx);induction b with
 |true=>exact h2 sc hF o1.rel hA (bA ht t1) (h.1 rfl) (q.after o1 t1) (qx.after o1 t1)
 |false=>exact h3 sc hF o1.rel hA (bA ht t1) (h.2 rfl) (q.after o1 t1) (qx.after o1 t1)
theorem EF (h1:ST G z F c m1 e1):ST G z F c (.not m1) (.UnaryOp .Not e1 pos):=by
 intro C ws S s A d Q X Qm Em sc hF R hA ht hw q qx;exact HY (h1 sc hF R hA ht hw (fun ws1 S1 s1 b o1 t1 h=>q _ _ _ _ o1 t1 h) qx)
theorem ED (hp:qD e=true) (h1:SE G z F c m1 e) (he:∀S (Q:Bool->St->Prop) X,cL F m1 S Q X->aF F m1 S (fun a S1=>dD a fun b=>Q b S1) X):ST G z F c m1 e:=by
 intro C ws S s A d Q X Qm Em sc hF R hA ht hw q qx;refine HX hp (h1 sc hF R hA ht (he _ _ _ hw) (fun ws1 S1 s1 a v o1 t1 ra h=>?_) qx);refine ag (mC h) ?_;intro b y1 h';subst y1;obtain rfl:=ra.bool_;exact kB (q _ _ _ _ o1 t1 h')
theorem uY (he:∀S (Q:Bool->St->Prop) X,cL F m1 S Q X->False):ST G z F c m1 e:=by
 intro C ws S s A d Q X Qm Em sc hF R hA ht hw q qx;exact(he _ _ _ hw).elim
def de (P:ME->Expr->Prop):List ME->List Expr->Prop
 | [],[]=>True
 |m::ms,e::es=>P m e/\de P ms es
 |_,_=>False
theorem BK {f:Expr->Option ME}{P:ME->Expr->Prop}(h:∀e m,f e=some m->P m e) {es:List Expr}:∀{ms:List ME},fZ f es=some ms->de P ms es:=by
 induction es with
 |nil=>intro ms e;cases e;trivial
 |cons x es ih=>
  intro ms e;refine ag (gl (f:=fun a=>(fZ f es).map (a::·)) e) ?_;intro a h1 e;refine ag (oF e) ?_;intro b h2 y2;subst y2;exact⟨h _ _ h1,ih h2⟩
theorem iV {ap:Pos}{es:List Expr}:∀{ms:List ME},de (SE G z F c) ms es->noStar es=true->∀{C:Cx}{ws:Wd}{S:St}{s:Shared}{A:Around}{d:Nat}{Q:List V->St->Prop}{X:XE}{Qm:List Value->Shared->Prop}{Em:VP},
  ScOk G c C->FxOk G z d F->Rel G C ws S s.heap->AOk A C.frs d->0<s.toks->df F ms S Q X->WLt G C ws s Q Qm->WXt G C ws s X Em->ah z (model G.prog G.w) A (spliced (backTo ap (starEach es C.env))) Qm Em s:=by
 induction es with
 |nil=>
  intro ms ha;induction ms with
  |cons=>exact ha.elim
  |nil=>
   intro hn C ws S s A d Q X Qm Em sc hF R hA ht hw q qx;exact jE (q ws S s [] [] (.refl R) (bw _) .nil hw)
 |cons e es ih=>
  intro ms ha;induction ms with
  |nil=>exact ha.elim
  |cons m ms=>
   intro hn C ws S s A d Q X Qm Em sc hF R hA ht hw q qx;refine af (pG (env:=C.env) hn) ?_;intro h1 h2
   erw [h1]
   refine ix (ha.1 sc hF R hA ht hw (fun ws1 S1 s1 a v o1 t1 ra h=>?_) qx);refine ih ha.2 h2 sc hF o1.rel hA (bA ht t1) h (fun ws2 S2 s2 as vs o2 t2 ras h=>?_) (qx.after o1 t1);exact q _ _ _ _ _ (o1.trans o2) (aW t1 t2) (.cons (ra.mv (o2.mv o1.rel)) ras) h
noncomputable def bo:BoolOp->Bool
 | .And=>true
 | .Or=>false
noncomputable def pu (o:BoolOp) (F:Fx) (ms:List ME) (S:St) (Q:QE) (X:XE):Prop:=match o with
 | .And=>jp F ms S Q X
 | .Or=>jl F ms S Q X
theorem LD {o:BoolOp}{m m':ME}{ms:List ME}{S:St}{Q:QE}{X:XE}:pu o F (m::m'::ms) S Q X=aF F m S (fun a S1=>dD a fun b=>(b=bo o->pu o F (m'::ms) S1 Q X)/\(b=(!bo o)->Q (.bool (!bo o)) S1)) X:=by
 cases o<;>rfl
theorem vi (o:BoolOp):∀{es:List Expr}{ms:List ME},de (SE G z F c) ms es->∀{C:Cx}{ws:Wd}{S:St}{s:Shared}{A:Around}{d:Nat}{Q:QE}{X:XE}{Qm Em:VP},ScOk G c C->FxOk G z d F->Rel G C ws S s.heap->AOk A C.frs d->0<s.toks->
   pu o F ms S Q X->WQt G C ws s Q Qm->WXt G C ws s X Em->ah z (model G.prog G.w) A (boolOp pos o (evalEach es C.env)) Qm Em s:=by
 intro es;induction es with
 |nil=>intro ms ha;induction ms with
  |nil=>intro C ws S s A d Q X Qm Em sc hF R hA ht hw q qx;cases o<;>exact hw.elim
  |cons=>exact ha.elim
 |cons e es ih=>
  intro ms ha;cases ms with
  |nil=>exact ha.elim
  |cons m ms=>
   intro C ws S s A d Q X Qm Em sc hF R hA ht hw q qx;cases es with
   |nil=>induction ms with
    |nil=>cases o<;>exact ha.1 sc hF R hA ht hw q qx
    |cons=>exact ha.2.elim
   |cons e' es=>induction ms with
    |nil=>exact ha.2.elim
    |cons m' ms=>
     refine H7 (ha.1 sc hF R hA ht (LD▸hw) (fun ws1 S1 s1 a v o1 t1 ra h=>?_) qx);refine ag (mC h) ?_;intro b y1 hb;subst y1;obtain rfl:=ra.bool_;refine kB ?_;induction b with
     |true=>cases o with
      |And=>exact ih ha.2 sc hF o1.rel hA (bA ht t1) (hb.1 rfl) (q.after o1 t1) (qx.after o1 t1)
      |Or=>exact q _ _ _ _ _ o1 t1 iX (hb.2 rfl)
     |false=>cases o with
      |And=>exact q _ _ _ _ _ o1 t1 iX (hb.2 rfl)
      |Or=>exact ih ha.2 sc hF o1.rel hA (bA ht t1) (hb.1 rfl) (q.after o1 t1) (qx.after o1 t1)
theorem Fu {es:List Expr}{ms:List ME}(ha:de (SE G z F c) ms es):SE G z F c (.and ms) (.BoolOp .And es pos):=
 fun C ws S s A d Q X Qm Em sc hF R hA ht hw q qx=>vi .And ha sc hF R hA ht hw q qx
theorem Fc {es:List Expr}{ms:List ME}(ha:de (SE G z F c) ms es):SE G z F c (.or ms) (.BoolOp .Or es pos):=
 fun C ws S s A d Q X Qm Em sc hF R hA ht hw q qx=>vi .Or ha sc hF R hA ht hw q qx
theorem EL {es:List Expr}:∀{ms:List ME},de (ST G z F c) ms es->∀{C:Cx}{ws:Wd}{S:St}{s:Shared}{A:Around}{d:Nat}{Q:Bool->St->Prop}{X:XE}{Qm:Bool->Shared->Prop}{Em:VP},ScOk G c C->FxOk G z d F->Rel G C ws S s.heap->AOk A C.frs d->0<s.toks->
  gq F ms S Q X->WTt G C ws s Q Qm->WXt G C ws s X Em->ah z (model G.prog G.w) A (allTrue .And es C.env) Qm Em s:=by
 induction es with
 |nil=>
  intro ms ha;induction ms with
  |cons=>exact ha.elim
  |nil=>
   intro C ws S s A d Q X Qm Em sc hF R hA ht hw q qx;exact zE (q ws S s _ (.refl R) (bw _) hw)
 |cons e es ih=>
  intro ms ha;induction ms with
  |nil=>exact ha.elim
  |cons m ms=>
   intro C ws S s A d Q X Qm Em sc hF R hA ht hw q qx;refine zF (ha.1 sc hF R hA ht hw (fun ws1 S1 s1 b o1 t1 h=>?_) qx);induction b with
   |true=>exact ih ha.2 sc hF o1.rel hA (bA ht t1) (h.1 rfl) (q.after o1 t1) (qx.after o1 t1)
   |false=>exact q _ _ _ _ o1 t1 (h.2 rfl)
theorem EJ {es:List Expr}:∀{ms:List ME},de (ST G z F c) ms es->∀{C:Cx}{ws:Wd}{S:St}{s:Shared}{A:Around}{d:Nat}{Q:Bool->St->Prop}{X:XE}{Qm:Bool->Shared->Prop}{Em:VP},ScOk G c C->FxOk G z d F->Rel G C ws S s.heap->AOk A C.frs d->0<s.toks->
  jo F ms S Q X->WTt G C ws s Q Qm->WXt G C ws s X Em->ah z (model G.prog G.w) A (allTrue .Or es C.env) Qm Em s:=by
 induction es with
 |nil=>
  intro ms ha;induction ms with
  |cons=>exact ha.elim
  |nil=>
   intro C ws S s A d Q X Qm Em sc hF R hA ht hw q qx;exact zE (q ws S s _ (.refl R) (bw _) hw)
 |cons e es ih=>
  intro ms ha;induction ms with
  |nil=>exact ha.elim
  |cons m ms=>
   intro C ws S s A d Q X Qm Em sc hF R hA ht hw q qx;refine zF (ha.1 sc hF R hA ht hw (fun ws1 S1 s1 b o1 t1 h=>?_) qx);induction b with
   |false=>exact ih ha.2 sc hF o1.rel hA (bA ht t1) (h.1 rfl) (q.after o1 t1) (qx.after o1 t1)
   |true=>exact q _ _ _ _ o1 t1 (h.2 rfl)
theorem EK {es:List Expr}{ms:List ME}(ha:de (ST G z F c) ms es):ST G z F c (.and ms) (.BoolOp .And es pos):=by
 intro C ws S s A d Q X Qm Em sc hF R hA ht hw q qx;exact zB (EL ha sc hF R hA ht hw q qx)
theorem EE {es:List Expr}{ms:List ME}(ha:de (ST G z F c) ms es):ST G z F c (.or ms) (.BoolOp .Or es pos):=by
 intro C ws S s A d Q X Qm Em sc hF R hA ht hw q qx;exact zB (EJ ha sc hF R hA ht hw q qx)
theorem qV {M:Model}{T:String}(R:Rel G C ws S s.heap) {as:List V}{vs:List Value}(hl:as.length<=sizeLine) (ra:Reps ws s.heap as vs) {Qm:VP}
  (h:Qm (.ref s.heap.objs.size) {s with heap:=s.heap.push {cls:=.type T,data:=.seq vs.toArray}}):wpAny M A (newObj (.type T) (.seq vs.toArray)) Qm Em s:=
 wpAny_newObj_type h (by show vs.toArray.size<=_;(erw [List.size_toArray];erw [ra.length]);omega)
theorem kl {vs:List V}(h:short 100 vs=true):vs.length<=sizeLine:=aW (E0 h) (by decide)
theorem E9 {es:List Expr}{ms:List ME}{k:Nat}(hn:noStar es=true) (ha:de (SE G z F c) ms es):SE G z F c (.tup ms) (.Tuple es k pos):=by
 intro C ws S s A d Q X Qm Em sc hF R hA ht hw q qx;refine zH (iV ha hn sc hF R hA ht hw (fun ws1 S1 s1 as vs o1 t1 ra h=>?_) qx);have h:=jR h;refine bO (aE (qV (T :="tuple") o1.rel (kl h.1) ra ?_));exact(q.after o1 t1).wq.keep (tk:=s1.toks) o1.rel (fun uz uz e=>bL _ e) (qu (kl h.1) (gH o1.rel.amb (bw _)) (aQ _ (dv _ rfl) rfl ⟨_,rfl⟩) (ra.mv (Mv.of_keeps fun uz uz e=>bL _ e))) h.2
theorem Fg {es:List Expr}{ms:List ME}(hn:noStar es=true) (ha:de (SE G z F c) ms es):SE G z F c (.lst ms) (.List es pos):=by
 intro C ws S s A d Q X Qm Em sc hF R hA ht hw q qx;refine zI (iV ha hn sc hF R hA ht hw (fun ws1 S1 s1 as vs o1 t1 ra h=>?_) qx);have h:=jR h;refine bO (aE (qV (T :="list") o1.rel (kl h.1) ra ?_));exact(q.after o1 t1).wq.keep (tk:=s1.toks) o1.rel (fun uz uz e=>bL _ e) (qw (kl h.1) (gH o1.rel.amb (bw _)) (aQ _ (dv _ rfl) rfl ⟨_,rfl⟩) (ra.mv (Mv.of_keeps fun uz uz e=>bL _ e))) h.2
theorem Fe {es:List Expr}{ms:List ME}(hn:noStar es=true) (ha:de (SE G z F c) ms es):SE G z F c (.newl ms) (.List es pos):=by
 intro C ws S s A d Q X Qm Em sc hF R hA ht hw q qx;refine zI (iV ha hn sc hF R hA ht hw (fun ws1 S1 s1 as vs o1 t1 ra h=>?_) qx);have h:=jR h;refine bO (aE (qV (T :="list") o1.rel (kl h.1) ra ?_));have kp:∀b o,s1.heap.get? b=some o->(s1.heap.push {cls:=.type "list",data:=.seq vs.toArray}).get? b=some o:=fun uz uz e=>bL _ e;have hp:s1.heap.get? s1.heap.objs.size=none:=gc _ (bw _);have R':=o1.rel.track (p:=(s1.heap.objs.size,s1.heap.objs.size)) (c:=.list as) kp hp hp (aI rfl (kl h.1) (bB vs 0 (dv _ rfl) (ra.mv (nc kp hp hp))));exact(q.after o1 t1).wq _ _ {s1 with heap:=_} (.obj S1.st.length) _ ⟨R',.of_keeps kp,oj hp hp,rfl,rfl⟩ (aj ((s1.heap.objs.size,s1.heap.objs.size)) (by(refine aZ (o1.rel.amb.len ..) ?_);exact List.getElem?_concat_length) rfl) h.2
end
section
variable {G:Gd}{z:Bool}{F:Fx}{c:Cc}{C:Cx}{ws ws':Wd}{S S':St}{A:Around}{s s':Shared}{Q:QE}{X:XE}{Qm:VP}{Em:VP}{d:Nat}{me m1 m2 m3:ME}{e e1 e2 e3:Expr}{pos:Pos}
def eA (M:Model) (u:Value) (h:Heap):Prop:=∃k,(k=Keeper.frame\/k=Keeper.machine\/k=Keeper.boundFrame)/\Looks M h (keeperOf u) k
theorem mw {M:Model}{h:Heap}{id:String}:eA M (.builtin id) h:=(aj .machine (.inr (.inl rfl)) (Looks.of_pure rfl))
theorem IX {M:Model}{h:Heap}{id:String}:eA M (.type id) h:=(aj .machine (.inr (.inl rfl)) (Looks.of_pure rfl))
theorem z0 (hF:FxOk G z d F) (R:Rel G C ws S s.heap) {p:Addr}{vs st Qf Xf}(h:F.fn p vs st Qf Xf) {M:Model}:eA M (.ref p) s.heap:=keeps_K (hF.keeps _ _ _ _ _ h) _ (G.X.keeps R.amb.base)
theorem IZ (hF:FxOk G z d F) (R:Rel G C ws S s.heap) {g:V}{u:Value}{vs:List V}{M:Model}(h:iH F g vs S Q X) (rg:Rep ws s.heap g u):eA M u s.heap:=by
 induction g using V.casesOn with
 |val v=>
  obtain rfl:=rg.val_;induction u with
  |ref p=>exact z0 hF R h
  |builtin n=>exact mw
  |type n=>exact IX
  |_=>exact h.elim
 |_=>exact h.elim
theorem Fq {f:Expr}{mf:ME}{es:List Expr}{ms:List ME}(hf:zj f=true) (hn:noStar es=true) (h1:SE G z F c mf f) (ha:de (SE G z F c) ms es):SE G z F c (.call mf ms) (.Call f es [] pos):=by
 intro C ws S s A d Q X Qm Em sc hF R hA ht hw q qx;refine l9 hf (h1 sc hF R hA ht hw (fun ws1 S1 s1 g u o1 t1 rg h=>?_) qx);refine hO (P:=eA (model G.prog G.w) u) hn (fun h p=>p) (iV ha hn sc hF o1.rel hA (bA ht t1) h (fun ws2 S2 s2 as vs o2 t2 ra h=>?_) (qx.after o1 t1));have rg2:=rg.mv (o2.mv o1.rel);refine⟨IZ hF o2.rel h rg2,?_⟩
 erw [List.nil_append]
 exact bO (Lp hF o2.rel hA (bA ht (aW t1 t2)) h rg2 ra ((q.after o1 t1).after o2 t2).wq ((qx.after o1 t1).after o2 t2).wx)
theorem ve {o:Expr}{mo:ME}{name:Str}{ap:Pos}{es:List Expr}{ms:List ME}(ho:lZ o=true) (hn:noStar es=true) (hl:es.length<20) (hp:ap.endLine=pos.line) (h1:SE G z F c mo o) (ha:de (SE G z F c) ms es) :
  SE G z F c (.meth mo name ms) (.Call (.Attribute o name ap) es [] pos):=by
 intro C ws S s A d Q X Qm Em sc hF R hA ht hw q qx;refine qZ (by unfold lZ at ho;exact ho) hn hl hp (h1 sc hF R hA ht hw (fun ws1 S1 s1 g u o1 t1 rg h=>?_) qx);have ht1:=bA ht t1;by_cases hg:∃n,g=.obj n
 ·refine an hg ?_;clear hg;intro n y1;subst y1;replace h:Bj F n name S1.st[n]? (fun Qs=>df F ms S1 Qs X) Q X:=h;cases hc:S1.st[n]? with
  |none=>rw [hc] at h;exact h.elim
  |some cell=>
   rw [hc] at h;induction cell with
   |inst Cl fs=>
    refine a8 h ?_;clear h;intro f hm hfl h;refine aE (JM o1.rel hc (hF.meth _ _ _ hm) hfl rg ?_);refine hO (P:=eA (model G.prog G.w) (.ref f)) hn (fun h p=>p) (iV ha hn sc hF o1.rel hA ht1 h (fun ws2 S2 s2 as vs o2 t2 ra h=>?_) (qx.after o1 t1));refine⟨z0 hF o2.rel h,?_⟩;exact bO (Aw hF o2.rel hA (bA ht1 t2) h (.cons (rg.mv (o2.mv o1.rel)) ra) ((q.after o1 t1).after o2 t2).wq ((qx.after o1 t1).after o2 t2).wx)
   |list ys=>
    refine af h ?_;clear h;intro hx h;refine aE (JO o1.rel hc hx rg ?_);refine hO (P:=eA (model G.prog G.w) (.builtin "list.append")) hn (fun h p=>p) (iV ha hn sc hF o1.rel hA ht1 h (fun ws2 S2 s2 as vs o2 t2 ra h=>?_) (qx.after o1 t1));refine⟨mw,?_⟩;refine b0 h ?_;clear h;intro a ys' y2 hc2 hz hQ;subst y2;refine ag ra.one_inv ?_;intro v y1 ra1;subst y1;refine bO (aE (BI o2.rel hc2 hz (rg.mv (o2.mv o1.rel)) ra1 fun s3 o3 t3=>?_));exact q _ _ _ _ _ ((o1.trans o2).trans o3) (aW (aW t1 t2) t3) lQ hQ
   |_=>exact h.elim
 ·refine af (Iv (fun n e=>hg ⟨n,e⟩) h) ?_;intro hok h;refine aE (JN o1.rel hF.dict hok rg ?_);refine hO (P:=eA (model G.prog G.w) (.builtin _)) hn (fun h p=>p) (iV ha hn sc hF o1.rel hA ht1 h (fun ws2 S2 s2 as vs o2 t2 ra h=>?_) (qx.after o1 t1));refine⟨mw,?_⟩;exact bO (aE (Iu o2.rel ((q.after o1 t1).after o2 t2).wq hF.dict hok (rg.mv (o2.mv o1.rel)) ra h))
theorem Fb {o:Expr}{mo:ME}{name:Str}{ap:Pos}{y z':Str}{k1 k2:Nat}{p1 p2:Pos}(hx:name=("replace":Str)) (ho:lZ o=true) (hp:ap.endLine=pos.line) (hy:y.cps.toList.length<=sizeLine) (hz:z'.cps.toList.length<=sizeLine) (h1:SE G z F c mo o) :
  SE G z F c (.repl mo y.cps.toList z'.cps.toList) (.Call (.Attribute o name ap) [.Constant (.str y) k1 p1,.Constant (.str z') k2 p2] [] pos):=by
 intro C ws S s A d Q X Qm Em sc hF R hA ht hw q qx;refine qZ (by unfold lZ at ho;exact ho) rfl (by show 2<20;exact aH [] [] (.lt (.k 2) (.k 20))) hp (h1 sc hF R hA ht hw (fun ws1 S1 s1 g u o1 t1 rg h=>?_) qx);have ht1:=bA ht t1;refine iL (f9 h) ?_;intro x y1 hne hb hQ;subst y1;refine af rg.str_ ?_;intro hxl y1;refine an y1 ?_;clear y1;intro t y21;subst y21
 erw [hx]
 refine aE (GM.replace ?_);refine hO (P:=eA (model G.prog G.w) (.builtin "str.replace")) rfl (fun h p=>p) ?_;refine ix (aE (wpAny_mkText ?_));refine ix (aE (wpAny_mkText ?_));refine jE ⟨mw,?_⟩;have a1:(s1.toks:Nat)≠0:=by exact al [s1.toks] [] (.lt (.k 0) aa) (.not (.eq aa (.k 0))) ht1
 have a2:(s1.toks+1:Nat)≠0:=by exact aH [s1.toks] [] (.not (.eq (.a aa (.k 1)) (.k 0)))
 have a3:(s1.toks:Nat)≠s1.toks+1:=by exact aH [s1.toks] [] (.not (.eq aa (.a aa (.k 1))))
 refine bO (aE (SC.replace (x:=S_ x) a1 a2 a3 ?_ ?_ fun t' k ht'=>?_))
 ·rw [beq_eq_false_iff_ne];intro e;exact hne (by(erw [e];with_reducible rfl))
 ·erw [cS]
  have e:z'.length=z'.cps.toList.length:=by simp [Str.length]
  erw [e];exact hb
 ·rw [jc,jc] at hQ;have key:(Txt.replace (S_ x) y z').cps.toList.length<=sizeLine:=by
   unfold Txt.replace;have hb':(S_ x).length+((S_ x).length+1)*z'.length<=16777216:=by
    erw [cS]
    have e:z'.length=z'.cps.toList.length:=by simp [Str.length]
    erw [e];exact hb
   split
   ·simpa using hxl
   ·have:=fits_replaced (x:=S_ x) (z:=z') y hb'
    simpa [Str.length] using this
  have:=fQ (ws:=ws1) (h:=s1.heap) (t:=t') key
  rw [jc] at this;exact q _ _ _ _ _ (o1.trans (Out.of_keeps (s1:={s1 with toks:=k}) o1.rel (fun uz uz e=>e) rfl rfl)) (aW t1 (aW (by show s1.toks<=s1.toks+1+1;exact aH [s1.toks] [] (.le aa (.a (.a aa (.k 1)) (.k 1)))) ht')) this hQ
theorem Ft {x name:Str}{p:Pos}(h1:SE G z F c m1 (.Name x p)):SE G z F c (.attr m1 name) (.Attribute (.Name x p) name pos):=by
 intro C ws S s A d Q X Qm Em sc hF R hA ht hw q qx;refine q7 rfl (h1 sc hF R hA ht hw (fun ws1 S1 s1 a v o1 t1 ra h=>?_) qx);induction a using V.casesOn with
 |obj n=>
  refine oU h ?_;clear h;intro Cl fs b hc hl hok hv hQ;exact bO (aE (BD (k:=fun c=>Q c S1) o1.rel hc hl hv (hF.field _ _ hok) ra hQ (((q.after o1 t1).wq).toPQ o1.rel)))
 |_=>exact h.elim
noncomputable def zi:Expr->Bool
 | .Slice ..=>false
 |_=>true
theorem Fa (hs:zi e2=true) (h1:SE G z F c m1 e1) (h2:SE G z F c m2 e2):SE G z F c (.sub m1 m2) (.Subscript e1 e2 pos):=by
 intro C ws S s A d Q X Qm Em sc hF R hA ht hw q qx;have e:eval (.Subscript e1 e2 pos) C.env=(do
   let v ←eval e1 C.env
   let u ←holding [v] (eval e2 C.env)
   standAt pos
   subscriptTail e1 e2 v u):=rfl
 erw [e]
 refine aM (h1 sc hF R hA ht hw (Qm:=fun v s₁=>ah z (model G.prog G.w) A (eval e2 C.env) (fun u s₂=>ah z (model G.prog G.w) A (subscriptTail e1 e2 v u) Qm Em s₂) Em s₁) (fun ws1 S1 s1 a v o1 t1 ra h=>?_) qx) fun v s₁ h₁=>aM (bP h₁) fun u s₂ h₂=>bS h₂;refine h2 sc hF o1.rel hA (bA ht t1) h (fun ws2 S2 s2 b u o2 t2 rb h=>?_) (qx.after o1 t1);refine bO (aE (Ey o2.rel hA hF.dict h (ra.mv (o2.mv o1.rel)) rb (((q.after o1 t1).after o2 t2).wq.toPQ o2.rel) fun o i=>?_));cases e2<;>first | exact ft hs | rfl
def SO (G:Gd) (z:Bool) (F:Fx) (c:Cc) (me:Option ME) (e:Option Expr):Prop:=match me,e with
 |none,none=>True
 |some m,some e=>SE G z F c m e
 |_,_=>False
def Ck (ws:Wd) (h:Heap) (a:Option V) (v:Value):Prop:=match a with
 |some a=>Rep ws h a v
 |none=>v=.none
theorem u6 {mo:Option ME}{eo:Option Expr}{Qo:Option V->St->Prop}(h:SO G z F c mo eo) (sc:ScOk G c C) (hF:FxOk G z d F) (R:Rel G C ws S s.heap) (hA:AOk A C.frs d) (ht:0<s.toks)
  (hw:jm F mo S Qo X) (q:∀ws' S' s' a r,Out G C ws s ws' S' s'->s.toks<=s'.toks->Ck ws' s'.heap a r->Qo a S'->Qm r s') (qx:WXt G C ws s X Em):ah z (model G.prog G.w) A (valueOrNone (evalOpt eo C.env)) Qm Em s:=by
 induction mo with
 |none=>induction eo with
  |none=>exact aP (q ws S s none _ (.refl R) (bw _) rfl hw)
  |some=>exact h.elim
 |some m=>induction eo with
  |none=>exact h.elim
  |some e=>
   exact h sc hF R hA ht hw (fun ws' S' s' a r o t rr hq=>q ws' S' s' (some a) r o t rr hq) qx
theorem TypeIs.push {s:Shared}{v:Value}{T:String}{o:Obj}(h:s.TypeIs v T):({s with heap:=s.heap.push o}:Shared).TypeIs v T:=by
 cases v<;>first | exact h | ((refine ag h ?_;clear h;intro o' h1 h2);exact aj o' (bL _ h1) h2)
theorem Fm {lo hi:Option Expr}{ml mh:Option ME}{p:Pos}(h1:SE G z F c m1 e1) (hl:SO G z F c ml lo) (hh:SO G z F c mh hi):SE G z F c (.cut m1 ml mh) (.Subscript e1 (.Slice lo hi none p) pos):=by
 intro C ws S s A d Q X Qm Em sc hF R hA ht hw q qx;refine Ib (h1 sc hF R hA ht hw (fun ws1 S1 s1 a v o1 t1 ra h=>?_) qx);have e:eval (.Slice lo hi none p) C.env=(do
   let l ←valueOrNone (evalOpt lo C.env)
   let u ←holding [l] (valueOrNone (evalOpt hi C.env))
   let s ←holding [l,u] (valueOrNone (evalOpt none C.env))
   newFields "slice" [l,u,s]):=rfl
 erw [e]
 have ht1:=bA ht t1;refine aR (u6 hl sc hF o1.rel hA ht1 h (fun ws2 S2 s2 b u o2 t2 rb h=>?_) (qx.after o1 t1));refine aR (bP (u6 hh sc hF o2.rel hA (bA ht1 t2) h (fun ws3 S3 s3 b' u' o3 t3 rb' h=>?_) ((qx.after o1 t1).after o2 t2)));refine aR (bP (aP ?_));have rb2:Ck ws3 s3.heap b u:=by
  induction b with
  |none=>exact rb
  |some b=>exact Rep.mv (o3.mv o2.rel) rb
 refine aY (KO (A:=A) (Em:=fun e s'=>s3.toks<=s'.toks->Em e s') (o:=a) (lo:=b) (hi:=b') (k:=fun c=>Q c S3) o3.rel h ((ra.mv (o2.mv o1.rel)).mv (o3.mv o2.rel)) (by cases b<;>exact rb2) (by cases b'<;>exact rb') ((((q.after o1 t1).after o2 t2).after o3 t3).wq.toPQ o3.rel)) ?_;intro T id k1 k2 k3;refine aE (wpAny_newObj_type ?_ (by show 3<=16777216+2;decide));exact bj T id (TypeIs.push k1) k2 (bO (aE k3))
end
def Priv (h:Heap) (I:Addr):Prop:=∃o vs,h.get? I=some o/\o.data=.fields vs/\o.cls≠.type "range"/\ ∀q t,vs[1]?≠some (.str q t)
section
variable {G:Gd}{C:Cx}{frs:List Env}{ws:Wd}{st:List Cell}{S:St}{h h':Heap}{I:Addr}
theorem Priv.notSeq (p:Priv h I) {a:Addr}{o:Obj}(e:h.get? a=some o) (hs:Ch o):a≠I:=by
 rintro rfl;refine b0 p ?_;clear p;intro o' vs e' hd hc _;rw [e] at e';cases e';refine av hs ?_ ?_<;>clear hs
 ·intro y0;refine du y0 ?_;clear y0;intro xs n q;rw [hd] at q;cases q
 ·intro y0;refine an y0 ?_;clear y0;intro xs y2;subst y2;exact hc rfl
theorem Priv.not (p:Priv h I) {a:Addr}{o:Obj}(e:h.get? a=some o) (hs:∀vs,o.data≠.fields vs):a≠I:=by
 rintro rfl;refine b0 p ?_;clear p;intro o' vs e' hd hc _;rw [e] at e';cases e';exact hs _ hd
theorem Priv.mv (p:Priv h I) (k:∀b o,b≠I->h.get? b=some o->h'.get? b=some o):Mv ws h ws h':=
 ⟨fun a o n e hs=>⟨k a o (p.notSeq e hs) e,n⟩,fun uz uz e=>e⟩
theorem Amb.privy (a:Amb G frs ws st h) (p:Priv h I) (k:∀b o,b≠I->h.get? b=some o->h'.get? b=some o) (ht:I≠G.tab) (hb:G.base.get? I=none):Amb G frs ws st h' where
 base:=fun b o e=>k b o (fun q=>by rw [q,hb] at e;exact ba e) (a.base b o e)
 frames:=fun e he=>let ⟨q1,L,o,es,n,q2,q3,q4,q⟩:=a.frames e he;⟨q1,L,o,es,n,q2,k _ _ (p.not q3 (by simp [q4])) q3,q4,q⟩
 tab:=by
  refine ag a.tab ?_;intro ps q1 q2;refine aj ps (k _ _ (Ne.symm ht) q1) (q2.imp id fun⟨c,e,n,q⟩=>(aQ c e n ?_));refine eW q ?_;clear q;intro c' o vs t e1 g hd hv;refine iJ c' o vs t e1 (k _ _ ?_ g) hd hv;rintro rfl;refine b0 p ?_;clear p;intro o' vs' e' hd' _ hn;rw [g] at e';cases e';rw [hd] at hd';cases hd';exact hn _ _ hv
 tabF:=a.tabF
 len:=a.len
 cells:=fun n q c e1 e2=>by
  have hc:=a.cells n q c e1 e2;have:=hc.there;refine a8 (this q.1 (by simp)) ?_;intro o1 h1 h2 _;refine a8 (this q.2 (by simp)) ?_;intro o3 h3 h4 _;exact hc.mv (p.mv k) (fun o=>k _ o (p.not h1 h2)) fun o=>k _ o (p.not h3 h4)
 fresh:=a.fresh
 apart:=a.apart
theorem Loc.privy {loc:List (Option V)}(l:Loc G C ws loc h) (p:Priv h I) (k:∀b o,b≠I->h.get? b=some o->h'.get? b=some o):Loc G C ws loc h' where
 kind:=l.kind
 glob:=l.glob
 blt:=l.blt
 ns:=by
  refine ag l.ns ?_;intro m y1 q2;refine cu y1 ?_;clear y1;intro o es n ho hd hr;refine aj m ((dG o es n (k _ _ (p.not ho (by simp [hd])) ho) hd hr)) (fun i x a e1 e2=>?_);refine ag (q2 i x a e1 e2) ?_;intro v q3 q4;refine aj v (q3.mv (p.mv k)) (q4.keeps fun c _ v ⟨oc,h1,h2⟩=>(aj oc (k _ _ (p.not h1 (by simp [h2])) h1) h2))
 cells:=fun x c e=>let ⟨⟨v,oc,h1,h2⟩,r⟩:=l.cells x c e;⟨(bB v oc (k _ _ (p.not h1 (by simp [h2])) h1) h2),r⟩
 capart:=l.capart
 ownL:=l.ownL
 own:=l.own
 freshL:=l.freshL
 len:=l.len
 nodup:=l.nodup
 head:=l.head
theorem Rel.privy (r:Rel G C ws S h) (p:Priv h I) (k:∀b o,b≠I->h.get? b=some o->h'.get? b=some o) (ht:I≠G.tab) (hb:G.base.get? I=none):Rel G C ws S h':=
 ⟨r.amb.privy p k ht hb,r.lc.privy p k⟩
end
def ItAt (h:Heap) (I:Addr) (i:Nat):V->Value->Prop
 | .lst _,r=>∃l,r=.ref l/\h.IsListIter I l i
 | .obj _,r=>∃l,r=.ref l/\h.IsListIter I l i
 | .tup _,r=>∃l,r=.ref l/\h.IsTupleIter I l i
 | .str x,r=>∃T t,(T ="str_ascii_iterator" \/ T ="str_iterator")/\r=.str (S_ x) t/\h.IsStrIter I T (S_ x) t i
 | .rng a b c,r=>IsRangeIter h I (a+(i:Nat)*c) (((Builtin.Range.rangeSize a b c).toNat:Int)-(i:Nat)) c
 |_,_=>False
theorem ItAt.priv {h:Heap}{I:Addr}{i:Nat}{a:V}{r:Value}(x:ItAt h I i a r):Priv h I:=by
 cases a<;>try exact False.elim x
 case lst=>(refine ag x ?_;clear x;intro l y1 y2;subst y1;refine a8 y2 ?_;clear y2;intro o h1 h2 h3);exact bv o _ h1 h3 (by erw [h2];simp) (by simp)
 case obj=>(refine ag x ?_;clear x;intro l y1 y2;subst y1;refine a8 y2 ?_;clear y2;intro o h1 h2 h3);exact bv o _ h1 h3 (by erw [h2];simp) (by simp)
 case tup=>(refine ag x ?_;clear x;intro l y1 y2;subst y1;refine a8 y2 ?_;clear y2;intro o h1 h2 h3);exact bv o _ h1 h3 (by erw [h2];simp) (by simp)
 case str=>(refine aY x ?_;clear x;intro T t hT y3 y4;subst y3;refine a8 y4 ?_;clear y4;intro o h1 h2 h3);exact bv o _ h1 h3 (by erw [h2];((focus (refine aK hT ?_ ?_<;>clear hT;rintro rfl;rotate_left;rintro rfl)))<;>simp) (by simp)
 case rng=>exact bv _ _ x rfl (by simp) (by simp [rawInt])
theorem ItAt.at {h h':Heap}{I:Addr}{i:Nat}{a:V}{r:Value}(x:ItAt h I i a r) (k:∀o,h.get? I=some o->h'.get? I=some o):ItAt h' I i a r:=by
 cases a<;>try exact False.elim x
 case lst=>(refine ag x ?_;clear x;intro l y1 y2;subst y1;refine ag y2 ?_;clear y2;intro o h1 h2);exact(aj l rfl (aj o (k _ h1) h2))
 case obj=>(refine ag x ?_;clear x;intro l y1 y2;subst y1;refine ag y2 ?_;clear y2;intro o h1 h2);exact(aj l rfl (aj o (k _ h1) h2))
 case tup=>(refine ag x ?_;clear x;intro l y1 y2;subst y1;refine ag y2 ?_;clear y2;intro o h1 h2);exact(aj l rfl (aj o (k _ h1) h2))
 case str=>(refine aY x ?_;clear x;intro T t hT y3 y4;subst y3;refine ag y4 ?_;clear y4;intro o h1 h2);exact(bj T t hT rfl (aj o (k _ h1) h2))
 case rng=>exact k _ x
theorem Gf {c:Int}(n:Nat):∀(a:Int) (i:Nat),i<n->(dA a c n)[i]? = some (.int (a+(i:Nat)*c)):=by
 induction n with
 |zero=>exact fun a i h=>absurd h (Nat.not_lt_zero _)
 |succ n ih=>
  intro a i h;induction i with
  |zero=>show some (V.int a)=some (.int (a+0*c));(erw [Int.zero_mul];erw [Int.add_zero];with_reducible rfl)
  |succ i=>
   refine(ih (a+c) i (Nat.lt_of_succ_lt_succ h)).trans (congrArg (fun x=>some (V.int x)) ?_);show a+c+(i:Int)*c=a+((i:Int)+1)*c
   (erw [Int.add_mul];erw [Int.one_mul];erw [Int.add_assoc];refine bx (Int.add_comm c ..) ?_;with_reducible rfl)
theorem nD {c:Int}(n:Nat):∀a:Int,(dA a c n).length=n:=by
 induction n with
 |zero=>exact fun uz=>rfl
 |succ n ih=>exact fun a=>congrArg (·+1) (ih (a+c))
theorem Gq (a b c:Int):0<=Builtin.Range.rangeSize a b c:=by
 unfold Builtin.Range.rangeSize
 split
 ·split
  ·have:=Int.ediv_nonneg (show 0<=b-a-1 by omega) (show 0<=c by omega)
   exact al [] [(b-a-1) / c] (.Le (.k 0) aw) (.Le (.k 0) (.a aw (.k 1))) this
  ·exact Int.le_refl _
 ·split
  ·have:=Int.ediv_nonneg (show 0<=a-b-1 by omega) (show 0<=-c by omega)
   exact al [] [(a-b-1) / -c] (.Le (.k 0) aw) (.Le (.k 0) (.a aw (.k 1))) this
  ·exact Int.le_refl _
theorem kH {G:Gd}{frs:List Env}{ws:Wd}{st:List Cell}{h:Heap}(A:Amb G frs ws st h) {a:V}{r:Value}{vs:List V}(e:d6 st a=some vs) (ha:(∃ys,a=.lst ys)\/∃n,a=.obj n) (rr:Rep ws h a r) :
  ∃l items,r=.ref l/\h.IsList l (List.toArray items)/\Reps ws h vs items:=by
 refine av ha ?_ ?_<;>clear ha
 ·intro y0;refine an y0 ?_;clear y0;intro ys y2;subst y2;cases e;refine af rr ?_;clear rr;intro _ y1;refine b0 y1 ?_;clear y1;intro l items y22 _ hi hr;subst y22;exact bj l items rfl hi hr
 ·intro y0;refine an y0 ?_;clear y0;intro n y2;subst y2;refine ag (gl e) ?_;intro c hc e;induction c with
  |list vs'=>
   cases e
   refine ag rr ?_;clear rr;intro p hp y2;subst y2;refine be (A.cells _ _ _ hp hc) ?_;intro _ _ y2;refine bd y2 ?_;clear y2;intro items k ho hr;exact bj p.1 items rfl ((aQ _ ho rfl ⟨k,rfl⟩)) hr
  |_=>cases e
section
variable {G:Gd}{C:Cx}{ws:Wd}{S:St}{A:Around}{s:Shared}{E:VP}{a:V}{r:Value}{items:List V}
set_option tactic.hygienic true in
theorem z5 (R:Rel G C ws S s.heap) (hi:d6 S.st a=some items) (rr:Rep ws s.heap a r) {Q:VP}
  (q:∀o,ItAt (s.heap.push o) s.heap.objs.size 0 a r->Q (.ref s.heap.objs.size) {s with heap:=s.heap.push o}):wpAny (model G.prog G.w) A (pyIter r) Q E s:=by
 cases a<;>try exact ba hi
 case tup vs=>
  refine gn fun Pz kz=>?_;refine af rr ?_;clear rr;intro _ y1;refine b0 y1 ?_;clear y1;intro l its y22 _ ht hr;subst y22;refine kz ?_;clear kz Pz;exact wpAny_pyIter_tuple ht (q _ (aj l rfl (aQ _ (dv _ rfl) rfl rfl)))
 case lst vs=>
  refine aY (kH R.amb hi (.inl ⟨_,rfl⟩) rr) ?_;intro l its y2 hl _;subst y2;exact wpAny_pyIter_list hl (q _ (aj l rfl (aQ _ (dv _ rfl) rfl rfl)))
 case obj n=>
  refine aY (kH R.amb hi (.inr ⟨_,rfl⟩) rr) ?_;intro l its y2 hl _;subst y2;exact wpAny_pyIter_list hl (q _ (aj l rfl (aQ _ (dv _ rfl) rfl rfl)))
 case str x=>
  refine gn fun Pz kz=>?_;refine af rr ?_;clear rr;intro _ y1;refine an y1 ?_;clear y1;intro t y21;subst y21;refine kz ?_;clear kz Pz;cases ha:(S_ x).cps.all (·<128)
  ·exact wpAny_pyIter_wide ha (q _ (bj _ t (.inr rfl) rfl (aQ _ (dv _ rfl) rfl rfl)))
  ·exact wpAny_pyIter_ascii ha (q _ (bj _ t (.inl rfl) rfl (aQ _ (dv _ rfl) rfl rfl)))
 case rng a b c=>
  refine af (dF hi) ?_;intro hs hi
  ·refine eX rr ?_;clear rr;intro p t u v y4 _ hr;subst y4;refine wpAny_pyIter_range hr hs (q _ ?_);have e:((Builtin.Range.rangeSize a b c).toNat:Int)=Builtin.Range.rangeSize a b c:=Int.toNat_of_nonneg (Gq a b c);show IsRangeIter _ _ (a+((0:Nat):Int)*c) (((Builtin.Range.rangeSize a b c).toNat:Int)-((0:Nat):Int)) c
   (erw [e];with_reducible refine bx ((show a+((0:Nat):Int)*c=a by simp) ..) ?_;with_reducible refine bx ((show Builtin.Range.rangeSize a b c-((0:Nat):Int)=Builtin.Range.rangeSize a b c by simp) ..) ?_)
   exact dv _ rfl
set_option tactic.hygienic true in
theorem zr (R:Rel G C ws S s.heap) (hi:d6 S.st a=some items) (rr:Rep ws s.heap a r) {I:Addr}{i:Nat}{b:V}(hit:ItAt s.heap I i a r) (hb:items[i]? = some b) (hx:A.handled=none) {Q:Option Value->Shared->Prop}
  (q:∀h' tk u,ItAt h' I (i+1) a r->(∀b o,b≠I->s.heap.get? b=some o->h'.get? b=some o)->Rep ws s.heap b u->Q (some u) {s with heap:=h',toks:=tk}):wpAny (model G.prog G.w) A (pyNext (.ref I)) Q E s:=by
 have hP:=hit.priv;cases a<;>try exact ba hi
 case tup vs=>
  cases hi
  refine gn fun Pz kz=>?_;refine af rr ?_;clear rr;intro _ y1;refine b0 y1 ?_;clear y1;intro l its y22 _ ht hr;subst y22;(refine ag hit ?_;clear hit;intro l' e hit);cases e;refine ag (hr.get hb) ?_;intro u hu ru;refine kz ?_;clear kz Pz;refine wpAny_pyNext_tuple_item hit ht (x:=u) (by simpa using hu) fun h' hit' hs'=>?_;exact q h' s.toks u (aj l rfl hit') (fun b o hb e=>hs'.extBut b o hb e) ru
 case lst vs=>
  refine aY (kH R.amb hi (.inl ⟨_,rfl⟩) rr) ?_;intro l its y2 hl hr;subst y2;(refine ag hit ?_;clear hit;intro l' e hit);cases e;refine ag (hr.get hb) ?_;intro u hu ru;refine wpAny_pyNext_list_item hit hl (x:=u) (by simpa using hu) fun h' hit' hs'=>?_;exact q h' s.toks u (aj l rfl hit') (fun b o hb e=>hs'.extBut b o hb e) ru
 case obj n=>
  refine aY (kH R.amb hi (.inr ⟨_,rfl⟩) rr) ?_;intro l its y2 hl hr;subst y2;(refine ag hit ?_;clear hit;intro l' e hit);cases e;refine ag (hr.get hb) ?_;intro u hu ru;refine wpAny_pyNext_list_item hit hl (x:=u) (by simpa using hu) fun h' hit' hs'=>?_;exact q h' s.toks u (aj l rfl hit') (fun b o hb e=>hs'.extBut b o hb e) ru
 case str x=>
  cases hi
  refine aY hit ?_;clear hit;intro T t hT e hit;rw [List.getElem?_map] at hb;refine ag (Option.map_eq_some_iff.mp hb) ?_;intro c hc y2;subst y2;have hc':(S_ x).cps[i]? = some c:=by simpa [S_] using hc
  have hone:Rep ws s.heap (.str [c]) (.str ⟨#[c]⟩ s.toks):=fQ (x:=[c]) (by simp [sizeLine]);refine av hT ?_ ?_<;>clear hT
  ·rintro rfl;refine wpAny_pyNext_ascii_item hit (c:=c) hc' fun h' hit' hs'=>?_;exact q h' _ _ (bj _ t (.inl rfl) e hit') (fun b o hb e=>hs'.extBut b o hb e) hone
  ·rintro rfl;refine wpAny_pyNext_wide_item hit (c:=c) hc' fun h' hit' hs'=>?_;exact q h' _ _ (bj _ t (.inr rfl) e hit') (fun b o hb e=>hs'.extBut b o hb e) hone
 case rng a b' c=>
  refine af (dF hi) ?_;intro hs hi
  ·cases hi
   have hlt:i<(Builtin.Range.rangeSize a b' c).toNat:=by
    have:=(ce hb).1
    rwa [nD] at this
   rw [Gf _ _ _ hlt] at hb;cases hb;refine wpAny_pyNext_range_item hit (al [i,(Builtin.Range.rangeSize a b' c).toNat] [] (.lt aa ae) (.Lt (.k 0) (.s (.c ae) (.c aa))) hlt) fun h' hit' hs'=>?_;refine q h' _ _ ?_ (fun b o hb e=>hs'.extBut b o hb e) cJ;have e1:a+((i+1:Nat):Int)*c=a+(i:Int)*c+c:=by push_cast;(erw [Int.add_mul];erw [Int.one_mul];erw [Int.add_assoc];with_reducible rfl)
   have e2:((Builtin.Range.rangeSize a b' c).toNat:Int)-((i+1:Nat):Int)=((Builtin.Range.rangeSize a b' c).toNat:Int)-(i:Int)-1:=by push_cast;exact aH [(Builtin.Range.rangeSize a b' c).toNat,i] [] (.Eq (.s (.c aa) (.a (.c ae) (.k 1))) (.s (.s (.c aa) (.c ae)) (.k 1)))
   show IsRangeIter _ _ _ _ _;(erw [e1];erw [e2]);exact hit'
set_option tactic.hygienic true in
theorem zt (R:Rel G C ws S s.heap) (hi:d6 S.st a=some items) (rr:Rep ws s.heap a r) {I:Addr}(hit:ItAt s.heap I items.length a r) (hx:A.handled=none) {Q:Option Value->Shared->Prop}
  (q:∀h',(∀b o,b≠I->s.heap.get? b=some o->h'.get? b=some o)->Q none {s with heap:=h'}):wpAny (model G.prog G.w) A (pyNext (.ref I)) Q E s:=by
 cases a<;>try exact ba hi
 case tup vs=>
  cases hi
  refine af rr ?_;clear rr;intro _ y1;refine b0 y1 ?_;clear y1;intro l its y22 _ ht hr;subst y22;(refine ag hit ?_;clear hit;intro l' e hit);cases e;exact wpAny_pyNext_tuple_end hx hit ht (by simp [hr.length]) fun h' hs'=>q h' fun b o hb e=>hs' b o hb e
 case lst vs=>
  refine aY (kH R.amb hi (.inl ⟨_,rfl⟩) rr) ?_;intro l its y2 hl hr;subst y2;(refine ag hit ?_;clear hit;intro l' e hit);cases e;exact wpAny_pyNext_list_end hx hit hl (by simp [hr.length]) fun h' hs'=>q h' fun b o hb e=>hs' b o hb e
 case obj n=>
  refine aY (kH R.amb hi (.inr ⟨_,rfl⟩) rr) ?_;intro l its y2 hl hr;subst y2;(refine ag hit ?_;clear hit;intro l' e hit);cases e;exact wpAny_pyNext_list_end hx hit hl (by simp [hr.length]) fun h' hs'=>q h' fun b o hb e=>hs' b o hb e
 case str x=>
  cases hi
  refine aY hit ?_;clear hit;intro T t hT e hit;refine av hT ?_ ?_<;>clear hT
  ·rintro rfl;exact wpAny_pyNext_ascii_end hx hit (by simp [S_]) fun h' hs'=>q h' fun b o hb e=>hs' b o hb e
  ·rintro rfl;exact wpAny_pyNext_wide_end hx hit (by simp [S_]) fun h' hs'=>q h' fun b o hb e=>hs' b o hb e
 case rng a b' c=>
  refine gn fun Pz kz=>?_;refine af (dF hi) ?_;intro hs hi;refine kz ?_;clear kz Pz
  ·cases hi
   rw [nD] at hit;exact wpAny_pyNext_range_end hx hit (aH [(Builtin.Range.rangeSize a b' c).toNat] [] (.Le (.s (.c aa) (.c aa)) (.k 0))) fun h' hs'=>q h' fun b o hb e=>hs' b o hb e
end
section
structure Tch (G:Gd) (fr:List Addr) (h0 h h':Heap):Prop where
 ch:∀b o,h.get? b=some o->h'.get? b=some o\/(b∈fr/\(∀vs,o.data≠.fields vs)/\∃sl,h'.get? b=some {o with slots:=sl})\/
  (h0.get? b=none/\b≠G.tab/\∃vs vs' o',o.data=.fields vs/\o.cls≠.type "range"/\ h'.get? b=some o'/\o'.data=.fields vs'/\o'.cls=o.cls/\∀q t,vs[1]? = some (.str q t)->vs'[1]? = some (.str q t))
theorem Tch.refl {G fr h0 h}:Tch G fr h0 h h:=⟨fun uz uz e=>.inl e⟩
theorem Tch.trans {G fr h0 h h1 h2}(x:Tch G fr h0 h h1) (y:Tch G fr h0 h1 h2):Tch G fr h0 h h2:=by
 refine⟨fun b o e=>?_⟩
 (focus (refine av (x.ch b o e) ?_ ?_;intro e1;rotate_left;intro y0;(focus (refine av y0 ?_ ?_<;>clear y0;intro y1;refine be y1 ?_;clear y1;intro a1 a2 y4;refine an y4 ?_;clear y4;intro sl e1;rotate_left;intro y1;refine be y1 ?_;clear y1;intro a1 a2 y4;refine iK y4 ?_;clear y4;intro vs vs' o' a3 a4 e1 a5 a6 a7;rotate_left));rotate_left 2))
 ·exact y.ch b o e1
 ·(focus (refine av (y.ch b _ e1) ?_ ?_;intro e2;rotate_left;intro y0;(focus (refine av y0 ?_ ?_<;>clear y0;intro y1;refine be y1 ?_;clear y1;intro _ _ y4;refine an y4 ?_;clear y4;intro sl' e2;rotate_left;intro y1;refine be y1 ?_;clear y1;intro _ _ y4;refine dH y4 ?_;clear y4;intro vs _ _ c3 _;rotate_left));rotate_left 2))
  ·exact .inr (.inl (aI a1 a2 ⟨sl,e2⟩))
  ·exact .inr (.inl (aI a1 a2 ⟨sl',e2⟩))
  ·exact absurd c3 (a2 vs)
 ·(focus (refine av (y.ch b _ e1) ?_ ?_;intro e2;rotate_left;intro y0;(focus (refine av y0 ?_ ?_<;>clear y0;intro y1;refine be y1 ?_;clear y1;intro _ c2 _;rotate_left;intro y1;refine be y1 ?_;clear y1;intro _ _ y4;refine iK y4 ?_;clear y4;intro ws ws' o'' c3 c4 e2 c5 c6 c7;rotate_left));rotate_left 2))
  ·exact .inr (.inr (aI a1 a2 (jX vs vs' o' a3 a4 e2 a5 a6 a7)))
  ·exact absurd a5 (c2 _)
  ·rw [a5] at c3;cases c3;exact .inr (.inr (aI a1 a2 (jX vs ws' o'' a3 a4 e2 c5 (c6.trans a6) (fun q t h=>c7 q t (a7 q t h)))))
theorem Tch.push {G fr h0 h h1}(x:Tch G fr h0 h h1) (k:∀b o,h1.get? b=some o->h2.get? b=some o):Tch G fr h0 h h2:=x.trans ⟨fun b o e=>.inl (k b o e)⟩
section
variable {G:Gd}{C:Cx}{frs:List Env}{ws ws':Wd}{st:List Cell}{S:St}{h h' h0:Heap}
theorem Tch.dom {fr}(x:Tch G fr h0 h h'):∀b o,h.get? b=some o->∃o',h'.get? b=some o':=fun b o e=>by
 (focus (refine av (x.ch b o e) ?_ ?_;intro e1;rotate_left;intro y0;(focus (refine av y0 ?_ ?_<;>clear y0;intro y1;refine be y1 ?_;clear y1;intro _ _ y4;refine an y4 ?_;clear y4;intro sl e1;rotate_left;intro y1;refine be y1 ?_;clear y1;intro _ _ y4;refine f0 y4 ?_;clear y4;intro _ _ o' _ _ e1 _;rotate_left));rotate_left 2))
 ·exact⟨_,e1⟩
 ·exact⟨_,e1⟩
 ·exact⟨_,e1⟩
theorem Tch.same {fr}(x:Tch G fr h0 h h') {b:Addr}{o:Obj}(e:h.get? b=some o) (hf:b∉fr) (hd:(∀vs,o.data≠.fields vs)\/(∃o0,h0.get? b=some o0)\/o.cls=.type "range"):h'.get? b=some o:=by
 (focus (refine av (x.ch b o e) ?_ ?_;intro e1;rotate_left;intro y0;(focus (refine av y0 ?_ ?_<;>clear y0;intro y1;refine af y1 ?_;clear y1;intro a1 _;rotate_left;intro y1;refine be y1 ?_;clear y1;intro a1 _ y4;refine cu y4 ?_;clear y4;intro vs _ _ a3 a4 _;rotate_left));rotate_left 2))
 ·exact e1
 ·exact absurd a1 hf
 ·(focus (refine av hd ?_ ?_<;>clear hd;intro hd;rotate_left;intro y0;(focus (refine av y0 ?_ ?_<;>clear y0;intro y1;refine an y1 ?_;clear y1;intro o0 hd;rotate_left;intro hd;rotate_left));rotate_left 2))
  ·exact absurd a3 (hd vs)
  ·rw [a1] at hd;exact ba hd
  ·exact absurd hd a4
theorem Amb.frDict (a:Amb G frs ws st h) {b:Addr}{o:Obj}(e:h.get? b=some o) (hd:∀es n,o.data≠.dict es n):b∉d7 frs:=fun q=>by
 refine ag (List.mem_filterMap.mp q) ?_;intro env he hf;refine af (a.frames env he) ?_;intro _ y1;refine eW y1 ?_;clear y1;intro L o' es n q2 q3 q4 _;rw [hf] at q2;cases q2;rw [e] at q3;cases q3;exact hd _ _ q4
theorem Amb.frIn (a:Amb G frs ws st h) {b:Addr}(hb:b∈d7 frs):∃o es n,h.get? b=some o/\o.data=.dict es n/\G.base.get? b=none/\b∉tr ws:=by
 refine gn fun Pz kz=>?_;refine ag (List.mem_filterMap.mp hb) ?_;intro env he hf;refine af (a.frames env he) ?_;intro _ y1;refine j0 y1 ?_;clear y1;intro L o' es n q2 q3 q4 q5 q6;refine kz ?_;clear kz Pz;rw [hf] at q2;cases q2;exact ed o' es n q3 q4 q5 q6
theorem Amb.touch (a:Amb G frs ws st h) (hb:∀b o,G.base.get? b=some o->∃o',h0.get? b=some o') (t:Tch G (d7 frs) h0 h h'):Mv ws h ws h'/\Amb G frs ws st h':=by
 have mv:Mv ws h ws h':=⟨fun b o n e hs=>by
  refine⟨t.same e (a.frDict e ?_) ?_,n⟩
  ·refine av hs ?_ ?_<;>clear hs
   ·intro y0;refine du y0 ?_;clear y0;intro xs n hd
    simp [hd]
   ·intro y0;refine an y0 ?_;clear y0;intro vs y2;subst y2
    simp
  ·refine av hs ?_ ?_<;>clear hs
   ·intro y0;refine du y0 ?_;clear y0;intro xs n hd
    exact .inl (by simp [hd])
   ·intro y0;refine an y0 ?_;clear y0;intro vs y2;subst y2
    exact .inr (.inr rfl),fun uz uz e=>e⟩
 have trk:∀{b o},b∈tr ws->h.get? b=some o->h'.get? b=some o:=fun{b o} hbt e=>by
  refine t.same e (fun q=>?_) (.inl ?_)
  ·(refine f0 (a.frIn q) ?_;intro _ _ _ _ _ _ n);exact n hbt
  ·refine a8 (a.trThere hbt) ?_;intro o' e' h2 _;rw [e] at e';cases e';exact h2
 refine⟨mv,fun b o e=>?_,fun e he=>?_,?_,a.tabF,a.len,fun n p c e1 e2=>?_,a.fresh,a.apart⟩
 ·have e1:=a.base b o e;exact t.same e1 (fun q=>by(refine f0 (a.frIn q) ?_;intro _ _ _ _ _ n _);rw [e] at n;exact dy n) (.inr (.inl (hb b o e)))
 ·refine af (a.frames e he) ?_;intro q1 y1;refine eW y1 ?_;clear y1;intro L o es n q2 q3 q4 q
  (focus (refine av (t.ch L o q3) ?_ ?_;intro e1;rotate_left;intro y0;(focus (refine av y0 ?_ ?_<;>clear y0;intro y1;refine be y1 ?_;clear y1;intro _ _ y4;refine an y4 ?_;clear y4;intro sl e1;rotate_left;intro y1;refine be y1 ?_;clear y1;intro _ _ y4;refine dH y4 ?_;clear y4;intro vs _ _ c3 _;rotate_left));rotate_left 2))
  ·exact⟨q1,L,o,es,n,q2,e1,q4,q⟩
  ·exact⟨q1,L,_,es,n,q2,e1,q4,q⟩
  ·rw [q4] at c3;cases c3
 ·refine ag a.tab ?_;intro ps q1 q2;refine aj ps ?_ (q2.imp id fun⟨c,e,n,q⟩=>(aQ c e n ?_))
  ·(focus (refine av (t.ch _ _ q1) ?_ ?_;intro e1;rotate_left;intro y0;(focus (refine av y0 ?_ ?_<;>clear y0;intro y1;refine af y1 ?_;clear y1;intro c1 _;rotate_left;intro y1;refine be y1 ?_;clear y1;intro _ c2 _;rotate_left));rotate_left 2))
   ·exact e1
   ·exact absurd c1 (a.frDict q1 (by simp))
   ·exact absurd rfl c2
  ·refine eW q ?_;clear q;intro c' o vs tk e1 g hd hv
   (focus (refine av (t.ch _ _ g) ?_ ?_;intro e2;rotate_left;intro y0;(focus (refine av y0 ?_ ?_<;>clear y0;intro y1;refine af y1 ?_;clear y1;intro c1 _;rotate_left;intro y1;refine be y1 ?_;clear y1;intro _ _ y4;refine iK y4 ?_;clear y4;intro us us' o' c3 _ e2 c5 _ c7;rotate_left));rotate_left 2))
   ·exact iJ c' o vs tk e1 e2 hd hv
   ·exact absurd c1 (a.frDict g (by simp [hd]))
   ·rw [hd] at c3;cases c3;exact iJ c' o' us' tk e1 e2 c5 (c7 _ _ hv)
 ·exact(a.cells n p c e1 e2).mv mv (fun o=>trk (fa e1 _ (by simp))) fun o=>trk (fa e1 _ (by simp))
theorem Loc.touch {loc:List (Option V)}(R:Rel G C ws S h) (mv:Mv ws h ws h') (t:Tch G C.fr h0 h h'):Loc G C ws S.loc h':=by
 have l:=R.lc;have cellk:∀{c v},h.IsCell c v->h'.IsCell c v:=fun{c v} ⟨oc,h1,h2⟩=>(aj oc (t.same h1 (R.amb.frDict h1 (by simp [h2])) (.inl (by simp [h2]))) h2);refine⟨l.kind,l.glob,l.blt,?_,fun x c e=>let ⟨⟨v,q⟩,r⟩:=l.cells x c e;⟨⟨v,cellk q⟩,r⟩,l.capart,l.ownL,l.own,l.freshL,l.len,l.nodup,l.head⟩;refine ag l.ns ?_;intro m y1 q2;refine cu y1 ?_;clear y1;intro o es n ho hd hr;refine aj m ?_ (fun i x a e1 e2=>?_)
 ·(focus (refine av (t.ch _ _ ho) ?_ ?_;intro e1;rotate_left;intro y0;(focus (refine av y0 ?_ ?_<;>clear y0;intro y1;refine be y1 ?_;clear y1;intro _ _ y4;refine an y4 ?_;clear y4;intro sl e1;rotate_left;intro y1;refine be y1 ?_;clear y1;intro _ _ y4;refine dH y4 ?_;clear y4;intro vs _ _ c3 _;rotate_left));rotate_left 2))
  ·exact dG o es n e1 hd hr
  ·exact dG _ es n e1 hd hr
  ·rw [hd] at c3;cases c3
 ·refine ag (q2 i x a e1 e2) ?_;intro v q3 q4;exact aj v (q3.mv mv) (q4.keeps fun c uz v q=>cellk q)
theorem Rel.touch (R:Rel G C ws S h) (hb:∀b o,G.base.get? b=some o->∃o',h0.get? b=some o') (t:Tch G C.fr h0 h h'):Rel G C ws S h':=
 let ⟨mv,a⟩:=R.amb.touch hb t
 ⟨a,Loc.touch (loc:=S.loc) R mv t⟩
theorem Step.touch {fr m:List Addr}(x:Step fr m h0 h) (t:Tch G fr h0 h h'):Step fr m h0 h':=by
 refine⟨fun b o e n f=>?_,fun b o e n f=>?_,fun b o e=>?_⟩
 ·exact t.same (x.keep b o e n f) f (.inr (.inl ⟨o,e⟩))
 ·refine an (x.frk b o e n f) ?_;intro sl e1
  (focus (refine av (t.ch _ _ e1) ?_ ?_;intro e2;rotate_left;intro y0;(focus (refine av y0 ?_ ?_<;>clear y0;intro y1;refine be y1 ?_;clear y1;intro _ _ y4;refine an y4 ?_;clear y4;intro sl' e2;rotate_left;intro y1;refine af y1 ?_;clear y1;intro c1 _;rotate_left));rotate_left 2))
  ·exact⟨sl,e2⟩
  ·exact⟨sl',e2⟩
  ·rw [e] at c1;exact dy c1
 ·refine an (x.dom b o e) ?_;intro o1 e1;exact t.dom b o1 e1
end
theorem Out.touch {G:Gd}{C:Cx}{ws ws':Wd}{S':St}{s s':Shared}{h':Heap}(R:Rel G C ws S s.heap) (o:Out G C ws s ws' S' s') (t:Tch G C.fr s.heap s'.heap h'):Out G C ws s ws' S' {s' with heap:=h'}:=
 ⟨o.rel.touch (fun b ob e=>⟨ob,R.amb.base b ob e⟩) t,o.step.touch t,o.grow,o.gens,o.os⟩
def ExcTr (G:Gd) (h0 h:Heap) (e:Addr) (x:Exn) (y:Value):Prop:=
 h0.get? e=none/\e≠G.tab/\∃oe vs d es n t,h.get? e=some oe/\oe.cls=.ref x.cls/\oe.data=.fields vs/\oe.dict=some d/\h.get? d=some (dictOf es n)/\h0.get? d=none/\
  getL "spot" es=some (some (.int x.spot t))/\4<vs.size/\
  ∃T oT ts,vs[1]? = some (.ref T)/\T≠e/\T≠d/\h0.get? T=none/\T≠G.tab/\h.get? T=some oT/\oT.cls=.type "traceback"/\ oT.data=.fields ts/\ts[3]? = some y
theorem ExcTr.el {G h0 h e x y}{p:Prop}(r:ExcTr G h0 h e x y) (k:h0.get? e=none->e≠G.tab->∀oe vs d es n t,h.get? e=some oe->oe.cls=.ref x.cls->oe.data=.fields vs->oe.dict=some d->h.get? d=some (dictOf es n)->h0.get? d=none->
  getL "spot" es=some (some (.int x.spot t))->4<vs.size->
  ∀T oT ts,vs[1]? = some (.ref T)->T≠e->T≠d->h0.get? T=none->T≠G.tab->h.get? T=some oT->oT.cls=.type "traceback"-> oT.data=.fields ts->ts[3]? = some y->p):p:=by
 refine be r ?_;clear r;intro a1 a2 y2;refine tA y2 ?_;clear y2;intro oe vs d es n t b1 b2 b3 b4 b5 b6 b7 b8 y34;refine CQ y34 ?_;clear y34;intro T oT ts c1 c2 c3 c4 c5 c6 c6' c7 c8;exact k a1 a2 oe vs d es n t b1 b2 b3 b4 b5 b6 b7 b8 T oT ts c1 c2 c3 c4 c5 c6 c6' c7 c8
theorem ExcTr.obj {G h0 h e x y}{at_:Value->Prop}(r:ExcTr G h0 h e x y) (hy:at_ y):ExcObj G h0 h e x at_:=by
 refine be r ?_;clear r;intro a1 a2 y2;refine tA y2 ?_;clear y2;intro oe vs d es n t b1 b2 b3 b4 b5 b6 b7 b8 y34;refine CQ y34 ?_;clear y34;intro T oT ts c1 c2 c3 c4 c5 c6 c6' c7 c8;exact(aI a1 a2 (lh oe vs d es n t b1 b2 b3 b4 b5 b6 b7 b8 (.inr (CB T oT ts y c1 c2 c3 c4 c5 c6 c6' c7 c8 hy))))
theorem Obj.dict_mapFields (o:Obj) (f):(o.mapFields f).dict=o.dict:=by
 obtain⟨c,d,dt,s0⟩:=o;cases dt<;>rfl
section
variable {G:Gd}{C:Cx}{ws:Wd}{st:List Cell}{h0:Heap}{M:Model}{A:Around}{E:VP}{s:Shared}{e L:Addr}{x:Exn}{outer:List Env}{env:Env}
theorem Amb.funFrames {frs:List Env}{h:Heap}(a:Amb G frs ws st h):∀{l:List Env},(∀e∈l,e∈frs)->h.FunFrames G.base l
 | [],_=>trivial
 |e::l,hl=>by
  refine af (a.frames e (hl e (.head _))) ?_;intro q1 y1;refine j0 y1 ?_;clear y1;intro L o es n q2 q3 q4 q5 _;exact aI q1 ((bv L o q2 q5 q3 (by simp [q4]))) (Amb.funFrames a fun x hx=>hl x (.tail _ hx))
theorem pC {fr:List Addr}{h:Heap}{b:Addr}{o:Obj}{vs:Array Value}{i:Nat}{v:Value}(e:h.get? b=some o) (hd:o.data=.fields vs) (hc:o.cls≠.type "range") (h0b:h0.get? b=none) (hb:b≠G.tab) (hi:i=1->∀q t,vs[1]?≠some (.str q t)) :
  Tch G fr h0 h (h.update b (Obj.mapFields (·.setIfInBounds i v))):=by
 refine⟨fun a oa ea=>?_⟩;by_cases q:a=b
 ·subst q;rw [e] at ea;cases ea;refine .inr (.inr (aI h0b hb (jX vs _ _ hd hc (Heap.get?_update_self _ e (Obj.isFreed_of_fields (Obj.data_mapFields hd _))) (Obj.data_mapFields hd _) (Obj.cls_mapFields _ _) (fun q t hq=>?_))));by_cases i1:i=1
  ·exact absurd hq (hi i1 q t)
  ·erw [Array.getElem?_setIfInBounds_ne i1];exact hq
 ·exact .inl ((fq _ _ (Ne.symm q)).trans ea)
theorem DI {frs:List Env}{h h1:Heap}(a:Amb G frs ws st h) (hs:Heap.SlotsOnly (d7 frs) h h1):Tch G (d7 frs) h0 h h1:=by
 refine⟨fun b o e=>?_⟩;by_cases q:b∈d7 frs
 ·refine cu (a.frIn q) ?_;intro o' es n e' hd _;rw [e] at e';cases e';refine an (hs.2.2 b o e) ?_;intro sl e2;exact .inr (.inl (aI q (by simp [hd]) ⟨sl,e2⟩))
 ·exact .inl ((hs.2.1 b q).trans e)
theorem AP {frs:List Env}(am:Amb G frs ws st s.heap) (hfr:A.frames=some frs) (hC:frs=env::outer) (hf:env.frame=some L) (h0f:∀b∈d7 frs,∃o,h0.get? b=some o)
  {oe:Obj} {vs:Array Value} {d:Addr} {es n t} {head:Value} {hadNext:Bool} (a1:h0.get? e=none) (a2:e≠G.tab) (b1:s.heap.get? e=some oe) (b2:oe.cls=.ref x.cls) (b3:oe.data=.fields vs) (b4:oe.dict=some d)
  (b5:s.heap.get? d=some (dictOf es n)) (b6:h0.get? d=none) (b7:getL "spot" es=some (some (.int x.spot t))) (b8:4<vs.size) (h1:∀q t,vs[1]?≠some (.str q t)) (hsub:∀b o,h0.get? b=some o->∃o',s.heap.get? b=some o')
  {Q:Unit->Shared->Prop} (q:∀h',Tch G (d7 frs) h0 s.heap h'->ExcTr G h0 h' e x (rawInt L)->Q () {s with heap:=h'}) :
  wpAny M A (do let a ←frameOf env;let pl ←entryPlaceOf L hadNext;let b ←EntryCells.newEntry head a .none (rawInt L) .none pl;PySem.setField (.ref e) 1 b) Q E s:=by
 subst hC;have hene:e∉d7 (env::outer):=fun hm=>by
  (refine an (h0f _ hm) ?_;intro o ho);rw [a1] at ho;exact ba ho
 have hdne:d∉d7 (env::outer):=fun hm=>by
  (refine an (h0f _ hm) ?_;intro o ho);rw [b6] at ho;exact ba ho
 refine az (wpAny_frameOf_fun hfr (am.funFrames fun uz h=>h) hf fun h₁ hs₁=>?_);refine az (wpAny_entryPlaceOf fun pl hpl=>?_);refine az (wpAny_newObj_type ?_ (hpl.sizeOk5 _ _ _ _ _));have he₁:h₁.get? e=some oe:=(hs₁.2.1 e hene).trans b1;have hd₁:h₁.get? d=some (dictOf es n):=(hs₁.2.1 d hdne).trans b5;generalize hT:({cls:=.type "traceback",dict:=none,data:=.fields ([head,.ref L,.none,rawInt L,.none]++(if pl.isEmpty then List.replicate 6 Value.none else pl)).toArray}:Obj)=oT;have hTc:oT.cls=.type "traceback":= by(refine aZ (hT ..) ?_;with_reducible rfl)
 have hTf:oT.isFreed=false:=by(refine aZ (hT ..) ?_);rfl
 have he₂:=bL (h:=h₁) oT he₁;have hTe:h₁.objs.size≠e:=Nat.ne_of_gt (Heap.lt_size he₁);have hTd:h₁.objs.size≠d:=Nat.ne_of_gt (Heap.lt_size hd₁);have hde:d≠e:=by rintro rfl;rw [b1] at b5;cases b5;cases b3
 refine wpAny_setField he₂ b3 (al [vs.size] [] (.lt (.k 4) aa) (.lt (.k 1) aa) b8) (q _ ?_ ?_)
 ·refine(DI am hs₁).trans (Tch.trans (h1:=h₁.push oT) ⟨fun b o eb=>.inl (bL _ eb)⟩ (pC he₂ b3 (by erw [b2];simp) a1 a2 fun uz=>h1))
 ·have hsz:h₁.objs.size=s.heap.objs.size:=hs₁.1;refine(aI a1 a2 (lh _ _ d es n t (Heap.get?_update_self _ he₂ (Obj.isFreed_of_fields (Obj.data_mapFields b3 _))) ((Obj.cls_mapFields _ _).trans b2) (Obj.data_mapFields b3 _) ((Obj.dict_mapFields _ _).trans b4) ((fq _ _ (Ne.symm hde)).trans (bL _ hd₁)) b6 b7 (by simpa using b8) (tv (h₁.objs.size) oT _ (by
    erw [Array.getElem?_setIfInBounds_self];rw [if_pos (by exact al [vs.size] [] (.lt (.k 4) aa) (.lt (.k 1) aa) b8)]) hTe hTd ?_ ?_ ((fq _ _ (Ne.symm hTe)).trans (dv _ hTf)) hTc (by(refine aZ (hT ..) ?_;with_reducible rfl)) (by first | (simp;done) | (rcases hpl with rfl | ⟨_,_,_,_,_,_,_,rfl⟩<;>simp)))))
  ·cases hh:h0.get? h₁.objs.size with
   |none=>rfl
   |some o=>
    refine an (hsub _ _ hh) ?_;intro o' e';exact absurd (Heap.lt_size e') (by erw [hsz];exact Nat.lt_irrefl _)
  ·rintro hh;refine ag am.tab ?_;intro ps q1 _;rw [←hh] at q1;exact absurd (Heap.lt_size q1) (by erw [hsz];exact Nat.lt_irrefl _)
theorem qP (R0:Rel G C ws S0 h0) {ws':Wd}{st':List Cell}(am:Amb G C.frs ws' st' s.heap) (hfr:A.frames=some C.frs) (hC:C.frs=C.env::outer) (hf:C.env.frame=some L) (hsub:∀b o,h0.get? b=some o->∃o',s.heap.get? b=some o')
  (hx:ExcObj G h0 s.heap e x (oJ C)) {Q:Unit->Shared->Prop} (q:∀h',Tch G C.fr h0 s.heap h'->ExcTr G h0 h' e x (rawInt L)->Q () {s with heap:=h'}):wpAny M A (noteFrame (.ref e) C.env) Q E s:=by
 have h0f:∀b∈d7 C.frs,∃o,h0.get? b=some o:=fun b hb=>let ⟨o,_,_,e,_⟩:=R0.amb.frIn hb;⟨o,e⟩;refine hx.el fun a1 a2 oe vs d es n t b1 b2 b3 b4 b5 b6 b7 b8 hx=>?_;unfold noteFrame;simp only [hf];refine av hx ?_ ?_<;>clear hx
 ·intro y0;refine af y0 ?_;clear y0;intro c1 _;refine az (wpAny_field b1 b3 c1 ?_)
  erw [if_neg (by decide)]
  exact AP am hfr hC hf h0f a1 a2 b1 b2 b3 b4 b5 b6 b7 b8 (by erw [c1];simp) hsub q
 ·intro y0;refine CP y0 ?_;clear y0;intro T oT ts y c1 c2 c3 c4 c5 c6 c6' c7 c8 c9;refine az (wpAny_field b1 b3 c1 ?_)
  erw [if_pos (show(Value.ref T != Value.none)=true from by simp)]
  refine az (wpAny_field c6 c7 c8 ?_);refine av c9 ?_ ?_<;>clear c9
  ·rintro rfl
   erw [if_neg (show ¬((Value.none==rawInt L)=true) from by simp [rawInt])]
   refine az (wpAny_setField c6 c7 (Array.getElem?_eq_some_iff.mp c8).1 ?_);have tc:Tch G (d7 C.frs) h0 s.heap (s.heap.update T (Obj.mapFields (·.setIfInBounds 3 Value.none))):=pC c6 c7 (by erw [c6'];simp) c4 c5 (by simp);refine af (am.touch (fun b o e=>⟨o,R0.amb.base b o e⟩) tc) ?_;intro _ am';have other:∀b,b≠T->(s.heap.update T (Obj.mapFields (·.setIfInBounds 3 Value.none))).get? b=s.heap.get? b:=fun b hb=>fq _ _ (Ne.symm hb);exact AP (s:={s with heap:=_}) am' hfr hC hf h0f a1 a2 ((other e (Ne.symm c2)).trans b1) b2 b3 b4 ((other d (Ne.symm c3)).trans b5) b6 b7 b8 (by erw [c1];simp)
    (fun b o e=>let ⟨o',e'⟩:=hsub b o e;tc.dom b o' e') fun h' t' r=>q h' (tc.trans t') r
  ·intro y0;refine ag y0 ?_;clear y0;intro L' hL y3;subst y3;rw [hf] at hL;cases hL
   erw [if_pos (show(rawInt L==rawInt L)=true from by simp)]
   exact aX (q s.heap .refl (aI a1 a2 (lh oe vs d es n t b1 b2 b3 b4 b5 b6 b7 b8 (tv T oT ts c1 c2 c3 c4 c5 c6 c6' c7 c8))))
theorem om {fr:List Addr}{o:Option Addr}{y:Value}(hx:ExcTr G h0 s.heap e x y) {Q:Unit->Shared->Prop}(q:∀h',Tch G fr h0 s.heap h'->ExcTr G h0 h' e x (o.elim .none fun f=>rawInt f)->Q () {s with heap:=h'}):wpAny M A (setFlight (.ref e) o) Q E s:=by
 refine hx.el fun a1 a2 oe vs d es n t b1 b2 b3 b4 b5 b6 b7 b8 T oT ts c1 c2 c3 c4 c5 c6 c6' c7 c8=>?_;have hsz3:3<ts.size:=(Array.getElem?_eq_some_iff.mp c8).1;refine az (wpAny_field b1 b3 c1 ?_)
 erw [if_pos (show(Value.ref T != Value.none)=true from by simp)]
 have other:∀b,b≠T->(s.heap.update T (Obj.mapFields (·.setIfInBounds 3 (o.elim .none fun f=>rawInt f)))).get? b=s.heap.get? b:=fun b hb=>fq _ _ (Ne.symm hb);refine wpAny_setField c6 c7 hsz3 (q _ (pC c6 c7 (by erw [c6'];simp) c4 c5 (by simp)) ?_);exact(aI a1 a2 (lh oe vs d es n t ((other e (Ne.symm c2)).trans b1) b2 b3 b4 ((other d (Ne.symm c3)).trans b5) b6 b7 b8 (tv T _ _ c1 c2 c3 c4 c5 (Heap.get?_update_self _ c6 (Obj.isFreed_of_fields (Obj.data_mapFields c7 _))) ((Obj.cls_mapFields _ _).trans c6') (Obj.data_mapFields c7 _) (by simp [hsz3]))))
end
end
section
set_option backward.match.sparseCases true
def jZ (C:Cx):Prop:=∃outer L,C.frs=C.env::outer/\C.env.frame=some L
def Ny (ws:Wd) (h:Heap):Fl->Flow->Prop
 | .next,f=>f=.next
 | .brk,f=>f=.brk
 | .cont,f=>f=.cont
 | .ret a,f=>∃v,f=.ret v/\Rep ws h a v
def WFt (G:Gd) (C:Cx) (ws:Wd) (s:Shared) (Q:Fl->St->Prop) (Qm:Flow->Shared->Prop):Prop:=
 ∀ws' S' s' a f,Out G C ws s ws' S' s'->s.toks<=s'.toks->Ny ws' s'.heap a f->Q a S'->Qm f s'
section
variable {G:Gd}{C:Cx}{ws ws':Wd}{S S':St}{A:Around}{s s':Shared}{d:Nat}{z:Bool}{F:Fx}{c:Cc}
theorem WFt.after {Q:Fl->St->Prop}{Qm:Flow->Shared->Prop}(q:WFt G C ws s Q Qm) (o:Out G C ws s ws' S' s') (ht:s.toks<=s'.toks):WFt G C ws' s' Q Qm:=fun w2 S2 s2 a r o2 t2 rr hq=>q _ _ _ _ _ (o.trans o2) (aW ht t2) rr hq
end
def SS (G:Gd) (z:Bool) (F:Fx) (c:Cc) (ms:MS) (st:Stmt):Prop:=
 ∀⦃C:Cx⦄ ⦃ws:Wd⦄ ⦃S:St⦄ ⦃s:Shared⦄ ⦃A:Around⦄ ⦃d:Nat⦄ ⦃Q:Fl->St->Prop⦄ ⦃X:XE⦄ ⦃Qm:Flow->Shared->Prop⦄ ⦃Em:Value->Shared->Prop⦄,jZ C->ScOk G c C->FxOk G z d F->Rel G C ws S s.heap->AOk A C.frs d->0<s.toks->
  dk F ms S Q X->WFt G C ws s Q Qm->WXt G C ws s X Em->ah z (model G.prog G.w) A (exec st C.env) Qm Em s
def gK (G:Gd) (z:Bool) (F:Fx) (c:Cc) (ms:List MS) (st:List Stmt):Prop:=
 ∀⦃C:Cx⦄ ⦃ws:Wd⦄ ⦃S:St⦄ ⦃s:Shared⦄ ⦃A:Around⦄ ⦃d:Nat⦄ ⦃Q:Fl->St->Prop⦄ ⦃X:XE⦄ ⦃Qm:Flow->Shared->Prop⦄ ⦃Em:Value->Shared->Prop⦄,jZ C->ScOk G c C->FxOk G z d F->Rel G C ws S s.heap->AOk A C.frs d->0<s.toks->
  bN F ms S Q X->WFt G C ws s Q Qm->WXt G C ws s X Em->ah z (model G.prog G.w) A (execs st C.env) Qm Em s
section
variable {G:Gd}{z:Bool}{F:Fx}{c:Cc}{C:Cx}{ws ws':Wd}{S S':St}{A:Around}{s s':Shared}{d:Nat}{me m1 m2 m3:ME}{e e1 e2 e3:Expr}{pos p:Pos}{st:Stmt}{sts:List Stmt}{ms:MS}{mss:List MS}
theorem EM:gK G z F c [] []:=by
 intro C ws S s A d Q X Qm Em fc sc hF R hA ht hw q qx;exact l8 (q ws S s .next .next (.refl R) (bw _) rfl hw)
theorem EN (h1:SS G z F c ms st) (h2:gK G z F c mss sts):gK G z F c (ms::mss) (st::sts):=by
 intro C ws S s A d Q X Qm Em fc sc hF R hA ht hw q qx;refine jF (h1 fc sc hF R hA ht hw (fun ws1 S1 s1 a f o1 t1 rf h=>?_) qx);induction a with
 |next=>cases rf;exact h2 fc sc hF o1.rel hA (bA ht t1) h (q.after o1 t1) (qx.after o1 t1)
 |brk=>cases rf;exact q _ _ _ .brk _ o1 t1 rfl h
 |cont=>cases rf;exact q _ _ _ .cont _ o1 t1 rfl h
 |ret a=>(refine ag rf ?_;clear rf;intro v y1 r;subst y1);exact q _ _ _ (.ret a) _ o1 t1 (aj v rfl r) h
set_option tactic.hygienic true in
theorem FH {f:Expr}{as ks}{p1:Pos}(h1:SE G z F c me (.Call f as ks p1)):SS G z F c (.expr me) (.Expr (.Call f as ks p1) pos):=by
 intro C ws S s A d Q X Qm Em fc sc hF R hA ht hw q qx;rw [show(Stmt.Expr (.Call f as ks p1) pos)=.Expr (.Call f as ks p1) pos from rfl];have key:=h1 (Qm:=fun v s₁=>ah z (model G.prog G.w) A (dropValue (.Call f as ks p1) pos v) Qm Em s₁) sc hF R hA ht hw (fun ws1 S1 s1 a v o1 t1 ra h=>aE (wpAny_dropValue (q _ _ _ .next .next o1 t1 rfl h))) qx;have e:exec (.Expr (.Call f as ks p1) pos) C.env=(do
   standAt pos
   if interactive C.env then printExpr (eval (.Call f as ks p1) C.env)
   else if ←swapsWith (.Call f as ks p1) none pos.line C.env then do evalThenUse (.Call f as ks p1) C.env fun uz=>point;pure .next
   else do dropValue (.Call f as ks p1) pos (←eval (.Call f as ks p1) C.env)):=rfl
 have hi':interactive C.env=false:=by unfold interactive;erw [R.lc.kind];rfl
 (erw [e];erw [hi'])
 exact bS (aR (aP (aM key fun uz uz h₁=>h₁)))
theorem pF {x:Str}{i:Nat}(h:dU c x=some i):(cr c.scope x .local =true\/cr c.scope x .cell=true)/\idxOf? c.nm x=some i:=
 ⟨or2 (bb (dF h).1).2,(dF h).2⟩
theorem nj {x:Str}{i:Nat}(h:dU c x=some i) (sc:ScOk G c C):C.nm[i]? = some x/\(C.env.kindOf x=some .local\/C.env.kindOf x=some .cell):=
 ⟨sc.idx (pF h).2,(pF h).1.imp (fun h=>sc.kind h fun e=>nomatch e) fun h=>sc.kind h fun e=>nomatch e⟩
theorem nh {x:Str}{i:Nat}(h:dU c x=some i) (sc:ScOk G c C) (hk:C.env.kindOf x=some .cell):∀a,C.env.cells.lookup x=some a->a∈C.own:=by
 refine av ((pF h).1) (fun h=>?_) fun h=>?_
 ·rw [sc.kind h fun e=>nomatch e] at hk;cases hk
 ·exact sc.own x (cK h)
def te (G:Gd) (C:Cx) (A:Around) (f:Value->Sem Unit) (i:Nat):Prop:=
 ∀{ws:Wd} {S:St} {s:Shared} {a:V} {v:Value} {Q:Unit->Shared->Prop} {E:VP},Rel G C ws S s.heap->Rep ws s.heap a v->
  (∀s',Out G C ws s ws (aJ S i a) s'->s.toks<=s'.toks->Q () s')->wpAny (model G.prog G.w) A (f v) Q E s
theorem kY {α:Type}{M:Model}{t:Sem α}{Q:α->Shared->Prop}{E:VP}(h:wpAny M A t (fun a s'=>s.toks<=s'.toks->Q a s') (fun e s'=>s.toks<=s'.toks->E e s') s):wpAny M A t Q E s:=
 jn (bO (aE h))
theorem uV {x:Str}{i:Nat}(h:dU c x=some i) (sc:ScOk G c C):te G C A (fun v=>bindName C.env x v) i:=by
 intro ws S s a v Q E R ra q;refine af (nj h sc) ?_;intro h1 h2;exact kY (wpAny_bindName (ni (z:=true) R h1 h2 (sc.cell x) (nh h sc) ra fun s' o t=>q s' o t))
theorem ng {x:Str}{i:Nat}(h:dU c x=some i) (sc:ScOk G c C):te G C A (assign (.Name x p) C.env) i:=by
 intro ws S s a v Q E R ra q;exact az (wpAny_standAt (uV h sc R ra q))
def StoresTo (G:Gd) (C:Cx) (A:Around):List (Value->Sem Unit)->List Nat->Prop
 | [],[]=>True
 |f::fs,i::is=>te G C A f i/\StoresTo G C A fs is
 |_,_=>False
theorem Ad {fs:List (Value->Sem Unit)}:∀{is:List Nat},StoresTo G C A fs is->∀{ws:Wd}{S:St}{s:Shared}{as:List V}{vs:List Value}{Q:Unit->Shared->Prop}{E:VP},as.length=is.length->Rel G C ws S s.heap->Reps ws s.heap as vs->
  (∀s',Out G C ws s ws (cw S is as) s'->s.toks<=s'.toks->Q () s')->wpAny (model G.prog G.w) A (assignInOrder fs vs) Q E s:=by
 induction fs with
 |nil=>
  intro is hs ws S s as vs Q E hl R ra q;induction is with
  |cons=>exact hs.elim
  |nil=>induction as with
   |nil=>exact aX (q s (.refl R) (bw _))
   |cons=>cases hl
 |cons f fs ih=>
  intro is hs ws S s as vs Q E hl R ra q;cases is with
  |nil=>exact hs.elim
  |cons i is=>cases as with
   |nil=>cases hl
   |cons a as=>
    refine aY ra ?_;clear ra;intro v vs y2 r1 r2;subst y2;refine az (wpAny_holding (hs.1 R r1 fun s1 o1 t1=>?_));refine ih hs.2 (Nat.succ.inj hl) o1.rel (r2.mv (o1.mv R)) fun s2 o2 t2=>?_;exact q s2 (o1.trans o2) (aW t1 t2)
theorem E7 {i j:Nat}{a b:V}(h:i≠j):aJ (aJ S i a) j b=aJ (aJ S j b) i a:=by
 unfold aJ;(erw [List.set_comm _ _ h];with_reducible rfl)
theorem E6 {i:Nat}{a:V}{is:List Nat}:∀{as:List V}{S:St},i∉is->cw (aJ S i a) is as=aJ (cw S is as) i a:=by
 induction is with
 |nil=>exact fun uz=>rfl
 |cons j is ih=>
  intro as S h;induction as with
  |nil=>rfl
  |cons b as=>exact(congrArg (cw · is as) (E7 fun q=>h (List.mem_cons.mpr (.inl q)))).trans (ih fun q=>h (.tail _ q))
theorem E4 {i:Nat}{a:V}{is:List Nat}:∀{as:List V}{S:St},is.length=as.length->cw S (is++[i]) (as++[a])=aJ (cw S is as) i a:=by
 induction is with
 |nil=>
  intro as S h;induction as with
  |nil=>rfl
  |cons=>cases h
 |cons j is ih=>
  intro as S h;induction as with
  |nil=>cases h
  |cons b as=>exact ih (Nat.succ.inj h)
theorem E5 {is:List Nat}:∀{as:List V}{S:St},is.length=as.length->is.Nodup->cw S is.reverse as.reverse=cw S is as:=by
 induction is with
 |nil=>
  intro as S h _;induction as with
  |nil=>rfl
  |cons=>cases h
 |cons j is ih=>
  intro as S h hn;induction as with
  |nil=>cases h
  |cons b as=>
   have hn:=List.nodup_cons.mp hn;have h:=Nat.succ.inj h
   (erw [List.reverse_cons];erw [List.reverse_cons];erw [E4 (by(refine bx (List.length_reverse ..) ?_;refine bx (List.length_reverse ..) ?_);exact h)];erw [ih h hn.2])
   exact(E6 hn.1).symm
noncomputable def HO (e:Expr):Option Str:=(f5 e).map (·.1.1)
noncomputable def qW (ts:List Expr):List Str:=ts.filterMap HO
theorem Ag {ts:List Expr}:∀{is:List Nat},jt c ts=some is->ScOk G c C->StoresTo G C A ((assignEach ts C.env).map (·.2)) is/\StoresTo G C A ((qW ts).map fun n=>bindName C.env n) is/\(assignEach ts C.env).length=is.length/\(assignEach ts C.env).findIdx? (·.1)=none/\(qW ts).length=is.length/\ts.length=is.length:=by
 induction ts with
 |nil=>intro is h sc;cases h;exact CG trivial trivial rfl rfl rfl rfl
 |cons t ts ih=>
  intro is h sc;refine gn fun Pz kz=>?_;refine ag (gl h) ?_;intro y0 _ h;obtain⟨⟨x,p⟩,e⟩:=y0;refine kz ?_;clear kz Pz;cases e;refine aY (Lr h) ?_;intro i is' h1 h2 y4;subst y4;refine oV (ih h2 sc) ?_;intro a1 a2 a3 a4 a5 a6;refine CG (⟨ng h1 sc,a1⟩) (⟨uV h1 sc,a2⟩) (congrArg (·+1) a3) ?_ (congrArg (·+1) a5) (congrArg (·+1) a6)
  (erw [List.findIdx?_cons];erw [a4]);rfl
theorem StoresTo.append {fs fs':List (Value->Sem Unit)}{is is':List Nat}:StoresTo G C A fs is->StoresTo G C A fs' is'->StoresTo G C A (fs++fs') (is++is'):=by
 intro h h';induction fs generalizing is with
 |nil=>induction is with
  |nil=>exact h'
  |cons=>exact h.elim
 |cons f fs ih=>induction is with
  |nil=>exact h.elim
  |cons i is=>exact⟨h.1,ih h.2⟩
theorem StoresTo.rev {fs:List (Value->Sem Unit)}:∀{is:List Nat},StoresTo G C A fs is->StoresTo G C A fs.reverse is.reverse:=by
 induction fs with
 |nil=>
  intro is h;induction is with
  |nil=>trivial
  |cons=>exact h.elim
 |cons f fs ih=>
  intro is h;induction is with
  |nil=>exact h.elim
  |cons i is=>
   (erw [List.reverse_cons];erw [List.reverse_cons])
   exact(ih h.2).append ⟨h.1,trivial⟩
theorem Reps.rev {h:Heap}{as:List V}:∀{vs:List Value},Reps ws h as vs->Reps ws h as.reverse vs.reverse:=by
 induction as with
 |nil=>intro vs r;cases r.nil_inv;exact .nil
 |cons a as ih=>
  intro vs r;refine aY r ?_;clear r;intro v vs y2 r1 r2;subst y2
  (erw [List.reverse_cons];erw [List.reverse_cons])
  exact(ih r2).append (.one r1)
theorem J4 {α β:Type}{f g:α->Option β}(hfg:∀a b,f a=some b->g a=some b) (l:List α):(l.filterMap f).length=l.length->l.filterMap f=l.filterMap g:=by
 induction l with
 |nil=>exact fun uz=>rfl
 |cons a l ih=>
  intro h;rw [List.filterMap_cons] at h⊢;cases hf:f a with
  |none=>
   rw [hf] at h;exact absurd (List.length_filterMap_le f l) (Nat.not_le_of_lt (Nat.lt_of_succ_le (Nat.le_of_eq h.symm)))
  |some b=>
   rw [hf] at h
   (erw [List.filterMap_cons];erw [hfg a b hf])
   exact congrArg (b::·) (ih (Nat.succ.inj h))
theorem nZ {α:Type}{c:Prop}[Decidable c] {a b n m:α}(h1:a=n) (h2:¬c->b=n\/b=m):(if c then a else b)=n\/(if c then a else b)=m:=by
 by_cases h:c
 ·erw [if_pos h];exact .inl h1
 ·erw [if_neg h];exact h2 h
set_option tactic.hygienic true in
theorem Ex {ts:List Expr}{k:Nat}{value:Expr}(hs:pD value=true):swappedStores [.Tuple ts k p] value C.env=pure none\/swappedStores [.Tuple ts k p] value C.env=pure (some (qW ts)):=by
 cases value<;>try (left;rfl)
 rename_i vs k' p'
 refine nZ rfl fun uz=>nZ rfl fun uz=>nZ rfl fun h3=>nZ rfl fun uz=>.inr ?_;have hs':vs.all (constantsAlone 8)=false:=qS hs
 erw [hs']
 refine congrArg (fun l=>(pure (some l):Sem (Option (List Str)))) (J4 (fun a b h=>?_) ts (Decidable.byContradiction fun q=>h3 ((Bool.or_eq_true _ _).mpr (.inl (bne_iff_ne.mpr q)))));induction a using Expr.casesOn with
 |Name x q=>
  by_cases hc:(C.env.kindOf x==some .local &&q.line==(ts.head?.map (·.pos.line)).getD 0)=true
  ·have h':(if(C.env.kindOf x==some .local &&q.line==(ts.head?.map (·.pos.line)).getD 0)=true then some x else none)=some b:=h;rw [if_pos hc] at h';exact h'
  ·have h':(if(C.env.kindOf x==some .local &&q.line==(ts.head?.map (·.pos.line)).getD 0)=true then some x else none)=some b:=h;rw [if_neg hc] at h';exact ba h'
 |_=>exact ba h
theorem uD {as:List V}{v:Value}(R:Rel G C ws S s.heap) (hA:AOk A C.frs d) (ra:Rep ws s.heap (.tup as) v) {Q:List Value->Shared->Prop}{E:VP}
  (q:∀h' us,(∀b o,s.heap.get? b=some o->h'.get? b=some o)->Reps ws s.heap as us->us.length=as.length->Q us {s with heap:=h'}):wpAny (model G.prog G.w) A (unpackItems v as.length none) Q E s:=by
 refine af ra ?_;clear ra;intro _ y1;refine b0 y1 ?_;clear y1;intro l its y22 _ ht hr;subst y22;have e:as.length=its.toArray.size:=by(erw [List.size_toArray];erw [hr.length];with_reducible rfl)
 erw [e]
 refine wpAny_unpackItems_tuple hA.handled ht fun h' hx=>?_;exact q h' its (fun b o eb=>hx b o (Nat.ne_of_lt (Heap.lt_size eb)) eb) hr hr.length
theorem BG {ts:List Expr}{k:Nat}{is:List Nat}(hi:jt c ts=some is) (sc:ScOk G c C) {as:List V}{v:Value}(hl:as.length=is.length) (R:Rel G C ws S s.heap) (hA:AOk A C.frs d) (ra:Rep ws s.heap (.tup as) v) {Q:Unit->Shared->Prop}{E:VP}
  (q:∀s',Out G C ws s ws (cw S is as) s'->s.toks<=s'.toks->Q () s'):wpAny (model G.prog G.w) A (assign (.Tuple ts k p) C.env v) Q E s:=by
 refine oW (Ag (A:=A) hi sc) ?_;intro a1 _ a3 a4 _;refine az (wpAny_standAt ?_);unfold unpack
 (erw [a3];erw [a4];refine aZ (hl ..) ?_)
 refine az (wpAny_holding (uD R hA ra fun h' us kp rs el=>?_));have o1:Out G C ws s ws S {s with heap:=h'}:=Out.of_keeps R kp rfl rfl;exact Ad a1 hl o1.rel (rs.mv (Mv.of_keeps kp)) fun s' o t=>q s' (o1.trans o) t
theorem Fy {ts:List Expr}{k:Nat}{is:List Nat}{p1:Pos}(hi:jt c ts=some is) (hc:fV e=false) (hs:pD e=true) (hn:is.Nodup) (h1:SE G z F c me e):SS G z F c (.setT is me) (.Assign [.Tuple ts k p] e pos):=by
 intro C ws S s A d Q X Qm Em fc sc hF R hA ht hw q qx;refine nP hc (h1 sc hF R hA ht hw (fun ws1 S1 s1 a v o1 t1 ra h=>?_) qx);refine gn fun Pz kz=>?_;refine a8 (n5 h) ?_;intro as y1 hl hQ;subst y1;refine oV (Ag (A:=A) hi sc) ?_;intro a1 a2 a3 a4 a5 a6;refine kz ?_;clear kz Pz;refine av (Ex (C:=C) (p:=p) (ts:=ts) (k:=k) hs) (fun e1=>?_) fun e1=>?_
 ·erw [e1]
  refine aP ?_;refine aM (m:=assign (.Tuple ts k p) C.env v) (Q1:=fun uz=>Qm .next) (aE (BG hi sc hl o1.rel hA ra fun s2 o2 t2=>?_)) fun uz uz h₂=>aP h₂;exact q _ _ _ .next .next (o1.trans o2) (aW t1 t2) rfl hQ
 ·erw [e1]
  refine aP ?_;refine aR (zy ?_)
  (erw [a5];refine aZ (hl ..) ?_)
  refine aR (aE (uD o1.rel hA ra fun h' us kp rs el=>?_));have o2:Out G C ws1 s1 ws1 S1 {s1 with heap:=h'}:=Out.of_keeps o1.rel kp rfl rfl;have a2':=a2.rev;rw [←List.map_reverse] at a2';refine aR (aE (Ad a2' (by simpa using hl) o2.rel (rs.mv (Mv.of_keeps kp)).rev fun s3 o3 t3=>aP ?_));rw [E5 hl.symm hn] at o3;exact q _ _ _ .next .next ((o1.trans o2).trans o3) (aW t1 t3) rfl hQ
set_option tactic.hygienic true in
theorem FC {x:Str}{i:Nat}(hi:dU c x=some i) (hc:fV e=false) (h1:SE G z F c me e):SS G z F c (.set i me) (.Assign [.Name x p] e pos):=by
 intro C ws S s A d Q X Qm Em fc sc hF R hA ht hw q qx;refine af (nj hi sc) ?_;intro h1' h2';refine Io hc (h1 sc hF R hA ht hw (fun ws1 S1 s1 a v o1 t1 ra h=>?_) qx);refine bO (aE (ni (z:=true) (Qu:=fun uz s'=>s1.toks<=s'.toks->Qm .next s') o1.rel h1' h2' (sc.cell x) (nh hi sc) ra fun s2 o2 t2=>?_));exact q _ _ _ .next .next (o1.trans o2) (aW t1 t2) rfl h
set_option tactic.hygienic true in
theorem FB {x y:Str}{p1:Pos}(hc:fV e=false) (h1:SE G z F c me e) (h2:SE G z F c m2 (.Name y p1)):SS G z F c (.setAttr m2 x me) (.Assign [.Attribute (.Name y p1) x p] e pos):=by
 intro C ws S s A d Q X Qm Em fc sc hF R hA ht hw q qx;refine q8 hc (h1 sc hF R hA ht hw (fun ws1 S1 s1 a v o1 t1 ra h=>?_) qx);refine h2 sc hF o1.rel hA (bA ht t1) h (fun ws2 S2 s2 b u o2 t2 rb h=>?_) (qx.after o1 t1);refine oU h ?_;clear h;intro n Cl fs y3 hcell hok hfs hQ;subst y3;refine bO (aE (wpAny_mono (vb (Qm:=fun uz s'=>s2.toks<=s'.toks->Qm .next s') (Em:=fun uz uz=>False) o2.rel hcell (hF.field _ _ hok) hfs rb (ra.mv (o2.mv o1.rel)) fun s3 o3 t3=>?_) (fun uz uz x=>x) fun uz uz x=>x.elim));exact q _ _ _ .next .next ((o1.trans o2).trans o3) (aW (aW t1 t2) t3) rfl hQ
theorem E1 {n:Nat}{vs:List V}{k:Int}{a:V}{v u:Value}{t:Tok}(R:Rel G C ws S s.heap) (hc:S.st[n]? = some (.list vs)) (h0:0<=k) (h1:k<vs.length) (r:Rep ws s.heap (.obj n) v) (ra:Rep ws s.heap a u) {Q:Unit->Shared->Prop}{E:VP}
  (q:∀s',Out G C ws s ws (cX S n (.list (vs.set k.toNat a))) s'->Q () s'):wpAny (model G.prog G.w) A (setItem v (.int k t) u) Q E s:=by
 refine ag r ?_;clear r;intro p hp y2;subst y2;refine be (R.amb.cells _ _ _ hp hc) ?_;intro e hl y2;refine bd y2 ?_;clear y2;intro items m ho hr;have hlen:=hr.length;unfold sizeLine at hl;refine ki_setAt ho h0 (by omega) (by erw [List.size_toArray];exact aL [vs.length,items.length] [k] (.Lt aw (.c aa)) (.eq ae aa) (.Lt aw (.c ae)) h1 hlen) (q _ ?_);have hat:p.1∈[p.1,p.2]:=by simp
 have sb:∀b o,b≠p.1->s.heap.get? b=some o->(s.heap.update p.1 (Obj.mapSeq (·.setIfInBounds k.toNat u))).get? b=some o:=fun b o hb e=>(fq _ _ (Ne.symm hb)).trans e;have mv:=m9 (fa hp _ hat) sb;have new:=PySem.IsL.update (n:=m) ho (·.setIfInBounds k.toNat u);refine⟨R.upd hp hc hat sb (aI e (by simpa [sizeLine] using hl) (bB (items.set k.toNat u) (if(items.toArray.setIfInBounds k.toNat u).size==items.toArray.size then m else m+1) ?_ ((hr.set k.toNat ra).mv mv))),m8 hp hat sb ⟨_,new⟩,.refl,rfl,rfl⟩;(refine aZ (List.setIfInBounds_toArray ..) ?_);exact new
theorem Fz {y:Str}{p1:Pos}(hc:fV e=false) (h1:SE G z F c me e) (h2:SE G z F c m2 (.Name y p1)) (h3:SE G z F c m3 e3):SS G z F c (.setItem m2 m3 me) (.Assign [.Subscript (.Name y p1) e3 p] e pos):=by
 intro C ws S s A d Q X Qm Em fc sc hF R hA ht hw q qx;refine Im hc (h1 sc hF R hA ht hw (fun ws1 S1 s1 a v o1 t1 ra h=>?_) qx);refine h2 sc hF o1.rel hA (bA ht t1) h (fun ws2 S2 s2 b u o2 t2 rb h=>?_) (qx.after o1 t1);refine h3 sc hF o2.rel hA (bA ht (aW t1 t2)) h (fun ws3 S3 s3 b3 u3 o3 t3 rc h=>?_) ((qx.after o1 t1).after o2 t2);refine iK h ?_;clear h;intro n vs k y3 hcell y5 h0 hlt hQ;subst y3 y5;refine an rc.int_ ?_;intro t y1;subst y1;refine bO (aE (E1 o3.rel hcell h0 hlt (rb.mv (o3.mv o2.rel)) ((ra.mv (o2.mv o1.rel)).mv (o3.mv o2.rel)) fun s4 o4 t4=>?_));exact q _ _ _ .next .next (((o1.trans o2).trans o3).trans o4) (aW (aW (aW t1 t2) t3) t4) rfl hQ
theorem FD (h1:SE G z F c me e):SS G z F c (.ret me) (.Return (some e) pos):=by
 intro C ws S s A d Q X Qm Em fc sc hF R hA ht hw q qx;exact qY (h1 sc hF R hA ht hw (fun ws1 S1 s1 a v o1 t1 ra h=>q _ _ _ (.ret a) _ o1 t1 (aj v rfl ra) h) qx)
theorem FF {b o:List Stmt}{mb mo:List MS}(h1:ST G z F c me e) (h2:gK G z F c mb b) (h3:gK G z F c mo o):SS G z F c (.ite me mb mo) (.If e b o pos):=by
 intro C ws S s A d Q X Qm Em fc sc hF R hA ht hw q qx;refine Id (h1 sc hF R hA ht hw (fun ws1 S1 s1 b o1 t1 h=>?_) qx);induction b with
 |true=>exact h2 fc sc hF o1.rel hA (bA ht t1) (h.1 rfl) (q.after o1 t1) (qx.after o1 t1)
 |false=>exact h3 fc sc hF o1.rel hA (bA ht t1) (h.2 rfl) (q.after o1 t1) (qx.after o1 t1)
theorem zT {x:Str}{i:Nat}(h:iD c x=some i) (sc:ScOk G c C):C.nm[i]? = some x/\(x==("__debug__":Str))=false/\(x==("__classdict__":Str))=false:=
 ⟨sc.idx (dF h).2,l0 (bb (dF h).1).1⟩
theorem EC {x:Str}{i:Nat}(h:dU c x=some i):(x==("__classdict__":Str))=false:=(l0 (bb (dF h).1).1).2
theorem Ma {n:Nat}{x y:List UInt8}{v:Value}{t:Tok}(R:Rel G C ws S s.heap) (hA:AOk A C.frs d) (hz:z=true) (hc:S.st[n]? = some (.barr x)) (hl:x.length+y.length<=sizeLine) (r:Rep ws s.heap (.obj n) v) {Q:VP}{E:VP}
  (q:∀s',Out G C ws s ws (cX S n (.barr (x++y))) s'->Q v s'):ah z (model G.prog G.w) A (inplaceOp .Add v (.bytes y.toArray t)) Q E s:=by
 refine ag r ?_;clear r;intro p hp y2;subst y2;refine be (R.amb.cells _ _ _ hp hc) ?_;intro e hlx ho;refine Mp hz hA.guards ho (by simpa using hl) (q _ ?_);have hat:p.1∈[p.1,p.2]:=by simp
 have sb:∀b o,b≠p.1->s.heap.get? b=some o->(s.heap.update p.1 (Obj.mapBytearray (·++y.toArray))).get? b=some o:=fun b o hb e=>(fq _ _ (Ne.symm hb)).trans e;have new:(s.heap.update p.1 (Obj.mapBytearray (·++y.toArray))).get? p.1=some {cls:=.type "bytearray",data:=.bytearray (x++y).toArray 0}:=by
  (refine aZ (List.append_toArray ..) ?_);exact Heap.get?_update_self (Obj.mapBytearray (·++y.toArray)) ho rfl
 exact⟨R.upd hp hc hat sb (aI e (by simpa using hl) new),m8 hp hat sb ⟨_,new⟩,.refl,rfl,rfl⟩
set_option tactic.hygienic true in
theorem FJ {x:Str}{i:Nat}{op:Operator}(hi:dU c x=some i) (h1:SE G z F c me e):SS G z F c (.aug i op me) (.AugAssign (.Name x p) op e pos):=by
 intro C ws S s A d Q X Qm Em fc sc hF R hA ht hw q qx;refine ag (mq hw) ?_;intro old hold hw';refine af (nj hi sc) ?_;intro h1' h2';refine Ik (aE (iE R h1' hold (EC hi) fun ov hro=>?_));refine h1 sc hF R hA ht hw' (fun ws1 S1 s1 b v o1 t1 ra h=>?_) qx;have hro1:=hro.mv (o1.mv R);refine af (za h) ?_;intro y0 h;subst y0;induction old using V.casesOn with
 |int x'=>
  refine ag (da h) ?_;intro y' y1 h;subst y1;refine an hro1.int_ ?_;intro t y1;subst y1;refine an ra.int_ ?_;intro t' y1;subst y1;refine aE (iadd_int ?_);refine bO (aE (ni (z:=true) (s:={s1 with toks:=s1.toks+1}) (Qu:=fun uz s'=>s1.toks+1<=s'.toks->Qm .next s') (Em:=fun e s'=>s1.toks+1<=s'.toks->Em e s') o1.rel h1' h2' (sc.cell x) (nh hi sc) (cJ (x:=x'+y')) fun s2 o2 t2=>?_));exact q _ _ _ .next .next (o1.trans ((Out.of_keeps (s1:={s1 with toks:=s1.toks+1}) o1.rel (fun uz uz e=>e) rfl rfl).trans o2)) (aW t1 (Nat.le_of_succ_le t2)) rfl h
 |obj n=>
  refine a8 (Ab h) ?_;intro y y1 hz y3;subst y1;refine a8 y3 ?_;clear y3;intro xs hc hl hQ;refine af ra.bytes_ ?_;intro _ y1;refine an y1 ?_;clear y1;intro t y21;subst y21;refine bO (Ma o1.rel hA (hF.zz▸hz) hc hl hro1 fun s2 o2 t12=>?_);refine bO (aE (ni (z:=true) (Qu:=fun uz s'=>s2.toks<=s'.toks->Qm .next s') (Em:=fun e s'=>s2.toks<=s'.toks->Em e s') o2.rel h1' h2' (sc.cell x) (nh hi sc) (hro1.mv (o2.mv o1.rel)) fun s3 o3 t3=>?_));exact q _ _ _ .next .next ((o1.trans o2).trans o3) (aW (aW t1 t12) t3) rfl hQ
 |_=>exact h.elim
set_option tactic.hygienic true in
theorem FI {x y:Str}{i:Nat}{op:Operator}{p1:Pos}(hi:iD c y=some i) (h1:SE G z F c me e):SS G z F c (.augAttr i x op me) (.AugAssign (.Attribute (.Name y p1) x p) op e pos):=by
 intro C ws S s A d Q X Qm Em fc sc hF R hA ht hw q qx;refine lq hw ?_;clear hw;intro n Cl fs k hold hcell hfl hok hfs hw;refine be (zT hi sc) ?_;intro h1' hd1 hd2;refine Il (aE (wpAny_Name (iE R h1' hold hd2 fun ov hro=>?_) hd1));refine bO (aE (BD (k:=fun c=>c=.int k) R hcell hfl (by simp) (hF.field _ _ hok) hro rfl fun h' tk b u kk hrb hb tt=>?_));cases hb;refine an hrb.int_ ?_;intro t y1;subst y1;have o0:Out G C ws s ws S {s with heap:=h',toks:=tk}:=Out.of_keeps R kk rfl rfl;refine h1 sc hF o0.rel hA (bA ht tt) hw (fun ws1 S1 s1 b v o1 t1 ra h=>?_) (qx.after o0 tt);refine af (za h) ?_;intro y0 h;subst y0
 ·refine gn fun Pz kz=>?_;refine a8 (da h) ?_;intro y' y1 y2 hQ;subst y1 y2;refine an ra.int_ ?_;intro t' y1;subst y1;refine kz ?_;clear kz Pz;refine aE (iadd_int ?_);have o2:=Out.of_keeps (s1:={s1 with toks:=s1.toks+1}) o1.rel (fun uz uz e=>e) rfl rfl;refine bO (aE (wpAny_mono (vb (s:={s1 with toks:=s1.toks+1}) (Qm:=fun uz s'=>s1.toks+1<=s'.toks->Qm .next s') (Em:=fun uz uz=>False) o2.rel hcell (hF.field _ _ hok) hfs ((hro.mv (o0.mv R)).mv (o1.mv o0.rel)) (cJ (x:=k+y')) fun s3 o3 t3=>?_) (fun uz uz x=>x) fun uz uz x=>x.elim));exact q _ _ _ .next .next (((o0.trans o1).trans o2).trans o3) (aW tt (aW t1 (Nat.le_of_succ_le t3))) rfl hQ
end
end
section
set_option backward.match.sparseCases true
section
variable {G:Gd}{z:Bool}{F:Fx}{c:Cc}{C:Cx}{ws ws':Wd}{S S':St}{A:Around}{s s':Shared}{d:Nat}{me m1 m2 m3:ME}{e e1 e2 e3:Expr}{pos p:Pos}{st:Stmt}{sts:List Stmt}{ms:MS}{mss:List MS}
 {Q:Fl->St->Prop} {X:XE} {Qm:Flow->Shared->Prop} {Em:VP}
theorem zh (fc:jZ C) (R:Rel G C ws S s.heap) (hA:AOk A C.frs d) (qx:WXt G C ws s X Em):WXt G C ws s X (iZ z (model G.prog G.w) A C.env (oD z (model G.prog G.w) A C.env Em)):=by
 intro ws' S' s' x e o ht hx hX;refine bd fc ?_;clear fc;intro outer L hC hf;refine aE (qP R o.rel.amb hA.frames hC hf o.step.dom hx fun h1 t1 r1=>?_);have o1:=Out.touch R o t1;refine aR (m:=field (.ref e) 1) ?_;refine r1.el fun a1 a2 oe vs dd es n t b1 b2 b3 b4 b5 b6 b7 b8 T oT ts c1 uz uz uz uz uz uz uz uz=>?_;refine aE (wpAny_field b1 b3 c1 ?_);refine f6 (by simp) ?_
 erw [hf]
 refine aE (om (fr:=C.fr) r1 fun h2 t2 r2=>?_);exact qx _ _ _ _ _ (Out.touch R o1 t2) ht (r2.obj (.inr (aj L hf rfl))) hX
set_option tactic.hygienic true in
theorem Fv {t:Expr}{b:List Stmt}{mb:List MS}(h1:ST G z F c me t) (h2:gK G z F c mb b):SS G z F c (.while me mb) (.While t b [] pos):=by
 intro C ws S s A d Q X Qm Em fc sc hF R hA ht hw q qx;refine gn fun Pz kz=>?_;refine ag hw ?_;clear hw;intro I y1 hw;refine an y1 ?_;clear y1;intro n hI;refine kz ?_;clear kz Pz;refine H9 ?_;have qn:=zh (z:=z) fc R hA qx;refine KX (fun n s'=>∃ws' S',Out G C ws s ws' S' s'/\s.toks<=s'.toks/\I n S') (fun n s1 hs=>?_) n (bj ws S (.refl R) (bw _) hI);refine aY hs ?_;clear hs;intro ws1 S1 o1 t1 hI1;refine h1 sc hF o1.rel hA (bA ht t1) (hw n S1 hI1) (fun ws2 S2 s2 b o2 t2 h=>?_) (qn.after o1 t1);have o12:=o1.trans o2;have t12:=aW t1 t2;induction b with
 |false=>exact q _ _ _ .next .next o12 t12 rfl (h.2 rfl)
 |true=>
  refine h2 fc sc hF o2.rel hA (bA ht t12) (h.1 rfl) (fun ws3 S3 s3 f ff o3 t3 rf h=>?_) ((qn.after o1 t1).after o2 t2);have o13:=o12.trans o3;have t13:=aW t12 t3;induction f with
  |next=>cases rf;(refine ag h ?_;clear h;intro m hm hI);exact(aj m hm (bj _ _ o13 t13 hI))
  |cont=>cases rf;(refine ag h ?_;clear h;intro m hm hI);exact(aj m hm (bj _ _ o13 t13 hI))
  |brk=>cases rf;exact q _ _ _ .next .next o13 t13 rfl h
  |ret a=>(refine ag rf ?_;clear rf;intro v y1 r;subst y1);exact q _ _ _ (.ret a) _ o13 t13 (aj v rfl r) h
theorem nY {st st':List Cell}{a:V}{items:List V}(h:d6 st a=some items) (e:∀n,a=.obj n->st'[n]? = st[n]?):d6 st' a=some items:=by
 induction a using V.casesOn with
 |obj n=>exact(congrArg (Option.bind · kF) (e n rfl)).trans h
 |_=>exact h
theorem IK {target:Expr}{I:Addr}{i:Nat}{a:V}{r v:Value}{Q:Unit->Shared->Prop}{E:VP}(hit:ItAt s.heap I i a r) (q:Q () s):wpAny (model G.prog G.w) A (letOwnedTupleGo target (.ref I) v) Q E s:=by
 have key:∀{o:Obj} {T:String} {vs:Array Value},s.heap.get? I=some o->o.cls=.type T->o.data=.fields vs->(["enumerate","zip","dict_itemiterator","dict_reverseitemiterator","odict_iterator","itertools.zip_longest","itertools.pairwise"].contains T)=false->
   wpAny (model G.prog G.w) A (do
    let (.ref r,.ref a):=(Value.ref I,v) | return
    let o ←load r
    match o.cls,o.data with
    | .type n,.fields vs=>
     if ["enumerate","zip","dict_itemiterator","dict_reverseitemiterator","odict_iterator","itertools.zip_longest","itertools.pairwise"].contains n&&vs[0]? == some (rawInt a) then
      rule "for.unpacks-the-owned-tuple"
      updateField r 0 .none
    |_,_=>pure ()) Q E s:=by
  intro o T vs ho hc hd hT;cases v<;>try exact aX q
  refine az (wpAny_load ho ?_)
  (erw [hc];erw [hd])
  dsimp only
  (erw [if_neg (by(refine bx (hT ..) ?_;refine bx (Bool.false_and ..) ?_);simp)])
  exact aX q
 have fin:wpAny (model G.prog G.w) A (do
    let (.ref r,.ref a):=(Value.ref I,v) | return
    let o ←load r
    match o.cls,o.data with
    | .type n,.fields vs=>
     if ["enumerate","zip","dict_itemiterator","dict_reverseitemiterator","odict_iterator","itertools.zip_longest","itertools.pairwise"].contains n&&vs[0]? == some (rawInt a) then
      rule "for.unpacks-the-owned-tuple"
      updateField r 0 .none
    |_,_=>pure ()) Q E s:=by
  cases a<;>simp only [ItAt] at hit
  case lst=>(refine ag hit ?_;clear hit;intro l y1 y2;subst y1;refine a8 y2 ?_;clear y2;intro o h1 h2 h3);exact key h1 h2 h3 (by decide)
  case obj=>(refine ag hit ?_;clear hit;intro l y1 y2;subst y1;refine a8 y2 ?_;clear y2;intro o h1 h2 h3);exact key h1 h2 h3 (by decide)
  case tup=>(refine ag hit ?_;clear hit;intro l y1 y2;subst y1;refine a8 y2 ?_;clear y2;intro o h1 h2 h3);exact key h1 h2 h3 (by decide)
  case str=>(refine aY hit ?_;clear hit;intro T t hT y3 y4;subst y3;refine a8 y4 ?_;clear y4;intro o h1 h2 h3);exact key h1 h2 h3 (by((focus (refine aK hT ?_ ?_<;>clear hT;rintro rfl;rotate_left;rintro rfl)))<;>decide)
  case rng=>exact key hit rfl rfl (by decide)
 cases target<;>first | exact aX q | exact fin
def tX (G:Gd) (C:Cx) (A:Around) (target:Expr) (is:List Nat):Prop:=
 ∀{ws:Wd} {S:St} {s:Shared} {a:V} {v:Value} {k:St->Prop} {Q:Unit->Shared->Prop} {E:VP},Rel G C ws S s.heap->Rep ws s.heap a v->jT S is a k->
  (∀S' s',Out G C ws s ws S' s'->s.toks<=s'.toks->k S'->Q () s')->wpAny (model G.prog G.w) A (assign target C.env v) Q E s
theorem LP {x:Str}{i:Nat}(h:dU c x=some i) (sc:ScOk G c C):tX G C A (.Name x p) [i]:=by
 intro ws S s a v k Q E R ra hb q;exact ng h sc R ra fun s' o t=>q _ s' o t hb
theorem LO {ts:List Expr}{kk:Nat}{is:List Nat}(h:jt c ts=some is) (hl:2<=is.length) (sc:ScOk G c C) (hA:AOk A C.frs d):tX G C A (.Tuple ts kk p) is:=by
 intro ws S s a v k Q E R ra hb q;cases is with
 |nil=>exact absurd hl (by decide)
 |cons i is=>cases is with
  |nil=>exact absurd hl (Nat.not_succ_le_self 1:¬2<=1)
  |cons j is=>
   refine a8 (n5 hb) ?_;intro vs y1 e hk;subst y1;exact BG h sc e R hA ra fun s' o t=>q _ s' o t hk
theorem FG {target it:Expr}{b:List Stmt}{mb:List MS}{is:List Nat}(hs:∀env x,foldedSetIterable it env x=pure x) (hb:∀{C:Cx}{A:Around}{d:Nat},ScOk G c C->AOk A C.frs d->tX G C A target is) (h1:SE G z F c me it) (h2:gK G z F c mb b):SS G z F c (.for is me mb) (.For target it b [] pos):=by
 intro C ws S s A d Q X Qm Em fc sc hF R hA ht hw q qx;refine Ie (h1 sc hF R hA ht hw (fun ws1 S1 s1 a v o1 t1 ra h=>?_) qx) (hs _);refine ag h ?_;clear h;intro items hit y2;refine a8 y2 ?_;clear y2;intro J hJ hstep hend;refine bO (aE (z5 o1.rel hit ra fun o io t2=>?_));generalize hI:s1.heap.objs.size=I at io⊢;have hnone:s1.heap.get? I=none:=gc _ (Nat.le_of_eq hI);have kp:∀b ob,s1.heap.get? b=some ob->(s1.heap.push o).get? b=some ob:=fun uz uz e=>bL _ e;have o2:Out G C ws1 s1 ws1 S1 {s1 with heap:=s1.heap.push o}:=Out.of_keeps o1.rel kp rfl rfl;have hbase:G.base.get? I=none:=by
  cases e:G.base.get? I with
  |none=>rfl
  |some ob=>rw [o1.rel.amb.base I ob e] at hnone;exact dy hnone
 have htab:I≠G.tab:=by
  rintro rfl;refine ag o1.rel.amb.tab ?_;intro ps q1 _;rw [hnone] at q1;exact ba q1
 have qn:=zh (z:=z) fc o1.rel hA (qx.after o1 t1);refine K5 (fun n s'=>∃ws' S' k,Out G C ws1 s1 ws' S' s'/\s1.toks<=s'.toks/\k<=items.length/\n=items.length-k/\ItAt s'.heap I k a v/\Rep ws' s'.heap a v/\I∉tr ws'/\J (items.drop k) S')
  (fun n s2 hs2=>?_) items.length (tw ws1 S1 0 o2 t2 (Nat.zero_le _) (by simp) io (ra.mv (Mv.of_keeps kp)) (gH o1.rel.amb (Nat.le_of_eq hI)) (by simpa using hJ))
 (obtain⟨ws2,S2,k,p1,p2,hk,y6,hat,rv,hnt,hJ2⟩:=hs2;subst y6)
 have hpriv:=hat.priv;have privy:∀{h':Heap} {tk:Nat},(∀b o,b≠I->s2.heap.get? b=some o->h'.get? b=some o)->(∃o',h'.get? I=some o')->Out G C ws1 s1 ws2 S2 {s2 with heap:=h',toks:=tk}:=fun{h' tk} kk hI'=>by
  refine⟨p1.rel.privy hpriv kk htab hbase,⟨fun b o e n f=>?_,fun b o e n f=>?_,fun b o e=>?_⟩,p1.grow,p1.gens,p1.os⟩
  ·exact kk b o (fun q=>by rw [q,hnone] at e;exact ba e) (p1.step.keep b o e n f)
  ·refine an (p1.step.frk b o e n f) ?_;intro sl e1;exact⟨sl,kk b _ (fun q=>by rw [q,hnone] at e;exact ba e) e1⟩
  ·refine an (p1.step.dom b o e) ?_;intro o1 e1;exact⟨o1,kk b _ (fun q=>by rw [q,hnone] at e;exact ba e) e1⟩
 by_cases hlt:k<items.length
 ·have hdrop:items.drop k=items[k]::items.drop (k+1):=(List.getElem_cons_drop hlt).symm;rw [hdrop] at hJ2;refine af (hstep _ _ _ hJ2) ?_;intro hsame hbind;have hit2:d6 S2.st a=some items:=nY hit hsame;refine bO (aE (zr p1.rel hit2 rv hat (b:=items[k]) (by simp [hlt]) hA.handled fun h' tk u hat' kk ru t3=>?_));obtain⟨oI,hoI⟩:∃o',h'.get? I=some o':=let ⟨o,_,e,_⟩:=hat'.priv;⟨o,e⟩;have p3:=privy (tk:=tk) kk ⟨_,hoI⟩;have mv:Mv ws2 s2.heap ws2 h':=hpriv.mv kk;refine bO (aE (IK (s:={s2 with heap:=h',toks:=tk}) hat' fun t4=>?_));refine bO (aE (hb sc hA (s:={s2 with heap:=h',toks:=tk}) p3.rel (ru.mv mv) hbind fun S3 s3 o3 t3' hw3 t5=>?_));have t15:s1.toks<=s3.toks:=aW p2 (aW t3 t3');have p5:=p3.trans o3;refine h2 fc sc hF p5.rel hA (bA ht (aW t1 t15)) hw3 (fun ws4 S4 s4 f ff o4 t6 rf h=>?_) (qn.after p5 t15);have p6:=p5.trans o4;have t16:=aW t15 t6;have keepI:∀{w1 w2:Wd} {Sa Sb:St} {sa sb:Shared},Out G C w1 sa w2 Sb sb->Rel G C w1 Sa sa.heap->I∉tr w1->Priv sa.heap I->(∀o,sa.heap.get? I=some o->sb.heap.get? I=some o)/\I∉tr w2:=fun{w1 w2 Sa Sb sa sb} oo RR hn pp=>by
   refine aY (id pp) ?_;intro op vs e1 e2 _;have hno:=RR.notOwn e1 (by simp [e2]) (by simp [e2]);refine⟨fun o e=>oo.step.keep I o e (fun q=>?_) hno.2,fun q=>?_⟩
   ·refine av (bC q) (fun q=>?_) fun q=>?_
    ·exact htab q
    ·exact(dI q).elim hno.1 hn
   ·rw [oo.grow.new I q hn] at e1;exact ba e1
  refine af (keepI o3 p3.rel hnt hat'.priv) ?_;intro k3 n3;have hat3:=hat'.at k3;refine af (keepI o4 p5.rel n3 hat3.priv) ?_;intro k4 n4;have hat4:=hat3.at k4;have rv4:Rep ws4 s4.heap a v:=((rv.mv mv).mv (o3.mv p3.rel)).mv (o4.mv p5.rel);have again:J (items.drop (k+1)) S4->∃m,m<items.length-k/\∃ws' S' k,Out G C ws1 s1 ws' S' s4/\s1.toks<=s4.toks/\k<=items.length/\m=items.length-k/\ItAt s4.heap I k a v/\Rep ws' s4.heap a v/\I∉tr ws'/\J (items.drop k) S':=fun hJ=>
   (aj (items.length-(k+1)) (bQ [k,items.length,items.length-(k+1),items.length-k] [] (.lt aa ae) (.sb ai ae (.a aa (.k 1))) (.sb aG ae aa) (.lt ai aG) hlt (bg (items.length) (k+1)) (bg (items.length) (k))) (tw ws4 S4 (k+1) p6 t16 hlt rfl hat4 rv4 n4 hJ))
  induction f with
  |next=>cases rf;exact again h
  |cont=>cases rf;exact again h
  |brk=>cases rf;exact q _ _ _ .next .next (o1.trans p6) (aW t1 t16) rfl h
  |ret a=>(refine ag rf ?_;clear rf;intro v y1 r;subst y1);exact q _ _ _ (.ret a) _ (o1.trans p6) (aW t1 t16) (aj v rfl r) h
 ·have hkl:k=items.length:=by exact aL [k,items.length] [] (.le aa ae) (.not (.lt aa ae)) (.eq aa ae) hk hlt
  subst hkl;rw [List.drop_length] at hJ2;refine af (hend _ hJ2) ?_;intro hsame hQ;refine aE (zt p1.rel (nY hit hsame) rv hat hA.handled fun h' kk=>?_);have p3:Out G C ws1 s1 ws2 S2 {s2 with heap:=h'}:=by
   have:=privy (h':=h') (tk:=s2.toks) kk
   refine⟨p1.rel.privy hpriv kk htab hbase,⟨fun b o e n f=>?_,fun b o e n f=>?_,fun b o e=>?_⟩,p1.grow,p1.gens,p1.os⟩
   ·exact kk b o (fun q=>by rw [q,hnone] at e;exact ba e) (p1.step.keep b o e n f)
   ·refine an (p1.step.frk b o e n f) ?_;intro sl e1;exact⟨sl,kk b _ (fun q=>by rw [q,hnone] at e;exact ba e) e1⟩
   ·refine an (p1.step.dom b o e) ?_;intro o1 e1;exact⟨o1,kk b _ (fun q=>by rw [q,hnone] at e;exact ba e) e1⟩
  exact q _ _ _ .next .next (o1.trans p3) (aW t1 p2) rfl hQ
end
end
section
set_option backward.match.sparseCases true
theorem LQ {k:Str->Option NameKind}{x:Str}{binds:List (Str×Value)}:∀{m:Str->Option Value},x∉binds.map (·.1)->bindL k binds m x=m x:=by
 induction binds with
 |nil=>exact fun{m} _=>rfl
 |cons p r ih=>
  intro m h;obtain⟨n,v⟩:=p;unfold bindL;rw [ih (fun q=>h (.tail _ q))]
  split
  ·exact if_neg (fun q:x=n=>h (q▸.head _))
  ·rfl
theorem LR {k:Str->Option NameKind}{x:Str}{v:Value}(hk:k x=some .local ) {binds:List (Str×Value)}:∀{m:Str->Option Value},(binds.map (·.1)).Nodup->(x,v)∈binds->bindL k binds m x=some v:=by
 induction binds with
 |nil=>exact fun{m} _ h=>nomatch h
 |cons p r ih=>
  intro m hn h;obtain⟨n,u⟩:=p;have hn:=List.nodup_cons.mp hn;unfold bindL;refine av (bC h) (fun e=>?_) fun h=>?_
  ·cases e
   rw [LQ hn.1,if_pos hk,if_pos rfl]
  ·exact ih hn.2 h
theorem LS {k:Str->Option NameKind}{x:Str}{binds:List (Str×Value)}:∀{m:Str->Option Value},x∉binds.map (·.1)->bindC k binds m x=m x:=by
 induction binds with
 |nil=>exact fun{m} _=>rfl
 |cons p r ih=>
  intro m h;obtain⟨n,v⟩:=p;unfold bindC;rw [ih (fun q=>h (.tail _ q))]
  split
  ·rfl
  ·exact if_neg (fun q:x=n=>h (q▸.head _))
theorem LU {k:Str->Option NameKind}{x:Str}{v:Value}(hk:k x≠some .local ) {binds:List (Str×Value)}:∀{m:Str->Option Value},(binds.map (·.1)).Nodup->(x,v)∈binds->bindC k binds m x=some v:=by
 induction binds with
 |nil=>exact fun{m} _ h=>nomatch h
 |cons p r ih=>
  intro m hn h;obtain⟨n,u⟩:=p;have hn:=List.nodup_cons.mp hn;unfold bindC;refine av (bC h) (fun e=>?_) fun h=>?_
  ·cases e
   rw [LS hn.1,if_neg hk,if_pos rfl]
  ·exact ih hn.2 h
theorem AOk.deeper {A:Around}{frs:List Env}{d:Nat}(h:AOk A frs (d+1)) (env:Env):AOk (A.deeper env) (env::frs) d:=by
 refine⟨?_,h.handled,h.guards,?_,?_⟩
 ·show A.frames.map (env::·)=_;erw [h.frames];rfl
 ·have:=h.depth;show A.depth+1+4*d<=600;exact al [A.depth,d] [] (.le (.a aa (.m 4 (.a ae (.k 1)))) (.k 600)) (.le (.a (.a aa (.k 1)) (.m 4 ae)) (.k 600)) this
 ·have:=h.units;show A.units+3+20*d<=5000;exact al [A.units,d] [] (.le (.a aa (.m 20 (.a ae (.k 1)))) (.k 5000)) (.le (.a (.a aa (.k 3)) (.m 20 ae)) (.k 5000)) this
noncomputable def bD (as:List V) (n:Nat):List (Option V):=as.map some++List.replicate (n-as.length) none
theorem CW {α β:Type}(l:List α):∀r:List β,(l.zip r).map (·.1)=l.take r.length:=by
 induction l with
 |nil=>exact fun r=>(List.take_nil).symm
 |cons a l ih=>
  intro r;induction r with
  |nil=>rfl
  |cons b r=>exact congrArg (a::·) (ih r)
structure FdOk (fd:FuncData) (nm:List Str) (body:List Stmt):Prop where
 co:fd.scope.isCoroutine=false
 gen:fd.scope.isGenerator=false
 kind:fd.scope.kind=.function
 body:fd.body=.stmts body
 clo:fd.closure=[]
 glob:fd.globals=mainGlobals
 blt:fd.builtins=builtinsNs
 nodup:nm.Nodup
 kinds:∀x∈nm,fd.scope.names.lookup x=some .local\/fd.scope.names.lookup x=some .cell
theorem rM {G:Gd}{frs:List Env}{ws:Wd}{st:List Cell}{A:Around}{s:Shared}{d:Nat}{z:Bool}{hb':Option (Int×Int)}{f:Addr}{o:Obj}{fd:FuncData}{nm:List Str}{body:List Stmt}{args:Args}{as:List V}{us:List Value}{R:Result->Shared->Prop}
  (am:Amb G frs ws st s.heap) (hA:AOk A frs (d+1)) (hl:G.K.lookup f=some o) (ho:o.data=.func fd) (hcd:codeIn G.K fd.code fd.qualname=true) (hf:FdOk fd nm body) (hlen:as.length<=nm.length)
  (hb:BindsTo s fd args (nm.zip us)) (ra:Reps ws s.heap as us)
  (h:∀C s1,C.frs=C.env::frs->jZ C->ScOk G ⟨G.K,fd.scope,nm,fd.code,fd.qualname ++ ".<locals>.",hb'⟩ C->Rel G C ws ⟨bD as nm.length,st⟩ s1.heap->AOk (A.deeper C.env) C.frs d->(∀b o,s.heap.get? b=some o->s1.heap.get? b=some o)->s1.gens=s.gens->s1.os=s.os->s.toks<=s1.toks->
   (∀b∈C.own,s.heap.get? b=none)->(∀L,C.env.frame=some L->s.heap.get? L=none)->
   ah z (model G.prog G.w) (A.deeper C.env) (execs body C.env) (fun f s'=>R (.ok (.ret (match f with | .ret v=>v | _=>.none))) s')
    (fun e s'=>ah z (model G.prog G.w) (A.deeper C.env) (leaving C.env e) (fun uz s''=>R (.error e) s'') (fun e' s''=>R (.error e') s'') s') s1) :
  cn z (model G.prog G.w) A (.call (.ref f) args) R s:=by
 have X:=G.X.keeps am.base;refine K3 hA.room (X _ _ hl) ho hf.co hf.gen hf.body (codeRec_of X hcd) ?_;refine aE (hb _ _ _ _ ?_)
 erw [hf.clo]
 have hzip:(nm.zip us).map (·.1)=nm.take us.length:=by
  exact CW _ _
 have hsub:∀p∈nm.zip us,p.1∈nm:=fun p hp=>(List.of_mem_zip hp).1;refine bO (aE (wpAny_newFunctionEnv_cells hf.kind (fun x hx=>?_) ?_))
 ·refine av (hf.kinds x.1 (hsub x hx)) (fun e=>?_) fun e=>?_
  ·exact .inl e
  ·exact .inr ⟨e,cellsFrom_some _ _ _ (.inl e)⟩
 intro env henv s2 hic htk;have hk:s.heap.objs.size<=env.locals:=hic.toInCall.fresh;have keep:=hic.toInCall.keep;have fresh:∀{b:Addr},s.heap.objs.size<=b->s.heap.get? b=none:=fun{b} e=>gc _ e;have base_none:∀{b:Addr},s.heap.get? b=none->G.base.get? b=none:=fun{b} e=>by
  cases q:G.base.get? b with
  |none=>rfl
  |some o=>rw [am.base b o q] at e;exact dy e
 have tr_none:∀{b:Addr},s.heap.get? b=none->b∉tr ws:=fun{b} e q=>by
  (refine ag (am.trThere q) ?_;intro o ho _);rw [e] at ho;exact ba ho
 have eF:env.frame=some env.locals:=by erw [henv];rfl
 have eS:env.scope=fd.scope:=by erw [henv];rfl
 have eG:env.globals=mainGlobals:=by erw [henv];exact hf.glob
 have eB:env.builtins=builtinsNs:=by erw [henv];exact hf.blt
 have eL:env.locals=s.heap.objs.size:=by erw [henv];rfl
 have eC:env.cells=cellsFrom (s.heap.objs.size+1) fd.scope.names []:=by erw [henv];rfl
 have kindOf:∀x,env.kindOf x=fd.scope.names.lookup x:=fun x=>by unfold Env.kindOf;(erw [eS];with_reducible rfl)
 have nl:s.heap.get? env.locals=none:=fresh hk;refine du hic.toInCall.same ?_;intro h' tk hs2;refine cu (id hic.toInCall.ns) ?_;intro oL esL epL hoL hdL hrL;have cellNew:∀{x c},env.cells.lookup x=some c->s.heap.get? c=none:=fun{x c} e=>by
  have:=hic.above x c (mem_of_lookup e)
  exact fresh (Nat.le_of_lt (Nat.lt_of_le_of_lt hk this))
 have hcl:∀x,env.kindOf x=some .cell->∃a,env.cells.lookup x=some a:=fun x e=>by
  rw [kindOf] at e;have:=cellsFrom_some (x:=x) fd.scope.names (s.heap.objs.size+1) [] (.inl e);rw [←eC] at this;exact Option.isSome_iff_exists.mp this
 refine⟨G.T.nolimit.keeps fun b o e=>keep b o (am.base b o e),?_⟩;refine K4 ?_;have own:∀a,a∈env.locals::env.cells.filterMap (fun p=>env.cells.lookup p.1)->a=env.locals\/∃x,env.cells.lookup x=some a:=fun a ha=>by
  refine av (bC ha) (fun e=>?_) fun ha=>?_
  ·exact .inl e
  ·refine ag (List.mem_filterMap.mp ha) ?_;intro p _ hp;exact .inr ⟨p.1,hp⟩
 let C:Cx:={env:=env,frs:=env::frs,own:=env.locals::env.cells.filterMap (fun p=>env.cells.lookup p.1),nm:=nm};have rel:Rel G C ws ⟨bD as nm.length,st⟩ s2.heap:=by
  refine⟨?_,?_⟩
  ·have a2:=am.keeps keep;refine⟨a2.base,fun e he=>?_,a2.tab,a2.tabF,a2.len,a2.cells,a2.fresh,a2.apart⟩;refine av (bC he) (fun q=>?_) fun he=>?_
   ·erw [q]
    exact⟨by(erw [eS];erw [hf.kind]);simp,env.locals,oL,_,epL,eF,hoL,hdL,base_none nl,tr_none nl⟩
   ·exact a2.frames e he
  ·refine⟨by erw [eS];exact hf.kind,eG,eB,(aj _ hic.toInCall.ns (fun i x a e1 e2=>?_)),fun x c e=>(aI (⟨_,hic.cell x c e⟩) (tr_none (cellNew e)) (base_none (cellNew e))),fun x y c e1 e2=>?_,.head _,own,⟨base_none nl,tr_none nl⟩,?_,hf.nodup,(CC env frs rfl (by erw [eS];exact hf.gen) (by erw [eS];exact hf.co) eB eG)⟩
   ·have hi:i<as.length:=by
     refine av (Nat.lt_or_ge i as.length) (fun hc=>?_) fun hc=>?_
     ·exact hc
     exfalso
     simp only [bD] at e2;rw [List.getElem?_append_right (by simpa using hc)] at e2;have:=List.eq_of_mem_replicate (List.mem_of_getElem? e2);exact dy this
    simp only [bD] at e2;rw [dT (by simpa using hi),List.getElem?_map] at e2;have ha:as[i]? = some a:=by
     cases q:as[i]? with
     |none=>rw [q] at e2;cases e2
     |some b=>rw [q] at e2;cases e2;rfl
    refine ag (ra.get ha) ?_;intro v hv rv;refine aj v (rv.mv (Mv.of_keeps keep)) ?_;have hmem:(x,v)∈nm.zip us:=List.mem_of_getElem? (i:=i) (by rw [List.getElem?_zip_eq_some];exact⟨e1,hv⟩);have hnd:((nm.zip us).map (·.1)).Nodup:=by erw [hzip];exact hf.nodup.sublist (List.take_sublist _ _)
    refine av (hf.kinds x (List.mem_of_getElem? e1)) (fun hk'=>?_) fun hk'=>?_
    ·exact .inl ⟨by erw [kindOf];exact hk',LR (by erw [kindOf];exact hk') hnd hmem⟩
    ·refine an (hcl x (by erw [kindOf];exact hk')) ?_;intro c hc;refine .inr ⟨.inl (by erw [kindOf];exact hk'),c,hc,?_⟩;have:=hic.cell x c hc
     rwa [LU (by(erw [kindOf];erw [hk']);simp) hnd hmem] at this
   ·have m1:=mem_of_lookup e1;have m2:=mem_of_lookup e2;have key:∀{l:List (Str×Addr)},l.Pairwise (fun x y=>x.2≠y.2)->(x,c)∈l->(y,c)∈l->x=y:=by
     intro l;induction l with
     |nil=>intro _ h;cases h
     |cons p l ih=>
      intro hp h1 h2;refine af (List.pairwise_cons.mp hp) ?_;intro q1 q2;refine av (bC h1) (fun e1=>?_) fun g1=>?_
      ·refine av (bC h2) (fun e2=>?_) fun g2=>?_
       ·rw [←e1] at e2;cases e2;rfl
       ·exact(q1 _ g2 (by(refine aZ (e1 ..) ?_;with_reducible rfl))).elim
      ·refine av (bC h2) (fun e2=>?_) fun g2=>?_
       ·exact(q1 _ g1 (by(refine aZ (e2 ..) ?_;with_reducible rfl))).elim
       ·exact ih q2 g1 g2
    exact key hic.apart m1 m2
   ·unfold bD;simp;exact aL [as.length,nm.length,nm.length-as.length] [] (.le aa ae) (.sb ai ae aa) (.eq (.a aa ai) ae) hlen (bg (nm.length) (as.length))
 refine h C s2 rfl (bB frs env.locals rfl eF) ⟨rfl,rfl,fun x k e=>.inl ((kindOf x).trans e),hcl,fun x uz a e=>List.mem_cons_of_mem _ (List.mem_filterMap.mpr (aj ((x,a)) (mem_of_lookup e) e)),(congrArg Env.code henv:env.code=fd.code),(congrArg Env.qual henv:env.qual=fd.qualname ++ ".<locals>.")⟩ rel (hA.deeper env) keep (by(erw [hs2];with_reducible rfl)) (by(erw [hs2];with_reducible rfl)) htk (fun b hb=>?_) fun L hL=>?_
 ·refine av (own b hb) ?_ ?_
  ·rintro rfl;exact nl
  ·intro y0;refine an y0 ?_;clear y0;intro x hx;exact cellNew hx
 ·rw [eF] at hL;cases hL;exact nl
theorem mL {G:Gd}{C:Cx}{frs:List Env}{ws ws':Wd}{S':St}{s s1 s':Shared}(hC:C.frs=C.env::frs) (kp:∀b o,s.heap.get? b=some o->s1.heap.get? b=some o) (hg:s1.gens=s.gens) (hos:s1.os=s.os)
  (hown:∀b∈C.own,s.heap.get? b=none) (hL:∀L,C.env.frame=some L->s.heap.get? L=none) (o:Out G C ws s1 ws' S' s'):AOut G frs ws s ws' S'.st s':=by
 have am:=o.rel.amb;refine⟨⟨am.base,fun e he=>am.frames e (by erw [hC];exact .tail _ he),am.tab,am.tabF,am.len,am.cells,am.fresh,am.apart⟩,?_,?_,o.gens.trans hg,o.os.trans hos⟩
 ·have notMu:∀{b ob},s.heap.get? b=some ob->b∉jU G ws->b∉mu G C ws:=fun{b ob} e n q=>by
   refine av (bC q) ?_ ?_
   ·rintro rfl;exact n (.head _)
   ·intro q;refine av (dI q) (fun q=>?_) fun q=>?_
    ·rw [hown b q] at e;exact ba e
    ·exact n (.tail _ q)
  have notFr:∀{b ob},s.heap.get? b=some ob->b∈C.fr->b∈d7 frs:=fun{b ob} e q=>by
   unfold Cx.fr at q;rw [hC] at q;refine ag (List.mem_filterMap.mp q) ?_;intro env he hf;refine av (bC he) ?_ ?_
   ·rintro rfl;rw [hL b hf] at e;exact ba e
   ·intro he;exact List.mem_filterMap.mpr (aj env he hf)
  have inFr:∀{b},b∈d7 frs->b∈C.fr:=fun{b} q=>by
   unfold Cx.fr
   erw [hC]
   refine ag (List.mem_filterMap.mp q) ?_;intro env he hf;exact List.mem_filterMap.mpr (aj env (.tail _ he) hf)
  refine⟨fun b ob e n f=>?_,fun b ob e n f=>?_,fun b ob e=>o.step.dom b ob (kp b ob e)⟩
  ·exact o.step.keep b ob (kp b ob e) (notMu e n) fun q=>f (notFr e q)
  ·exact o.step.frk b ob (kp b ob e) (notMu e n) (inFr f)
 ·refine⟨o.grow.pre,fun a ha hn=>?_⟩;have:=o.grow.new a ha hn;cases q:s.heap.get? a with
  |none=>rfl
  |some ob=>rw [kp a ob q] at this;exact dy this
theorem zV {G:Gd}{C:Cx}{frs:List Env}{ws ws':Wd}{S S':St}{s0 s s':Shared}{A:Around}{z:Bool}{x:Exn}{e:Addr}{E:VP}{Q:Unit->Shared->Prop}(fc:jZ C) (hfr:A.frames=some C.frs) (R:Rel G C ws S s.heap) (o:Out G C ws s ws' S' s')
  (hx:ExcObj G s.heap s'.heap e x (oJ C)) (q:∀s'',Out G C ws s ws' S' s''->ExcObj G s.heap s''.heap e x (·=.none)->Q () s''):ah z (model G.prog G.w) A (leaving C.env (.ref e)) Q E s':=by
 refine bd fc ?_;clear fc;intro outer L hC hf;refine aE (az (qP R o.rel.amb hfr hC hf o.step.dom hx fun h1 t1 r1=>?_));refine om (fr:=C.fr) (o:=none) r1 fun h2 t2 r2=>?_;exact q _ (Out.touch R (Out.touch R o t1) t2) (r2.obj rfl)
end
section
variable {prog:Program}{w:World}{A:Around}{K:Frag}{C:Addr}{R:Result->Shared->Prop}{h:Heap}{g:Array GenState}{d:Drawn}{t:Nat}{os:OsState}
variable {nm q:Str}{N:Addr}{bs bm:List Value}{hdct:Bool}{sn:List Str}{sub:List Value}{ab:Bool}{col:Option Bool}{dd:Option Addr}{k0 k1 k2 k3 k5:Option Value}
noncomputable abbrev jr (l:List Value):Obj:={cls:=.type "tuple",data:=.seq l.toArray}
noncomputable abbrev iG (C T:Addr):Obj:={cls:=.ref C,data:=.fields #[.ref T,.none,.none,.none,.bool false,.none]}
theorem Kk (hC:h.get? C=some (excClassObj nm q C N bs bm hdct sn sub ab col dd k0 k1 k2 k3 k5 "Exception.__new__")) (hcB:(Value.ref C::bm).contains (.type "Exception")=true) {M:Model}{E:VP}{rest:List Value}{Q:Unit->Shared->Prop}
  (hq:Q () ⟨h,g,d,t,os⟩):wpAny M A (checkBuiltinCall "Exception.__new__" ⟨.ref C::rest,[]⟩) Q E ⟨h,g,d,t,os⟩:=by
 have Fn:=F.excBase_Exception;have hstar:=Fn.noStar;unfold checkBuiltinCall;rewrite [Fn.newKind];dsimp only;rewrite [Fn.newSplit];dsimp only;rewrite [Fn.newRow];dsimp only
 repeat (first | refine wpAny_loadPart_at hC ?_ | (refine wpAny_isSubtype_exc hC ?_;erw [hcB]) | refine wpAny_staticBase_exc hC ?_ | refine wpAny_madeBy_exc hC ?_ | simp only [bne_self_eq_false,cM,if_false] | wp_step)
 exact hq
theorem Ke (hC:h.get? C=some (excClassObj nm q C N bs bm hdct sn sub ab col dd k0 k1 k2 k3 k5 "Exception.__new__")) (hcB:(Value.ref C::bm).contains (.type "Exception")=true) (hcA:(Value.ref C::bm).contains (.type "AttributeError")=false) (hcN:(Value.ref C::bm).contains (.type "NameError")=false)
  {rest:List Value} (hrest:rest.length<=sizeLine)
  (hq:R (.ok (.ret (.ref (h.objs.size+1)))) ⟨(h.push (jr rest)).push (iG C h.objs.size),g,d,t,os⟩) :
  codeAny (model prog w) A (.builtin "Exception.__new__" ⟨.ref C::rest,[]⟩) R ⟨h,g,d,t,os⟩:=by
 have Fn:=F.excBase_Exception;have hends:=Fn.ends;refine PySem.codeAny_builtinAt Fn.entry ?_;refine PySem.wpAt_bind ?_;refine PySem.wpAt_bind (PySem.wpAt_stack fun p below=>PySem.wpAt_of_wpAny ?_)
 wp_walk
 refine PySem.wpAt_of_wpAny ?_
 erw [Fn.owner]
 repeat (first | with_reducible refine wpAny_madeHere_exc Fn.canon hC ?_ | with_reducible refine wpAny_loadPart_at hC ?_ | (with_reducible refine wpAny_isSubtype_exc hC ?_;first | rewrite [hcB] | rewrite [hcA] | rewrite [hcN]) | wp_step)
 show R _ _
 erw [Heap.size_push]
 exact hq
theorem Kf {rest:List Value}(X:K.In h) (Y:ExcIs K C) (hrest:rest.length<=sizeLine)
  (hq:codeAny (model prog w) (A.under (.builtin "type.__call__" ⟨.ref C::rest,[]⟩)) (.call (.ref 29) ⟨.ref (h.objs.size+1)::rest,[]⟩) (InitBack (h.objs.size+1) R) ⟨(h.push (jr rest)).push (iG C h.objs.size),g,d,t,os⟩) :
  codeAny (model prog w) A (.call (.ref C) ⟨rest,[]⟩) R ⟨h,g,d,t,os⟩:=by
 obtain⟨⟨nm,q,N,bs,bm,hdct,sn,sub,ab,col,dd,k0,k1,k2,k3,k5,hl,hcB,hcA,hcN⟩,call,typ,_,init,fn,_⟩:=Y;have hC:=X _ _ hl;have call':=looks_specialIn (M:=model prog w) X call;have typ':=looks_instIn (M:=model prog w) X typ;have init':=looks_findIn (M:=model prog w) X init;refine codeAny_of_tree ?_;refine nd_load hC ?_;show wpAny _ _ (callAny.viaDunder (.ref C) _) _ _ _;refine az (call'.at ?_);dsimp only
 erw [tc_bind]
 refine az (aX (az (aX ?_)));refine aX (a:=Fin.again (.call (.builtin "type.__call__") ⟨.ref C::rest,[]⟩)) (And.intro rfl ?_);refine codeAny_call_builtin_at (Code.quiet_builtin _ (by decide +kernel)) entry_typeCall (check_slot tc_kind tc_split typ' (tc_args _ _ _) ?_);have Fn:=F.excBase_Exception
 repeat (first | with_reducible refine wpAny_loadPart_at hC ?_ | with_reducible refine wpAny_madeBy_exc hC ?_ | wp_step)
 refine codeAny_call_builtin_code (Code.quiet_builtin _ Fn.quiet) (Kk hC hcB ?_);refine Ke hC hcB hcA hcN hrest ?_;have k:∀b o,h.get? b=some o->((h.push (jr rest)).push (iG C h.objs.size)).get? b=some o:=fun b o e=>bL _ (bL _ e);have hC₁:=k _ _ hC;have hget:((h.push (jr rest)).push (iG C h.objs.size)).get? (h.objs.size+1)=some (iG C h.objs.size):=by heap_get
 have hcC:(Value.ref C::bm).contains (.ref C)=true:=by simp
 repeat (first | with_reducible refine wpAny_loadPart_at hget ?_ | (with_reducible refine wpAny_isSubtype_exc hC₁ ?_;erw [hcC]) | wp_step)
 have i1:=init'.keeps k;have b1:=(bind_fn (M:=model prog w) X (.ref (h.objs.size+1)) (beq_iff_eq.mp fn)).keeps k;refine i1.at ?_;refine wpAny_holding (az (b1.at ?_));refine az (wpAny_call (codeAny_mono hq fun r s' z=>?_));rcases r with e | (v | _ | _ | _)<;>first | exact z | exact z.elim | skip
 refine af z ?_;clear z;intro y0 z;subst y0;exact aX (aX z)
end
section
open Builtin Builtin.ObjectAttr
theorem Gn (self:Value):refuseLoop self "__setattr__" [.type "Exception",.type "BaseException",.type "object"]=pure ():=by kernel_rfl
theorem J9 (self:Value):bindSpecial (.builtin "BaseException.__getattribute__") self=pure (.builtin "BaseException.__getattribute__",[self]):=F.attr_Exception.ga.bind self
section
variable {prog:Program}{w:World}{A:Around}{K:Frag}{C x:Addr}{s:Shared}{E:VP}{ox:Obj}{od:Option Obj}{name:Str}{v:Value}
theorem Ki {expr:Bool}{Q:VP}(X:K.In s.heap) (Y:ExcIs K C) (I:InstAt s.heap x ox C od) (hf:findObj K C od name=some (.value v)) (hh:handedIn v=true) (h:Q v {s with toks:=s.toks+1}) :
  wpAny (model prog w) A (getAttr (.ref x) name expr) Q E s:=by
 obtain⟨hh',g,d,t,os⟩:=s;have L0:=I.type (M:=model prog w);have L1:=looks_findIn (M:=model prog w) X Y.get;have L2:=looks_findIn (M:=model prog w) X Y.hook;have L3:=looks_find (M:=model prog w) X I hf;have L4:Looks (model prog w) hh' (isInstance (.ref x) (.type "BaseException")) true:=I.type.andThen (looks_subIn X Y.base);refine az (wpAny_mkText (wpAny_holding (az (L0.at (az (L1.at ?_))))));refine az (m:=hookBefore (.ref C)) (L2.at ?_);refine az (wpAny_attempt (wpAny_holding ?_));have e:callGetattribute (.ref x) (.str name t) (.builtin "BaseException.__getattribute__") expr=boundAndCalled (.builtin "BaseException.__getattribute__") (.ref x) (.str name t):=by cases expr<;>rfl
 erw [e]
 unfold boundAndCalled
 erw [J9]
 refine az (aX (wpAny_call (codeAny_call_builtin F.attr_Exception.ga.plain F.entry_bexc_ga (@check_slot (model prog w) _ _ _ "BaseException.__getattribute__" "BaseException" "__getattribute__" (.ref x) [.str name t] [] _ (by decide +kernel) (by decide +kernel) L4 (F.args_bexc_ga _ _) ?_))));refine az (aX (az (aX (az (L0.at (az (L3.at ?_)))))));refine aX ?_;show wpAny _ _ (handedOut v) _ _ _
 erw [handedOut_of hh];exact aX h
theorem AL {R:Result->Shared->Prop}{tk:Tok}(X:K.In s.heap) (Y:ExcIs K C) (I:InstAt s.heap x ox C od) (hn:findIn K (.ref C) name=some none)
  (h:wpAny (model prog w) A.in1 (storeInOwnDict (.ref x) (.ref C) (.str name tk) name v false)
   (fun fin s'=>match fin with | .done f=>R (.ok f) s' | .again c'=>c'.quiet=true/\codeAny (model prog w) A c' R s') (fun e s'=>R (.error e) s') s) :
  codeAny (model prog w) A (.call (.builtin "object.__setattr__") ⟨[.ref x,.str name tk,v],[]⟩) R s:=by
 have SF:=PySem.F.store_object;refine ag (any_some Y.mro) ?_;intro cd hc ho;have sub:Looks (model prog w) s.heap (isInstance (.ref x) (.type "object")) true:=I.type.andThen (looks_subIn X Y.top);refine codeAny_call_builtin SF.slot.plain SF.entry (@check_slot (model prog w) _ _ s "object.__setattr__" "object" "__setattr__" (.ref x) [.str name tk,v] [] _ SF.kind SF.split sub (SF.args (.ref x) (.str name tk) v) ?_);have hm:Looks (model prog w) s.heap (mroOf (.ref C)) cd.mro:=(looks_clsIn X hc).andThen .now
 (erw [osa_eq];erw [refuse_eq])
 refine az (az (I.type.here (az (hm.here ?_))))
 (erw [beq_iff_eq.mp ho];erw [refuseLoop_ref];erw [refuseLoop_ref];erw [Gn])
 refine aX (az (I.type.here (az ((looks_findIn X hn).here (az (m:=storeTaker? none) (aX ?_))))));exact h
theorem AZ {d:Addr}{es:List DictEntry}{m:Nat}{tk:Tok}{Q:PySem.Fin->Shared->Prop}(hD:s.heap.get? d=some (dictOf es m)) (hrk:es.any (·.refKey)=false) (hes:es.length<100)
  (q:∀t,(s.heap.update d (Obj.putName name (PyData.keyHash w.params name) (.str name t) v)).get? d=some (dictOf (putL name (PyData.keyHash w.params name) (.str name t) v es) (putN name es m))->
   Q (.done (.ret .none)) {s with heap:=s.heap.update d (Obj.putName name (PyData.keyHash w.params name) (.str name t) v),toks:=s.toks+1}) :
  wpAny (model prog w) A (storeInDict d (.str name tk) name v) Q E s:=by
 refine az (m:=newKeyGuard d name (.str name tk)) (aX (az ?_));refine az (az (wpAny_askSetting (aX (az (wpAny_mkText (az (wpAny_loadPart hD ?_)))))));dsimp only;have c:(!es.toArray.any (·.key.isStr name)&&es.toArray.any (·.refKey))=false:=by
  refine aZ (Array.any_toList ..) ?_;refine aZ (Array.any_toList ..) ?_
  (erw [hrk];erw [Bool.and_false];with_reducible rfl)
 (erw [aRefKeyMayBeTheName_at];erw [c])
 refine wpAny_updatePart hD ?_;have epn:=putName_dict name (PyData.keyHash w.params name) (.str name s.toks) v es m;have D':(s.heap.update d (Obj.putName name (PyData.keyHash w.params name) (.str name s.toks) v)).get? d=some (dictOf (putL name (PyData.keyHash w.params name) (.str name s.toks) v es) (putN name es m)):=by
  (refine aZ (epn ..) ?_);exact Heap.get?_update_self _ hD (by erw [epn];rfl)
 have hlen:=yY name (PyData.keyHash w.params name) (.str name s.toks) v es;refine az (wpAny_lookBehind D' (pastItsLine_dict (by(erw [List.size_toArray];erw [sizeLine_eq]);exact aL [es.length,(putL name (PyData.keyHash w.params name) (Value.str name s.toks) v es).length] [] (.lt aa (.k 100)) (.le ae (.a aa (.k 1))) (.le ae (.a (.k 16777216) (.k 1))) hes hlen)) ?_);exact aX (q _ D')
theorem Kd {vs:Array Value}{Q:Unit->Shared->Prop}(X:K.In s.heap) (Y:ExcIs K C) (hx:s.heap.get? x=some {cls:=.ref C,data:=.fields vs}) (hn:findIn K (.ref C) name=some none)
  (q:∀h' tk d es n t,(∀b o,b≠x->s.heap.get? b=some o->h'.get? b=some o)->h'.get? x=some {cls:=.ref C,dict:=some d,data:=.fields vs}->h'.get? d=some (dictOf es n)->s.heap.get? d=none->
   es=[⟨PyData.keyHash w.params name,.str name t,v⟩]->Q () {s with heap:=h',toks:=tk}):wpAny (model prog w) A (setAttr (.ref x) name v) Q E s:=by
 have I:InstAt s.heap x {cls:=.ref C,data:=.fields vs} C none:=⟨hx,rfl,rfl,trivial⟩;refine set_plain X I Y.set (AL (s:={s with toks:=s.toks+1}) X Y I hn ?_);refine ag (any_some Y.dict) ?_;intro cd hcd hd';have hg:(fun o:Obj=>{o with dict:=some s.heap.objs.size})=(fun o:Obj=>{o with dict:=some s.heap.objs.size}):=rfl;have hxne:s.heap.objs.size≠x:=Nat.ne_of_gt (Heap.lt_size hx);have hx1:=bL emptyDict hx;have hD1:(s.heap.push emptyDict).get? s.heap.objs.size=some emptyDict:=dv _ rfl;have hx2:((s.heap.push emptyDict).update x (fun o=>{o with dict:=some s.heap.objs.size})).get? x=some {cls:=.ref C,dict:=some s.heap.objs.size,data:=.fields vs}:=Heap.get?_update_self _ hx1 rfl;have hD2:((s.heap.push emptyDict).update x (fun o=>{o with dict:=some s.heap.objs.size})).get? s.heap.objs.size=some (dictOf [] 0):=(fq _ _ (Ne.symm hxne)).trans hD1;refine az (aX (az (az (wpAny_loadPart hx (az (looks_clsIn X hcd _ _ _ _ (fun uz uz e=>e) ?_))))))
 erw [hd']
 refine az (wpAny_alloc (az (wpAny_update hx1 ?_)));refine aX (a:=some s.heap.objs.size) ?_;refine AZ (d:=s.heap.objs.size) (es:=[]) (m:=0) hD2 rfl (by decide) fun t hD3=>?_;refine q _ _ s.heap.objs.size _ _ t (fun b o hb e=>?_) ?_ hD3 (gc _ (bw _)) rfl
 ·have hb2:s.heap.objs.size≠b:=Nat.ne_of_gt (Heap.lt_size e)
  (erw [fq _ _ hb2];erw [fq _ _ (Ne.symm hb)])
  exact bL _ e
 ·erw [fq _ _ hxne];exact hx2
theorem Kc {vs:Array Value}{d:Addr}{es:List DictEntry}{m:Nat}{Q:Unit->Shared->Prop}(X:K.In s.heap) (Y:ExcIs K C) (hx:s.heap.get? x=some {cls:=.ref C,dict:=some d,data:=.fields vs}) (hD:s.heap.get? d=some (dictOf es m)) (hrk:es.any (·.refKey)=false) (hes:es.length<100) (hn:findIn K (.ref C) name=some none)
  (q:∀h' tk t,(∀b o,b≠d->s.heap.get? b=some o->h'.get? b=some o)->h'.get? d=some (dictOf (putL name (PyData.keyHash w.params name) (.str name t) v es) (putN name es m))->Q () {s with heap:=h',toks:=tk}):wpAny (model prog w) A (setAttr (.ref x) name v) Q E s:=by
 have I:InstAt s.heap x {cls:=.ref C,dict:=some d,data:=.fields vs} C (some (dictOf es m)):=⟨hx,rfl,rfl,hD⟩;refine set_plain X I Y.set (AL (s:={s with toks:=s.toks+1}) X Y I hn ?_);refine ag (any_some Y.dict) ?_;intro cd hcd hd';refine az (aX (az (az (wpAny_loadPart hx (az (looks_clsIn X hcd _ _ _ _ (fun uz uz e=>e) ?_))))))
 erw [hd']
 refine aX (a:=some d) ?_;refine AZ (d:=d) hD hrk hes fun t hD3=>?_;exact q _ _ t (fun b o hb e=>(fq _ _ (Ne.symm hb)).trans e) hD3
end
end
section
theorem AOk.underTC {A:Around}{frs:List Env}{d:Nat}{C:Addr}{us:List Value}(h:AOk A frs (d+1)):AOk (A.under (.builtin "type.__call__" ⟨.ref C::us,[]⟩)) frs d:=by
 refine⟨h.frames,h.handled,h.guards,?_,?_⟩
 ·have:=h.depth
  show A.depth+1+4*d<=600;exact al [A.depth,d] [] (.le (.a aa (.m 4 (.a ae (.k 1)))) (.k 600)) (.le (.a (.a aa (.k 1)) (.m 4 ae)) (.k 600)) this
 ·have:=h.units
  show A.units+1+20*d<=5000;exact al [A.units,d] [] (.le (.a aa (.m 20 (.a ae (.k 1)))) (.k 5000)) (.le (.a (.a aa (.k 1)) (.m 20 ae)) (.k 5000)) this
theorem Kj:findCls [] (.type "Exception") (.type "type") "__init__" = some (.val (.builtin "Exception.__init__")):=by kernel_rfl
theorem Ka:typeOf (.type "Exception")=pure (.type "type"):=by first | rfl | kernel_rfl
theorem Kb:Manifest.isStub "Exception" = false:=by decide +kernel
section
variable {prog:Program}{w:World}{A:Around}{K:Frag}{C x:Addr}{s:Shared}{E:VP}{M:Model}
theorem Kh {L:Addr}{m:Str->Option Value}{pl:Sem Bool}{Q:Value×List Value->Shared->Prop}(hn:s.heap.Ns L m) (h:Q (.builtin "Exception.__init__",[]) {s with toks:=s.toks+1}) :
  wpAny (model prog w) A (getMethod (.type "Exception") (Str.ofString "__init__") pl) Q E s:=by
 have F:Fr ({objs:=#[]}:Heap) L s.heap m:=⟨hn,fun b o e=>by simp [Heap.get?] at e,Nat.zero_le _⟩;exact method_type (K:=[]) F (fun b o e=>by simp [List.lookup] at e) Ka Kb Kj rfl h
theorem Kg {T:Addr}{m:Value}{Q:VP}(X:K.In s.heap) (Y:ExcIs K C) (hx:s.heap.get? x=some (iG C T))
  (q:∀h' n,(∀b o,b≠x->s.heap.get? b=some o->h'.get? b=some o)->h'.get? x=some {cls:=.ref C,data:=.fields #[.ref n,.none,.none,.none,.bool false,.none]}->Q .none {s with heap:=h'}) :
  wpAny (model prog w) A (call (.builtin "Exception.__init__") [.ref x,m]) Q E s:=by
 have Fn:=F.excBase_Exception;refine Y.elo fun nm q' N bs bm hdct sn sub ab col dd k0 k1 k2 k3 k5 hl hcB hcA hcN=>?_;have hC:=X _ _ hl;obtain⟨hh,g,d,t,os⟩:=s;have L0:Looks (model prog w) hh (isInstance (.ref x) (.type "Exception")) true:=by
  intro A Q E s k q;obtain⟨hh',g,d,t,os⟩:=s;refine az (az (wpAny_loadPart (k _ _ hx) (aX ?_)));refine wpAny_isSubtype_exc (k _ _ hC) ?_
  erw [hcB];exact q
 refine wpAny_call (codeAny_call_builtin Fn.init.plain Fn.initEntry ?_);have hshort:=Fn.noStar;refine az (L0.at ?_)
 repeat wp_step
 have hx1:=bL (jr [m]) hx;refine q _ hh.objs.size (fun b o hb e=>?_) ?_
 ·erw [fq _ _ (Ne.symm hb)];exact bL _ e
 ·erw [Heap.get?_update_self _ hx1 rfl];rfl
end
inductive Init29 (G:Gd):Prop where
 |mk (o:Obj) (fd:FuncData) (hl:G.K.lookup 29=some o) (ho:o.data=.func fd) (hcd:codeIn G.K fd.code fd.qualname=true) (x1 x2 x3:Str) (p1 p2 p3 p4 p5 p6 p7 p8 p9 p10 p11 p12 p13 p14:Pos)
  (fdo:FdOk fd [x1,x2,x3] [.Expr (.Call (.Attribute (.Name "Exception" p1) "__init__" p2) [.Name x1 p3,.Name x2 p4] [] p5) p6,.Assign [.Attribute (.Name x1 p7) "message" p8] (.Name x2 p9) p10,.Assign [.Attribute (.Name x1 p11) "spot" p12] (.Name x3 p13) p14])
  (hp:p2.endLine=p5.line) (hexc:fd.scope.names.lookup ("Exception":Str)=some .globalImplicit) (d1:(x1==("__debug__":Str))=false) (d2:(x2==("__debug__":Str))=false) (d3:(x3==("__debug__":Str))=false) (c1:(x1==("__classdict__":Str))=false) (c2:(x2==("__classdict__":Str))=false) (c3:(x3==("__classdict__":Str))=false)
  (hg:gb G.K "Exception" = some (.val (.type "Exception"))) (hbind:∀s u1 u2 u3,G.K.In s.heap->BindsTo s fd ⟨[u1,u2,u3],[]⟩ [(x1,u1),(x2,u2),(x3,u3)]):Init29 G
theorem Kl {G:Gd}{frs:List Env}{ws:Wd}{st:List Cell}{A:Around}{s:Shared}{d:Nat}{Cl:Addr}{m:Str}{t1 t2:Tok}{n:Int}{Q:VP}{E:VP}(I9:Init29 G) (am:Amb G frs ws st s.heap) (hA:AOk A frs (d+2)) (Y:ExcIs G.K Cl) (hm:m.cps.toList.length<=sizeLine)
  (q:∀s' e,(∀b o,s.heap.get? b=some o->s'.heap.get? b=some o)->s'.gens=s.gens->s'.os=s.os->ExcObj G s.heap s'.heap e ⟨Cl,n⟩ (·=.none)->(∃T d,s'.heap.get? e=some {cls:=.ref Cl,dict:=some d,data:=.fields #[.ref T,.none,.none,.none,.bool false,.none]})->Q (.ref e) s') :
  wpAny (model G.prog G.w) A (call (.ref Cl) [.str m t1,.int n t2]) Q E s:=by
 obtain⟨o,fd,hl,ho,hcd,x1,x2,x3,p1,p2,p3,p4,p5,p6,p7,p8,p9,p10,p11,p12,p13,p14,fdo,hp,hexc,d1,d2,d3,c1,c2,c3,hg,hbind⟩:=I9;obtain⟨hh,g,dr,tk,os⟩:=s;have X:=G.X.keeps am.base;refine wpAny_call (Kf X Y (by show 2<=16777216;exact aH [] [] (.le (.k 2) (.k 16777216))) ?_);generalize hh1:(hh.push (jr [.str m t1,.int n t2])).push (iG Cl hh.objs.size)=h1;have k1':∀b o,hh.get? b=some o->h1.get? b=some o:=fun b o e=>by(refine aZ (hh1 ..) ?_);exact bL _ (bL _ e)
 have he1:h1.get? (hh.objs.size+1)=some (iG Cl hh.objs.size):=by(refine aZ (hh1 ..) ?_);heap_get
 have fresh:hh.get? (hh.objs.size+1)=none:=gc _ (Nat.le_succ _);generalize hE:hh.objs.size+1=e at he1 fresh⊢;have am1:=am.keeps k1';have X1:=X.keeps k1';have etab:e≠G.tab:=by
  rintro rfl;refine ag am.tab ?_;intro ps q1 _;rw [fresh] at q1;exact ba q1
 have ebase:G.base.get? e=none:=by
  cases q:G.base.get? e with
  |none=>rfl
  |some o=>rw [am.base e o q] at fresh;exact dy fresh
 refine r0 (rM (hb':=none) (as:=[.val (.ref e),.str m.cps.toList,.int n]) (us:=[.ref e,.str m t1,.int n t2]) (s:=⟨h1,g,dr,tk,os⟩) am1 (hA.underTC) hl ho hcd fdo (by simp) (hbind _ _ _ _ X1) ?_ ?_)
 ·refine .cons iW (.cons ?_ (.one cJ))
  exact(by simpa only [jc] using fQ (ws:=ws) (h:=h1) (t:=t1) hm)
 intro C s2 hC fc sc R hA2 kk hg2 hos2 htk hown hL;have X2:G.K.In s2.heap:=G.X.keeps R.amb.base;have nmEq:C.nm=[x1,x2,x3]:=sc.nm;have kEx:C.env.kindOf "Exception" = some .globalImplicit:=by
  refine av (sc.names _ _ hexc) (fun h=>?_) fun h=>?_
  ·exact h
  ·cases h.1
 have he2:s2.heap.get? e=some (iG Cl hh.objs.size):=kk _ _ he1;have ld1:∀{A:Around} {s':Shared} {p:Pos} {Q:VP} {E:VP},Rel G C ws ⟨bD [.val (.ref e),.str m.cps.toList,.int n] 3,st⟩ s'.heap->Q (.ref e) s'->ah false (model G.prog G.w) A (eval (.Name x1 p) C.env) Q E s':=fun R' hq=>
  aE (wpAny_Name (iE R' (i:=0) (by erw [nmEq];rfl) (by rfl) c1 fun v hr=>(by erw [hr.val_];exact hq)) d1)
 have ld2:∀{A:Around} {s':Shared} {p:Pos} {Q:VP} {E:VP},Rel G C ws ⟨bD [.val (.ref e),.str m.cps.toList,.int n] 3,st⟩ s'.heap->(∀v,Q v s')->ah false (model G.prog G.w) A (eval (.Name x2 p) C.env) Q E s':=fun R' hq=>
  aE (wpAny_Name (iE R' (i:=1) (by erw [nmEq];rfl) (by rfl) c2 fun v hr=>hq v) d2)
 have ld3:∀{A:Around} {s':Shared} {p:Pos} {Q:VP} {E:VP},Rel G C ws ⟨bD [.val (.ref e),.str m.cps.toList,.int n] 3,st⟩ s'.heap->(∀t,Q (.int n t) s')->ah false (model G.prog G.w) A (eval (.Name x3 p) C.env) Q E s':=fun R' hq=>
  aE (wpAny_Name (iE R' (i:=2) (by erw [nmEq];rfl) (by rfl) c3 fun v hr=>(by(refine an hr.int_ ?_;intro t y1;subst y1);exact hq t)) d3)
 have fdk:C.env.scope.kind=.function:=R.lc.kind;have priv:∀{h:Heap} {o:Obj} {vs:Array Value},h.get? e=some o->o.cls=.ref Cl->o.data=.fields vs->vs[1]? = some .none->Priv h e:=fun{h o vs} a b c dd=>(bv o vs a c (by erw [b];simp) (by erw [dd];simp));refine jF (Ig fdk ?_);refine qZ rfl rfl (by show 2<20;exact aH [] [] (.lt (.k 2) (.k 20))) hp (aE (kL R kEx (by rfl) hg fun v hv=>?_));obtain rfl:=hv.val_;refine ag R.lc.ns ?_;intro mm hns _;refine aE (Kh hns ?_);refine hO (P:=eA (model G.prog G.w) (.builtin "Exception.__init__")) rfl (fun h p=>p) ?_;refine ix (ld1 R ?_);refine ix (ld2 R fun v2=>?_);refine jE ⟨mw,?_⟩;refine aE (Kg (x:=e) (T:=hh.objs.size) (s:={s2 with toks:=s2.toks+1}) X2 Y he2 fun h3 T3 k3 he3=>?_);have R3:Rel G C ws ⟨bD [.val (.ref e),.str m.cps.toList,.int n] 3,st⟩ h3:=R.privy (priv he2 rfl rfl rfl) k3 etab ebase;refine aE (wpAny_dropValue ?_);have X3:G.K.In h3:=G.X.keeps R3.amb.base;refine jF (q8 rfl (ld2 (s':={s2 with heap:=h3,toks:=s2.toks+1}) R3 fun v2=>ld1 (s':={s2 with heap:=h3,toks:=s2.toks+1}) R3 ?_));refine aE (Kd (s:={s2 with heap:=h3,toks:=s2.toks+1}) (x:=e) X3 Y he3 Y.msg fun h4 tk4 dd es4 n4 t4 k4 he4 hd4 hdn hes4=>?_);have R4:Rel G C ws ⟨bD [.val (.ref e),.str m.cps.toList,.int n] 3,st⟩ h4:=R3.privy (priv he3 rfl rfl rfl) k4 etab ebase;have X4:G.K.In h4:=G.X.keeps R4.amb.base;refine jF (q8 rfl (ld3 (s':={s2 with heap:=h4,toks:=tk4}) R4 fun t=>ld1 (s':={s2 with heap:=h4,toks:=tk4}) R4 ?_));subst hes4;refine aE (Kc (s:={s2 with heap:=h4,toks:=tk4}) (x:=e) X4 Y he4 hd4 (by rfl) (by show 1<100;exact aH [] [] (.lt (.k 1) (.k 100))) Y.spot fun h5 tk5 t5 k5 hd5=>?_)
 refine l8 ?_;refine⟨rfl,?_⟩;have dne:dd≠e:=by rintro rfl;rw [he3] at hdn;exact dy hdn
 have keep2:∀b o,hh.get? b=some o->h5.get? b=some o:=fun b o eb=>by
  have b1:b≠e:=by rintro rfl;rw [fresh] at eb;exact ba eb
  have e3:=k3 b o b1 (kk b o (k1' b o eb));have b2:b≠dd:=by rintro rfl;rw [hdn] at e3;exact ba e3
  exact k5 b o b2 (k4 b o b1 e3)
 have dnone:hh.get? dd=none:=by
  cases q:hh.get? dd with
  |none=>rfl
  |some o=>
   have:=k3 dd o dne (kk _ _ (k1' dd o q))
   rw [hdn] at this;exact ba this
 have he5:h5.get? e=some {cls:=.ref Cl,dict:=some dd,data:=.fields #[.ref T3,.none,.none,.none,.bool false,.none]}:=k5 e _ (Ne.symm dne) he4;refine q {s2 with heap:=h5,toks:=tk5} e keep2 hg2 hos2 ?_ (mS T3 dd he5);refine(aI fresh etab (lh _ _ dd _ _ t he5 rfl rfl rfl hd5 dnone ?_ (by show 4<6;exact aH [] [] (.lt (.k 4) (.k 6))) (.inl ⟨rfl,rfl⟩)));rfl
theorem AN {G:Gd}{Cl:Addr}(I9:Init29 G) (Y:ExcIs G.K Cl):ty G Cl:=by
 intro frs ws st A s d m t1 t2 n Q E am hA hm q;exact Kl I9 am hA Y hm q
end
section
variable {G:Gd}{z:Bool}{F:Fx}{c:Cc}{C:Cx}{ws ws':Wd}{S S':St}{A:Around}{s s':Shared}{d:Nat}{me m1 m2 m3:ME}{e e1 e2 e3:Expr}{pos p:Pos}{st:Stmt}{sts:List Stmt}{ms:MS}{mss:List MS}
theorem Gr {K:Frag}{Cl:Addr}{M:Model}{A:Around}{E:VP}{s:Shared}{env:Env}{x:Sem Value}{Q:Flow->Shared->Prop}(Y:ExcIs K Cl) (hh:A.handled=none)
  (h:ah z M A x (fun v s₁=>∃e dd vs,v=.ref e/\K.In s₁.heap/\s₁.heap.get? e=some {cls:=.ref Cl,dict:=dd,data:=.fields vs}/\vs[1]? = some .none/\E (.ref e) s₁) E s):ah z M A (raiseStmt env (some x) none) Q E s:=by
 refine Y.elo fun nm q' N bs bm hdct sn sub ab col dd k0 k1 k2 k3 k5 hl hcB hcA hcN=>?_;refine aM h fun v s₁ h₁=>aE ?_;refine oU h₁ ?_;clear h₁;intro e dd vs y3 X he hv hE;subst y3;have hC:=X _ _ hl;obtain⟨hp,g,d,tk,os⟩:=s₁;have L0:=looks_subIn (M:=M) X Y.base;have hm:(Value.ref Cl::bm).contains (.type "BaseException")=true:=by
  refine ag (any_some Y.mro) ?_;intro cd h1 h2;unfold clsIn at h1;rw [hl] at h1;cases h1;have h2':(Value.ref Cl::bm)=[.ref Cl,.ref 32,.type "Exception",.type "BaseException",.type "object"]:=beq_iff_eq.mp h2
  erw [h2'];simp
 repeat (first | with_reducible refine wpAny_loadPart_at he ?_ | with_reducible refine wpAny_loadPart_at hC ?_ | (with_reducible refine wpAny_isSubtype_exc hC ?_;erw [hm]) | wp_step)
 erw [hv]
 exact aX (aX (wpAny_raiseNew_none hh hE))
theorem Gs {vs:List V}{k:Int->Prop}(h:nH vs k):∃m n,vs=[.str m,.int n]/\k n:=by
 cases vs with
 |nil=>exact h.elim
 |cons a r=>induction r with
  |nil=>exact h.elim
  |cons b r=>
   refine af (jB h) ?_;intro e h1;refine ag (f9 h1) ?_;intro m e1 h2;refine ag (da h2) ?_;intro n e2 h3;exact bB m n (by(erw [e];erw [e1];erw [e2];with_reducible rfl)) h3
theorem FE {x:Str}{Cl:Addr}{args:List Expr}{mas:List ME}{p1 p2:Pos}(hg:gb c.K x=some (.val (.ref Cl))) (hx:(cZ x&&cr c.scope x .globalImplicit&&noStar args)=true) (ha:de (SE G z F c) mas args) :
  SS G z F c (.raise Cl mas) (.Raise (some (.Call (.Name x p1) args [] p2)) none pos):=by
 intro C ws S s A d Q X Qm Em fc sc hF R hA ht hw q qx;simp only [cD] at hx;refine af hx ?_;clear hx;intro y0 hn;refine af y0 ?_;clear y0;intro hx1 hx2;have hd1:(x==("__debug__":Str))=false:=by
  unfold cZ at hx1;simp only [cD,cN] at hx1;exact hx1.1.1
 have hkx:C.env.kindOf x=some .globalImplicit:=by
  exact sc.kind hx2 fun e=>nomatch e
 have e:exec (.Raise (some (.Call (.Name x p1) args [] p2)) none pos) C.env=(do
  standAt pos
  raiseStmt C.env (some (do let v ←eval (.Call (.Name x p1) args [] p2) C.env;standAt pos;pure v)) none):=rfl
 erw [e]
 rw [sc.K] at hg;refine bS ?_;refine af hw ?_;clear hw;intro hex hw
 ·refine be (hF.exc Cl hex) ?_;intro hcall Y hkp;refine Gr Y hA.handled (aR ?_);refine l9 rfl (aE (kL R hkx hd1 hg fun v hv=>?_));obtain rfl:=hv.val_;refine hO (P:=eA (model G.prog G.w) (.ref Cl)) hn (fun h p=>p) (iV ha hn sc hF R hA ht hw (fun ws1 S1 s1 as vs o1 t1 ra h=>?_) qx);refine⟨keeps_K hkp _ (G.X.keeps o1.rel.amb.base),?_⟩
  ·refine bd (Gs h) ?_;intro m n y2 h';subst y2;refine aY ra.two_inv ?_;intro v1 v2 y2 r1 r2;subst y2;refine af r1.str_ ?_;intro hm y1;refine an y1 ?_;clear y1;intro tk1 y21;subst y21;refine an r2.int_ ?_;intro tk2 y1;subst y1;obtain⟨d',rfl⟩:∃d',d=d'+2:=⟨d-2,by have:=hF.deep;exact aL [d,d-2] [] (.le (.k 2) aa) (.sb ae aa (.k 2)) (.eq aa (.a ae (.k 2))) this (bg (d) (2))⟩;refine bO (aE (hcall (m:=S_ m) o1.rel.amb hA (by simpa using hm) fun s2 e kk hg2 hos2 hxo hobj tt=>?_));refine du hobj ?_;clear hobj;intro T dd he;have o2:Out G C ws1 s1 ws1 S1 s2:=Out.of_keeps o1.rel kk hg2 hos2;refine bS (aP (gm e (some dd) _ rfl (G.X.keeps o2.rel.amb.base) he rfl ?_));exact(qx.after o1 t1) _ _ _ _ _ o2 tt (hxo.mono (fun b o e=>⟨o,e⟩) fun v hv=>.inl hv) h'
theorem HQ {M:Model}{x:Str}{i:Nat}{Q:Unit->Shared->Prop}{E:VP}(R:Rel G C ws S s.heap) (hi:C.nm[i]? = some x) (hk:C.env.kindOf x=some .local )
  (q:∀s',Out G C ws s ws ⟨S.loc.set i none,S.st⟩ s'->s.toks<=s'.toks->Q () s'):wpAny M A (do bindName C.env x .none;unbindBehindTheSuite C.env x pos) Q E s:=by
 refine ag R.lc.ns ?_;intro m hn hv;have lc:=R.lc;refine wpAny_nameGoes_keeps hk hn (by erw [lc.kind];rfl) fun h' v hn' hs=>q _ ?_ (Nat.le_succ _);have sb:∀b,b≠C.env.locals->h'.get? b=s.heap.get? b:=fun b hb=>hs.2 b hb;refine cu (id hn') ?_;intro oL es ep hoL hdL hrL;have hold:∃o es n,s.heap.get? C.env.locals=some o/\o.data=.dict es n:=by(refine cu hn ?_;clear hn;intro o es ep ho hd _);exact ie o es ep ho hd
 have amb:=Amb.own R lc.ownL sb (.inl (ie oL es ep hoL hdL));have mv:Mv ws s.heap ws h':=⟨fun b o n e hd=>(by
  refine dH hold ?_;clear hold;intro o' es' n' ho' hd'
  refine⟨(sb b ?_).trans e,n⟩
  rintro rfl
  rw [ho'] at e;cases e
  refine av hd ?_ ?_<;>clear hd
  ·intro y0;refine du y0 ?_;clear y0;intro xs k hd
   rw [hd] at hd';cases hd'
  ·intro y0;refine an y0 ?_;clear y0;intro vs y2;subst y2
   cases hd'),fun uz uz e=>e⟩
 have cl:∀y c,C.env.cells.lookup y=some c->c≠C.env.locals:=fun y c e q=>by
  refine af (lc.cells y c e) ?_;intro y0 _;refine bd y0 ?_;clear y0;intro v' o h1 h2;refine dH hold ?_;clear hold;intro o' es' n' ho' hd';rw [q,ho'] at h1;cases h1;rw [hd'] at h2;cases h2
 refine⟨⟨amb,⟨lc.kind,lc.glob,lc.blt,(aj _ hn' (fun j y b e1 e2=>?_)),fun y c e=>?_,lc.capart,lc.ownL,lc.own,lc.freshL,by simp [lc.len],lc.nodup,lc.head⟩⟩,?_,.refl,rfl,rfl⟩
 ·refine av (pJ e2) ?_ ?_
  ·intro y0;refine af y0 ?_;clear y0;intro _ e;exact ba e
  ·intro y0;refine af y0 ?_;clear y0;intro hne e;refine ag (hv j y b e1 e) ?_;intro v' h1 h2;have hxy:y≠x:=fun q=>hne (qU lc.nodup e1 (q▸hi));refine aj v' (h1.mv mv) ?_;refine av h2 ?_ ?_<;>clear h2
   ·intro y0;refine af y0 ?_;clear y0;intro k1 k2;exact .inl ⟨k1,(if_neg hxy).trans k2⟩
   ·intro y0;refine af y0 ?_;clear y0;intro k1 y2;refine ag y2 ?_;clear y2;intro c k2 y23;refine ag y23 ?_;clear y23;intro o k3 k4;exact .inr ⟨k1,c,k2,o,(sb c (cl y c k2)).trans k3,k4⟩
 ·refine af (lc.cells y c e) ?_;intro y0 h3;refine bd y0 ?_;clear y0;intro v' o h1 h2;exact⟨(bB v' o ((sb c (cl y c e)).trans h1) h2),h3⟩
 ·refine⟨fun b o e n f=>?_,fun b o e n f=>⟨o.slots,?_⟩,fun b o e=>?_⟩
  ·exact(sb b fun q=>n (.tail _ (List.mem_append_left _ (q▸lc.ownL)))).trans e
  ·exact(sb b fun q=>n (.tail _ (List.mem_append_left _ (q▸lc.ownL)))).trans e
  ·by_cases q:b=C.env.locals
   ·exact⟨oL,q▸hoL⟩
   ·exact⟨o,(sb b q).trans e⟩
theorem Rel.ownIn (R:Rel G C ws S s.heap) {b:Addr}(hb:b∈C.own):∃o,s.heap.get? b=some o:=by
 refine av (R.lc.own b hb) ?_ ?_
 ·rintro rfl;(refine ag R.lc.ns ?_;intro m y1 _;refine dH y1 ?_;clear y1;intro o _ _ ho _);exact⟨o,ho⟩
 ·intro y0;refine an y0 ?_;clear y0;intro x hx;(refine af (R.lc.cells x b hx) ?_;intro y0 _;refine bd y0 ?_;clear y0;intro v o ho _);exact⟨o,ho⟩
theorem Jz {y:Str}{e:Expr}:ca (fun zz=>(∃py pa,e=.Attribute (.Name y py) ("spot":Str) pa/\zz=none)\/
  ∃zs kz pz py pa k pt,e=.Tuple [.Constant (.str zs) kz pz,.Attribute (.Name y py) ("spot":Str) pa] k pt/\zs.cps.toList.length<=sizeLine/\zz=some zs.cps.toList) (mD y e):=by
 refine oO (fun p=>iI (.inl (bB p.1.1 p.1.2 p.2 rfl))) (cI fun t uz=>?_);cases hes:t.1.1 with
 |nil=>exact dS
 |cons a r=>
  refine cI fun z uz=>cI fun b uz=>cI fun p uz=>cy fun g=>?_;refine du z.2 ?_;intro kz pz ez;exact iI (.inr (⟨z.1,kz,pz,p.1.1,p.1.2,t.1.2.1,t.1.2.2,t.2.trans (congrArg (fun l=>Expr.Tuple l _ _) (hes.trans (congr (congrArg List.cons ez) (b.2.trans (congrArg (fun x=>[x]) p.2))))),cK g,rfl⟩))
set_option tactic.hygienic true in
theorem uH {b:List Stmt}{x y:Str}{Cl:Addr}{i:Nat}{ee:Expr}{zz:Option (List Nat)}{p1 p2 p3:Pos}{Q:Fl->St->Prop}{Qm:Flow->Shared->Prop}{X:XE}{Em:VP}(hg:gb c.K x=some (.val (.ref Cl))) (hi:dU c y=some i) (hh:mD y ee=some zz) (hx:(cZ x&&cr c.scope x .globalImplicit&&cr c.scope y .local )=true)
  (fc:jZ C) (sc:ScOk G c C) (Y:ExcIs G.K Cl) (R:Rel G C ws S s.heap) (hA:AOk A C.frs d)
  (hb:∀{Qm':Flow->Shared->Prop} {Em':VP},WFt G C ws s Q Qm'->WXt G C ws s (fun x S1=>x.cls=Cl/\Q (.ret (jI zz x.spot)) ⟨S1.loc.set i none,S1.st⟩) Em'->ah z (model G.prog G.w) A (execs b C.env) Qm' Em' s)
  (q:WFt G C ws s Q Qm) (qx:WXt G C ws s X Em):ah z (model G.prog G.w) A (exec (.Try b [.ExceptHandler (some (.Name x p1)) (some y) [.Return (some ee) p2] p3] [] [] pos) C.env) Qm Em s:=by
 simp only [cD] at hx;refine af hx ?_;clear hx;intro y0 hx3;refine af y0 ?_;clear y0;intro hx1 hx2;have hd1:(x==("__debug__":Str))=false:=by
  unfold cZ at hx1;simp only [cD,cN] at hx1;exact hx1.1.1
 have hkx:C.env.kindOf x=some .globalImplicit:=by
  exact sc.kind hx2 fun e=>nomatch e
 have hky:C.env.kindOf y=some .local:=by
  exact sc.kind hx3 fun e=>nomatch e
 refine af (nj hi sc) ?_;intro hi1 _;have hyd:(y==("__debug__":Str))=false/\(y==("__classdict__":Str))=false:=l0 (bb (dF hi).1).1;refine Ia (hb (fun ws1 S1 s1 f ff o1 t1 rf h=>?_) (fun ws1 S1 s1 x e o1 t1 hxo h=>?_))
 ·induction f with
  |next=>cases rf;exact l8 (q _ _ _ .next .next o1 t1 rfl h)
  |brk=>cases rf;exact q _ _ _ .brk _ o1 t1 rfl h
  |cont=>cases rf;exact q _ _ _ .cont _ o1 t1 rfl h
  |ret a=>(refine ag rf ?_;clear rf;intro v y1 r;subst y1);exact q _ _ _ (.ret a) _ o1 t1 (aj v rfl r) h
 clear hb;refine af h ?_;clear h;intro hcl hQ;refine bd fc ?_;clear fc;intro outer L hC hf;refine aE (qP R o1.rel.amb hA.frames hC hf o1.step.dom hxo fun h2 t2 r2=>?_);refine aE (om (fr:=C.fr) (o:=none) r2 fun h3 t3 r3=>?_);have o3:=Out.touch R (Out.touch R o1 t2) t3;have X3:G.K.In h3:=G.X.keeps o3.rel.amb.base;refine aE (wpAny_handleBy_cons (codeAny_handlers_test ?_) (by simp [byPass]));rw [sc.K] at hg;refine kL (s:={s1 with heap:=h3}) o3.rel hkx hd1 hg fun v hv=>?_;obtain rfl:=hv.val_;refine r3.el fun a1 a2 oe vs dd es n t b1 b2 b3 b4 b5 b6 b7 b8 T oT ts c1 c2 c3 c4 c5 c6 c6' c7 c8=>?_;rw [hcl] at b2;have LT:Looks (model G.prog G.w) h3 (typeOf (.ref e)) (.ref Cl):=b2▸(Looks.ld b1).andThen .now;refine(exm_one X3 LT Y.exm).here ?_;refine codeAny_handlers_suite_as ?_;refine om (fr:=C.fr) (o:=none) r3 fun h4 t4 r4=>?_;have o4:=Out.touch R o3 t4;refine kY (uW (z:=true) (s:={s1 with heap:=h4}) (a:=.val (.ref e)) (i:=i) o4.rel hi1 (.inl hky) (sc.cell y) (fun e=>by rw [hky] at e;cases e) iW fun s5 o5 same5 t5=>?_);have o45:=o4.trans o5;have X5:G.K.In s5.heap:=G.X.keeps o45.rel.amb.base;refine r4.el fun a1 a2 oe vs dd es n t b1 b2 b3 b4 b5 b6 b7 b8 T oT ts c1 c2 c3 c4 c5 c6 c6' c7 c8=>?_;rw [hcl] at b2;have no:∀{b:Addr},s.heap.get? b=none->b∉C.own:=fun{b} hb hm=>by
  (refine an (R.ownIn hm) ?_;intro o ho);rw [hb] at ho;exact ba ho
 have g1:s5.heap.get? e=some oe:=(same5 e (no a1)).trans b1;have g2:s5.heap.get? dd=some (dictOf es n):=(same5 dd (no b6)).trans b5;have I:InstAt s5.heap e oe Cl (some (dictOf es n)):=⟨g1,b2,by unfold notCls;(erw [b3];with_reducible rfl),by erw [b4];exact g2⟩;have hfind:findObj G.K Cl (some (dictOf es n)) ("spot":Str)=some (.value (.int x.spot t)):=findObj_own Y.dict Y.spot rfl (by erw [lookIn_dict];exact b7);have hl5:(aJ S1 i (.val (.ref e))).loc[i]? = some (some (.val (.ref e))):=by
  have hlen:i<S1.loc.length:=by erw [o1.rel.lc.len];exact(ce hi1).1
  simp [aJ,hlen]
 have attr:∀{A:Around} {p p':Pos} {Q:VP} {E:VP} {s':Shared},(∀b o,s5.heap.get? b=some o->s'.heap.get? b=some o)->(∀s'',s''.heap=s'.heap->s''.gens=s'.gens->s''.os=s'.os->s'.toks<=s''.toks->Q (.int x.spot t) s'')->ah false (model G.prog G.w) A (eval (.Attribute (.Name y p) "spot" p') C.env) Q E s':=fun{A p p' Q E s'} kk hq=>by
  have R':=o45.rel.keeps kk;refine q7 rfl (aE (wpAny_Name (iE R' hi1 hl5 hyd.2 fun v hr=>?_) hyd.1));obtain rfl:=hr.val_;exact aE (Ki (X5.keeps kk) Y ⟨kk _ _ g1,b2,by unfold notCls;(erw [b3];with_reducible rfl),by erw [b4];exact kk _ _ g2⟩ hfind rfl (hq _ rfl rfl rfl (Nat.le_succ _)))
 have t15:s1.toks<=s5.toks:=t5;have fin:∀{s6:Shared} {r:Value} {a:V},(∀b o,s5.heap.get? b=some o->s6.heap.get? b=some o)->s6.gens=s5.gens->s6.os=s5.os->s5.toks<=s6.toks->Rep ws1 s6.heap a r->Q (.ret a) ⟨S1.loc.set i none,S1.st⟩->
   wpAny (model G.prog G.w) A (do bindName C.env y .none;unbindBehindTheSuite C.env y p3) (fun uz s₃=>Qm (.ret r) s₃) Em s6:=fun{s6 r a} kk hg ho t6 rr hq=>by
  have o6:=o45.trans (Out.of_keeps (s1:=s6) o45.rel kk hg ho);refine HQ (s:=s6) o6.rel hi1 hky fun s7 o7 t7=>?_;have eq1:(aJ S1 i (V.val (.ref e))).loc.set i none=S1.loc.set i none:=by simp [aJ]
  have e2:(⟨(aJ S1 i (V.val (.ref e))).loc.set i none,(aJ S1 i (V.val (.ref e))).st⟩:St)=⟨S1.loc.set i none,S1.st⟩:=by erw [eq1];rfl
  rw [e2] at o7;exact q _ _ _ (.ret a) _ (o6.trans o7) (aW t1 (aW t15 (aW t6 t7))) (aj r rfl (rr.mv (o7.mv o6.rel))) hq
 refine jn (jF (qY ?_));refine av (Jz _ hh) ?_ ?_
 ·intro y0;refine bd y0 ?_;clear y0;intro py pa y3 y4;subst y3 y4;refine attr (fun uz uz e=>e) fun s6 e6 g6 os6 t6=>?_;exact fin (fun b o e=>by erw [e6];exact e) g6 os6 t6 cJ hQ
 ·intro y0;obtain⟨zs,kz,pz,py,pa,k,pt,y8,hzl,y10⟩:=y0;subst y8 y10;refine zH (ix (aE (wpAny_mkText ?_)));refine ix (attr (s':={s5 with toks:=s5.toks+1}) (fun uz uz e=>e) fun s6 e6 g6 os6 t6=>?_);refine jE ?_;refine aE (wpAny_newObj_type ?_ (by show 2<=16777216;exact aH [] [] (.le (.k 2) (.k 16777216))));have kp:∀b o,s5.heap.get? b=some o->(s6.heap.push (jr [.str zs s5.toks,.int x.spot t])).get? b=some o:=fun b o e=>bL _ (by erw [e6];exact e);have o6:=o45.trans (Out.of_keeps (s1:=s6) o45.rel (fun b o e=>by erw [e6];exact e) g6 os6);refine fin (s6:={s6 with heap:=_}) kp g6 os6 (aW (Nat.le_succ _) t6) (qu (items:=[.str zs s5.toks,.int x.spot t]) (by show 2<=16777216;exact aH [] [] (.le (.k 2) (.k 16777216))) (gH o6.rel.amb (bw _)) (aQ _ (dv _ rfl) rfl ⟨_,rfl⟩) (.cons ?_ (.one cJ))) hQ;exact(by simpa only [jc] using fQ (ws:=ws1) (t:=s5.toks) hzl)
theorem Fw {b:List Stmt}{mb:List MS}{x y:Str}{Cl:Addr}{i:Nat}{ee:Expr}{zz:Option (List Nat)}{p1 p2 p3:Pos}(hg:gb c.K x=some (.val (.ref Cl))) (hi:dU c y=some i) (hh:mD y ee=some zz) (hx:(cZ x&&cr c.scope x .globalImplicit&&cr c.scope y .local )=true) (h1:gK G z F c mb b) :
  SS G z F c (.try mb Cl i zz) (.Try b [.ExceptHandler (some (.Name x p1)) (some y) [.Return (some ee) p2] p3] [] [] pos):=by
 intro C ws S s A d Q X Qm Em fc sc hF R hA ht hw q qx;refine af hw ?_;clear hw;intro hex hw;refine be (hF.exc Cl hex) ?_;intro _ Y _;exact uH hg hi hh hx fc sc Y R hA (fun q' qx'=>h1 fc sc hF R hA ht hw q' qx') q qx
end
section
structure CompIs (c:Cc) (sc:Scope) (x:Str):Prop where
 kind:sc.kind=.function
 out:x∉c.nm
 deb:cZ x=true
 loc:sc.names.lookup x=some .local
 nocell:∀p∈sc.names,p.2≠.cell
 locs:∀p∈sc.names,p.2=.local->sc.names.lookup p.1=some .local
 free:∀p∈sc.names,p.2=.free->c.scope.names.lookup p.1=some .cell
 nodup:(sc.names.map (·.1)).Nodup
theorem Bg {c:Cc}{sc:Scope}{x:Str}(h:kR c sc x=true):CompIs c sc x:=by
 unfold kR at h;simp only [cD,bi,cN] at h;refine af h ?_;clear h;intro y0 h8;refine af y0 ?_;clear y0;intro y20 h7;refine af y20 ?_;clear y20;intro y40 h6;refine af y40 ?_;clear y40;intro y60 h5;refine af y60 ?_;clear y60;intro y80 h4;refine af y80 ?_;clear y80;intro y100 h3;refine af y100 ?_;clear y100;intro h1 h2;refine⟨h1,fun hm=>?_,h3,cK h4,fun p hp=>?_,fun p hp e=>?_,fun p hp e=>?_,h8⟩
 ·have:c.nm.contains x=true:=by simpa using hm
  rw [h2] at this;exact ft this
 ·exact cK (List.all_eq_true.mp h5 p hp)
 ·have:=List.all_eq_true.mp h6 p hp
  simp only [Bool.or_eq_true,bi] at this;refine av this ?_ ?_<;>clear this<;>intro q
  ·exact absurd e q
  ·exact cK q
 ·have:=List.all_eq_true.mp h7 p hp
  simp only [Bool.or_eq_true,bi] at this;refine av this ?_ ?_<;>clear this<;>intro q
  ·exact absurd e q
  ·exact cK q
theorem Lc {sc:Scope}{env:Env}(h:∀p∈sc.names,p.2=.free->∃a,env.cells.lookup p.1=some a):∃cl,closureFor sc env=pure cl/\(∀y a,cl.lookup y=some a->env.cells.lookup y=some a/\(y,NameKind.free)∈sc.names)/\∀y,(y,NameKind.free)∈sc.names->cl.lookup y=env.cells.lookup y:=by
 have key:∀(names:List (Str×NameKind)) (acc:List (Str×Addr)),(∀p∈names,p.2=.free->∃a,env.cells.lookup p.1=some a)->
   ∃cl,(forIn names acc fun x cs=>match x with | (name,kind)=>if(kind==.free)=true then do let c ←cellOf env name;pure (ForInStep.yield ((name,c)::cs)) else pure (ForInStep.yield cs):Sem (List (Str×Addr)))=pure cl/\
    (∀y a,cl.lookup y=some a->acc.lookup y=some a\/(env.cells.lookup y=some a/\(y,NameKind.free)∈names))/\(∀y,(y,NameKind.free)∈names->cl.lookup y=env.cells.lookup y)/\∀y,(y,NameKind.free)∉names->cl.lookup y=acc.lookup y:=by
  intro names;induction names with
  |nil=>intro acc _;exact gM acc rfl (fun y a e=>.inl e) (fun y h=>absurd h List.not_mem_nil) (fun y uz=>rfl)
  |cons p names ih=>
   intro acc hp;obtain⟨n,k⟩:=p
   erw [List.forIn_cons]
   by_cases hk:k=.free
   ·subst hk;refine an (hp (n,.free) (.head _) rfl) ?_;intro a ha;refine iL (ih ((n,a)::acc) fun p hp'=>hp p (.tail _ hp')) ?_;intro cl e1 e2 e3 e4;refine gM cl ?_ (fun y b e=>?_) (fun y hy=>?_) (fun y hy=>?_)
    ·have:cellOf env n=pure a:=by unfold cellOf;(erw [ha];with_reducible rfl)
     simp only [beq_self_eq_true,if_true,this];exact e1
    ·refine av (e2 y b e) (fun q=>?_) fun q=>?_
     ·rw [List.lookup_cons] at q;by_cases hy:y=n
      ·subst hy;simp at q;subst q;exact .inr ⟨ha,.head _⟩
      ·rw [show(y==n)=false from beq_eq_false_iff_ne.mpr hy] at q;exact .inl q
     ·exact .inr ⟨q.1,.tail _ q.2⟩
    ·by_cases hm:(y,NameKind.free)∈names
     ·exact e3 y hm
     ·refine av (bC hy) (fun e=>?_) fun h=>?_
      ·have e':y=n:=congrArg Prod.fst e
       (erw [e4 y hm];erw [List.lookup_cons];erw [e']);simp [ha]
      ·exact absurd h hm
    ·rw [e4 y fun h=>hy (.tail _ h),List.lookup_cons];rw [show(y==n)=false from beq_eq_false_iff_ne.mpr fun e=>hy (e▸.head _)]
   ·refine iL (ih acc fun p hp'=>hp p (.tail _ hp')) ?_;intro cl e1 e2 e3 e4;refine gM cl ?_ (fun y b e=>(e2 y b e).imp id fun q=>⟨q.1,.tail _ q.2⟩) (fun y hy=>?_) (fun y hy=>e4 y fun h=>hy (.tail _ h))
    ·have:(k==NameKind.free)=false:=beq_eq_false_iff_ne.mpr hk
     simp only [this,cM,if_false];exact e1
    ·refine av (bC hy) (fun e=>?_) fun h=>?_
     ·exact absurd (congrArg Prod.snd e).symm hk
     ·exact e3 y h
 refine iL (key sc.names [] h) ?_;intro cl e1 e2 e3 _;refine aQ cl ?_ (fun y a e=>?_) e3
 ·exact(congrArg (·>>=pure) e1)
 ·refine av (e2 y a e) (fun q=>?_) fun q=>?_
  ·cases q
  ·exact q
noncomputable def ip (env:Env) (y:Str) (k:NameKind):NameKind:=if(k==.free&&env.scope.kind==.function&&env.kindOf y==some .cell)=true then .cell else k
theorem yS {env:Env}{y:Str}(h1:env.scope.kind=.function) (h2:env.kindOf y=some .cell):ip env y .free=.cell:=by unfold ip;(erw [h1];erw [h2]);rfl
theorem qz {env:Env}{y:Str}{k:NameKind}(h:k≠.free):ip env y k=k:=by
 unfold ip;rw [if_neg]
 erw [show(k==NameKind.free)=false from beq_eq_false_iff_ne.mpr h]
 simp
theorem zY {sc:Scope}{env:Env}{y:Str}:(relabel sc env).names.lookup y=(sc.names.lookup y).map (ip env y):=by
 have:∀l:List (Str×NameKind),List.lookup y (l.map fun x=>match x with | (n,k)=>if(k==NameKind.free&&env.scope.kind==ScopeKind.function&&env.kindOf n==some NameKind.cell)=true then(n,NameKind.cell) else(n,k))=(l.lookup y).map (ip env y):=by
  intro l;induction l with
  |nil=>rfl
  |cons p l ih=>
   obtain⟨n,k⟩:=p
   erw [List.map_cons]
   have e:(match (n,k) with | (n,k)=>if(k==NameKind.free&&env.scope.kind==ScopeKind.function&&env.kindOf n==some NameKind.cell)=true then(n,NameKind.cell) else(n,k))=(n,ip env n k):=by
    unfold ip;dsimp only;split<;>rfl
   (erw [e];erw [List.lookup_cons];erw [List.lookup_cons])
   by_cases hy:y=n
   ·subst hy;simp
   ·erw [show(y==n)=false from beq_eq_false_iff_ne.mpr hy];exact ih
 exact this _
section
variable {G:Gd}{z:Bool}{F:Fx}{c:Cc}{C:Cx}{ws ws':Wd}{S S':St}{A:Around}{s s':Shared}{d:Nat}{me m1 m2 m3:ME}{e e1 e2 e3:Expr}{pos p:Pos}{h h':Heap}
noncomputable def kS (C:Cx) (sc:Scope) (cl:List (Str×Addr)) (L:Addr) (nm:List Str):Cx:=
 {env:=compEnvC sc cl L C.env,frs:=C.frs,own:=[L],nm:=nm}
theorem zO {m:List Bool}:∀{l:List (Option V)},m.length=l.length->(dC m l).length=l.length:=by
 induction m with
 |nil=>exact fun{l} h=>h
 |cons b m ih=>
  intro l h;induction l with
  |nil=>rfl
  |cons a l=>exact congrArg (·+1) (ih (Nat.succ.inj h))
theorem IA {m:List Bool}:∀{l:List (Option V)}{i:Nat}{a:V},(dC m l)[i]? = some (some a)->m[i]? = some true/\l[i]? = some (some a):=by
 induction m with
 |nil=>exact fun{l i a} h=>ba h
 |cons b m ih=>
  intro l i a h;cases l with
  |nil=>cases h
  |cons c l=>induction i with
   |succ i=>exact ih h
   |zero=>induction b with
    |true=>exact⟨rfl,h⟩
    |false=>cases h
theorem KV {sc:Scope}{x:Str}{cl:List (Str×Addr)}{L:Addr}{m':Str->Option Value}{o:Option V}(R:Rel G C ws S h) (sk:ScOk G c C) (ci:CompIs c sc x) (h1:∀y a,cl.lookup y=some a->C.env.cells.lookup y=some a/\(y,NameKind.free)∈sc.names) (h2:∀y,(y,NameKind.free)∈sc.names->cl.lookup y=C.env.cells.lookup y)
  (hL:h.Ns L m') (hb:G.base.get? L=none) (ht:L∉tr ws) (ho:∀a,o=some a->∃v,m' x=some v/\Rep ws h a v) :
  Rel G (kS C sc cl L (c.nm++[x])) ws ⟨dC (fE sc c.nm) S.loc++[o],S.st⟩ h:=by
 have lc:=R.lc;have hlen:(fE sc c.nm).length=S.loc.length:=by unfold fE;(erw [eQ];erw [lc.len];erw [sk.nm];with_reducible rfl)
 have freeCell:∀y,(y,NameKind.free)∈sc.names->C.env.kindOf y=some .cell:=fun y hy=>by
  refine av (sk.names y _ (ci.free _ hy rfl)) (fun q=>?_) fun q=>?_
  ·exact q
  ·cases q.1
 have kd:∀y k,sc.names.lookup y=some k->(compEnvC sc cl L C.env).kindOf y=some (if k=.free then .cell else k):=fun y k e=>by
  show(relabel sc C.env).names.lookup y=_
  (erw [zY];erw [e];erw [Option.map_some])
  by_cases hk:k=.free
  ·subst hk
   erw [yS lc.kind (freeCell y (mem_of_lookup e))];rfl
  ·(erw [qz hk];erw [if_neg hk];with_reducible rfl)
 refine⟨R.amb,⟨ci.kind,lc.glob,lc.blt,(aj m' hL (fun i y a e1 e2=>?_)),fun y a e=>lc.cells y a (h1 y a e).1,fun y y' a e1 e2=>lc.capart y y' a (h1 _ _ e1).1 (h1 _ _ e2).1,.head _,fun a ha=>.inl (List.mem_singleton.mp ha),⟨hb,ht⟩,?_,?_,lc.head⟩⟩
 ·have hm:(dC (fE sc c.nm) S.loc).length=c.nm.length:=by(erw [zO hlen];erw [lc.len];erw [sk.nm];with_reducible rfl)
  change (c.nm++[x])[i]? = some y at e1
  by_cases hi:i<c.nm.length
  ·rw [dT hi] at e1;rw [dT (by exact aL [(dC (fE sc c.nm) S.loc).length,c.nm.length,i] [] (.eq aa ae) (.lt ai ae) (.lt ai aa) hm hi)] at e2;refine af (IA e2) ?_;intro q1 q2;unfold fE at q1;rw [List.getElem?_map,e1] at q1;have hfree:sc.names.lookup y=some .free:=by
    have:cr sc y .free=true:=by simpa using q1
    exact cK this
   have hmem:=mem_of_lookup hfree;refine ag lc.ns ?_;intro m hn hv;refine ag (hv i y a (by erw [sk.nm];exact e1) q2) ?_;intro v r hat;refine aj v r (.inr ⟨.inl (by(erw [show(kS C sc cl L (c.nm++[x])).env=compEnvC sc cl L C.env from rfl];erw [kd y _ hfree]);simp),?_⟩);refine av hat ?_ ?_<;>clear hat
   ·intro y0;refine af y0 ?_;clear y0;intro k1 _;rw [freeCell y hmem] at k1;cases k1
   ·intro y0;refine af y0 ?_;clear y0;intro _ y2;refine ag y2 ?_;clear y2;intro a' k2 k3;exact aj a' ((h2 y hmem).trans k2) k3
  ·rw [List.getElem?_append_right (by exact al [i,c.nm.length] [] (.not (.lt aa ae)) (.le ae aa) hi)] at e1;rw [List.getElem?_append_right (by exact aL [(dC (fE sc c.nm) S.loc).length,c.nm.length,i] [] (.eq aa ae) (.not (.lt ai ae)) (.le aa ai) hm hi),hm] at e2;have hi0:i-c.nm.length=0:=by
    refine av (Nat.eq_zero_or_pos (i-c.nm.length)) (fun q=>?_) fun q=>?_
    ·exact q
    ·rw [List.getElem?_eq_none (by simp;exact al [i-c.nm.length] [] (.lt (.k 0) aa) (.le (.k 1) aa) q)] at e1;exact ba e1
   rw [hi0] at e1 e2;simp at e1 e2;subst e1;refine ag (ho a e2) ?_;intro v q1 q2;exact aj v q2 (.inl ⟨by(erw [show(kS C sc cl L (c.nm++[x])).env=compEnvC sc cl L C.env from rfl];erw [kd x _ ci.loc]);simp,q1⟩)
 ·(erw [cf];erw [cf];erw [zO hlen];erw [lc.len];erw [sk.nm]);rfl
 ·(refine aZ (sk.nm ..) ?_);refine List.nodup_append.mpr (aI lc.nodup (by simp) (fun a ha b hb=>?_));simp at hb;subst hb;rintro rfl;exact ci.out (sk.nm▸ha)
theorem KU {sc:Scope}{x:Str}{cl:List (Str×Addr)}{L:Addr}(hk:C.env.scope.kind=.function) (sk:ScOk G c C) (ci:CompIs c sc x) (h2:∀y,(y,NameKind.free)∈sc.names->cl.lookup y=C.env.cells.lookup y) :
  ScOk G {c with scope:=sc,nm:=c.nm++[x],h:=none} (kS C sc cl L (c.nm++[x])):=by
 have freeCell:∀y,(y,NameKind.free)∈sc.names->C.env.kindOf y=some .cell:=fun y hy=>by
  refine av (sk.names y _ (ci.free _ hy rfl)) (fun q=>?_) fun q=>?_
  ·exact q
  ·cases q.1
 have kd:∀y,(compEnvC sc cl L C.env).kindOf y=(sc.names.lookup y).map (ip C.env y):=fun y=>zY;refine⟨sk.K,rfl,fun y k e=>?_,fun y e=>?_,fun y e=>?_,sk.code,sk.qual⟩
 ·change sc.names.lookup y=some k at e
  by_cases hf:k=.free
  ·subst hf;refine .inr ⟨rfl,?_⟩
   (erw [kd];erw [e];erw [Option.map_some];erw [yS hk (freeCell y (mem_of_lookup e))];with_reducible rfl)
  ·refine .inl ?_
   show(compEnvC sc cl L C.env).kindOf y=_
   (erw [kd];erw [e];erw [Option.map_some];erw [qz hf];with_reducible rfl)
 ·change (compEnvC sc cl L C.env).kindOf y=some .cell at e
  rw [kd] at e;cases hl:sc.names.lookup y with
  |none=>rw [hl] at e;cases e
  |some k=>
   rw [hl] at e;have hm:=mem_of_lookup hl;by_cases hf:k=.free
   ·subst hf;refine an (sk.cell y (freeCell y hm)) ?_;intro a ha;exact⟨a,(h2 y hm).trans ha⟩
   ·rw [Option.map_some,qz hf] at e;exact absurd (Option.some.inj e) (ci.nocell _ hm)
 ·change sc.names.lookup y=some .cell at e
  exact absurd rfl (ci.nocell _ (mem_of_lookup e))
theorem Rel.called2 {st':List Cell}{ex:List Addr}(R:Rel G C ws S h) (am:Amb G C.frs ws' st' h') (sp:Step C.fr (G.tab::(ex++tr ws)) h h') (gr:Grow ws h ws') (hx:∀b∈ex,b≠C.env.locals/\∃o es n,h.get? b=some o/\o.data=.dict es n) :
  Rel G C ws' {S with st:=st'} h':=by
 have lc:=R.lc;have notMu:∀{b o},h.get? b=some o->(∀vs,o.data≠.fields vs)->b∉tr ws->b∉ex->b∉G.tab::(ex++tr ws):=fun{b o} e h1 h2 h3 q=>by
  refine av (bC q) (fun q=>?_) fun q=>?_
  ·exact R.notTab e h1 q
  ·exact(dI q).elim h3 h2
 have notEx:∀{b o},h.get? b=some o->(∀es n,o.data≠.dict es n)->b∉ex:=fun{b o} e h1 q=>by
  refine af (hx b q) ?_;intro _ y1;refine dH y1 ?_;clear y1;intro o' es n h2 h3;rw [e] at h2;cases h2;exact h1 _ _ h3
 have out:∀{b:Addr} {o':Obj},h.get? b=some o'->b∉tr ws->b∉tr ws':=fun{b o'} e n q=>by
  rw [gr.new b q n] at e;exact ba e
 have mv:Mv ws h ws' h':=by
  refine⟨fun a o n e hd=>⟨?_,out e n⟩,gr.pre⟩;have hh:(∀es n,o.data≠.dict es n)/\a≠G.tab:=by
   refine av hd ?_ ?_<;>clear hd
   ·intro y0;refine du y0 ?_;clear y0;intro xs k hd;exact⟨by simp [hd],R.notTab e (by simp [hd])⟩
   ·intro y0;refine an y0 ?_;clear y0;intro vs y2;subst y2;refine⟨by simp,?_⟩;rintro rfl;refine ag R.amb.tab ?_;intro ps q _;rw [e] at q;cases q
  refine sp.keep a o e (fun q=>?_) (R.amb.frDict e hh.1);refine av (bC q) (fun q=>?_) fun q=>?_
  ·exact hh.2 q
  ·exact(dI q).elim (notEx e hh.1) n
 have cellKept:∀{c v},h.IsCell c v->c∉tr ws->h'.IsCell c v:=fun{c v} ⟨oc,h1,h2⟩ hn=>
  (aj oc (sp.keep c oc h1 (notMu h1 (by simp [h2]) hn (notEx h1 (by simp [h2]))) (R.amb.frDict h1 (by simp [h2]))) h2)
 refine⟨am,⟨lc.kind,lc.glob,lc.blt,?_,fun x c e=>?_,lc.capart,lc.ownL,lc.own,⟨lc.freshL.1,?_⟩,lc.len,lc.nodup,lc.head⟩⟩
 ·refine ag lc.ns ?_;intro m hn hv;refine cu (id hn) ?_;intro oL es ep hoL hdL hrL;have hnm:=notMu hoL (by simp [hdL]) lc.freshL.2 fun q=>(hx _ q).1 rfl;have hn':h'.Ns C.env.locals m:=by
   by_cases f:C.env.locals∈C.fr
   ·refine an (sp.frk _ _ hoL hnm f) ?_;intro sl e;exact dG _ es ep e hdL hrL
   ·exact dG oL es ep (sp.keep _ _ hoL hnm f) hdL hrL
  refine aj m hn' (fun i x a e1 e2=>?_);refine ag (hv i x a e1 e2) ?_;intro v h1 h2;exact aj v (h1.mv mv) (h2.keeps fun c hc v q=>cellKept q (lc.cells x c hc).2.1)
 ·refine be (lc.cells x c e) ?_;intro y0 h2 h3;refine an y0 ?_;clear y0;intro v q;refine ag (id q) ?_;intro oc hoc _;exact aI (⟨v,cellKept q h2⟩) (out hoc h2) h3
 ·refine ag lc.ns ?_;intro m y1 _;refine cu y1 ?_;clear y1;intro o' es ep ho hd _;exact out ho lc.freshL.2
end
end
section
variable {G:Gd}{z:Bool}{F:Fx}{c:Cc}{C:Cx}{ws ws':Wd}{S S':St}{A:Around}{s s':Shared}{d:Nat}{me m1 m2 m3:ME}{e e1 e2 e3:Expr}{pos p:Pos}{h h':Heap}
theorem I5 {I:Addr}{i:Nat}{a:V}{r:Value}{Q:VP}{E:VP}(hit:ItAt s.heap I i a r) (q:Q (.ref I) s):wpAny (model G.prog G.w) A (pyIter (.ref I)) Q E s:=by
 cases a<;>simp only [ItAt] at hit
 case lst=>(refine ag hit ?_;clear hit;intro l y1 hi;subst y1);exact wpAny_pyIter_listiter hi q
 case obj=>(refine ag hit ?_;clear hit;intro l y1 hi;subst y1);exact wpAny_pyIter_listiter hi q
 case tup=>(refine ag hit ?_;clear hit;intro l y1 hi;subst y1);exact wpAny_pyIter_tupleiter hi q
 case str=>
  refine aY hit ?_;clear hit;intro T t hT y3 hi;subst y3;refine av hT ?_ ?_<;>clear hT
  ·rintro rfl;exact wpAny_pyIter_striter_ascii hi q
  ·rintro rfl;exact wpAny_pyIter_striter_wide hi q
 case rng=>exact wpAny_pyIter_rangeiter hit q
theorem uL {env:Env}:∀(l:List Expr),(forIn l false fun c r=>if r=true then do let ok ←isTrue c env (eval c env);pure (ForInStep.yield ok) else pure (ForInStep.yield r):Sem Bool)=pure false
 | []=>rfl
 |e::l=>by
  erw [List.forIn_cons]
  exact uL (env:=env) l
theorem DH {es:List Expr}:∀{ms:List ME},de (ST G false F c) ms es->∀{C:Cx}{ws:Wd}{S:St}{s:Shared}{A:Around}{d:Nat}{Q:Bool->St->Prop}{X:XE}{Qm:Bool->Shared->Prop}{Em:VP},
  ScOk G c C->FxOk G false d F->Rel G C ws S s.heap->AOk A C.frs d->0<s.toks->gq F ms S Q X->WTt G C ws s Q Qm->WXt G C ws s X Em->
  wpAny (model G.prog G.w) A (forIn es true fun c r=>if r=true then do let ok ←isTrue c C.env (eval c C.env);pure (ForInStep.yield ok) else pure (ForInStep.yield r)) Qm Em s:=by
 induction es with
 |nil=>
  intro ms ha;induction ms with
  |cons=>exact ha.elim
  |nil=>
   intro C ws S s A d Q X Qm Em sc hF R hA ht hw q qx;exact wpAny_tests_nil (q ws S s true (.refl R) (bw _) hw)
 |cons e es ih=>
  intro ms ha;induction ms with
  |nil=>exact ha.elim
  |cons m ms=>
   intro C ws S s A d Q X Qm Em sc hF R hA ht hw q qx
   erw [List.forIn_cons]
   refine az (az (jn (ha.1 sc hF R hA ht hw (fun ws1 S1 s1 b o1 t1 h=>?_) qx)));refine aX ?_;induction b with
   |true=>exact ih ha.2 sc hF o1.rel hA (bA ht t1) (h.1 rfl) (q.after o1 t1) (qx.after o1 t1)
   |false=>
    show wpAny _ _ (forIn es false _) _ _ _
    erw [uL]
    exact aX (q _ _ _ _ o1 t1 (h.2 rfl))
theorem Rel.putDict {L:Addr}{m:Str->Option Value}(R:Rel G C ws S h) (hL:h.Ns L m) (hown:L∉C.own) (hfr:L∉C.fr) (ht:L∉tr ws) (hb:G.base.get? L=none) (sb:∀b,b≠L->h'.get? b=h.get? b):Rel G C ws S h':=by
 refine cu hL ?_;clear hL;intro oL esL nL hoL hdL _;have ne:∀{b o},h.get? b=some o->(∀es n,o.data≠.dict es n)->h'.get? b=some o:=fun{b o} e hd=>(sb b fun q=>by rw [q,hoL] at e;cases e;exact hd _ _ hdL).trans e;have lc:=R.lc;have a:=R.amb;have mv:Mv ws h ws h':=⟨fun b o n e hd=>⟨ne e (by
  refine av hd ?_ ?_<;>clear hd
  ·intro y0;refine du y0 ?_;clear y0;intro xs k hd
   simp [hd]
  ·intro y0;refine an y0 ?_;clear y0;intro vs y2;subst y2
   simp),n⟩,fun uz uz e=>e⟩
 have trk:∀{b o},b∈tr ws->h.get? b=some o->h'.get? b=some o:=fun{b o} hbt e=>(sb b fun q=>ht (q▸hbt)).trans e;refine⟨⟨fun b o e=>(sb b fun q=>by rw [q,hb] at e;exact ba e).trans (a.base b o e),fun e he=>?_,?_,a.tabF,a.len,fun n p c e1 e2=>?_,a.fresh,a.apart⟩,⟨lc.kind,lc.glob,lc.blt,?_,fun x c e=>?_,lc.capart,lc.ownL,lc.own,lc.freshL,lc.len,lc.nodup,lc.head⟩⟩
 ·refine af (a.frames e he) ?_;intro q1 y1;refine eX y1 ?_;clear y1;intro L2 o es n q2 q3 q;exact⟨q1,L2,o,es,n,q2,(sb L2 fun q=>hfr (q▸List.mem_filterMap.mpr (aj e he q2))).trans q3,q⟩
 ·refine ag a.tab ?_;intro ps q1 q2;refine aj ps (ne q1 (by simp)) (q2.imp id fun⟨c,e,n,q⟩=>(aQ c e n ?_));refine eW q ?_;clear q;intro c' o vs t e1 g hd hv;exact iJ c' o vs t e1 (ne g (by simp [hd])) hd hv
 ·exact(a.cells n p c e1 e2).mv mv (fun o=>trk (fa e1 _ (by simp))) fun o=>trk (fa e1 _ (by simp))
 ·refine ag lc.ns ?_;intro m y1 q2;refine dH y1 ?_;clear y1;intro o es n ho hr;refine aj m ((ie o es n ((sb _ fun q=>hown (q▸lc.ownL)).trans ho) hr)) (fun i x a e1 e2=>?_);refine ag (q2 i x a e1 e2) ?_;intro v q3 q4;exact aj v (q3.mv mv) (q4.keeps fun c _ v ⟨oc,h1,h2⟩=>(aj oc (ne h1 (by simp [h2])) h2))
 ·refine af (lc.cells x c e) ?_;intro y0 r;refine bd y0 ?_;clear y0;intro v oc h1 h2;exact⟨(bB v oc (ne h1 (by simp [h2])) h2),r⟩
theorem Be {elt iter:Expr}{x:Str}{px pos:Pos}{ifs:List Expr}{sc:Scope}{mel:ME}{mifs:List ME}(ci:CompIs c sc x) (hel:SE G false F {c with scope:=sc,nm:=c.nm++[x],h:=none} mel elt) (hifs:de (ST G false F {c with scope:=sc,nm:=c.nm++[x],h:=none}) mifs ifs)
  {C:Cx} {ws:Wd} {S:St} {s:Shared} {A:Around} {d:Nat} {cl:List (Str×Addr)} {a:V} {r:Value} {items:List V} {J:List V->List V->List Cell->Prop} {R:Value->Addr->Result->Shared->Prop} {E:VP}
  (sk:ScOk G c C) (hF:FxOk G false d F) (Rl:Rel G C ws S s.heap) (hA:AOk A C.frs d) (ht:0<s.toks)
  (h1:∀y a,cl.lookup y=some a->C.env.cells.lookup y=some a/\(y,NameKind.free)∈sc.names) (h2:∀y,(y,NameKind.free)∈sc.names->cl.lookup y=C.env.cells.lookup y)
  (hi:d6 S.st a=some items) (rr:Rep ws s.heap a r) (hJ:J [] items (S.st++[.list []]))
  (hturn:∀ys v rest st,J ys (v::rest) st->(∀n,a=.obj n->st[n]? = S.st[n]?)/\ys.length<sizeLine/\
    gq F mifs ⟨dC (fE sc c.nm) S.loc++[some v],st⟩ (fun b S2=>(b=true->aF F mel S2 (fun c S3=>S3.st[S.st.length]? = some (.list ys)/\J (ys++[c]) rest (S3.st.set S.st.length (.list (ys++[c])))) (fun uz uz=>False))/\(b=false->J ys rest S2.st)) (fun uz uz=>False))
  (hend:∀ys st,J ys [] st->(∀n,a=.obj n->st[n]? = S.st[n]?))
  (hR:∀s' ws' st' D L ys,Out G C ws s ws' ⟨S.loc,st'⟩ s'->s.toks<=s'.toks->Rep ws' s'.heap (.obj S.st.length) (.ref D)->J ys [] st'->
   (∀s'' ws'' S'',Out G C ws' s' ws'' S'' s''->(∃m'',s''.heap.Ns L m'')/\∀h',Heap.SameBut L s''.heap h'->Out G C ws s ws'' S'' {s'' with heap:=h'}/\Rep ws'' h' (.obj S.st.length) (.ref D))->R (.ref D) L (.ok .next) s') :
  wpAny (model G.prog G.w) A (pyIter r) (fun it s₂=>wpAny (model G.prog G.w) A (newList []) (fun acc s₃=>
   wpAny (model G.prog G.w) A (newFunctionEnv sc C.env.globals cl [] C.env.qual none .none (some C.env)) (fun cenv s₄=>
    codeAny (model G.prog G.w) A (.compStart (.ListComp elt [⟨.Name x px,iter,ifs,0⟩] sc pos) 0 it acc {cenv with scope:=relabel sc C.env}) (R acc cenv.locals) s₄) E s₃) E s₂) E s:=by
 refine kY (z5 Rl hi rr fun o io t1=>?_);generalize hI:s.heap.objs.size=I at io⊢;have hInone:s.heap.get? I=none:=gc _ (Nat.le_of_eq hI);refine wpAny_newObj_type (wpAny_newFunctionEnv ci.nocell (by intro y hy;simp at hy) (fun h₁ hns₁ hsb₁=>?_) ci.kind);dsimp only at hns₁ hsb₁⊢;generalize hH1:s.heap.push o=H1 at io hns₁ hsb₁⊢;generalize hD:H1.objs.size=D at hns₁ hsb₁⊢;have hD':D=I+1:=by(refine aZ (hD ..) ?_;refine aZ (hH1 ..) ?_;erw [Heap.size_push];erw [hI];with_reducible rfl)
 generalize hH2:H1.push {cls:=.type "list",dict:=none,data:=.seq ([]:List Value).toArray}=H2 at hns₁ hsb₁⊢;generalize hL:H2.objs.size=L at hns₁ hsb₁⊢;have hL':L=I+2:=by(refine aZ (hL ..) ?_;refine aZ (hH2 ..) ?_;erw [Heap.size_push];erw [hD];erw [hD'];with_reducible rfl)
 have hIL:I≠L:=by erw [hL'];exact Nat.ne_of_lt (aH [I] [] (.lt aa (.a aa (.k 2))))
 have hDL:D≠L:=by(erw [hL'];erw [hD']);exact Nat.ne_of_lt (aH [I] [] (.lt (.a aa (.k 1)) (.a aa (.k 2))))
 have hDnone:s.heap.get? D=none:=gc _ (by(erw [hD'];erw [hI]);exact aH [I] [] (.le aa (.a aa (.k 1))));have hLnone:s.heap.get? L=none:=gc _ (by(erw [hL'];erw [hI]);exact aH [I] [] (.le aa (.a aa (.k 2))));have neL:∀{b ob},s.heap.get? b=some ob->b≠L:=fun{b ob} e q=>by rw [q,hLnone] at e;exact ba e
 have neI:∀{b ob},s.heap.get? b=some ob->b≠I:=fun{b ob} e q=>by rw [q,hInone] at e;exact ba e
 have up1:∀b ob,H1.get? b=some ob->b≠L->h₁.get? b=some ob:=fun b ob e n=>hsb₁.extBut b ob n (bL _ (hH2▸bL _ e));have kp:∀b ob,s.heap.get? b=some ob->h₁.get? b=some ob:=fun b ob e=>up1 b ob (hH1▸bL _ e) (neL e);have hDget:h₁.get? D=some {cls:=.type "list",data:=.seq (List.toArray [])}:=hsb₁.extBut _ _ hDL (bL _ (hH2▸hD▸dv _ rfl));have io1:ItAt h₁ I 0 a r:=io.at fun ob e=>up1 I ob e hIL;have R1:=Rl.track (p:=(D,D)) (c:=.list []) (h':=h₁) kp hDnone hDnone (aI rfl (Nat.zero_le _) (bB ([]) 0 hDget .nil));have o1:Out G C ws s (ws++[(D,D)]) ⟨S.loc,S.st++[.list []]⟩ {s with heap:=h₁,toks:=s.toks+([]:List (Str×Value)).length}:=⟨R1,.of_keeps kp,oj hDnone hDnone,rfl,rfl⟩;have base_none:∀{b},s.heap.get? b=none->G.base.get? b=none:=fun{b} e=>by
  cases q:G.base.get? b with
  |none=>rfl
  |some ob=>rw [Rl.amb.base b ob q] at e;exact dy e
 have hIb:=base_none hInone;have hLb:=base_none hLnone;have not_tab:∀{b},s.heap.get? b=none->b≠G.tab:=fun{b} e=>by
  rintro rfl;refine ag Rl.amb.tab ?_;intro ps q1 _;rw [e] at q1;exact ba q1
 have not_own:∀{b},s.heap.get? b=none->b∉C.own:=fun{b} e q=>by
  (refine an (Rl.ownIn q) ?_;intro ob ho);rw [e] at ho;exact ba ho
 have not_fr:∀{b},s.heap.get? b=none->b∉C.fr:=fun{b} e q=>by
  (refine dH (Rl.amb.frIn q) ?_;intro ob _ _ ho _);rw [e] at ho;exact ba ho
 have not_tr:∀{b},s.heap.get? b=none->b∉tr ws:=fun{b} e q=>by
  (refine ag (Rl.amb.trThere q) ?_;intro ob ho _);rw [e] at ho;exact ba ho
 have hN:(ws++[(D,D)])[S.st.length]? = some (D,D):=by(refine aZ (Rl.amb.len ..) ?_);simp
 have hIt1:I∉tr (ws++[(D,D)]):=fun q=>by
  (focus (refine av (iB.mp q) ?_ ?_;intro q;rotate_left;intro y0;(focus (refine av y0 ?_ ?_<;>clear y0;intro q;rotate_left;intro q;rotate_left));rotate_left 2))
  ·exact not_tr hInone q
  ·rw [hD'] at q;exact absurd q (Nat.ne_of_lt (by omega))
  ·rw [hD'] at q;exact absurd q (Nat.ne_of_lt (by omega))
 have hLt1:L∉tr (ws++[(D,D)]):=fun q=>by
  (focus (refine av (iB.mp q) ?_ ?_;intro q;rotate_left;intro y0;(focus (refine av y0 ?_ ?_<;>clear y0;intro q;rotate_left;intro q;rotate_left));rotate_left 2))
  ·exact not_tr hLnone q
  ·exact hDL q.symm
  ·exact hDL q.symm
 have hkindL:Env.kindOf (compEnvC sc cl L C.env) x=some .local:=lookup_relabel_local ci.loc;have scC:=KU (cl:=cl) (L:=L) Rl.lc.kind sk ci h2;have loop:∀s₃:Shared,s₃={s with heap:=h₁,toks:=s.toks+([]:List (Str×Value)).length}->
   codeAny (model G.prog G.w) A (.compLoop (.ListComp elt [⟨.Name x px,iter,ifs,0⟩] sc pos) 0 (.ref I) (.ref D) (compEnvC sc cl L C.env)) (R (.ref D) L) s₃:=by
  rintro s₃ rfl;refine codeAny_compLoop_tests (fun n s'=>∃ws' st' ys k m',Out G C ws s ws' ⟨S.loc,st'⟩ s'/\s.toks<=s'.toks/\k<=items.length/\n=items.length-k/\ItAt s'.heap I k a r/\Rep ws' s'.heap a r/\I∉tr ws'/\
    s'.heap.Ns L m'/\L∉tr ws'/\ws'[S.st.length]? = some (D,D)/\J ys (items.drop k) st') (fun n s2 hs2=>?_) items.length
   (to _ _ ([]) 0 _ o1 (bw _) (Nat.zero_le _) (by simp) io1 (rr.mv (o1.mv Rl)) hIt1 (hns₁) hLt1 hN (by simpa using hJ))
  (obtain⟨ws2,st2,ys,k,m',p1,p2,hk,y8,hat,rv,hnt,hns,hLt,hN2,hJ2⟩:=hs2;subst y8)
  have hpriv:=hat.priv;have hnsI:∀{h':Heap},(∀b o,b≠I->s2.heap.get? b=some o->h'.get? b=some o)->h'.Ns L m':=fun{h'} kk=>by
   refine dH hns ?_;clear hns;intro oL es n ho hr;exact ie oL es n (kk _ _ (Ne.symm hIL) ho) hr
  by_cases hlt:k<items.length
  ·have hdrop:items.drop k=items[k]::items.drop (k+1):=(List.getElem_cons_drop hlt).symm;rw [hdrop] at hJ2;refine be (hturn _ _ _ _ hJ2) ?_;intro hsame hys hw;have hit2:d6 st2 a=some items:=nY hi hsame;refine kY (zr (S:=⟨S.loc,st2⟩) p1.rel hit2 rv hat (b:=items[k]) (by simp [hlt]) hA.handled fun h' tk u hat' kk ru t3=>?_);have mv1:Mv ws2 s2.heap ws2 h':=hpriv.mv kk;have Rp:Rel G C ws2 ⟨S.loc,st2⟩ h':=p1.rel.privy hpriv kk (not_tab hInone) hIb;have hnL:=hnsI kk;refine kY (wpAny_assign_Name (wpAny_storeName_local hkindL hnL (fun h₃ hn₃ hs₃ t4=>?_) (by simp [compEnvC,relabel,ci.kind])));dsimp only at t3 t4⊢;have sb3:∀b,b≠L->h₃.get? b=h'.get? b:=fun b hb=>hs₃.2 b hb;have R3:Rel G C ws2 ⟨S.loc,st2⟩ h₃:=Rp.putDict hnL (not_own hLnone) (not_fr hLnone) hLt hLb sb3;have mv3:Mv ws2 h' ws2 h₃:=⟨fun b o n e hd=>⟨(sb3 b fun q=>by
    refine cu hnL ?_;clear hnL;intro oL es nn ho hd' _
    rw [q] at e
    have e':some o=some oL:=e.symm.trans ho
    cases e'
    refine av hd ?_ ?_<;>clear hd
    ·intro y0;refine du y0 ?_;clear y0;intro xs kk hd
     rw [hd] at hd';cases hd'
    ·intro y0;refine an y0 ?_;clear y0;intro vs y2;subst y2
     cases hd').trans e,n⟩,fun uz uz e=>e⟩
   have ru3:Rep ws2 h₃ items[k] u:=(ru.mv mv1).mv mv3;have RC:=KV (o:=some items[k]) R3 sk ci h1 h2 hn₃ hLb hLt fun b e=>(aj u (if_pos rfl) (by cases e;exact ru3));have st3:Step C.fr (mu G C ws) s.heap h₃:=by
    refine⟨fun b ob e n f=>?_,fun b ob e n f=>?_,fun b ob e=>?_⟩
    ·exact(sb3 b (neL e)).trans (kk b ob (neI e) (p1.step.keep b ob e n f))
    ·refine an (p1.step.frk b ob e n f) ?_;intro sl e1;exact⟨sl,(sb3 b (neL e)).trans (kk b _ (neI e) e1)⟩
    ·refine an (p1.step.dom b ob e) ?_;intro o1 e1;exact⟨o1,(sb3 b (neL e)).trans (kk b _ (neI e) e1)⟩
   have hat3:ItAt h₃ I (k+1) a r:=hat'.at fun ob e=>(sb3 I hIL).trans e;have rv3:Rep ws2 h₃ a r:=(rv.mv mv1).mv mv3;refine aY (id hat3.priv) ?_;intro oI vsI hoI hdI _;have close:∀{s3:Shared} {ws'':Wd} {S'':St} {s'':Shared},s3.heap=h₃->s3.gens=s.gens->s3.os=s.os->Out G (kS C sc cl L (c.nm++[x])) ws2 s3 ws'' S'' s''->
     Out G C ws s ws'' ⟨S.loc,S''.st⟩ s''/\ItAt s''.heap I (k+1) a r/\Rep ws'' s''.heap a r/\I∉tr ws''/\(∃m'',s''.heap.Ns L m'')/\L∉tr ws''/\ws''[S.st.length]? = some (D,D):=by
    intro s3 ws'' S'' s'' e3 g3 os3 oC;have sp:=oC.step;have gr:=oC.grow;rw [e3] at sp gr;have rl:=Rel.called2 (ex:=[L]) R3 oC.rel.amb sp gr fun b hb=>by
     erw [List.mem_singleton.mp hb]
     refine cu hn₃ ?_;clear hn₃;intro oL es nn ho hd' _;exact⟨fun q=>(by(refine ag Rl.lc.ns ?_;intro m y1 _;refine dH y1 ?_;clear y1;intro o' _ _ ho' _);rw [←q,hLnone] at ho';exact ba ho'),oL,es,nn,ho,hd'⟩
    have hIm:I∉mu G (kS C sc cl L (c.nm++[x])) ws2:=fun q=>by
     refine av (bC q) (fun q=>?_) fun q=>?_
     ·exact not_tab hInone q
     ·refine av (dI q) (fun q=>?_) fun q=>?_
      ·exact hIL (List.mem_singleton.mp q)
      ·exact hnt q
    refine CF (⟨rl,st3.trans sp fun b hb=>?_,p1.grow.trans p1.step ?_,oC.gens.trans g3,oC.os.trans os3⟩) (hat3.at fun ob e=>sp.keep I ob e hIm (not_fr hInone)) ?_ (fun q=>?_) ?_ ?_ (gr.pre _ _ hN2)
    ·refine av (bC hb) (fun q=>?_) fun q=>?_
     ·exact .inl (q▸.head _)
     ·refine av (dI q) (fun q=>?_) fun q=>?_
      ·exact .inr (List.mem_singleton.mp q▸hLnone)
      ·by_cases qq:b∈tr ws
       ·exact .inl (.tail _ (List.mem_append_right _ qq))
       ·exact .inr (p1.grow.new b q qq)
    ·refine⟨gr.pre,fun b hb hn=>?_⟩;have:=gr.new b hb hn;cases e:s2.heap.get? b with
     |none=>rfl
     |some ob=>
      exfalso
      by_cases qI:b=I
      ·subst qI;rw [hoI] at this;exact dy this
      ·have q1:=kk b ob qI e;by_cases qL:b=L
       ·subst qL;refine dH hn₃ ?_;clear hn₃;intro oL es nn ho _;have e1:=ho.symm.trans this;exact dy e1
       ·rw [sb3 b qL,q1] at this;exact dy this
    ·refine rv3.mv ?_;have:=oC.mv (S:=⟨dC (fE sc c.nm) S.loc++[some items[k]],st2⟩) (by erw [e3];exact RC);rw [e3] at this;exact this
    ·have:=gr.new I q hnt
     rw [hoI] at this;exact dy this
    ·(refine ag oC.rel.lc.ns ?_;intro m'' hm _);exact⟨m'',hm⟩
    ·exact oC.rel.lc.freshL.2
   have ht3:0<s2.toks:=bA ht p2;refine DH (s:={s2 with heap:=h₃,toks:=tk+1}) hifs scC hF RC hA (bA ht3 (aW t3 (Nat.le_succ _))) hw (fun ws4 S4 s4 b o4 t44 h=>?_) (fun uz uz uz uz uz uz uz uz h=>h.elim);have t24:s2.toks<=s4.toks:=aW (aW t3 (Nat.le_succ _)) t44;induction b with
   |false=>
    refine CS (close (s3:={s2 with heap:=h₃,toks:=tk+1}) rfl p1.gens p1.os o4) ?_;intro c1 c2 c3 c4 y4 c6 c7;refine an y4 ?_;clear y4;intro m'' c5;exact(aj (items.length-(k+1)) (bQ [k,items.length,items.length-(k+1),items.length-k] [] (.lt aa ae) (.sb ai ae (.a aa (.k 1))) (.sb aG ae aa) (.lt ai aG) hlt (bg (items.length) (k+1)) (bg (items.length) (k))) (to ws4 S4.st ys (k+1) m'' c1 (aW p2 t24) hlt rfl c2 c3 c4 c5 c6 c7 (h.2 rfl)))
   |true=>
    refine jn (hel scC hF o4.rel hA (bA ht3 t24) (h.1 rfl) (fun ws5 S5 s5 cv y o5 t5 ry h=>?_) (fun uz uz uz uz uz uz uz uz h=>h.elim));refine af h ?_;clear h;intro hc hJ5;have o45:=o4.trans o5;have hN5:ws5[S.st.length]? = some (D,D):=o45.grow.pre _ _ hN2;refine kY (BI o5.rel hc hys (v:=.ref D) ((aj ((D,D)) hN5 rfl)) ry fun s6 o6 t6=>?_);refine CS (close (s3:={s2 with heap:=h₃,toks:=tk+1}) rfl p1.gens p1.os (o45.trans o6)) ?_;intro c1 c2 c3 c4 y4 c6 c7;refine an y4 ?_;clear y4;intro m'' c5;exact(aj (items.length-(k+1)) (bQ [k,items.length,items.length-(k+1),items.length-k] [] (.lt aa ae) (.sb ai ae (.a aa (.k 1))) (.sb aG ae aa) (.lt ai aG) hlt (bg (items.length) (k+1)) (bg (items.length) (k))) (to ws5 _ (ys++[cv]) (k+1) m'' c1 (aW p2 (aW t24 (aW t5 t6))) hlt rfl c2 c3 c4 c5 c6 c7 hJ5))
  ·have hkl:k=items.length:=by exact aL [k,items.length] [] (.le aa ae) (.not (.lt aa ae)) (.eq aa ae) hk hlt
   subst hkl;rw [List.drop_length] at hJ2;have hsame:=hend _ _ hJ2;refine zt (S:=⟨S.loc,st2⟩) p1.rel (nY hi hsame) rv hat hA.handled fun h' kk=>?_;have Rp:Rel G C ws2 ⟨S.loc,st2⟩ h':=p1.rel.privy hpriv kk (not_tab hInone) hIb;have hnL:=hnsI kk;have st3:Step C.fr (mu G C ws) s.heap h':=by
    refine⟨fun b ob e n f=>?_,fun b ob e n f=>?_,fun b ob e=>?_⟩
    ·exact kk b ob (neI e) (p1.step.keep b ob e n f)
    ·refine an (p1.step.frk b ob e n f) ?_;intro sl e1;exact⟨sl,kk b _ (neI e) e1⟩
    ·refine an (p1.step.dom b ob e) ?_;intro o1 e1;exact⟨o1,kk b _ (neI e) e1⟩
   have p3:Out G C ws s ws2 ⟨S.loc,st2⟩ {s2 with heap:=h'}:=⟨Rp,st3,p1.grow,p1.gens,p1.os⟩;refine hR _ ws2 st2 D L ys p3 p2 ((aj ((D,D)) hN2 rfl)) hJ2 fun s'' ws'' S'' o2=>?_;have hLm:L∉mu G C ws2:=fun q=>by
    refine av (bC q) (fun q=>?_) fun q=>?_
    ·exact not_tab hLnone q
    ·exact(dI q).elim (not_own hLnone) hLt
   have hnL2:s''.heap.Ns L m':=by
    refine dH hnL ?_;clear hnL;intro oL es nn ho hr;exact ie oL es nn (o2.step.keep L oL ho hLm (not_fr hLnone)) hr
   refine⟨⟨m',hnL2⟩,fun h'' hs''=>?_⟩;have o3:=p3.trans o2;have sb:∀b,b≠L->h''.get? b=s''.heap.get? b:=fun b hb=>hs''.2 b hb;have hLt2:L∉tr ws'':=fun q=>by
    have:=o2.grow.new L q hLt
    refine dH hnL ?_;clear hnL;intro oL es nn ho hr;have e1:=ho.symm.trans this;exact dy e1
   refine⟨⟨o3.rel.putDict hnL2 (not_own hLnone) (not_fr hLnone) hLt2 hLb sb,⟨fun b ob e n f=>?_,fun b ob e n f=>?_,fun b ob e=>?_⟩,o3.grow,o3.gens,o3.os⟩,?_⟩
   ·exact(sb b (neL e)).trans (o3.step.keep b ob e n f)
   ·refine an (o3.step.frk b ob e n f) ?_;intro sl e1;exact⟨sl,(sb b (neL e)).trans e1⟩
   ·refine an (o3.step.dom b ob e) ?_;intro o1 e1;exact⟨o1,(sb b (neL e)).trans e1⟩
   ·simp only [Rep];exact aj ((D,D)) (o2.grow.pre _ _ hN2) rfl
 exact codeAny_compStart_list (loop _ rfl) (I5 io1 (loop _ rfl))
end
section
variable {G:Gd}{z:Bool}{F:Fx}{c:Cc}{pos p:Pos}
theorem Bf {C:Cx}{sc:Scope}{x:Str}(sk:ScOk G c C) (ci:CompIs c sc x):∃cl,closureFor sc C.env=pure cl/\(∀y a,cl.lookup y=some a->C.env.cells.lookup y=some a/\(y,NameKind.free)∈sc.names)/\∀y,(y,NameKind.free)∈sc.names->cl.lookup y=C.env.cells.lookup y:=
 Lc fun q hq e=>by
  refine av (sk.names q.1 _ (ci.free q hq e)) (fun h=>?_) fun h=>?_
  ·exact sk.cell _ h
  ·cases h.1
theorem vh {elt iter:Expr}{x:Str}{px:Pos}{ifs:List Expr}{sc:Scope}{mel mit:ME}{mifs:List ME}(hfs:∀env x,foldedSetIterable iter env x=pure x) (hc:kR c sc x=true) (hel:SE G z F {c with scope:=sc,nm:=c.nm++[x],h:=none} mel elt)
  (hifs:de (ST G z F {c with scope:=sc,nm:=c.nm++[x],h:=none}) mifs ifs) (hit:SE G z F c mit iter):SE G z F c (.comp mel (fE sc c.nm) mit mifs) (.ListComp elt [⟨.Name x px,iter,ifs,0⟩] sc pos):=by
 intro C ws S s A d Q X Qm Em sk hF R hA ht hw q qx;refine af hw ?_;clear hw;intro hz hw;obtain rfl:z=false:=hF.zz▸hz;have ci:=Bg hc;refine a8 (Bf sk ci) ?_;intro cl h0 h1 h2
 erw [eval_ListComp]
 refine aE (wpAny_comprehension_free (use:=none) rfl (hfs _) h0 ci.kind ci.locs (jn (hit sk hF R hA ht hw (fun ws1 S1 s1 a v o1 t1 ra h=>?_) qx)));refine a8 h ?_;clear h;intro items hi hsz y3;refine a8 y3 ?_;clear y3;intro J hJ hturn hend;refine Be (J:=J) ci hel hifs sk hF o1.rel hA (bA ht t1) h1 h2 hi ra hJ hturn (fun ys st hj=>(hend ys st hj).1) fun s' ws' st' D L ys o t r hj k=>?_;refine af (k s' ws' ⟨S1.loc,st'⟩ (.refl o.rel)) ?_;intro y0 kk;refine an y0 ?_;clear y0;intro m hm;exact aj m hm (fun h' hs=>q _ _ _ _ _ (o1.trans (kk h' hs).1) (aW t1 t) (kk h' hs).2 (hend ys st' hj).2)
set_option tactic.hygienic true in
theorem FA {elt iter:Expr}{x y:Str}{px py spos:Pos}{i:Nat}{ifs:List Expr}{sc:Scope}{mel mit:ME}{mifs:List ME}(hy:dU c y=some i) (hfs:∀env x,foldedSetIterable iter env x=pure x) (hc:kR c sc x=true) (hel:SE G z F {c with scope:=sc,nm:=c.nm++[x],h:=none} mel elt)
  (hifs:de (ST G z F {c with scope:=sc,nm:=c.nm++[x],h:=none}) mifs ifs) (hit:SE G z F c mit iter):SS G z F c (.set i (.comp mel (fE sc c.nm) mit mifs)) (.Assign [.Name y py] (.ListComp elt [⟨.Name x px,iter,ifs,0⟩] sc pos) spos):=by
 intro C ws S s A d Q X Qm Em fc sk hF R hA ht hw q qx;have e:exec (.Assign [.Name y py] (.ListComp elt [⟨.Name x px,iter,ifs,0⟩] sc pos) spos) C.env=(do
   standAt spos
   if ←swapsWithSole [.Name y py] (.ListComp elt [⟨.Name x px,iter,ifs,0⟩] sc pos) spos.line C.env then do
    evalThenUse (.ListComp elt [⟨.Name x px,iter,ifs,0⟩] sc pos) C.env fun v=>assignAll v ((assignEach [.Name y py] C.env).map (·.2))
    pure .next
   else do
    let v ←eval (.ListComp elt [⟨.Name x px,iter,ifs,0⟩] sc pos) C.env
    assignStores C.env v (←swappedStores [.Name y py] (.ListComp elt [⟨.Name x px,iter,ifs,0⟩] sc pos) C.env) ((assignEach [.Name y py] C.env).map (·.2))):=rfl
 erw [e]
 have hsw:∃b,swapsWithSole [.Name y py] (.ListComp elt [⟨.Name x px,iter,ifs,0⟩] sc pos) spos.line C.env=pure b:=⟨_,rfl⟩;refine an hsw ?_;clear hsw;intro b hb
 erw [hb]
 replace hw:aF F (.comp mel (fE sc c.nm) mit mifs) S (fun a S1=>Q .next (aJ S1 i a)) X:=hw;refine bS (aR (aP ?_));induction b with
 |false=>
  refine aM (vh (pos:=pos) (px:=px) hfs hc hel hifs hit sk hF R hA ht hw (Qm:=fun v s₁=>wpAny (model G.prog G.w) A (assign (.Name y py) C.env v) (fun uz=>Qm .next) Em s₁) (fun ws1 S1 s1 a v o1 t1 ra h=>?_) qx) fun v s₁ h₁=>?_
  ·exact ng hy sk o1.rel ra fun s2 o2 t2=>q _ _ _ .next .next (o1.trans o2) (aW t1 t2) rfl h
  ·refine aR (aP (a:=none) ?_);exact aM (m:=assign (.Name y py) C.env v) (aE h₁) fun uz uz h₂=>aP h₂
 |true=>
  refine af hw ?_;clear hw;intro hz hw;obtain rfl:z=false:=hF.zz▸hz;have ci:=Bg hc;refine a8 (Bf sk ci) ?_;intro cl h0 h1 h2;refine aE (az (az (wpAny_mono (wpAny_comprehension_free (use:=some (assign (.Name y py) C.env)) (Q:=fun uz s'=>Qm .next s') rfl (hfs _) h0 ci.kind ci.locs
   (jn (hit sk hF R hA ht hw (fun ws1 S1 s1 a v o1 t1 ra h=>?_) qx))) (fun uz s' hq=>aX (aX hq)) fun uz uz e=>e)))
  refine a8 h ?_;clear h;intro items hi hsz y3;refine a8 y3 ?_;clear y3;intro J hJ hturn hend;refine Be (J:=J) ci hel hifs sk hF o1.rel hA (bA ht t1) h1 h2 hi ra hJ hturn (fun ys st hj=>(hend ys st hj).1) fun s' ws' st' D L ys o t r hj k=>?_;refine ng hy sk o.rel r fun s2 o2 t2=>?_;refine af (k s2 ws' _ o2) ?_;intro y0 kk;refine an y0 ?_;clear y0;intro m hm;exact aj m hm (fun h' hs=>q _ _ _ .next .next (o1.trans (kk h' hs).1) (aW t1 (aW t t2)) rfl (hend ys st' hj).2)
end
section
variable {G:Gd}{z:Bool}{F:Fx}
def HOk (G:Gd) (z:Bool) (F:Fx) (c:Cc):Prop:=∀e,c.h.isSome=true->ca (fun p=>SE G z F c (if p.1 then .heardL p.2 else .heardM p.2) e) (Ai c e)
theorem HOk.off {c:Cc}(h:c.h=none):HOk G z F c:=fun uz e=>by rw [h] at e;cases e
theorem qR {it:Expr}(h:mz it=false):∀env x,foldedSetIterable it env x=pure x:=fun env x=>by
 cases it<;>first | rfl | cases h
theorem G8 {e:Expr}(h:z8 e=false):zi e=true:=by
 cases e<;>first | rfl | cases h
theorem gZ {b:Bool}(h:(!b)=true):b=false:=by
 induction b with
 |false=>rfl
 |true=>cases h
def OK (G:Gd) (z:Bool) (F:Fx) (c:Cc) (e:Expr) (m:ME):Prop:=SE G z F c m e/\ST G z F c m e
theorem gW {c:Cc}{e:Expr}{m:ME}(h:SE G z F c m e) (hn:∀S (Q:Bool->St->Prop) X,cL F m S Q X->False):OK G z F c e m:=⟨h,uY hn⟩
theorem lV {c:Cc}{e:Expr}{m:ME}(hp:qD e=true) (h:SE G z F c m e) (he:∀S (Q:Bool->St->Prop) X,cL F m S Q X->aF F m S (fun a S1=>dD a fun b=>Q b S1) X):OK G z F c e m:=⟨h,ED hp h he⟩
section
variable {rec:Cc->Expr->Option ME}(hr:∀c,HOk G z F c->∀e,ca (OK G z F c e) (rec c e)) {c:Cc}(hc:HOk G z F c) {pos:Pos}
include hr hc
theorem iY {es:List Expr}{ms:List ME}(e:fZ (rec c) es=some ms):de (SE G z F c) ms es:=BK (P:=SE G z F c) (fun e m q=>(hr c hc e m q).1) e
theorem qN {es:List Expr}{ms:List ME}(e:fZ (rec c) es=some ms):de (ST G z F c) ms es:=BK (P:=ST G z F c) (fun e m q=>(hr c hc e m q).2) e
theorem zd {e:Option Expr}:ca (fun m=>SO G z F c m e) (qH (rec c) e):=by
 induction e with
 |none=>exact iI trivial
 |some e=>exact ec fun a ha=>(hr c hc e a ha).1
theorem GS {l:Expr}{ops:List CmpOp}{rs:List Expr}:ca (OK G z F c (.Compare l ops rs pos)) (Bi (rec c) l ops rs):=by
 cases ops with
 |nil=>exact dS
 |cons o1 os=>cases rs with
  |nil=>exact dS
  |cons m rs=>cases os with
   |nil=>
    refine cy fun g=>fK fun a b h1 h2=>?_;cases eP (bb g).1;exact⟨Fp (gZ (bb g).2) (hr c hc _ _ h1).1 (hr c hc _ _ h2).1,EI (gZ (bb g).2) (hr c hc _ _ h1).1 (hr c hc _ _ h2).1⟩
   |cons o2 os=>cases rs with
    |nil=>exact dS
    |cons r rs=>
     refine cy fun g=>cy fun g'=>jV fun a b d h1 h2 h3=>?_;cases eP (bb g).1;cases eP (bb g).2;exact⟨Fo (gZ (bb g').2) (hr c hc _ _ h1).1 (hr c hc _ _ h2).1 (hr c hc _ _ h3).1,EH (gZ (bb g').2) (hr c hc _ _ h1).1 (hr c hc _ _ h2).1 (hr c hc _ _ h3).1⟩
theorem GQ {o:Expr}{x:Str}{ap p:Pos}{args:List Expr}:ca (OK G z F c (.Call (.Attribute o x ap) args [] p)) (zM (rec c) o x ap args p):=by
 refine cy fun g=>?_;cases hx:gd (x==("replace":Str)) (yO args) with
 |none=>exact cy fun g'=>fK fun a as h1 h2=>lV rfl (ve (bb g).2 (bb g').1 (cK (bb g').2) (beq_iff_eq.mp (bb g).1) (hr c hc _ _ h1).1 (iY hr hc h2)) fun uz uz uz h=>h
 |some w=>
  refine cy fun g'=>ec fun a ha=>?_;obtain⟨w,k1,p1,k2,p2,rfl⟩:=w;exact gW (Fb (beq_iff_eq.mp (dF hx).1) (bb g).2 (beq_iff_eq.mp (bb g).1) (cK (bb g').1) (cK (bb g').2) (hr c hc _ _ ha).1) fun uz uz uz h=>h
theorem GT {f:Expr}{args:List Expr}:ca (OK G z F c (.Call f args [] pos)) (Bk (rec c) f args pos):=by
 refine oO (fun x=>?_) (cy fun g=>fK fun a as h1 h2=>?_)
 ·obtain⟨x,rfl⟩:=x;exact GQ hr hc
 ·refine an (Option.isSome_iff_exists.mp (bb g).1) ?_;intro y0 _;obtain⟨x,rfl⟩:=y0;exact lV rfl (Fq rfl (bb (bb g).2).1 (hr c hc _ _ h1).1 (iY hr hc h2)) fun uz uz uz h=>h
theorem GO {o i:Expr}:ca (OK G z F c (.Subscript o i pos)) (uQ (rec c) o i):=by
 refine oO (fun x=>cy fun g=>jV fun a l u h1 h2 h3=>?_) (cy fun g=>fK fun a b h1 h2=>gW (Fa (G8 (gZ g)) (hr c hc _ _ h1).1 (hr c hc _ _ h2).1) fun uz uz uz h=>h);obtain⟨⟨lo,hi,st,p⟩,rfl⟩:=x;cases Option.isNone_iff_eq_none.mp (bb g).1;exact gW (Fm (hr c hc _ _ h1).1 (zd hr hc _ h2) (zd hr hc _ h3)) fun uz uz uz h=>h
def NA (G:Gd) (z:Bool) (F:Fx) (rec:Cc->Expr->Option ME) (c:Cc) (elt:Expr) (sc:Scope) (g:Comprehension) (m:ME):Prop:=∃x p a b d,g=⟨.Name x p,g.iter,g.ifs,0⟩/\mz g.iter=false/\kR c sc x=true/\
  SE G z F {c with scope:=sc,nm:=c.nm++[x],h:=none} a elt/\de (ST G z F {c with scope:=sc,nm:=c.nm++[x],h:=none}) d g.ifs/\rec c g.iter=some b/\m=.comp a (fE sc c.nm) b d
omit hc in
theorem Bc {elt:Expr}{sc:Scope}{g:Comprehension}:ca (NA G z F rec c elt sc g) (rX rec c elt sc g):=by
 refine cI fun x uz=>cy fun q=>jV fun a b d h1 h2 h3=>?_;have e:g=⟨.Name x.1.1 x.1.2,g.iter,g.ifs,0⟩:=by
  refine aZ (x.2 ..) ?_;refine aZ (cK (bb (bb q).2).2 ..) ?_;cases g;rfl
 exact⟨x.1.1,x.1.2,a,b,d,e,gZ (bb (bb q).2).1,(bb q).1,(hr _ (HOk.off rfl) _ _ h1).1,qN hr (HOk.off rfl) h3,h2,rfl⟩
theorem ok1 (e:Expr):ca (OK G z F c e) (oB rec c e):=by
 induction e using Expr.casesOn with
 |Constant k kd p=>exact ec fun v hv=>lV rfl (vg hv) fun uz uz uz h=>h
 |Name x p=>
  show ca _ (fB (iD c x) (fun i=>some (ME.loc i)) (gd (cZ x&&cr c.scope x .globalImplicit) ((gb c.K x).map ME.cst)));cases hi:iD c x with
  |some i=>exact iI (lV rfl (vf hi) fun uz uz uz h=>h)
  |none=>exact cy fun g=>ec fun v hv=>lV rfl (Fk g hv) fun uz uz uz h=>h
 |BinOp l op r p=>exact fK fun a b h1 h2=>gW (Fs (hr c hc _ _ h1).1 (hr c hc _ _ h2).1) fun uz uz uz h=>h
 |UnaryOp op e p=>induction op with
  |USub=>exact ec fun v hv=>gW (Ff (hr c hc _ _ hv).1) fun uz uz uz h=>h
  |Not=>exact ec fun v hv=>⟨Fd (hr c hc _ _ hv).1,EF (hr c hc _ _ hv).2⟩
  |_=>exact dS
 |Compare l ops rs p=>exact GS hr hc
 |BoolOp op es p=>induction op with
  |And=>exact ec fun v hv=>⟨Fu (iY hr hc hv),EK (qN hr hc hv)⟩
  |Or=>exact ec fun v hv=>⟨Fc (iY hr hc hv),EE (qN hr hc hv)⟩
 |IfExp t b o p=>exact jV fun x y w h1 h2 h3=>⟨Fh (hr c hc _ _ h1).2 (hr c hc _ _ h2).1 (hr c hc _ _ h3).1,EG (hr c hc _ _ h1).2 (hr c hc _ _ h2).2 (hr c hc _ _ h3).2⟩
 |Call f args ks p=>
  refine cy fun g=>?_;cases eP g;exact GT hr hc
 |Attribute o x p=>
  refine cy fun g=>ec fun v hv=>?_;refine an (Option.isSome_iff_exists.mp g) ?_;intro y0 _;obtain⟨_,rfl⟩:=y0;exact gW (Ft (hr c hc _ _ hv).1) fun uz uz uz h=>h
 |Subscript o i p=>exact GO hr hc
 |Tuple es k p=>exact cy fun g=>ec fun v hv=>gW (E9 g (iY hr hc hv)) fun uz uz uz h=>h
 |List es p=>
  refine cy fun g=>ec fun v hv=>?_;cases zg p with
  |true=>exact gW (Fe g (iY hr hc hv)) fun uz uz uz h=>h
  |false=>exact gW (Fg g (iY hr hc hv)) fun uz uz uz h=>h
 |ListComp elt gens sc p=>
  refine cI fun g uz m h=>?_;obtain⟨g,rfl⟩:=g
  (obtain⟨x,p,a,b,d,hg,h1,h2,h3,h4,h5,y11⟩:=Bc hr (g:=g) _ h;subst y11)
  erw [hg]
  exact gW (vh (qR h1) h2 h3 h4 (hr c hc _ _ h5).1) fun uz uz uz h=>h
 |_=>exact dS
end
theorem Js {c:Cc}(hc:HOk G z F c) {e:Expr}:ca (OK G z F c e) (kJ c e):=by
 refine ec fun p hp=>⟨hc e (dF hp).1 _ (dF hp).2,uY fun uz uz uz=>?_⟩;obtain⟨b,i⟩:=p;cases b<;>exact id
theorem jA (n:Nat):∀(c:Cc),HOk G z F c->∀e,ca (OK G z F c e) (fh n c e):=by
 induction n with
 |zero=>exact fun uz uz uz=>dS
 |succ n ih=>
  intro c hc e;show ca _ (fB (kJ c e) some (oB (fh n) c e));cases hx:kJ c e with
  |none=>exact ok1 ih hc e
  |some m=>exact iI (Js hc m hx)
theorem okL {n:Nat}{c:Cc}(hc:HOk G z F c) {es:List Expr}{ms:List ME}(h:fZ (fh n c) es=some ms):de (SE G z F c) ms es:=iY (jA n) hc h
theorem ku {f:Stmt->Option MS}{c:Cc}(hf:∀s,ca (fun m=>SS G z F c m s) (f s)):∀{ss:List Stmt}{ms:List MS},gi f ss=some ms->gK G z F c ms ss:=by
 intro ss;induction ss with
 |nil=>exact fun{ms} h=>by cases h;exact EM
 |cons s ss ih=>exact fun{ms}=>cI (P:=fun ms=>gK G z F c ms (s::ss)) (f:=fun a=>(gi f ss).map (a::·)) (fun a h1=>ec fun b h2=>EN (hf _ _ h1) (ih h2)) ms
theorem KW {n:Nat}{c:Cc}{e:Expr}:ca (fun m=>fV e=false\/∃elt g sc pos,e=.ListComp elt [g] sc pos/\∃n',n=n'+1/\rX (fh n') c elt sc g=some m) (fh n c e):=by
 cases n with
 |zero=>exact dS
 |succ n=>
  show ca _ (fB (kJ c e) some (oB (fh n) c e));cases hx:kJ c e with
  |some m=>
   refine gn fun Pz kz=>?_;refine ag (oF hx) ?_;intro _ hx _;refine an (gl (dF hx).2) ?_;intro y0 _;obtain⟨_,rfl⟩:=y0;refine kz ?_;clear kz Pz;exact iI (.inl rfl)
  |none=>induction e using Expr.casesOn with
   |ListComp elt gens sc p=>
    refine cI fun g uz m h=>?_;obtain⟨g,rfl⟩:=g;exact .inr (tp elt g sc p rfl (aj n rfl h))
   |SetComp=>exact dS
   |DictComp=>exact dS
   |_=>exact fun uz uz=>.inl rfl
end
section
variable {G:Gd}{z:Bool}{F:Fx}
theorem E2 {n:Nat}{c:Cc}(hc:HOk G z F c) {e:Expr}{a:ME}{x:Str}{i:Nat}{p pos:Pos}(h:fh n c e=some a) (hi:dU c x=some i):SS G z F c (.set i a) (.Assign [.Name x p] e pos):=by
 refine av (KW _ h) ?_ ?_
 ·intro hn;exact FC hi hn (jA n c hc _ _ h).1
 ·intro y0;refine mT y0 ?_;clear y0;intro elt g sc pc y5 y6;subst y5;refine ag y6 ?_;clear y6;intro n' y22 hq;subst y22;obtain⟨y,py,a,b,d,hg,h1,h2,h3,h4,h5,rfl⟩:=Bc (jA n') (g:=g) _ hq
  erw [hg]
  exact FA hi (qR h1) h2 h3 h4 (jA n' c hc _ _ h5).1
def Nz (c:Cc) (e:Expr) (C:Addr):Prop:=∃x p,e=.Name x p/\(cZ x&&cr c.scope x .globalImplicit)=true/\gb c.K x=some (.val (.ref C))
theorem AM {c:Cc}{e:Expr}:ca (Nz c e) (rL c e):=cI fun x uz=>cy fun g=>cI fun v hv=>ec fun C uz=>(bj x.1.1 x.1.2 x.2 g (hv.trans (congrArg some C.2)))
theorem BJ {a b:Bool}(h1:a=true) (h2:b=true):(a&&b)=true:=by(erw [h1];erw [h2]);rfl
def OS (G:Gd) (z:Bool) (F:Fx) (c:Cc) (s:Stmt) (m:MS):Prop:=SS G z F c m s
section
variable {n:Nat}{c:Cc}(hc:HOk G z F c) {g:Stmt->Option MS}(hS:∀s,ca (fun m=>SS G z F c m s) (g s)) {pos:Pos}
include hc
theorem gA {e:Expr}{m:ME}(h:fh n c e=some m):SE G z F c m e:=(jA n c hc e m h).1
theorem GV {t e:Expr}:ca (OS G z F c (.Assign [t] e pos)) (BH (fh n c) c e t):=by
 induction t using Expr.casesOn with
 |Name x p=>exact fK fun i a h1 h2=>E2 hc h2 h1
 |Tuple ts k p=>
  refine cy fun q=>fK fun is a h1 h2=>?_;refine ag (gl h1) ?_;intro is' h5 h3;refine af (dF h3) ?_;intro q3 h3;cases h3;exact Fy (p1:=default) h5 (gZ (bb q).1) (bb q).2 (cK q3) (gA hc h2)
 |Attribute o x p=>
  refine cy fun q=>fK fun a b h1 h2=>?_;refine an (Option.isSome_iff_exists.mp (bb q).2) ?_;intro y0 _;obtain⟨_,rfl⟩:=y0;exact FB (gZ (bb q).1) (gA hc h2) (gA hc h1)
 |Subscript o i p=>
  refine cy fun q=>jV fun a b d h1 h2 h3=>?_;refine an (Option.isSome_iff_exists.mp (bb q).2) ?_;intro y0 _;obtain⟨_,rfl⟩:=y0;exact Fz (gZ (bb q).1) (gA hc h3) (gA hc h1) (gA hc h2)
 |_=>exact dS
theorem GU {t e:Expr}{op:Operator}:ca (OS G z F c (.AugAssign t op e pos)) (BC (fh n c) c op e t):=by
 induction t using Expr.casesOn with
 |Name x p=>exact fK fun i a h1 h2=>FJ h1 (gA hc h2)
 |Attribute o x p=>
  refine cI fun y uz=>fK fun i a h1 h2=>?_;obtain⟨y,rfl⟩:=y;exact FI h1 (gA hc h2)
 |_=>exact dS
theorem GP {e:Expr}:ca (OS G z F c (.Raise (some e) none pos)) (yW (fh n c) c e):=by
 refine cI fun w uz=>cy fun q=>fK fun C as h1 h2=>?_;obtain⟨⟨f,as',ks,p⟩,rfl⟩:=w;refine aY (AM _ h1) ?_;intro x p1 e q3 h5;cases e;cases eP (bb q).1;exact FE h5 (BJ q3 (bb q).2) (okL hc h2)
include hS
theorem GR {t it:Expr}{b:List Stmt}(hs:mz it=false):ca (OS G z F c (.For t it b [] pos)) (c3 (uM c t) (fh n c it) (gi g b) .for):=by
 refine jV fun is a b' h1 h2 h3=>FG (qR hs) ?_ (gA hc h2) (ku hS h3)
 revert is
 induction t using Expr.casesOn with
 |Name x p=>exact ec fun i h5 C A d sc hA=>LP h5 sc
 |Tuple ts k p=>
  refine cI fun is' h5=>cy fun q3=>iI ?_;exact fun{C A d} sc hA=>LO h5 (cK q3) sc hA
 |_=>exact dS
omit hc in
theorem GN {b:List Stmt}{h1:ExceptHandler}:ca (OS G z F c (.Try b [h1] [] [] pos)) ((Aj h1).bind fun p=>uI c (gi g b) p.1.1 p.1.2.1 p.1.2.2.1):=by
 refine cI fun w uz=>cI fun r uz=>cy fun q=>fK fun C w' h1 h2=>?_;refine gn fun Pz kz=>?_;obtain⟨⟨t,y,r',p⟩,rfl⟩:=w;obtain⟨⟨e,p2⟩,e1⟩:=r;refine kz ?_;clear kz Pz;cases e1;refine f0 (Lq h2) ?_;intro mb i zz h6 h3 h4 e;cases e;refine aY (AM _ h1) ?_;intro x p1 e1 q3 h5;cases e1;exact Fw h5 h3 h4 (BJ q3 q) (ku hS h6)
theorem GW (s:Stmt):ca (OS G z F c s) (Bb (fh n c) g c s):=by
 induction s using Stmt.casesOn with
 |Expr e p=>
  refine cy fun q=>ec fun v hv=>?_;refine an (Option.isSome_iff_exists.mp q) ?_;intro y0 _;obtain⟨_,rfl⟩:=y0;exact FH (gA hc hv)
 |Assign ts e p=>
  refine cI fun t uz=>?_;obtain⟨t,rfl⟩:=t;exact GV hc
 |AugAssign t op e p=>exact GU hc
 |Return e p=>induction e with
  |none=>exact dS
  |some e=>exact ec fun v hv=>FD (gA hc hv)
 |If t b o p=>exact jV fun a b' d h1 h2 h3=>FF (jA n c hc _ _ h1).2 (ku hS h2) (ku hS h3)
 |While t b o p=>
  refine cy fun q=>fK fun a b' h1 h2=>?_;cases eP q;exact Fv (jA n c hc _ _ h1).2 (ku hS h2)
 |For t it b o p=>
  refine cy fun q=>?_;cases eP (bb q).1;exact GR hc hS (gZ (bb q).2)
 |Raise e cs p=>
  refine cy fun q=>?_;cases Option.isNone_iff_eq_none.mp q;induction e with
  |none=>exact dS
  |some e=>exact GP hc
 |Try b hs o fin p=>
  refine cy fun q=>cI fun h1 uz=>?_;cases eP (bb q).1;cases eP (bb q).2;obtain⟨h1,rfl⟩:=h1;exact GN hS
 |_=>exact dS
end
theorem okS (n:Nat):∀(c:Cc),HOk G z F c->∀s,ca (fun m=>SS G z F c m s) (oA n c s):=by
 induction n with
 |zero=>exact fun uz uz uz=>dS
 |succ n ih=>exact fun c hc s=>GW hc (ih c hc) s
end
section
abbrev bq:=List V->List Cell->(V->List Cell->Prop)->(Exn->List Cell->Prop)->Prop
def FnCode (G:Gd) (z:Bool) (d:Nat) (p:Addr) (P:bq):Prop:=
 ∀(frs:List Env) (ws:Wd) (st:List Cell) (A:Around) (s:Shared) (vs:List V) (us:List Value) (Q:V->List Cell->Prop) (X:Exn->List Cell->Prop) (R:Result->Shared->Prop),
  Amb G frs ws st s.heap->AOk A frs d->0<s.toks->Reps ws s.heap vs us->P vs st Q X->
  (∀ws' st' s' a r,AOut G frs ws s ws' st' s'->Rep ws' s'.heap a r->Q a st'->R (.ok (.ret r)) s')->
  (∀ws' st' s' x e,AOut G frs ws s ws' st' s'->ExcObj G s.heap s'.heap e x (·=.none)->X x st'->R (.error (.ref e)) s')->
  cn z (model G.prog G.w) A (.call (.ref p) ⟨us,[]⟩) R s
section
variable {G:Gd}{z:Bool}{F:Fx}{d:Nat}{p:Addr}{P P':bq}
theorem FnCode.ok (h:FnCode G z d p P):FnOk G z d p P:=by
 intro frs ws st A s vs us Q X Qm Em am hA ht ra hd hP hq hx;exact iA (h frs ws st A s vs us Q X _ am hA ht ra hP hq hx)
theorem FnCode.imp (h:FnCode G z d p P) (hi:∀vs st Q X,P' vs st Q X->P vs st Q X):FnCode G z d p P':=by
 intro frs ws st A s vs us Q X R am hA ht ra hP hq hx;exact h frs ws st A s vs us Q X R am hA ht ra (hi _ _ _ _ hP) hq hx
theorem FnCode.mono {d':Nat}(h:FnCode G z d p P) (hd:d<=d'):FnCode G z d' p P:=
 fun frs ws st A s vs us Q X R a b=>h frs ws st A s vs us Q X R a (b.mono hd)
theorem FnCode.weak (h:FnCode G false d p P):FnCode G z d p P:=
 fun frs ws st A s vs us Q X R a b c e g i j=>KY (h frs ws st A s vs us Q X R a b c e g i j)
structure FnAt (G:Gd) (p:Addr) (k:Nat) (dfl:List V) (nm:List Str) (N:Nat) (hb:Option (Int×Int)) (code:Value) (qual:Str) (ms:List MS):Prop where
 at_:∃o fd body,G.K.lookup p=some o/\o.data=.func fd/\fd.code=code/\fd.qualname=qual/\codeIn G.K fd.code fd.qualname=true/\FdOk fd nm body/\gi (oA N ⟨G.K,fd.scope,nm,fd.code,fd.qualname ++ ".<locals>.",hb⟩) body=some ms/\
  ∀(s:Shared) (us:List Value),G.K.In s.heap->us.length=k->∃us',BindsTo s fd ⟨us,[]⟩ (nm.zip us')/\∀ws vs,Reps ws s.heap vs us->Reps ws s.heap (vs++dfl) us'
 len:k+dfl.length<=nm.length
def bJ (F:Fx) (k:Nat) (dfl:List V) (n:Nat) (ms:List MS):bq:=fun vs st Q X=>vs.length=k/\
 bN F ms ⟨bD (vs++dfl) n,st⟩ (dO Q) (dc X)
theorem Ax {k:Nat}{dfl:List V}{nm:List Str}{N:Nat}{hb:Option (Int×Int)}{code:Value}{qual:Str}{ms:List MS}(h:FnAt G p k dfl nm N hb code qual ms) (hH:∀sc,HOk G z F ⟨G.K,sc,nm,code,qual ++ ".<locals>.",hb⟩) (hF:FxOk G z d F):FnCode G z (d+1) p (bJ F k dfl nm.length ms):=by
 intro frs ws st A s vs us Q X R am hA ht ra hP hq hx;refine gn fun Pz kz=>?_;obtain⟨⟨o,fd,body,hl,ho,hc,hq',hcd,hfd,hms,hbd⟩,hlen⟩:=h;refine af hP ?_;clear hP;intro hk hw;refine kz ?_;clear kz Pz;have hul:=ra.length;refine ag (hbd s us (G.X.keeps am.base) (aL [vs.length,k,us.length] [] (.eq aa ae) (.eq ai aa) (.eq ai ae) hk hul)) ?_;intro us' hbt hre;refine rM (hb':=hb) am hA hl ho hcd hfd (as:=vs++dfl) (by erw [cf];exact aL [k,dfl.length,nm.length,vs.length] [] (.le (.a aa ae) ai) (.eq aG aa) (.le (.a aG ae) ai) hlen hk) hbt (hre ws vs ra) fun C s1 hC fc sc Rl hA2 kp hg hos htk hown hL=>?_;have hS:gK G z F ⟨G.K,fd.scope,nm,fd.code,fd.qualname ++ ".<locals>.",hb⟩ ms body:=ku (okS N _ (by(erw [hc];erw [hq']);exact hH fd.scope)) hms;refine hS fc sc hF Rl hA2 (bA ht htk) hw (fun ws' S' s' a f o t rf h=>?_) (fun ws' S' s' x e o t hxo h=>?_)
 ·have ao:=mL hC kp hg hos hown hL o;induction a with
  |ret v=>(refine ag rf ?_;clear rf;intro r y1 rr;subst y1);exact hq _ _ _ v r ao rr h
  |next=>cases rf;exact hq _ _ _ .none .none ao lQ h
  |brk=>exact h.elim
  |cont=>exact h.elim
 ·refine zV (s0:=s) (frs:=frs) fc hA2.frames Rl o hxo fun s'' o2 hx2=>?_;exact hx _ _ _ _ _ (mL hC kp hg hos hown hL o2) (hx2.mono (fun b o e=>⟨o,kp b o e⟩) fun uz h=>h) h
theorem Amb.track {frs:List Env}{ws:Wd}{st:List Cell}{h h':Heap}{p:Addr×Addr}{c:Cell}(a:Amb G frs ws st h) (k:∀b o,h.get? b=some o->h'.get? b=some o) (hp1:h.get? p.1=none) (hp2:h.get? p.2=none) (hc:CellAt G.w.params (ws++[p]) h' p c) :
  Amb G frs (ws++[p]) (st++[c]) h':=by
 have hne:∀{a:Addr} {o:Obj},h.get? a=some o->a≠p.1/\a≠p.2:=fun{a o} e=>⟨fun q=>(by rw [q,hp1] at e;exact ba e),fun q=>(by rw [q,hp2] at e;exact ba e)⟩;have out:∀{a:Addr} {o:Obj},h.get? a=some o->a∉tr ws->a∉tr (ws++[p]):=fun{a o} e n q=>by
  (focus (refine av (iB.mp q) ?_ ?_;intro q;rotate_left;intro y0;(focus (refine av y0 ?_ ?_<;>clear y0;intro q;rotate_left;intro q;rotate_left));rotate_left 2))
  ·exact n q
  ·exact(hne e).1 q
  ·exact(hne e).2 q
 have mv:=nc (ws:=ws) (p:=p) k hp1 hp2;have fr:∀{q:Addr},h.get? q=none->G.base.get? q=none:=fun{q} e=>by
  cases hq:G.base.get? q with
  |none=>rfl
  |some o=>rw [a.base q o hq] at e;exact dy e
 have ak:=a.keeps k;refine⟨ak.base,fun e he=>?_,ak.tab,?_,by simp [a.len],fun n q d e1 e2=>?_,fun b hb=>?_,?_⟩
 ·refine af (a.frames e he) ?_;intro q1 y1;refine j0 y1 ?_;clear y1;intro L o es n q2 q3 q4 q5 q6;exact⟨q1,L,o,es,n,q2,k _ _ q3,q4,q5,out q3 q6⟩
 ·refine ag a.tab ?_;intro ps q1 q2;exact out q1 a.tabF
 ·have hl:=a.len;by_cases hn:n<ws.length
  ·rw [dT hn] at e1;rw [dT (by exact aL [List.length ws,st.length,n] [] (.eq aa ae) (.lt ai aa) (.lt ai ae) hl hn)] at e2;exact(a.cells n q d e1 e2).mv mv (fun o=>k _ o) fun o=>k _ o
  ·have hn':n<(ws++[p]).length:=(ce e1).1;rw [cf,List.length_singleton] at hn';have:n=ws.length:=by exact aL [n,List.length ws] [] (.not (.lt aa ae)) (.lt aa (.a ae (.k 1))) (.eq aa ae) hn hn'
   subst this;simp at e1;subst e1;rw [hl] at e2;simp at e2;subst e2;exact hc
 ·(focus (refine av (iB.mp hb) ?_ ?_;intro hb;rotate_left;intro y0;(focus (refine av y0 ?_ ?_<;>clear y0;rintro rfl;rotate_left;rintro rfl;rotate_left));rotate_left 2))
  ·exact a.fresh b hb
  ·exact fr hp1
  ·exact fr hp2
 ·refine List.pairwise_append.mpr (aI a.apart (by simp) (fun x hx y hy=>?_));simp at hy;subst hy;refine gn fun Pz kz=>?_;refine an (List.getElem?_of_mem hx) ?_;intro n hn;refine ag (a.trThere (fa hn x.1 (by simp))) ?_;intro o1 h1 _;refine ag (a.trThere (fa hn x.2 (by simp))) ?_;intro o2 h2 _;refine kz ?_;clear kz Pz;exact dq ((hne h1).1) ((hne h1).2) ((hne h2).1) ((hne h2).2)
theorem K9 {Cl fI:Addr}(hm:makesIn G.K Cl=true) (hi:findIn G.K (.ref Cl) "__init__" = some (some (.ref fI))) (hf:typeIn G.K (.ref fI)=some (.type "function")) (h:FnCode G false d fI P) :
  FnCode G false (d+1) Cl (fun vs st Q X=>P (.obj st.length::vs) (st++[.inst Cl []]) (fun a st'=>a=.none/\Q (.obj st.length) st') X):=by
 intro frs ws st A s vs us Q X R am hA ht ra hP hq hx;obtain⟨hh,g,dr,t,os⟩:=s;have X':=G.X.keeps am.base;dsimp only at X' am ra hq hx ht;have D0:hh.get? hh.objs.size=none:=gc _ (bw _);have x0:hh.get? (hh.objs.size+1)=none:=gc _ (Nat.le_succ _);refine rY (make_core (makes_of X' hm) (looks_findIn X' hi) (fun self=>bind_fn X' self hf) (.inl rfl) (r0 ?_));have kp:∀b o,hh.get? b=some o->((hh.push emptyDict).push (instObj Cl hh.objs.size)).get? b=some o:=fun b o e=>bL _ (bL _ e);have gx:((hh.push emptyDict).push (instObj Cl hh.objs.size)).get? (hh.objs.size+1)=some (instObj Cl hh.objs.size):=by heap_get
 have gd:((hh.push emptyDict).push (instObj Cl hh.objs.size)).get? hh.objs.size=some emptyDict:=by heap_get
 generalize ((hh.push emptyDict).push (instObj Cl hh.objs.size))=h1 at kp gx gd⊢;have am1:=am.track (p:=(hh.objs.size+1,hh.objs.size)) (c:=.inst Cl []) kp x0 D0 (aI (Nat.succ_ne_self _) gx (bB ([]) 0 gd rfl));have gr:=oj (ws:=ws) (p:=(hh.objs.size+1,hh.objs.size)) x0 D0;have join:∀{ws' st' s'},AOut G frs (ws++[(hh.objs.size+1,hh.objs.size)]) ⟨h1,g,dr,t,os⟩ ws' st' s'->AOut G frs ws ⟨hh,g,dr,t,os⟩ ws' st' s':=fun{ws' st' s'} o=>by
  refine⟨o.amb,(Step.of_keeps (fr:=d7 frs) (mu:=jU G ws) kp).trans o.step fun b hb=>?_,gr.trans (Step.of_keeps (fr:=d7 frs) (mu:=jU G ws) kp) o.grow,o.gens,o.os⟩;refine av (bC hb) ?_ ?_
  ·rintro rfl;exact .inl (.head _)
  ·intro hb
   (focus (refine av (iB.mp hb) ?_ ?_;intro hb;rotate_left;intro y0;(focus (refine av y0 ?_ ?_<;>clear y0;rintro rfl;rotate_left;rintro rfl;rotate_left));rotate_left 2))
   ·exact .inl (.tail _ hb)
   ·exact .inr x0
   ·exact .inr D0
 have hnew:(ws++[(hh.objs.size+1,hh.objs.size)])[st.length]? = some (hh.objs.size+1,hh.objs.size):=by(refine aZ (am.len ..) ?_);simp
 refine h frs _ _ _ ⟨h1,g,dr,t,os⟩ (.obj st.length::vs) (.ref (hh.objs.size+1)::us) _ _ _ am1 hA.underTC ht ?_ hP (fun ws' st' s' a r o rr hq'=>?_) (fun ws' st' s' x e o hxo hX=>?_)
 ·refine .cons ?_ (ra.mv (nc kp x0 D0))
  simp only [Rep];exact aj _ hnew rfl
 ·refine af hq' ?_;clear hq';intro y0 hq';subst y0;refine⟨rr.none_,hq _ _ _ _ _ (join o) ?_ hq'⟩;simp only [Rep];exact aj _ (o.grow.pre _ _ hnew) rfl
 ·exact hx _ _ _ _ _ (join o) (hxo.mono (fun b o e=>⟨o,kp b o e⟩) fun uz h=>h) hX
end
end
section
inductive HeardFn (G:Gd) (Cl:Addr) (zz:Option (List Nat)):Prop where
 |mk (o fd x1 x2 x3 ee p1 p2 p3 p4 p5 p6 p7) (hl:G.K.lookup 338=some o) (ho:o.data=.func fd) (hcd:codeIn G.K fd.code fd.qualname=true)
  (hfd:FdOk fd [x1,x2] [.Try [.Return (some (.Call (.Name x1 p1) [] [] p2)) p3] [.ExceptHandler (some (.Name x3 p4)) (some x2) [.Return (some ee) p5] p6] [] [] p7])
  (hg:gb G.K x3=some (.val (.ref Cl))) (hi:dU ⟨G.K,fd.scope,[x1,x2],fd.code,fd.qualname ++ ".<locals>.",none⟩ x2=some 1) (hh:mD x2 ee=some zz)
  (hx:(cZ x3&&cr fd.scope x3 .globalImplicit&&cr fd.scope x2 .local )=true) (d1:(x1==("__debug__":Str))=false) (d2:(x1==("__classdict__":Str))=false)
  (hb:∀s u,G.K.In s.heap->BindsTo s fd ⟨[u],[]⟩ [(x1,u)]):HeardFn G Cl zz
structure HeardAt (G:Gd) (Cl:Addr) (zz:Option (List Nat)):Prop where
 at_:HeardFn G Cl zz
 keep:keepIn G.K (.ref 338)=true
 glob:gb G.K "_law_heard" = some (.val (.ref 338))
 bat:G.base.BuiltinsAt G.mg G.tab
section
variable {G:Gd}{z:Bool}{F:Fx}{d:Nat}
def tE (G:Gd) (z:Bool) (d:Nat) (ws:Wd) (st:List Cell) (s:Shared) (u:Value) (Qc:V->List Cell->Prop) (Xc:Exn->List Cell->Prop):Prop:=
 ∀(frs1:List Env) (A1:Around) (s1:Shared) (Qm Em:VP),Amb G frs1 ws st s1.heap->AOk A1 frs1 d->0<s1.toks->(∀b o,s.heap.get? b=some o->s1.heap.get? b=some o)->
  (∀ws' st' s' a r,AOut G frs1 ws s1 ws' st' s'->Rep ws' s'.heap a r->Qc a st'->Qm r s')->
  (∀ws' st' s' x e,AOut G frs1 ws s1 ws' st' s'->ExcObj G s1.heap s'.heap e x (·=.none)->Xc x st'->Em (.ref e) s')->ah z (model G.prog G.w) A1 (call u []) Qm Em s1
theorem Ah {Cl:Addr}{zz:Option (List Nat)}(HA:HeardAt G Cl zz) (Y:ExcIs G.K Cl) {u:Value}{frs:List Env}{ws:Wd}{st:List Cell}{A:Around}{s:Shared}(am:Amb G frs ws st s.heap) (hA:AOk A frs (d+1)) (ht:0<s.toks)
  (hk:∀h',(∀b o,s.heap.get? b=some o->h'.get? b=some o)->eA (model G.prog G.w) u h') {Qc:V->List Cell->Prop} {Xc:Exn->List Cell->Prop} {K:V->List Cell->Prop} (hcall:tE G z d ws st s u Qc Xc)
  (hQ:∀a st',Qc a st'->K a st') (hX:∀x st',Xc x st'->x.cls=Cl/\K (jI zz x.spot) st') {Qm Em:VP}
  (q:∀ws' st' s' a r,AOut G frs ws s ws' st' s'->Rep ws' s'.heap a r->K a st'->Qm r s'):ah z (model G.prog G.w) A (call (.ref 338) [u]) Qm Em s:=by
 obtain⟨o,fd,x1,x2,x3,ee,p1,p2,p3,p4,p5,p6,p7,hl,ho,hcd,hfd,hg,hi,hh,hx,d1,d2,hb⟩:=HA.at_;refine iA (rM (hb':=none) am hA hl ho hcd hfd (as:=[.val u]) (us:=[u]) (by simp) (hb s u (G.X.keeps am.base)) (.one iW) fun C s1 hC fc sc Rl hA2 kp hg1 hos htk hown hL=>?_);have hnm:C.nm=[x1,x2]:=sc.nm;refine jF (ef (uH (Q:=fun f S=>match f with | .ret v=>K v S.st | _=>False) (X:=fun uz uz=>False) (Qm:=fun f s'=>match f with | .ret v=>Qm v s' | _=>False) (Em:=fun uz uz=>False) hg hi hh hx fc sc Y Rl hA2 (fun{Qm' Em'} wq wx=>?_) (fun ws' S' s' a f o t rf h=>?_) (fun uz uz uz uz uz uz uz uz h=>h.elim))
  (fun f s' hf=>by cases f<;>first | exact hf | exact hf.elim) fun uz uz h=>h.elim)
 ·have ht1:0<s1.toks:=bA ht htk;refine jF (qY (l9 rfl (aE (wpAny_Name (iE Rl (i:=0) (by erw [hnm];rfl) (by rfl) d2 fun v hr=>?_) d1))));obtain rfl:=hr.val_;refine hO (P:=eA (model G.prog G.w) v) rfl (fun h p=>p) (jE ⟨hk _ kp,?_⟩);refine bO (hcall C.frs (A.deeper C.env) s1 _ _ Rl.amb hA2 ht1 kp (fun ws' st' s' a r o rr hq t=>?_) (fun ws' st' s' x e o hxo hX' t=>?_))
  ·have o':=Rl.called o;exact wq _ _ _ (.ret a) _ o' t (aj r rfl rr) (hQ _ _ hq)
  ·have o':=Rl.called o;refine af (hX _ _ hX') ?_;intro e1 e2;exact wx _ _ _ x e o' t (hxo.mono (fun b o e=>⟨o,e⟩) fun v hv=>.inl hv) ⟨e1,e2⟩
 ·induction a with
  |ret v=>(refine ag rf ?_;clear rf;intro r y1 rr;subst y1);exact q _ _ _ v r (mL hC kp hg1 hos hown hL o) rr h
  |next=>exact h.elim
  |brk=>exact h.elim
  |cont=>exact h.elim
theorem K2 {prog:Program}{w:World}{A:Around}{s:Shared}{R:Result->Shared->Prop}{a:Addr}{args:Args}{o:Obj}{fd:FuncData}{body:Expr}(hroom:A.depth<recursionLimit)
  (ho:s.heap.get? a=some o) (hd':o.data=.func fd) (hco:fd.scope.isCoroutine=false) (hgen:fd.scope.isGenerator=false) (hbody:fd.body=.expr body) (hcd:s.heap.CodeRec fd.code fd.qualname)
  (h:ah z (model prog w) A.in1 (bindArgs fd args) (fun binds s₁=>
   ah z (model prog w) A.in1 (newFunctionEnv fd.scope fd.globals fd.closure binds (fd.qualname ++ ".<locals>.") (some a) fd.code none fd.builtins)
    (fun env s₂=>s₂.heap.NoLimit/\cn z (model prog w) A (.expr body env) R s₂) (fun e s'=>R (.error e) s') s₁) (fun e s'=>R (.error e) s') s) :
  cn z (model prog w) A (.call (.ref a) args) R s:=by
 refine gj rfl ?_;show ah z _ A.in1 (callAny (.ref a) args) _ _ s;refine aR (aE (wpAny_load ho ?_));refine eW hcd ?_;clear hcd;intro c oc vs tq hc hoc hdc hq;simp only [hd',callFunction,hco,hgen,hbody,hc];rw [hc] at h;refine aR (m:=field (.ref c) 1) (aE (wpAny_field hoc hdc hq (aR (aP ?_))));exact aM h fun binds s₁ h₁=>aM h₁ fun env s₂ h₂=>aR (aE (wpAny_enterFrame h₂.1 hroom (aP (And.intro rfl h₂.2))))
theorem IT {x:Str}{sc:Scope}{body:Expr}{me:ME}{ws:Wd}{st:List Cell}{s:Shared}{f c' cell:Addr}{qual:Str}{pm ctv v:Value}{a:V}{Qc:V->List Cell->Prop}{Xc:Exn->List Cell->Prop}
  (hn:sc.names=[(x,.free)]) (hk:sc.kind=.function) (hg:sc.isGenerator=false) (hco:sc.isCoroutine=false) (hF:FxOk G z d F)
  (hb:SE G z F ⟨G.K,sc,[x],.ref c',qual ++ ".<locals>.",none⟩ me body) (ho:s.heap.get? f=some (kla_obj "<lambda>" qual ⟨[],[],none,[],[],none,[]⟩ body sc [(x,cell)] pm c' ctv)) (hcd:s.heap.CodeRec (.ref c') qual)
  (hc:s.heap.IsCell cell (some v)) (hct:cell∉tr ws) (hcb:G.base.get? cell=none) (ra:Rep ws s.heap a v)
  (hw:aF F me ⟨[some a],st⟩ (fun b S=>Qc b S.st) (fun x S=>Xc x S.st)):tE G z (d+1) ws st s (.ref f) Qc Xc:=by
 intro frs1 A1 s1 Qm Em am hA ht kp hq hx;refine iA (K2 hA.room (kp _ _ ho) rfl hco hg rfl (hcd.keeps kp) ?_);refine aE ?_;have hbind:bindArgs (kla_fn "<lambda>" qual ⟨[],[],none,[],[],none,[]⟩ body sc [(x,cell)] pm (.ref c') ctv) ⟨[],[]⟩=pure []:=rfl
 erw [hbind]
 refine aX (bO (aE (wpAny_newFunctionEnv (fun y hy=>by rw [hn] at hy;erw [List.mem_singleton.mp hy];simp) (fun y hy=>by cases hy) (fun h₁ hns hsb t1=>?_) hk)));have fresh:s1.heap.get? s1.heap.objs.size=none:=gc _ (bw _);generalize hL:s1.heap.objs.size=L at hns hsb fresh⊢;have kp1:∀b o,s1.heap.get? b=some o->h₁.get? b=some o:=fun b o e=>hsb.extBut b o (fun q=>by rw [q,fresh] at e;exact ba e) (bL _ e);have lb:G.base.get? L=none:=by
  cases q:G.base.get? L with
  |none=>rfl
  |some o=>rw [am.base L o q] at fresh;exact dy fresh
 have lt:L∉tr ws:=fun q=>by(refine ag (am.trThere q) ?_;intro o ho _);rw [fresh] at ho;exact ba ho
 refine⟨(G.T.nolimit).keeps fun b o e=>kp1 b o (am.base b o e),?_⟩;refine K1 ?_;refine cu (id hns) ?_;intro oL esL nL hoL hdL hrL;generalize henv:newEnv sc L mainGlobals [(x,cell)] (qual++Str.ofString ".<locals>.") (some f) (.ref c') none builtinsNs=env;have eS:env.scope=sc:=by(refine aZ (henv ..) ?_);rfl
 have eF:env.frame=some L:=by(refine aZ (henv ..) ?_);rfl
 have eL:env.locals=L:=by(refine aZ (henv ..) ?_);rfl
 have eC:env.cells=[(x,cell)]:=by(refine aZ (henv ..) ?_);rfl
 have eG:env.globals=mainGlobals:=by(refine aZ (henv ..) ?_);rfl
 have eB:env.builtins=builtinsNs:=by(refine aZ (henv ..) ?_);rfl
 have eCd:env.code=.ref c':=by(refine aZ (henv ..) ?_);rfl
 have kindOf:∀y,env.kindOf y=([(x,NameKind.free)]:List (Str×NameKind)).lookup y:=fun y=>by unfold Env.kindOf;(erw [eS];erw [hn];with_reducible rfl)
 have kx:env.kindOf x=some .free:=by(erw [kindOf];erw [List.lookup_cons]);simp
 have only:∀y k,env.kindOf y=some k->y=x/\k=.free:=fun y k e=>by
  rw [kindOf,List.lookup_cons] at e;by_cases h:y=x
  ·subst h;simp at e;exact⟨rfl,e.symm⟩
  ·rw [show(y==x)=false from beq_eq_false_iff_ne.mpr h] at e;cases e
 have onlyC:∀y c,env.cells.lookup y=some c->y=x/\c=cell:=fun y c e=>by
  rw [eC,List.lookup_cons] at e;by_cases h:y=x
  ·subst h;simp at e;exact⟨rfl,e.symm⟩
  ·rw [show(y==x)=false from beq_eq_false_iff_ne.mpr h] at e;cases e
 have cx:env.cells.lookup x=some cell:=by(erw [eC];erw [List.lookup_cons]);simp
 have hc1:h₁.IsCell cell (some v):=(hc.keeps kp).keeps kp1;let C:Cx:={env:=env,frs:=env::frs1,own:=[L],nm:=[x]};have rel:Rel G C ws ⟨[some a],st⟩ h₁:=by
  refine⟨?_,?_⟩
  ·have a2:=am.keeps kp1;refine⟨a2.base,fun e he=>?_,a2.tab,a2.tabF,a2.len,a2.cells,a2.fresh,a2.apart⟩;refine av (bC he) (fun q=>?_) fun he=>?_
   ·erw [q];exact⟨by(erw [eS];erw [hk]);simp,L,oL,_,nL,eF,hoL,hdL,lb,lt⟩
   ·exact a2.frames e he
  ·refine⟨by show env.scope.kind=_;erw [eS];exact hk,eG,eB,(aj _ (by show h₁.Ns env.locals _;erw [eL];exact hns) (fun i y b e1 e2=>?_)),fun y c e=>?_,fun y y' c e1 e2=>(onlyC y c e1).1.trans (onlyC y' c e2).1.symm,by show env.locals∈[L];erw [eL];simp,
    fun b hb=>.inl (by erw [List.mem_singleton.mp hb];exact eL.symm),by show G.base.get? env.locals=none/\env.locals∉tr ws;erw [eL];exact⟨lb,lt⟩,rfl,by simp [C],(CC env frs1 rfl (by erw [eS];exact hg) (by erw [eS];exact hco) eB eG)⟩
   ·have hi:i=0:=by
     refine av (Nat.eq_zero_or_pos i) (fun q=>?_) fun q=>?_
     ·exact q
     ·rw [List.getElem?_eq_none (by show 1<=i;exact q)] at e1;exact ba e1
    subst hi;simp [C] at e1 e2;subst e1 e2;exact aj v ((ra.mv (Mv.of_keeps kp)).mv (Mv.of_keeps kp1)) (.inr ⟨.inr kx,cell,cx,hc1⟩)
   ·refine af (onlyC y c e) ?_;intro _ y1;subst y1;exact aI (⟨_,hc1⟩) hct hcb
 have scC:ScOk G ⟨G.K,sc,[x],.ref c',qual ++ ".<locals>.",none⟩ C:=by
  refine⟨rfl,rfl,fun y k e=>.inl ?_,fun y e=>?_,fun y e=>?_,eCd,by show env.qual=_;(refine aZ (henv ..) ?_);rfl⟩
  ·show env.kindOf y=_;unfold Env.kindOf;erw [eS];exact e
  ·have:=(only y _ e).2;cases this
  ·change sc.names.lookup y=_ at e
   have:=(only y .cell (by unfold Env.kindOf;erw [eS];exact e)).2;cases this
 have hA2:AOk (A1.deeper env) C.frs d:=hA.deeper env;have fcx:jZ C:=(bB frs1 L rfl eF);have hown:∀b∈C.own,s1.heap.get? b=none:=fun b hb=>by erw [List.mem_singleton.mp hb];exact fresh
 have hLn:∀L',C.env.frame=some L'->s1.heap.get? L'=none:=fun L' e=>by
  have:env.frame=some L':=e
  rw [eF] at this;cases this;exact fresh
 refine hb (C:=C) (s:={s1 with heap:=h₁,toks:=s1.toks+([]:List (Str×Value)).length}) scC hF rel hA2 ht hw (fun ws' S' s' b r o t rr h=>?_) (fun ws' S' s' y e o t hxo h=>?_)
 ·exact hq _ _ _ _ _ (mL (s:=s1) (s1:={s1 with heap:=h₁,toks:=s1.toks+([]:List (Str×Value)).length}) rfl kp1 rfl rfl hown hLn o) rr h
 ·refine zV (s0:=s1) (frs:=frs1) fcx hA2.frames rel o hxo fun s'' o2 hx2=>?_;exact hx _ _ _ _ _ (mL (s:=s1) (s1:={s1 with heap:=h₁,toks:=s1.toks+([]:List (Str×Value)).length}) rfl kp1 rfl rfl hown hLn o2) (hx2.mono (fun b o e=>⟨o,kp1 b o e⟩) fun uz h=>h) h
end
end
section
set_option backward.match.sparseCases true
noncomputable def tW (K:Frag) (C:Addr) (x:Str) (f:Addr):Bool:=plainGet K C x&&hasDictIn K C&&(findIn K (.ref C) x==some (some (.ref f)))&&isFn K (.ref f)&&
 (specialIn K (.ref f) "__get__"== some (some (.builtin "function.__get__")))&&(takesIn K (.ref f)==some false)&&!copiedNames.contains x
section
variable {G:Gd}{z:Bool}{F F0:Fx}{d d0:Nat}{c:Cc}{C:Cx}{ws:Wd}{S:St}{s:Shared}
theorem IY {M:Model}{h:Heap}{f:Addr}{o:Obj}{fd:FuncData}(ho:h.get? f=some o) (hd:o.data=.func fd):eA M (.ref f) h:=by
 refine aj .frame (.inl rfl) ?_;intro A Q E s k q;refine az (wpAny_load (k _ _ ho) ?_)
 erw [hd]
 exact aX q
theorem I0 {M:Model}{h:Heap}{b f:Addr}{x:Value}{o:Obj}{fd:FuncData}(hb:h.get? b=some (methodObj (.ref f) x)) (ho:h.get? f=some o) (hd:o.data=.func fd):eA M (.ref b) h:=by
 refine aj .boundFrame (.inr (.inr rfl)) ?_;intro A Q E s k q;refine az (wpAny_load (k _ _ hb) ?_);refine az (wpAny_load (k _ _ ho) ?_)
 erw [hd]
 exact aX q
theorem K6 {prog:Program}{w:World}{A:Around}{R:Result->Shared->Prop}{b f:Addr}{x:Value}{us:List Value}(hb:s.heap.get? b=some (methodObj (.ref f) x))
  (hq:cn z (model prog w) A (.call (.ref f) ⟨x::us,[]⟩) R s):cn z (model prog w) A (.call (.ref b) ⟨us,[]⟩) R s:=by
 refine gj rfl ?_;refine aR (aE (wpAny_load hb ?_));exact aP ⟨rfl,hq⟩
theorem LB {st:List Cell}{b f:Addr}{n:Nat}{p:Addr×Addr}{P:bq}{Qc:V->List Cell->Prop}{Xc:Exn->List Cell->Prop}(hP:FnCode G z d f P) (hb:s.heap.get? b=some (methodObj (.ref f) (.ref p.1))) (hp:ws[n]? = some p)
  (hw:P [.obj n] st Qc Xc):tE G z d ws st s (.ref b) Qc Xc:=by
 intro frs1 A1 s1 Qm Em am hA ht kp hq hx;refine iA (K6 (kp _ _ hb) (hP frs1 ws st A1 s1 [.obj n] [.ref p.1] Qc Xc _ am hA ht (.one ?_) hw (fun ws' st' s' a r o rr h=>hq _ _ _ _ _ o rr h) fun ws' st' s' x e o hxo h=>hx _ _ _ _ _ o hxo h));simp only [Rep];exact aj p hp rfl
def og (Cw f:Addr) (y:Str) (P:bq) (Cl:Addr) (zz:Option (List Nat)):V->List Cell->(V->List Cell->Prop)->Prop:=fun a st k=>
 ∃n fs,a=.obj n/\st[n]? = some (.inst Cw fs)/\fs.lookup y=none/\P [.obj n] st k (fun x st'=>x.cls=Cl/\k (jI zz x.spot) st')
def oh (F0:Fx) (me:ME) (Cl:Addr) (zz:Option (List Nat)):V->List Cell->(V->List Cell->Prop)->Prop:=fun a st k=>
 aF F0 me ⟨[some a],st⟩ (fun b S=>k b S.st) (fun x S=>x.cls=Cl/\k (jI zz x.spot) S.st)
theorem Fi {f x y:Str}{fp xp ap pos:Pos}{i:Nat}{Cw fm Cl:Addr}{zz:Option (List Nat)}{P:bq}(HA:HeardAt G Cl zz) (Y:ExcIs G.K Cl) (hP:FnCode G z d0 fm P) (hlo:F.lo=d0+2) (hM:F.heardM=og Cw fm y P Cl zz)
  (hB:tW G.K Cw y fm=true) (hKf:∃o fd,G.K.lookup fm=some o/\o.data=.func fd) (hc:c.K=G.K)
  (hf:f=("_law_heard":Str)) (hk:cr c.scope f .globalImplicit=true) (hd:cZ f=true) (hi:iD c x=some i) :
  SE G z F c (.heardM i) (.Call (.Name f fp) [.Attribute (.Name x xp) y ap] [] pos):=by
 intro C ws S s A d Q X Qm Em sc hF R hA ht hw q qx;refine ag (mq hw) ?_;intro a ha hw1;rw [hM] at hw1;clear hw;refine gn fun Pz kz=>?_;refine b0 hw1 ?_;clear hw1;intro n fs y2 hcell hfl hw;subst y2;refine be (zT hi sc) ?_;intro h1' hd1 hd2;refine kz ?_;clear kz Pz;unfold tW at hB;simp only [cD,beq_iff_eq,cN] at hB;refine gn fun Pz kz=>?_;refine af hB ?_;clear hB;intro y0 b7;refine af y0 ?_;clear y0;intro y20 b6;refine af y20 ?_;clear y20;intro y40 b5;refine af y40 ?_;clear y40;intro y60 b4;refine af y60 ?_;clear y60;intro y80 b3;refine af y80 ?_;clear y80;intro b1 b2;refine kz ?_;clear kz Pz;have hkf:C.env.kindOf f=some .globalImplicit:=by
  refine av (sc.names f _ (cK hk)) (fun h=>?_) fun h=>?_
  ·exact h
  ·cases h.1
 have hdf:(f==("__debug__":Str))=false:=by
  unfold cZ at hd;simp only [cD,cN] at hd;exact hd.1.1
 subst hf;have hA2:AOk A C.frs (d0+1+1):=hA.mono (by have:=hF.lo;exact aL [F.lo,d0,d] [] (.eq aa (.a ae (.k 2))) (.le aa ai) (.le (.a (.a ae (.k 1)) (.k 1)) ai) hlo this);refine l9 rfl (aE (kL R hkf hdf HA.glob fun v hv=>?_));obtain rfl:=hv.val_;refine hO (P:=eA (model G.prog G.w) (.ref 338)) rfl (fun h p=>p) (ix (q7 rfl (aE (wpAny_Name (iE R h1' ha hd2 fun ov hro=>?_) hd1))));refine iK (n9 R hcell hro) ?_;intro p es m hp y4 I hfd _ _;subst y4;have X0:=G.X.keeps R.amb.base;refine bO (aE (get_bind X0 I (plainGet_of b1).1 (findObj_fn b2 b3 b5 b6 b7 (by show lookIn y (dictOf es m)=_;(erw [lookIn_dict];erw [hfd.miss hfl];with_reducible rfl))) (plainGet_of b1).2
  (wpAny_call (fn_get (s:={s with toks:=s.toks+1}) X0 (beq_iff_eq.mp b4) (handed_on rfl fun t1=>?_)))))
 have kp:∀b o,s.heap.get? b=some o->(s.heap.push (methodObj (.ref fm) (.ref p.1))).get? b=some o:=fun b o e=>bL _ e;have hb:(s.heap.push (methodObj (.ref fm) (.ref p.1))).get? s.heap.objs.size=some (methodObj (.ref fm) (.ref p.1)):=dv _ rfl;refine jE ⟨keeps_K HA.keep _ (X0.keeps kp),?_⟩;have o1:Out G C ws s ws S {s with heap:=s.heap.push (methodObj (.ref fm) (.ref p.1)),toks:=s.toks+1}:=Out.of_keeps R kp rfl rfl;refine bO (Ah HA Y (s:={s with heap:=s.heap.push (methodObj (.ref fm) (.ref p.1)),toks:=s.toks+1}) o1.rel.amb hA2 (Nat.succ_pos _) (fun h' k=>?_) (LB (hP.mono (Nat.le_succ d0)) hb hp hw) (fun a st' h=>h) (fun x st' h=>h) fun ws' st' s' a r o rr h t2=>?_)
 ·refine bd hKf ?_;clear hKf;intro o fd ho hod;exact I0 (k _ _ hb) (k _ _ (kp _ _ (X0 _ _ ho))) hod
 ·exact q _ _ _ _ _ (o1.trans (o1.rel.called o)) (aW (Nat.le_succ _) t2) rr h
end
end
section
variable {G:Gd}{z:Bool}{F F0:Fx}{d d0:Nat}{c:Cc}{C:Cx}{ws:Wd}{S:St}{s:Shared}{h h':Heap}
theorem Rel.retab (R:Rel G C ws S h) (k:∀b o,b≠G.tab->h.get? b=some o->h'.get? b=some o)
  (hn:∃ps,h'.get? G.tab=some (tabObj ps)/\(ps=#[]\/∃c,ps=#[rawInt G.tabL,rawInt G.tabK,.ref c]/\c≠G.tab/\h'.CodeRec (.ref c) G.tabQ)):Rel G C ws S h':=by
 have a:=R.amb;have lc:=R.lc;have notF:∀{b o},h.get? b=some o->(∀vs,o.data≠.fields vs)->h'.get? b=some o:=fun{b o} e hd=>k b o (R.notTab e hd) e;have mv:Mv ws h ws h':=⟨fun b o n e hd=>⟨(by
  refine av hd ?_ ?_<;>clear hd
  ·intro y0;refine du y0 ?_;clear y0;intro xs m hd
   exact notF e (by simp [hd])
  ·intro y0;refine an y0 ?_;clear y0;intro vs y2;subst y2
   refine k b _ ?_ e
   rintro rfl
   refine ag a.tab ?_;intro ps q _
   rw [e] at q;cases q),n⟩,fun uz uz e=>e⟩
 refine⟨⟨fun b o e=>k b o (fun q=>by rw [q,G.tabFree] at e;exact ba e) (a.base b o e),fun e he=>?_,hn,a.tabF,a.len,fun n q cc e1 e2=>?_,a.fresh,a.apart⟩,⟨lc.kind,lc.glob,lc.blt,?_,fun x cc e=>?_,lc.capart,lc.ownL,lc.own,lc.freshL,lc.len,lc.nodup,lc.head⟩⟩
 ·refine af (a.frames e he) ?_;intro q1 y1;refine eW y1 ?_;clear y1;intro L o es n q2 q3 q4 q;exact⟨q1,L,o,es,n,q2,notF q3 (by simp [q4]),q4,q⟩
 ·have hc:=a.cells n q cc e1 e2;refine a8 (hc.there q.1 (by simp)) ?_;intro o1 h1 h2 _;refine a8 (hc.there q.2 (by simp)) ?_;intro o3 h3 h4 _;exact hc.mv mv (fun o e=>k _ o (R.notTab h1 h2) e) fun o e=>k _ o (R.notTab h3 h4) e
 ·refine ag lc.ns ?_;intro m y1 q2;refine cu y1 ?_;clear y1;intro o es n ho hd hr;refine aj m ((dG o es n (notF ho (by simp [hd])) hd hr)) (fun i x b e1 e2=>?_);refine ag (q2 i x b e1 e2) ?_;intro v q3 q4;exact aj v (q3.mv mv) (q4.keeps fun cc _ v ⟨oc,h1,h2⟩=>(aj oc (notF h1 (by simp [h2])) h2))
 ·refine af (lc.cells x cc e) ?_;intro y0 r;refine bd y0 ?_;clear y0;intro v oc h1 h2;exact⟨(bB v oc (notF h1 (by simp [h2])) h2),r⟩
theorem Lb {sc:Scope}{x:Str}{env:Env}{cell:Addr}(hn:sc.names=[(x,.free)]) (hc:env.cells.lookup x=some cell):closureFor sc env=pure [(x,cell)]:=by
 unfold closureFor
 erw [hn]
 have:cellOf env x=pure cell:=by unfold cellOf;(erw [hc];with_reducible rfl)
 simp only [List.forIn_cons,List.forIn_nil,beq_self_eq_true,if_true,this];rfl
theorem Ni {lp:Pos}{L K:Int}{v:Value}(h1:L=lp.line) (h2:K=lp.col):codeAmong lp [rawInt L,rawInt K,v]=some v:=by
 subst h1 h2;simp [codeAmong,rawInt]
theorem Fj {f x y w:Str}{fp xp ap cp pos lp pc:Pos}{kc:Nat}{i:Nat}{lsc:Scope}{Cl:Addr}{zz:Option (List Nat)}(HA:HeardAt G Cl zz) (Y:ExcIs G.K Cl) (hF0:FxOk G z d0 F0) (hlo:F.lo=d0+2)
  (hL:F.heardL=oh F0 (.meth (.loc 0) y [.cst (.str w.cps.toList)]) Cl zz) (hwl:w.cps.toList.length<=sizeLine)
  (hcode:c.code=.ref G.tabC) (hq:G.tabQ=c.qual ++ "<lambda>") (hl1:G.tabL=lp.line) (hl2:G.tabK=lp.col)
  (hf:f=("_law_heard":Str)) (hk:cr c.scope f .globalImplicit=true) (hd:cZ f=true) (hkx:cr c.scope x .cell=true) (hdx:cZ x=true) (hi:idxOf? c.nm x=some i)
  (hn:lsc.names=[(x,.free)]) (hlk:lsc.kind=.function) (hlg:lsc.isGenerator=false) (hlc:lsc.isCoroutine=false) (hap:ap.endLine=cp.line) :
  SE G z F c (.heardL i) (.Call (.Name f fp) [.Lambda ⟨[],[],none,[],[],none,[]⟩ (.Call (.Attribute (.Name x xp) y ap) [.Constant (.str w) kc pc] [] cp) lsc lp] [] pos):=by
 intro C ws S s A d Q X Qm Em sc hF R hA ht hw q qx;refine ag (mq hw) ?_;intro a ha hw1;rw [hL] at hw1;clear hw;have hw:=hw1;clear hw1;have hkf:C.env.kindOf f=some .globalImplicit:=by
  refine av (sc.names f _ (cK hk)) (fun h=>?_) fun h=>?_
  ·exact h
  ·cases h.1
 have hkc:C.env.kindOf x=some .cell:=by
  refine av (sc.names x _ (cK hkx)) (fun h=>?_) fun h=>?_
  ·exact h
  ·cases h.1
 have hdf:(f==("__debug__":Str))=false:=by
  unfold cZ at hd;simp only [cD,cN] at hd;exact hd.1.1
 subst hf;have hix:C.nm[i]? = some x:=by
  erw [sc.nm]
  unfold idxOf? at hi;obtain⟨hl,hx,_⟩:=List.findIdx?_eq_some_iff_getElem.mp hi
  (erw [eT hl];erw [beq_iff_eq.mp hx];with_reducible rfl)
 have hA2:AOk A C.frs (d0+1+1):=hA.mono (by have:=hF.lo;exact aL [F.lo,d0,d] [] (.eq aa (.a ae (.k 2))) (.le aa ai) (.le (.a (.a ae (.k 1)) (.k 1)) ai) hlo this);refine ag R.lc.ns ?_;intro m hm hv;refine ag (hv i x a hix ha) ?_;intro v rv hat;obtain⟨cell,hcl,hcell⟩:∃c,C.env.cells.lookup x=some c/\s.heap.IsCell c (some v):=by
  refine av hat ?_ ?_<;>clear hat
  ·intro y0;refine af y0 ?_;clear y0;intro h1 _;rw [hkc] at h1;cases h1
  ·intro y0;refine af y0 ?_;clear y0;intro _ y2;refine ag y2 ?_;clear y2;intro c h2 h3;exact aj c h2 h3
 refine be (R.lc.cells x cell hcl) ?_;intro _ hct hcb;have hclos:=Lb (sc:=lsc) hn hcl;refine l9 rfl (aE (kL R hkf hdf HA.glob fun v hv=>?_));obtain rfl:=hv.val_;refine hO (P:=eA (model G.prog G.w) (.ref 338)) rfl (fun h p=>p) (ix ?_);show ah z (model G.prog G.w) A (eval (.Lambda ⟨[],[],none,[],[],none,[]⟩ (.Call (.Attribute (.Name x xp) y ap) [.Constant (.str w) kc pc] [] cp) lsc lp) C.env) _ _ s;refine bO (aE (kla_eval rfl ?_));have hec:C.env.code=.ref G.tabC:=sc.code.trans hcode;have hgN:s.heap.Ns mainGlobals G.mg:=G.T.g.keeps R.amb.base;have hCd:CodeHd s.heap G.tabC G.tab:=G.tabHd.keeps R.amb.base;have hbt:s.heap.BuiltinsAt G.mg G.tab:=HA.bat.keeps R.amb.base;have hgP:mainGlobals≠G.tab:=fun q=>by
  refine dH G.T.g ?_;intro o es n ho _;rw [q,G.tabFree] at ho;exact ba ho
 have hqq:C.env.qual ++ "<lambda>" = G.tabQ:=by(erw [sc.qual];erw [hq];with_reducible rfl)
 erw [hqq]
 have fin:∀(c' f:Addr) (ctv:Value) (h2:Heap) (tk:Nat),h2.get? f=some (kla_obj "<lambda>" G.tabQ ⟨[],[],none,[],[],none,[]⟩ (.Call (.Attribute (.Name x xp) y ap) [.Constant (.str w) kc pc] [] cp) lsc [(x,cell)] ((G.mg "__name__").getD .none) c' ctv)->h2.CodeRec (.ref c') G.tabQ->
   Out G C ws s ws S {s with heap:=h2,toks:=tk}->h2.IsCell cell (some v)->s.toks<=tk->
   ah z (model G.prog G.w) A (spliced []) (fun vs s₁=>eA (model G.prog G.w) (.ref 338) s₁.heap/\ah z (model G.prog G.w) A (call (.ref 338) ([]++(.ref f::vs))) Qm Em s₁) Em {s with heap:=h2,toks:=tk}:=by
  intro c' f ctv h2 tk hobj hrec o1 hc2 t1;refine jE ⟨keeps_K HA.keep _ (G.X.keeps o1.rel.amb.base),?_⟩;have hsd:SE G z F0 ⟨G.K,lsc,[x],.ref c',G.tabQ ++ ".<locals>.",none⟩ (.meth (.loc 0) y [.cst (.str w.cps.toList)]) (.Call (.Attribute (.Name x xp) y ap) [.Constant (.str w) kc pc] [] cp):=by
   refine ve (ms:=[.cst (.str w.cps.toList)]) (es:=[.Constant (.str w) kc pc]) rfl rfl (by show 1<20;exact aH [] [] (.lt (.k 1) (.k 20))) hap (vf ?_) ⟨vg ?_,trivial⟩
   ·have h1:cr lsc x .free=true:=decide_eq_true (by(erw [hn];erw [List.lookup_cons];erw [beq_self_eq_true];with_reducible rfl));refine(rA (by erw [hdx];show(_||_)=true;(erw [h1];erw [Bool.or_true];with_reducible rfl))).trans ?_;show List.findIdx? _ [x]=_
    (erw [List.findIdx?_cons];erw [beq_self_eq_true]);rfl
   ·exact rA (decide_eq_true hwl)
  have rv2:Rep ws h2 a v:=rv.mv (o1.mv R);refine bO (Ah HA Y (s:={s with heap:=h2,toks:=tk}) o1.rel.amb hA2 (bA ht t1) (fun h' k=>IY (k _ _ hobj) rfl)
   (IT (Qc:=fun b st'=>Q b {S with st:=st'}) (Xc:=fun x st'=>x.cls=Cl/\Q (jI zz x.spot) {S with st:=st'}) hn hlk hlg hlc hF0 hsd hobj hrec hc2 hct hcb rv2 hw) (fun a st' h=>h) (fun x st' h=>h) fun ws' st' s' b r o rr h t2=>?_)
  exact q _ _ _ _ _ (o1.trans (o1.rel.called o)) (aW t1 t2) rr h
 have cellK:∀{h2:Heap},(∀b o,b≠G.tab->s.heap.get? b=some o->h2.get? b=some o)->h2.IsCell cell (some v):=fun{h2} k=>by
  refine ag hcell ?_;clear hcell;intro oc ho hd;exact aj oc (k _ _ (R.notTab ho (by simp [hd])) ho) hd
 refine ag R.amb.tab ?_;intro ps hP hps;refine av hps ?_ ?_<;>clear hps
 ·rintro rfl;refine kla_makeFunction (mg:=G.mg) hclos R.lc.glob hgN hec hCd hP trivial rfl hgP hbt fun c' ctv h' tk hx hge hlt hrec htb t1=>?_;have kk:∀b o,b≠G.tab->s.heap.get? b=some o->(h'.push (kla_obj "<lambda>" G.tabQ ⟨[],[],none,[],[],none,[]⟩ (.Call (.Attribute (.Name x xp) y ap) [.Constant (.str w) kc pc] [] cp) lsc [(x,cell)] ((G.mg "__name__").getD .none) c' ctv)).get? b=some o:=
   fun b o hb e=>bL _ (hx b o hb e)
  have hrec2:=hrec.keeps (fun b o e=>bL (h:=h') (kla_obj "<lambda>" G.tabQ ⟨[],[],none,[],[],none,[]⟩ (.Call (.Attribute (.Name x xp) y ap) [.Constant (.str w) kc pc] [] cp) lsc [(x,cell)] ((G.mg "__name__").getD .none) c' ctv) e);have htab2:=bL (h:=h') (kla_obj "<lambda>" G.tabQ ⟨[],[],none,[],[],none,[]⟩ (.Call (.Attribute (.Name x xp) y ap) [.Constant (.str w) kc pc] [] cp) lsc [(x,cell)] ((G.mg "__name__").getD .none) c' ctv) htb;have hcne:c'≠G.tab:=fun q=>absurd (Heap.lt_size hP) (Nat.not_lt.mpr (q▸hge));have R2:=R.retab kk (aj _ htab2 (.inr (aQ c' (by(erw [hl1];erw [hl2]);rfl) hcne hrec2)));refine fin c' h'.objs.size ctv _ tk (dv _ rfl) hrec2 ⟨R2,⟨fun b o e n f=>kk b o (fun q=>n (q▸.head _)) e,fun b o e n f=>⟨o.slots,kk b o (fun q=>n (q▸.head _)) e⟩,fun b o e=>?_⟩,.refl,rfl,rfl⟩ (cellK kk) t1;by_cases hb:b=G.tab
  ·subst hb;exact⟨_,htab2⟩
  ·exact⟨o,kk b o hb e⟩
 ·intro y0;refine a8 y0 ?_;clear y0;intro c0 y2 hct0 hrec0;subst y2;refine kla_makeFunctionHit (mg:=G.mg) hclos R.lc.glob hgN hec hCd hP (by exact trivial) (Ni hl1 hl2) hbt fun ctv h' tk hx hsz t1=>?_;have kk:∀b o,s.heap.get? b=some o->(h'.push (kla_obj "<lambda>" G.tabQ ⟨[],[],none,[],[],none,[]⟩ (.Call (.Attribute (.Name x xp) y ap) [.Constant (.str w) kc pc] [] cp) lsc [(x,cell)] ((G.mg "__name__").getD .none) c0 ctv)).get? b=some o:=
   fun b o e=>bL _ (hx b o e)
  exact fin c0 h'.objs.size ctv _ tk (dv _ rfl) (hrec0.keeps kk) (Out.of_keeps R kk rfl rfl) (cellK fun b o uz e=>kk b o e) t1
end
section
variable {G:Gd}{z:Bool}{F F0:Fx}{d d0:Nat}{c:Cc}
noncomputable def lY:List Nat:=("nowhere":Str).cps.toList
theorem G9 {ps:Arguments}(h:zm ps=true):ps=⟨[],[],none,[],[],none,[]⟩:=by
 obtain⟨a1,a2,a3,a4,a5,a6,a7⟩:=ps;replace h:=bb h;have h1:=bb h.1;have h2:=bb h1.1;have h3:=bb h2.1;have h4:=bb h3.1;have h5:=bb h4.1;cases (eP h5.1:a1=[]);cases (eP h5.2:a2=[]);cases (Option.isNone_iff_eq_none.mp h4.2:a3=none);cases (eP h3.2:a4=[]);cases (eP h2.2:a5=[]);cases (Option.isNone_iff_eq_none.mp h1.2:a6=none);cases (eP h.2:a7=[]);rfl
theorem Jn {Cw fm Cl:Addr}{zz:Option (List Nat)}{P:bq}(HA:HeardAt G Cl zz) (Y:ExcIs G.K Cl) (hF0:FxOk G z d0 F0) (hP:FnCode G z d0 fm P) (hlo:F.lo=d0+2)
  (hL:F.heardL=oh F0 (.meth (.loc 0) ("expect":Str) [.cst (.str lY)]) Cl zz) (hM:F.heardM=og Cw fm ("name":Str) P Cl zz)
  (hB:tW G.K Cw ("name":Str) fm=true) (hKf:∃o fd,G.K.lookup fm=some o/\o.data=.func fd) (hc:c.K=G.K) (hcode:c.code=.ref G.tabC) (hq:G.tabQ=c.qual ++ "<lambda>") (hh:c.h=some (G.tabL,G.tabK)):HOk G z F c:=by
 intro e hc1;refine cI fun w0 uz=>cy fun e3=>cI fun f uz=>cI fun a uz=>oO (fun l=>cI fun w uz=>cy fun e4=>cI fun o uz=>cI fun n uz=>cI fun k uz=>cI fun v uz=>cy fun g=>ec fun j hj=>?_) (cI fun o uz=>cI fun n uz=>cy fun g=>ec fun j hj=>?_)
 ·refine du v.2 ?_;intro kc pc ev
  (erw [w0.2];erw [f.2];erw [a.2];erw [eP e3];erw [l.2];erw [w.2];erw [o.2];erw [n.2];erw [k.2];erw [ev];erw [eP e4])
  simp only [cD,beq_iff_eq,bi,cN] at g
  (obtain⟨h1,h2,h3,h4,h5,h6,h7,h8,h9,h10,h11,h12,h13,h14⟩:=g)
  rw [hh] at h14;have e14:=Option.some.inj h14
  (erw [h2];erw [h3];erw [G9 h4])
  exact Fj HA Y hF0 hlo hL (by decide) hcode hq (congrArg Prod.fst e14) (congrArg Prod.snd e14) h1 h7 h9 h6 h8 hj h10 h11 h12 h13 h5
 ·have h1:=bb g;have h2:=bb h1.2;have h3:=bb h2.2
  (erw [w0.2];erw [f.2];erw [a.2];erw [eP e3];erw [o.2];erw [n.2];erw [beq_iff_eq.mp h2.1])
  exact Fi HA Y hP hlo hM hB hKf hc (beq_iff_eq.mp h1.1) h3.1 h3.2 hj
end
section
open Sem (wp)
theorem Lk:Cl true (⟨.builtin "claim.caller" {},none,none,[],none⟩:Ctx):=fun uz=>⟨by decide +kernel,fun x hx=>by cases hx⟩
theorem Ks {prog:Program}{w:World}{t:Sem Fin}{s:Shared}{R:Result->Shared->Prop}(hreg:s.asleep)
  (h:ah true (model prog w) callerA t (fun fin s'=>∃f,fin=.done f/\(R (.ok f) s'/\leftWithCleanup s'.gens=false)) (fun e s'=>R (.error e) s'/\leftWithCleanup s'.gens=false) s) :
  ∃n r s' s'',runN (denote table) prog w n s ⟨t,.builtin "claim.caller" {},default,[]⟩=.halted (outcomeOf r) s'/\
   schedN (denote table) prog w n (.single s ⟨t,.builtin "claim.caller" {},default,[]⟩)=.halted (outcomeOf r) s'/\s'.forget=s''.forget/\R r s'':=by
 have hw:wp (model prog w) ⟨.builtin "claim.caller" {},none,none,[],none⟩ t (Sem.finPost (model prog w) ⟨.builtin "claim.caller" {},none,none,[],none⟩ fun r s'=>R r s'/\leftWithCleanup s'.gens=false)
   (fun e uz s'=>R (.error e) s'/\leftWithCleanup s'.gens=false) default s:=
  Sem.wp_mono _ _ t (fun fin p' s' h'=>by(refine ag h' ?_;clear h';intro f y1 hf;subst y1);exact hf) (fun uz uz uz h'=>h') default s (h _ default caller_in Lk)
 refine eW (wp_halts_full (M:=model prog w) (R:=R) hreg hw) ?_;intro n r s₁ s₂ hs hn hfo hR;exact iJ n r (s₂) (s₁) hn hs hfo hR
theorem Ll {c:ClaimW}{tree:List Value->Sem Fin}{w:World}{s:Shared}{free:Addr->Prop}{gens:Prop}{kept:Heap->Prop}(hz:s.asleep) (hgens:s.gens=#[])
  (spec:∀args,c.pre args=true->WData.layableAll args=true->∀ord:List DictEntry->List DictEntry,(∀l,(ord l).Perm l)->
   ∃vs s₁,layAllW c.records (classAt s.heap) w.params ord args s=some (vs,s₁)/\
    ah true (model c.prog w) callerA (tree vs) (fun fin s'=>∃f,fin=.done f/\(c.Ends s args vs s₁ (.ok f) s'/\s'.os=s.os/\AllBare s'.gens/\kept s'.heap))
     (fun e s'=>c.Ends s args vs s₁ (.error e) s'/\s'.os=s.os/\AllBare s'.gens/\kept s'.heap) s₁) :
  c.CallFrom (fun vs=>⟨tree vs,.builtin "claim.caller" {},default,[]⟩) w free gens kept s:=by
 intro args hpre hlay ord hord;refine bd (spec args hpre hlay ord hord) ?_;intro vs s₁ hlaid hcode;have hal:=layAllW_rest _ _ _ hlaid;(refine eW (Ks (prog:=c.prog) (w:=w) (t:=tree vs) (s:=s₁) (R:=fun r s'=>c.Ends s args vs s₁ r s'/\s'.os=s.os/\kept s'.heap) (Shared.asleep_of_life hal.2.2.2 hz)
  (ef hcode (fun fin s' ⟨f,e,h1,h2,h3,h4⟩=>(aQ f e ((aI h1 h2 h4)) (leftWithCleanup_false_of_bare h3))) fun e s' ⟨h1,h2,h3,h4⟩=>⟨(aI h1 h2 h4),leftWithCleanup_false_of_bare h3⟩)) ?_;intro k r s' s'' hrun hsched hfo hc)
 refine be hc ?_;clear hc;intro hcase hos hkp;refine oW (Shared.forget_eq hfo) ?_;intro eh _ _ eo _;have hcase:=hcase.congr eh;rw [←eo] at hos;rw [←eh] at hkp;have hlife:s'.heap.life=s.heap.life:=(runN_life _ _ _ hrun).trans hal.2.2.2;refine(bB vs (s₁) hlaid (jX k _ s' hsched ?_ ((fun uz i x hx=>by rw [hgens] at hx;simp at hx)) hkp (by(erw [hlife];with_reducible rfl)) (Shared.rest_eq hos)));refine av hcase ?_ ?_<;>clear hcase
 ·intro y0;refine tC y0 ?_;clear y0;intro v y2 d1 d2 d3 d4 d5;subst y2;exact .inl (⟨v,rfl,d1,d2,d3,fun b o y uz=>d4 b o y,d5⟩)
 ·intro y0;refine iK y0 ?_;clear y0;intro e ob cls y4 d1 d2 d3 d4 d5;subst y4;exact .inr (jX e ob cls rfl d1 d2 d3 d4 (fun b o y uz=>d5 b o y))
def lm (p:Program):Prop:=∀s s',fenceModules? p s=some s'->s.toks<=s'.toks
set_option tactic.hygienic true in
theorem uJ {tb:String->Option Builtin}{p:Program}{w:World}{n₀:Nat}{ann:Option Value}:∀(n:Nat) (s:Shared) (t:Thread) (s₁:Shared),topRun tb p w n₀ ann n s t=some s₁->s.toks<=s₁.toks
 | 0,s,t,s₁,h=>by unfold topRun at h;exact ba h
 |n+1,s,t,s₁,h=>by
  unfold topRun at h
  split at h
  ·cases h;exact bw _
  ·split at h
   ·exact ba h
   ·split at h
    ·rename_i s' t' hs
     exact aW (step_toks_le _ p w s s' t t' hs) (uJ n s' t' s₁ h)
    ·exact ba h
theorem GL {p:Program}{w:World}{N:Nat}{s₁:Shared}(hf:lm p) (h:openEnds treeTable p w N=some s₁):0<s₁.toks:=by
 refine ag (Option.bind_eq_some_iff.mp h) ?_;intro s₀ h1 h2;refine ag (Option.bind_eq_some_iff.mp h1) ?_;intro s h3 h4;rw [←table_eq_tree] at h3;have a1:0<s.toks:=(AfterImport.of_importEnds h3).toks_pos;have a2:=hf s s₀ h4;unfold topFrom at h2
 split at h2
 ·refine ag (Option.bind_eq_some_iff.mp h2) ?_;intro s₂ h5 h6;have a3:=uJ _ _ _ _ h5
  split at h6
  ·cases h6;exact bQ [s.toks,s₀.toks,s₁.toks] [] (.lt (.k 0) aa) (.le aa ae) (.le ae ai) (.lt (.k 0) ai) a1 a2 a3
  ·exact ba h6
 ·exact ba h2
theorem IN {p q:Program}{loose:List Str}{Xt:Shared->Bool}{α:Type}{Yf:Shared->α}{Ya:World->α}{N:Nat}{g0:Bool}(hf:lm p) (left:LeftO p q loose Xt Yf Ya N g0):LeftO p q loose Xt (fun s=>(Yf s,decide (0<s.toks))) (fun w=>(Ya w,true)) N g0:=by
 intro w;refine ag (Option.map_eq_some_iff.mp (left w)) ?_;intro s₁ h1 h2;have a:=GL hf h1
 (erw [h1];erw [Option.map_some])
 refine af (Prod.mk.inj h2) ?_;intro e1 e2;dsimp only
 (erw [decide_eq_true a];erw [e1];erw [e2];with_reducible rfl)
abbrev BN (q:Program) (loose:List Str) (XP:(Str->Option Value)->Heap->Prop) (YP:World->Heap->Prop) (r:RowW) (d:DefRec) (kwd:List (Str×Expr)):Prop:=
 ∀(w:World) (s₀ s₁:Shared) (mg mb:Str->Option Value),Ground q loose r.records XP w s₀ mg mb s₁.heap->YP w s₁.heap->∀(a:Addr) (o:Obj) (pm cd doc dV kV:Value),s₁.heap.get? a=some o->
  o.data=.func {docDef d.name d.params d.body d.scope pm cd doc with defaults:=dV,kwdefaults:=kV}->s₁.heap.CodeRec cd d.name->Dflts mg s₁.heap d.params kwd dV kV->mg d.name=some (.ref a)->s₁.gens=#[]->
  ∀(args:List WData) (vals:List Value) (as:List Addr),r.claim.pre args=true->WData.layableAll args=true->ReadsAllW r.records (classAt s₀.heap) s₁.heap vals args as->WellAll w.params s₁.heap vals args->(∀a∈as,(a==sysModules)=false)->(lm r.prog->0<s₁.toks)->
   ah true (model r.prog w) callerA (PySem.call (.ref a) vals) (fun v s'=>GoodWG r.claim (classAt s₀.heap) (ExcName.means s₀.heap) args s₁ (.ok (.ret v)) s')
    (fun e s'=>GoodWG r.claim (classAt s₀.heap) (ExcName.means s₀.heap) args s₁ (.error e) s') s₁
theorem Jm {r:OpenRow}{q:Program}{loose:List Str}{Xt:Shared->Bool}{XP:(Str->Option Value)->Heap->Prop}{α:Type}{Yf:Shared->α}{Ya:World->α}{YP:World->Heap->Prop}{d:DefRec}{kwd:List (Str×Expr)}{N:Nat}
  (left:LeftO r.prog q loose Xt Yf Ya N) (hY:∀w s,Yf s=Ya w->YP w s.heap) (hYk:∀w h h',YP w h->(∀b o,h.get? b=some o->h'.get? b=some o)->YP w h')
  (hX:∀s,Xt s=true->XP (s.heap.nsMap mainGlobals) s.heap) (hXk:∀mg h h',XP mg h->(∀b o,h.get? b=some o->h'.get? b=some o)->XP mg h')
  (hdef:defOf q r.name=some (d,kwd)) (hp:r.prog.theDef r.name=some (d.params,d.body,d.scope)) (hk:kwWritten? d.params.kwonlyargs d.params.kw_defaults=some kwd) (hRf:∀s,Xt s=true->RecFacts r.records s.heap) (hwr:(!r.writes||r.records.isEmpty)=true)
  (k1:r.wellSaid=true) (ok:(chainsOk q&&opensWell r.prog&&(frees r.toRowW&&r.within.isEmpty))=true) (hb:r.prog.bare) (hw:r.toRowW.promised)
  (walk:BN q loose XP YP r.toRowW d kwd):r.Holds:=by
 simp only [cD] at ok;refine be ok ?_;clear ok;intro y0 k5 k6;refine af y0 ?_;clear y0;intro hch o1;refine oW (frees_parts k5) ?_;intro hsame hu ha hap hm;have hi:=ident_freeW hu ha hap;have hwi:r.toRowW.claim.within=[]:=List.isEmpty_iff.mp k6;refine jY k1 hw ((aI hb o1 (by show r.makers.map _=[];erw [hm];rfl))) hw.witness (fun w=>?_);have lb:(∃s,AfterRun (opening r.prog) w s)/\∀s,AfterRun (opening r.prog) w s->∃s₀,fenceModules? r.prog s=some s₀/\s₀.gens=#[]/\∃s₁,TopRan r.prog w s₀ s₁/\s₁.asleep/\(if true then s₁.gens.size==0 else !leftWithCleanup s₁.gens)=true/\s₁.heap.isNs mainGlobals=true/\
   Ground q loose [] (fun mg h=>XP mg h/\RecFacts r.records h) w s₁ (s₁.heap.nsMap mainGlobals) (s₁.heap.nsMap builtinsNs) s₁.heap/\Yf s₁=Ya w/\(lm r.prog->0<s₁.toks):=by
  by_cases hfu:lm r.prog
  ·refine af ((IN hfu left).behind (XP:=fun mg h=>XP mg h/\RecFacts r.records h) (fun s hs=>⟨hX s hs,hRf s hs⟩) hch w) ?_;intro b1 b2;refine⟨b1,fun s hs=>?_⟩;refine a8 (b2 s hs) ?_;intro s₀ c1 c2 y3;refine tC y3 ?_;clear y3;intro s₁ c3 c4 c5 c6 c7 c8;refine af (Prod.mk.inj c8) ?_;intro e1 e2;exact(aQ (s₀) c1 c2 (CD (s₁) c3 c4 c5 c6 c7 e1 (fun uz=>cK e2)))
  ·refine af (left.behind (XP:=fun mg h=>XP mg h/\RecFacts r.records h) (fun s hs=>⟨hX s hs,hRf s hs⟩) hch w) ?_;intro b1 b2;refine⟨b1,fun s hs=>?_⟩;refine a8 (b2 s hs) ?_;intro s₀ c1 c2 y3;refine tC y3 ?_;clear y3;intro s₁ c3 c4 c5 c6 c7 c8;exact(aQ (s₀) c1 c2 (CD (s₁) c3 c4 c5 c6 c7 c8 (fun h=>absurd h hfu)))
 refine⟨lb.1,fun s' hs'=>?_⟩;refine a8 (lb.2 s' hs') ?_;intro s₀ hf hg0 y3;obtain⟨s,hT,hz,hgens,hg,G00,y,hup⟩:=y3;have G0:Ground q loose [] XP w s (s.heap.nsMap mainGlobals) (s.heap.nsMap builtinsNs) s.heap:=⟨G00.T,G00.B,G00.D,G00.TE,G00.TD,G00.W,G00.X.1,G00.cls,G00.has,G00.apart,G00.once,G00.K⟩;have RF:=G00.X.2;have G:Ground q loose r.records XP w s _ _ s.heap:=RF.ground G0;have hg':s.gens=#[]:=Array.eq_empty_of_size_eq_zero (beq_iff_eq.mp hgens);refine(aQ (s₀) hf hg0 (CE s hT (fun n hn=>?_) RF.1 RF.2.1 ?_))
 ·obtain rfl:n=r.name:=by split at hn<;>simp_all
  exact pinned_of_view hg G0 hdef hp hk
 refine Ll (c:=r.toRowW.claim) hz hg' fun args hpre hlay ord hord=>?_;refine an (Option.isSome_iff_exists.mp (layAllW_isSome (P:=w.params) (ord:=ord) G.has args r.args s (pre_splitW hpre).1)) ?_;intro y0 hlaid;obtain⟨vs,s₁⟩:=y0;have keeps:=layAllW_keeps _ _ _ hlaid;have hal:=layAllW_rest _ _ _ hlaid;refine a8 (reads_layAllW hord _ _ _ hlaid hlay s₁.heap (fun uz uz e=>e)) ?_;intro as hrd hin hold;have L:Laid r.records w s s₁ args vs as:=⟨(aj ord hord hlaid),hrd,hin,hold,keeps,hal.1.trans hg',hal.2.2.1⟩;have G₁:=G.keeps hXk keeps;refine CN (G₁.fn hdef) ?_;intro a o pm cd doc dV kV h1 h2 h3 h4 h5;have body:=walk w s s₁ _ _ G₁ (hYk _ _ _ (hY w s y) keeps) a o pm cd doc dV kV h2 h3 h4 h5 (defOf_name hdef▸h1) L.gens args vs as hpre hlay L.reads L.well (L.low G.low) (fun hfu=>bA (hup hfu) (layAllW_grows _ _ _ hlaid).toks);refine bB vs (s₁) hlaid ?_;show ah true _ callerA (nsGet mainNs r.name>>=fun x=>match x with
   |some f=>do ret (←PySem.call f vs)
   |none=>unsupported "claim.caller:no-such-global") _ _ s₁
 refine aR (aE (wpAny_nsGet G₁.T.g ?_))
 erw [h1]
 refine aR (ef body (fun v s' g=>aP ?_) fun e s' g=>?_)
 ·have z:=g.laid (c:=r.toRowW.claim) hsame hwi hi L;exact CE _ rfl z.1 z.2.1 z.2.2 (fun q=>⟨namesKept_of hT hg _ keeps g.2.1.old,noTable hwr q⟩)
 ·have z:=g.laid (c:=r.toRowW.claim) hsame hwi hi L;exact dq z.1 z.2.1 z.2.2 (fun q=>⟨namesKept_of hT hg _ keeps g.2.1.old,noTable hwr q⟩)
end
noncomputable def gE:List Nat:=[97,98,99,100,101,102,103,104,105,106,107,108,109,110,111,112,113,114,115,116,117,118,119,120,121,122,65,66,67,68,69,70,71,72,73,74,75,76,77,78,79,80,81,82,83,84,85,86,87,88,89,90,95]
noncomputable def bX:List Nat:=[97,98,99,100,101,102,103,104,105,106,107,108,109,110,111,112,113,114,115,116,117,118,119,120,121,122,65,66,67,68,69,70,71,72,73,74,75,76,77,78,79,80,81,82,83,84,85,86,87,88,89,90,95,48,49,50,51,52,53,54,55,56,57]
noncomputable def fX:List Nat:=[48,49,50,51,52,53,54,55,56,57]
noncomputable def db:List Nat:=[48,49,50,51,52,53,54,55,56,57,97,98,99,100,101,102]
noncomputable def dZ:List (List Nat):=[[98,114,101,97,107],[99,97,115,101],[99,104,97,110],[99,111,110,115,116],[99,111,110,116,105,110,117,101],[100,101,102,97,117,108,116],[100,101,102,101,114],[101,108,115,101],[102,97,108,108,116,104,114,111,117,103,104],[102,111,114],[102,117,110,99],[103,111],[103,111,116,111],[105,102],[105,109,112,111,114,116],[105,110,116,101,114,102,97,99,101],[109,97,112],[112,97,99,107,97,103,101],[114,97,110,103,101],[114,101,116,117,114,110],[115,101,108,101,99,116],[115,116,114,117,99,116],[115,119,105,116,99,104],[116,121,112,101],[118,97,114]]
noncomputable def ct:List (List Nat):=[[60,60,61],[62,62,61],[38,94,61],[46,46,46],[38,38],[124,124],[60,45],[43,43],[45,45],[61,61],[33,61],[60,61],[62,61],[58,61],[43,61],[45,61],[42,61],[47,61],[37,61],[38,61],[124,61],[94,61],[60,60],[62,62],[38,94],[43],[45],[42],[47],[37],[38],[124],[94],[60],[62],[61],[33],[40],[41],[91],[93],[123],[125],[44],[59],[46],[58]]
noncomputable def ou:List (List Nat):=[[98,114,101,97,107],[99,111,110,116,105,110,117,101],[102,97,108,108,116,104,114,111,117,103,104],[114,101,116,117,114,110],[43,43],[45,45],[41],[93],[125]]
noncomputable def rj:List Nat:=[60,60,61,32,62,62,61,32,38,94,61,32,46,46,46,32,38,38,32,124,124,32,60,45,32,43,43,32,45,45,32,61,61,32,33,61,32,60,61,32,62,61,32,58,61,32,43,61,32,45,61,32,42,61,32,47,61,32,37,61,32,38,61,32,124,61,32,94,61,32,60,60,32,62,62,32,38,94,32,43,32,45,32,42,32,47,32,37,32,38,32,124,32,94,32,60,32,62,32,61,32,33,32,40,32,41,32,91,32,93,32,123,32,125,32,44,32,59,32,46,32,58]
noncomputable def zW:List Nat:=[98,114,101,97,107,32,99,97,115,101,32,99,104,97,110,32,99,111,110,115,116,32,99,111,110,116,105,110,117,101,32,100,101,102,97,117,108,116,32,100,101,102,101,114,32,101,108,115,101,32,102,97,108,108,116,104,114,111,117,103,104,32,102,111,114,32,102,117,110,99,32,103,111,32,103,111,116,111,32,105,102,32,105,109,112,111,114,116,32,105,110,116,101,114,102,97,99,101,32,109,97,112,32,112,97,99,107,97,103,101,32,114,97,110,103,101,32,114,101,116,117,114,110,32,115,101,108,101,99,116,32,115,116,114,117,99,116,32,115,119,105,116,99,104,32,116,121,112,101,32,118,97,114]
noncomputable abbrev ME.S (l:List Nat):ME:=.cst (.str l)
noncomputable abbrev ME.I (n:Int):ME:=.cst (.int n)
noncomputable abbrev ME.R (n:Addr):ME:=.cst (.val (.ref n))
noncomputable abbrev ME.B (n:String):ME:=.cst (.val (.builtin n))
noncomputable abbrev ME.T (n:String):ME:=.cst (.val (.type n))
noncomputable def vx:MS:=.ret (.and [.cmp2 (.I 0) .LtE (.loc 0) .LtE (.I 1114111),.not (.cmp2 (.I 55296) .LtE (.loc 0) .LtE (.I 57343))])
noncomputable def He:List Str:=["rune"]
noncomputable def sr:List MS:=[vx]
noncomputable def vt:MS:=.set 0 (.I 65533)
noncomputable def vw:MS:=.ite (.not (.call (.R 70) [.loc 0])) [vt] []
noncomputable def vr:MS:=.ret (.call (.T "bytes") [.lst [.loc 0]])
noncomputable def pN:MS:=.ite (.cmp (.loc 0) .Lt (.I 128)) [vr] []
noncomputable def pM:MS:=.set 1 (.ite (.cmp (.loc 0) .Lt (.I 2048)) (.I 1) (.ite (.cmp (.loc 0) .Lt (.I 65536)) (.I 2) (.I 3)))
noncomputable def rO:ME:=(.bin .Add (.I 128) (.bin .Mod (.bin .FloorDiv (.loc 0) (.bin .Pow (.I 64) (.loc 3))) (.I 64)))
noncomputable def nq:MS:=.set 2 (.comp rO [true,false,false] (.call (.T "range") [.bin .Sub (.loc 1) (.I 1),.neg (.I 1),.neg (.I 1)]) [])
noncomputable def np:MS:=.ret (.call (.T "bytes") [.bin .Add (.lst [.bin .Add (.sub (.sub (.cst (.tup [.tup [.int 192,.int 223,.int 128],.tup [.int 224,.int 239,.int 2048],.tup [.int 240,.int 247,.int 65536]])) (.bin .Sub (.loc 1) (.I 1))) (.I 0)) (.bin .FloorDiv (.loc 0) (.bin .Pow (.I 64) (.loc 1)))]) (.loc 2)])
noncomputable def Hd:List Str:=["rune","many","tail"]
noncomputable def sq:List MS:=[vw,pN,pM,nq,np]
noncomputable def FK:MS:=.aug 1 .Add (.I 1)
noncomputable def FL:MS:=.while (.and [.cmp (.loc 1) .Lt (.call (.B "len") [.loc 0]),.cmp (.sub (.loc 0) (.loc 1)) .In (.loc 2)]) [FK]
noncomputable def pL:MS:=.ret (.loc 1)
noncomputable def Hc:List Str:=["text","at","signs"]
noncomputable def so:List MS:=[FL,pL]
noncomputable def vp:MS:=.set 2 (.meth (.loc 0) "find" [.S [10],.loc 1])
noncomputable def vo:MS:=.ret (.ite (.cmp (.loc 2) .Lt (.I 0)) (.call (.B "len") [.loc 0]) (.loc 2))
noncomputable def vq:MS:=.ite (.cmp (.cut (.loc 0) (some (.loc 1)) (some (.bin .Add (.loc 1) (.I 2)))) .Eq (.S [47,47])) [vp,vo] []
noncomputable def vn:MS:=.set 2 (.meth (.loc 0) "find" [.S [42,47],.bin .Add (.loc 1) (.I 2)])
noncomputable def vk:MS:=.raise 45 [.S [97,32,114,101,109,97,114,107,32,119,105,116,104,111,117,116,32,97,110,32,101,110,100],.loc 1]
noncomputable def vm:MS:=.ite (.cmp (.loc 2) .Lt (.I 0)) [vk] []
noncomputable def vj:MS:=.ret (.bin .Add (.loc 2) (.I 2))
noncomputable def Hb:List Str:=["text","at","end"]
noncomputable def sm:List MS:=[vq,vn,vm,vj]
noncomputable def yM:MS:=.set 2 (.cst .none)
noncomputable def yL:MS:=.set 3 (.loc 1)
noncomputable def yJ:MS:=.set 1 (.call (.R 88) [.loc 0,.loc 1,.S [32,9,13,10]])
noncomputable def yH:MS:=.set 1 (.call (.R 95) [.loc 0,.loc 1])
noncomputable def F9:MS:=.ret (.tup [.loc 1,.loc 2])
noncomputable def yI:MS:=.ite (.cmp (.cut (.loc 0) (some (.loc 1)) (some (.bin .Add (.loc 1) (.I 2)))) .In (.tup [.S [47,47],.S [47,42]])) [yH] [F9]
noncomputable def yK:MS:=.ite (.cmp (.sub (.loc 0) (.loc 1)) .In (.S [32,9,13,10])) [yJ] [yI]
noncomputable def ql:MS:=.set 4 (.meth (.loc 0) "find" [.S [10],.loc 3,.loc 1])
noncomputable def yG:MS:=.set 2 (.ite (.cmp (.sub (.loc 0) (.loc 3)) .Eq (.S [47])) (.loc 3) (.loc 4))
noncomputable def qk:MS:=.ite (.and [.cmp (.loc 2) .Is (.cst .none),.cmp (.loc 4) .GtE (.I 0)]) [yG] []
noncomputable def Ga:MS:=.while (.cmp (.loc 1) .Lt (.call (.B "len") [.loc 0])) [yL,yK,ql,qk]
noncomputable def yF:MS:=.ret (.tup [.loc 1,.loc 2])
noncomputable def HL:List Str:=["text","at","broken","begin","end"]
noncomputable def sY:List MS:=[yM,Ga,yF]
noncomputable def yE:MS:=.set 1 (.meth (.S db) "find" [.meth (.loc 0) "lower" []])
noncomputable def yD:MS:=.ret (.ite (.cmp (.loc 1) .GtE (.I 0)) (.loc 1) (.I 99))
noncomputable def HK:List Str:=["sign","place"]
noncomputable def sX:List MS:=[yE,yD]
noncomputable def yC:MS:=.set 1 (.meth (.R 79) "get" [.meth (.cut (.loc 0) none (some (.I 2))) "lower" []])
noncomputable def yB:MS:=.ret (.tup [.loc 1,.ite (.cmp (.cut (.loc 0) (some (.I 2)) (some (.I 3))) .Eq (.S [95])) (.cut (.loc 0) (some (.I 3)) none) (.cut (.loc 0) (some (.I 2)) none)])
noncomputable def qj:MS:=.ite (.cmp (.loc 1) .IsNot (.cst .none)) [yB] []
noncomputable def yz:MS:=.ret (.tup [.I 8,.ite (.cmp (.sub (.loc 0) (.I 1)) .Eq (.S [95])) (.cut (.loc 0) (some (.I 2)) none) (.cut (.loc 0) (some (.I 1)) none)])
noncomputable def yA:MS:=.ite (.and [.cmp (.call (.B "len") [.loc 0]) .Gt (.I 1),.cmp (.sub (.loc 0) (.I 0)) .Eq (.S [48])]) [yz] []
noncomputable def F8:MS:=.ret (.tup [.I 10,.loc 0])
noncomputable def HJ:List Str:=["word","base"]
noncomputable def sW:List MS:=[yC,qj,yA,F8]
noncomputable def yy:MS:=.set 2 (.call (.R 88) [.loc 0,.loc 1,.S bX])
noncomputable def yx:MS:=.setT [3,4] (.call (.R 116) [.cut (.loc 0) (some (.loc 1)) (some (.loc 2))])
noncomputable def yv:MS:=.raise 45 [.S [97,32,110,117,109,98,101,114,32,119,105,116,104,111,117,116,32,102,105,103,117,114,101,115,44,32,111,114,32,119,105,116,104,32,97,32,108,111,119,32,108,105,110,101,32,116,104,97,116,32,112,97,114,116,115,32,110,111,110,101],.loc 1]
noncomputable def yw:MS:=.ite (.or [.cmp (.loc 4) .Eq (.S []),.cmp (.sub (.loc 4) (.I 0)) .Eq (.S [95]),.cmp (.sub (.loc 4) (.neg (.I 1))) .Eq (.S [95]),.cmp (.S [95,95]) .In (.loc 4)]) [yv] []
noncomputable def yt:MS:=.raise 45 [.bin .Add (.bin .Add (.S [97,32,110,117,109,98,101,114,32,111,102,32,109,111,114,101,32,116,104,97,110,32]) (.call (.T "str") [.I 100])) (.S [32,102,105,103,117,114,101,115]),.loc 1]
noncomputable def yu:MS:=.ite (.cmp (.call (.B "len") [.loc 4]) .Gt (.I 100)) [yt] []
noncomputable def yr:MS:=.set 5 (.I 0)
noncomputable def yo:MS:=.raise 45 [.bin .Add (.S [110,111,32,102,105,103,117,114,101,32,111,102,32,97,32,110,117,109,98,101,114,58,32]) (.loc 6),.loc 1]
noncomputable def yp:MS:=.ite (.cmp (.call (.R 109) [.loc 6]) .GtE (.loc 3)) [yo] []
noncomputable def yn:MS:=.set 5 (.bin .Add (.bin .Mult (.loc 5) (.loc 3)) (.call (.R 109) [.loc 6]))
noncomputable def yq:MS:=.for [6] (.repl (.loc 4) [95] []) [yp,yn]
noncomputable def yl:MS:=.raise 45 [.S [110,117,109,98,101,114,115,32,119,105,116,104,32,97,32,112,111,105,110,116,32,97,114,101,32,108,101,102,116,32,111,117,116],.loc 1]
noncomputable def ym:MS:=.ite (.and [.cmp (.cut (.loc 0) (some (.loc 2)) (some (.bin .Add (.loc 2) (.I 1)))) .Eq (.S [46]),.cmp (.cut (.loc 0) (some (.bin .Add (.loc 2) (.I 1))) (some (.bin .Add (.loc 2) (.I 2)))) .In (.S fX),.cmp (.bin .Add (.loc 2) (.I 1)) .Lt (.call (.B "len") [.loc 0])]) [yl] []
noncomputable def qi:MS:=.ret (.tup [.tup [.S [105,110,116],.cut (.loc 0) (some (.loc 1)) (some (.loc 2)),.loc 1,.loc 5],.loc 2])
noncomputable def HI:List Str:=["text","begin","end","base","figures","value","sign"]
noncomputable def sV:List MS:=[yy,yx,yw,yu,yr,yq,ym,qi]
noncomputable def yk:MS:=.set 5 (.cut (.loc 0) (some (.loc 1)) (some (.bin .Add (.loc 1) (.loc 2))))
noncomputable def yj:MS:=.set 6 (.I 0)
noncomputable def yg:MS:=.raise 45 [.bin .Add (.S [110,111,32,102,105,103,117,114,101,32,111,102,32,97,110,32,101,115,99,97,112,101,58,32]) (.loc 7),.loc 4]
noncomputable def yh:MS:=.ite (.cmp (.call (.R 109) [.loc 7]) .GtE (.loc 3)) [yg] []
noncomputable def yf:MS:=.set 6 (.bin .Add (.bin .Mult (.loc 6) (.loc 3)) (.call (.R 109) [.loc 7]))
noncomputable def yi:MS:=.for [7] (.loc 5) [yh,yf]
noncomputable def yd:MS:=.raise 45 [.S [97,110,32,101,115,99,97,112,101,32,116,104,97,116,32,105,115,32,99,117,116,32,115,104,111,114,116],.loc 4]
noncomputable def ye:MS:=.ite (.cmp (.call (.B "len") [.loc 5]) .Lt (.loc 2)) [yd] []
noncomputable def yc:MS:=.ret (.loc 6)
noncomputable def HH:List Str:=["text","at","many","base","spot","figures","value","sign"]
noncomputable def sU:List MS:=[yk,yj,yi,ye,yc]
noncomputable def ya:MS:=.set 3 (.cut (.loc 0) (some (.bin .Add (.loc 1) (.I 1))) (some (.bin .Add (.loc 1) (.I 2))))
noncomputable def x8:MS:=.ret (.tup [.sub (.R 80) (.loc 3),.cst (.bool false),.bin .Add (.loc 1) (.I 2)])
noncomputable def x9:MS:=.ite (.cmp (.loc 3) .In (.R 80)) [x8] []
noncomputable def xY:MS:=.ret (.tup [.call (.B "ord") [.loc 2],.cst (.bool false),.bin .Add (.loc 1) (.I 2)])
noncomputable def xZ:MS:=.ite (.cmp (.loc 3) .Eq (.loc 2)) [xY] []
noncomputable def xW:MS:=.set 4 (.sub (.R 81) (.loc 3))
noncomputable def xV:MS:=.set 5 (.call (.R 130) [.loc 0,.bin .Add (.loc 1) (.I 2),.loc 4,.I 16,.loc 1])
noncomputable def xT:MS:=.raise 45 [.S [110,111,32,114,117,110,101],.loc 1]
noncomputable def xU:MS:=.ite (.and [.cmp (.loc 3) .NotEq (.S [120]),.not (.call (.R 70) [.loc 5])]) [xT] []
noncomputable def xS:MS:=.ret (.tup [.loc 5,.cmp (.loc 3) .Eq (.S [120]),.bin .Add (.bin .Add (.loc 1) (.I 2)) (.loc 4)])
noncomputable def xX:MS:=.ite (.cmp (.loc 3) .In (.R 81)) [xW,xV,xU,xS] []
noncomputable def xR:MS:=.set 5 (.call (.R 130) [.loc 0,.bin .Add (.loc 1) (.I 1),.I 3,.I 8,.loc 1])
noncomputable def xP:MS:=.raise 45 [.S [110,111,32,111,99,116,101,116],.loc 1]
noncomputable def xQ:MS:=.ite (.cmp (.loc 5) .Gt (.I 255)) [xP] []
noncomputable def xO:MS:=.ret (.tup [.loc 5,.cst (.bool true),.bin .Add (.loc 1) (.I 4)])
noncomputable def HG:List Str:=["text","at","quote","sign","many","value"]
noncomputable def sT:List MS:=[ya,x9,xZ,xX,xR,xQ,xO]
noncomputable def xN:MS:=.set 2 (.call (.B "ord") [.sub (.loc 0) (.loc 1)])
noncomputable def xL:MS:=.raise 45 [.S [110,111,32,114,117,110,101],.loc 1]
noncomputable def xM:MS:=.ite (.not (.call (.R 70) [.loc 2])) [xL] []
noncomputable def xK:MS:=.ret (.loc 2)
noncomputable def HF:List Str:=["text","at","value"]
noncomputable def sS:List MS:=[xN,xM,xK]
noncomputable def xI:MS:=.setT [2,3] (.tup [.call (.T "bytearray") [],.bin .Add (.loc 1) (.I 1)])
noncomputable def xG:MS:=.setT [4,5,3] (.call (.R 137) [.loc 0,.loc 3,.S [34]])
noncomputable def xF:MS:=.aug 2 .Add (.ite (.loc 5) (.call (.T "bytes") [.lst [.loc 4]]) (.call (.R 75) [.loc 4]))
noncomputable def xE:MS:=.aug 2 .Add (.call (.R 75) [.call (.R 144) [.loc 0,.loc 3]])
noncomputable def xD:MS:=.aug 3 .Add (.I 1)
noncomputable def xH:MS:=.ite (.cmp (.sub (.loc 0) (.loc 3)) .Eq (.S [92])) [xG,xF] [xE,xD]
noncomputable def F7:MS:=.while (.cmp (.cut (.loc 0) (some (.loc 3)) (some (.bin .Add (.loc 3) (.I 1)))) .NotIn (.tup [.S [],.S [10],.S [34]])) [xH]
noncomputable def xC:MS:=.raise 45 [.S [97,32,116,101,120,116,32,119,105,116,104,111,117,116,32,97,110,32,101,110,100],.loc 1]
noncomputable def qh:MS:=.ite (.cmp (.cut (.loc 0) (some (.loc 3)) (some (.bin .Add (.loc 3) (.I 1)))) .NotEq (.S [34])) [xC] []
noncomputable def qg:MS:=.ret (.tup [.tup [.S [116,101,120,116],.cut (.loc 0) (some (.loc 1)) (some (.bin .Add (.loc 3) (.I 1))),.loc 1,.call (.T "bytes") [.loc 2]],.bin .Add (.loc 3) (.I 1)])
noncomputable def HE:List Str:=["text","begin","found","at","value","is_octet"]
noncomputable def sR:List MS:=[xI,F7,qh,qg]
noncomputable def xB:MS:=.set 2 (.meth (.loc 0) "find" [.S [96],.bin .Add (.loc 1) (.I 1)])
noncomputable def xz:MS:=.raise 45 [.S [97,32,116,101,120,116,32,119,105,116,104,111,117,116,32,97,110,32,101,110,100],.loc 1]
noncomputable def xA:MS:=.ite (.cmp (.loc 2) .Lt (.I 0)) [xz] []
noncomputable def xy:MS:=.set 3 (.call (.T "bytearray") [])
noncomputable def xv:MS:=.aug 3 .Add (.call (.R 75) [.call (.R 144) [.loc 0,.loc 4]])
noncomputable def xw:MS:=.ite (.cmp (.sub (.loc 0) (.loc 4)) .NotEq (.S [13])) [xv] []
noncomputable def xx:MS:=.for [4] (.call (.T "range") [.bin .Add (.loc 1) (.I 1),.loc 2]) [xw]
noncomputable def xu:MS:=.ret (.tup [.tup [.S [116,101,120,116],.cut (.loc 0) (some (.loc 1)) (some (.bin .Add (.loc 2) (.I 1))),.loc 1,.call (.T "bytes") [.loc 3]],.bin .Add (.loc 2) (.I 1)])
noncomputable def HD:List Str:=["text","begin","end","found","at"]
noncomputable def sQ:List MS:=[xB,xA,xy,xx,xu]
noncomputable def xt:MS:=.set 2 (.bin .Add (.loc 1) (.I 1))
noncomputable def xq:MS:=.raise 45 [.S [97,32,114,117,110,101,32,119,105,116,104,111,117,116,32,97,32,115,105,103,110],.loc 1]
noncomputable def xr:MS:=.ite (.cmp (.cut (.loc 0) (some (.loc 2)) (some (.bin .Add (.loc 2) (.I 1)))) .In (.tup [.S [],.S [10],.S [39]])) [xq] []
noncomputable def xn:MS:=.setT [3,4,2] (.call (.R 137) [.loc 0,.loc 2,.S [39]])
noncomputable def xm:MS:=.setT [3,2] (.tup [.call (.R 144) [.loc 0,.loc 2],.bin .Add (.loc 2) (.I 1)])
noncomputable def xo:MS:=.ite (.cmp (.sub (.loc 0) (.loc 2)) .Eq (.S [92])) [xn] [xm]
noncomputable def xl:MS:=.raise 45 [.S [97,32,114,117,110,101,32,119,105,116,104,111,117,116,32,97,110,32,101,110,100],.loc 1]
noncomputable def qe:MS:=.ite (.cmp (.cut (.loc 0) (some (.loc 2)) (some (.bin .Add (.loc 2) (.I 1)))) .NotEq (.S [39])) [xl] []
noncomputable def qd:MS:=.ret (.tup [.tup [.S [114,117,110,101],.cut (.loc 0) (some (.loc 1)) (some (.bin .Add (.loc 2) (.I 1))),.loc 1,.loc 3],.bin .Add (.loc 2) (.I 1)])
noncomputable def HC:List Str:=["text","begin","at","value","is_octet"]
noncomputable def sP:List MS:=[xt,xr,xo,qe,qd]
noncomputable def xi:MS:=.ret (.tup [.tup [.S [115,105,103,110],.loc 2,.loc 1,.cst .none],.bin .Add (.loc 1) (.call (.B "len") [.loc 2])])
noncomputable def xj:MS:=.ite (.cmp (.cut (.loc 0) (some (.loc 1)) (some (.bin .Add (.loc 1) (.call (.B "len") [.loc 2])))) .Eq (.loc 2)) [xi] []
noncomputable def xk:MS:=.for [2] (.cst (.tup (ct.map .str))) [xj]
noncomputable def xh:MS:=.raise 45 [.bin .Add (.S [97,32,115,105,103,110,32,116,104,97,116,32,98,101,103,105,110,115,32,110,111,32,119,111,114,100,58,32]) (.sub (.loc 0) (.loc 1)),.loc 1]
noncomputable def HB:List Str:=["text","at","sign"]
noncomputable def sO:List MS:=[xk,xh]
noncomputable def xg:MS:=.set 2 (.sub (.loc 0) (.loc 1))
noncomputable def xe:MS:=.set 3 (.call (.R 88) [.loc 0,.loc 1,.S bX])
noncomputable def xd:MS:=.set 4 (.ite (.cmp (.cut (.loc 0) (some (.loc 1)) (some (.loc 3))) .In (.cst (.tup (dZ.map .str)))) (.S [107,101,121,119,111,114,100]) (.S [110,97,109,101]))
noncomputable def xc:MS:=.ret (.tup [.tup [.loc 4,.cut (.loc 0) (some (.loc 1)) (some (.loc 3)),.loc 1,.cst .none],.loc 3])
noncomputable def xf:MS:=.ite (.cmp (.loc 2) .In (.S gE)) [xe,xd,xc] []
noncomputable def w9:MS:=.ret (.call (.R 123) [.loc 0,.loc 1])
noncomputable def xb:MS:=.ite (.cmp (.loc 2) .In (.S fX)) [w9] []
noncomputable def w7:MS:=.ret (.call (.R 151) [.loc 0,.loc 1])
noncomputable def w8:MS:=.ite (.cmp (.loc 2) .Eq (.S [34])) [w7] []
noncomputable def w5:MS:=.ret (.call (.R 158) [.loc 0,.loc 1])
noncomputable def w6:MS:=.ite (.cmp (.loc 2) .Eq (.S [96])) [w5] []
noncomputable def wZ:MS:=.ret (.ite (.cmp (.loc 2) .Eq (.S [39])) (.call (.R 165) [.loc 0,.loc 1]) (.call (.R 172) [.loc 0,.loc 1]))
noncomputable def Hz:List Str:=["text","at","sign","end","kind"]
noncomputable def sN:List MS:=[xg,xf,xb,w8,w6,wZ]
noncomputable def wY:MS:=.ret (.or [.cmp (.sub (.loc 0) (.I 0)) .In (.tup [.S [110,97,109,101],.S [105,110,116],.S [114,117,110,101],.S [116,101,120,116]]),.cmp (.sub (.loc 0) (.I 1)) .In (.cst (.tup (ou.map .str)))])
noncomputable def Hy:List Str:=["word"]
noncomputable def sM:List MS:=[wY]
noncomputable def wX:MS:=.setT [1,2] (.tup [.newl [],.I 0])
noncomputable def wW:MS:=.setT [2,3] (.call (.R 102) [.loc 0,.loc 2])
noncomputable def F5:MS:=.set 3 (.loc 2)
noncomputable def wV:MS:=.ite (.and [.cmp (.loc 2) .Eq (.call (.B "len") [.loc 0]),.cmp (.loc 3) .Is (.cst .none)]) [F5] []
noncomputable def F4:MS:=.expr (.meth (.loc 1) "append" [.tup [.S [115,105,103,110],.S [59],.loc 3,.cst .none]])
noncomputable def qb:MS:=.ite (.and [.cmp (.loc 3) .IsNot (.cst .none),.cmp (.loc 1) .NotEq (.lst []),.call (.R 186) [.sub (.loc 1) (.neg (.I 1))]]) [F4] []
noncomputable def F3:MS:=.expr (.meth (.loc 1) "append" [.tup [.S [101,110,100],.S [],.loc 2,.cst .none]])
noncomputable def F2:MS:=.ret (.loc 1)
noncomputable def lO:MS:=.ite (.cmp (.loc 2) .Eq (.call (.B "len") [.loc 0])) [F3,F2] []
noncomputable def lN:MS:=.setT [4,2] (.call (.R 179) [.loc 0,.loc 2])
noncomputable def ny:MS:=.expr (.meth (.loc 1) "append" [.loc 4])
noncomputable def F6:MS:=.while (.cst (.bool true)) [wW,wV,qb,lO,lN,ny]
noncomputable def Hx:List Str:=["text","found","at","broken","word"]
noncomputable def sL:List MS:=[wX,F6]
noncomputable def wU:MS:=.ret (.call (.R 254) [.call (.R 193) [.loc 0]])
noncomputable def Hw:List Str:=["text"]
noncomputable def sK:List MS:=[wU]
noncomputable def wT:MS:=.setAttr (.loc 0) "rows" (.call (.T "list") [.loc 1])
noncomputable def wS:MS:=.setAttr (.loc 0) "at" (.I 0)
noncomputable def wR:MS:=.setAttr (.loc 0) "expr_reader" (.cst .none)
noncomputable def wQ:MS:=.setAttr (.loc 0) "body_reader" (.cst .none)
noncomputable def Hv:List Str:=["self","rows"]
noncomputable def sJ:List MS:=[wT,wS,wR,wQ]
noncomputable def wP:MS:=.ret (.sub (.attr (.loc 0) "rows") (.call (.B "min") [.bin .Add (.attr (.loc 0) "at") (.loc 1),.bin .Sub (.call (.B "len") [.attr (.loc 0) "rows"]) (.I 1)]))
noncomputable def zq:List Str:=["self","ahead"]
noncomputable def kX:List MS:=[wP]
noncomputable def wO:MS:=.set 1 (.meth (.loc 0) "peek" [])
noncomputable def wM:MS:=.augAttr 0 "at" .Add (.I 1)
noncomputable def wN:MS:=.ite (.cmp (.sub (.loc 1) (.I 0)) .NotEq (.S [101,110,100])) [wM] []
noncomputable def wL:MS:=.ret (.loc 1)
noncomputable def Hu:List Str:=["self","word"]
noncomputable def sI:List MS:=[wO,wN,wL]
noncomputable def wK:MS:=.set 3 (.meth (.loc 0) "peek" [.loc 2])
noncomputable def wJ:MS:=.ret (.and [.cmp (.sub (.loc 3) (.I 0)) .In (.tup [.S [115,105,103,110],.S [110,97,109,101],.S [107,101,121,119,111,114,100]]),.cmp (.sub (.loc 3) (.I 1)) .Eq (.loc 1)])
noncomputable def zp:List Str:=["self","text","ahead","word"]
noncomputable def kW:List MS:=[wK,wJ]
noncomputable def wH:MS:=.raise 57 [.bin .Add (.loc 1) (.S [32,105,115,32,109,105,115,115,105,110,103]),.sub (.meth (.loc 0) "peek" []) (.I 2)]
noncomputable def wI:MS:=.ite (.not (.meth (.loc 0) "looks" [.loc 1])) [wH] []
noncomputable def wG:MS:=.ret (.meth (.loc 0) "take" [])
noncomputable def Ht:List Str:=["self","text"]
noncomputable def sH:List MS:=[wI,wG]
noncomputable def wF:MS:=.set 1 (.meth (.loc 0) "peek" [])
noncomputable def wD:MS:=.raise 57 [.S [97,32,110,97,109,101,32,105,115,32,109,105,115,115,105,110,103],.sub (.loc 1) (.I 2)]
noncomputable def wE:MS:=.ite (.cmp (.sub (.loc 1) (.I 0)) .NotEq (.S [110,97,109,101])) [wD] []
noncomputable def wC:MS:=.augAttr 0 "at" .Add (.I 1)
noncomputable def F1:MS:=.ret (.tup [.sub (.loc 1) (.I 1),.sub (.loc 1) (.I 2)])
noncomputable def Hs:List Str:=["self","word"]
noncomputable def sG:List MS:=[wF,wE,wC,F1]
noncomputable def wB:MS:=.set 2 (.ite (.cmp (.loc 1) .Lt (.call (.B "len") [.loc 0])) (.sub (.loc 0) (.loc 1)) (.I 0))
noncomputable def qa:MS:=.set 3 (.call (.B "max") [.loc 2,.bin .Sub (.neg (.I 1)) (.loc 2)])
noncomputable def p0:MS:=.set 4 (.bin .Mod (.bin .Mult (.bin .Add (.bin .Add (.bin .Add (.bin .Mod (.loc 3) (.I 2147483629)) (.bin .Mult (.bin .Mult (.I 7919) (.loc 1)) (.loc 1))) (.bin .Mult (.I 31) (.loc 1))) (.I 17)) (.I 48271)) (.I 2147483647))
noncomputable def pZ:MS:=.ret (.newl [.ite (.cmp (.loc 3) .GtE (.bin .Pow (.I 10) (.I 18))) (.loc 3) (.I 0),.loc 4])
noncomputable def Hr:List Str:=["script","k","cell","big","blend"]
noncomputable def oH:List MS:=[wB,qa,p0,pZ]
noncomputable def wz:MS:=.set 2 (.bin .Mod (.sub (.loc 0) (.I 0)) (.loc 1))
noncomputable def wy:MS:=.setItem (.loc 0) (.I 0) (.bin .FloorDiv (.sub (.loc 0) (.I 0)) (.loc 1))
noncomputable def wv:MS:=.ret (.loc 2)
noncomputable def wA:MS:=.ite (.cmp (.sub (.loc 0) (.I 0)) .Gt (.I 0)) [wz,wy,wv] []
noncomputable def wu:MS:=.setItem (.loc 0) (.I 1) (.bin .Mod (.bin .Add (.bin .Mult (.sub (.loc 0) (.I 1)) (.I 39373)) (.I 7)) (.I 2147483647))
noncomputable def wt:MS:=.ret (.bin .Mod (.bin .FloorDiv (.bin .Mod (.bin .Mult (.sub (.loc 0) (.I 1)) (.sub (.loc 0) (.I 1))) (.I 2147483629)) (.I 32)) (.loc 1))
noncomputable def Hq:List Str:=["source","top","figure"]
noncomputable def sF:List MS:=[wA,wu,wt]
noncomputable def wr:MS:=.ret (.sub (.loc 1) (.call (.R 272) [.loc 0,.call (.B "len") [.loc 1]]))
noncomputable def Hp:List Str:=["source","things"]
noncomputable def sE:List MS:=[wr]
noncomputable def wo:MS:=.setT [1,2] (.call (.R 279) [.loc 0,.lst [.tup [.S [],.I 10],.tup [.S [48,120],.I 16],.tup [.S [48,88],.I 16],.tup [.S [48,111],.I 8],.tup [.S [48],.I 8],.tup [.S [48,98],.I 2],.tup [.S [48,98,95],.I 2],.tup [.S [48,95],.I 8]]])
noncomputable def wn:MS:=.set 3 (.call (.R 279) [.loc 0,.lst [.I 1,.I 7,.I 200,.I 4096,.bin .Add (.bin .Mult (.call (.R 272) [.loc 0,.bin .Pow (.I 10) (.I 7)]) (.bin .Pow (.I 10) (.I 4))) (.I 5)]])
noncomputable def wm:MS:=.setT [4,5] (.tup [.S [],.loc 3])
noncomputable def wl:MS:=.set 4 (.bin .Add (.sub (.S db) (.bin .Mod (.loc 5) (.loc 2))) (.loc 4))
noncomputable def wk:MS:=.set 5 (.bin .FloorDiv (.loc 5) (.loc 2))
noncomputable def wi:MS:=.set 4 (.bin .Add (.S [95]) (.loc 4))
noncomputable def wj:MS:=.ite (.and [.cmp (.loc 5) .Gt (.I 0),.cmp (.call (.R 272) [.loc 0,.I 5]) .Eq (.I 0)]) [wi] []
noncomputable def FZ:MS:=.while (.cmp (.loc 5) .Gt (.I 0)) [wl,wk,wj]
noncomputable def wh:MS:=.ret (.call (.R 279) [.loc 0,.lst [.tup [.S [105,110,116],.bin .Add (.loc 1) (.loc 4),.loc 3],.tup [.S [105,110,116],.bin .Add (.loc 1) (.meth (.loc 4) "upper" []),.loc 3],.tup [.S [105,110,116],.S [48],.I 0]]])
noncomputable def Ho:List Str:=["source","ahead","base","number","figures","left"]
noncomputable def sD:List MS:=[wo,wn,wm,FZ,wh]
noncomputable def wg:MS:=.set 1 (.cmp (.call (.R 272) [.loc 0,.I 3]) .Eq (.I 0))
noncomputable def we:MS:=.set 2 (.lst [.tup [.S [97],.cst (.bytes [97])],.tup [.S [233],.cst (.bytes [195,169])],.tup [.S [128512],.cst (.bytes [240,159,152,128])],.tup [.S [39],.cst (.bytes [39])],.tup [.S [32],.cst (.bytes [32])],.tup [.S [47,47],.cst (.bytes [47,47])]])
noncomputable def wb:MS:=.set 2 (.bin .Add (.loc 2) (.lst [.tup [.S [92,110],.cst (.bytes [92,110])],.tup [.S [10],.cst (.bytes [10])],.tup [.S [13],.cst (.bytes [])],.tup [.S [34],.cst (.bytes [34])]]))
noncomputable def wa:MS:=.set 2 (.bin .Add (.loc 2) (.lst [.tup [.S [92,110],.cst (.bytes [10])],.tup [.S [92,120,52,49],.cst (.bytes [65])],.tup [.S [92,120,102,102],.cst (.bytes [255])],.tup [.S [92,51,55,55],.cst (.bytes [255])],.tup [.S [92,49,48,49],.cst (.bytes [65])],.tup [.S [92,116],.cst (.bytes [9])],.tup [.S [92,34],.cst (.bytes [34])]]))
noncomputable def v9:MS:=.set 2 (.bin .Add (.loc 2) (.lst [.tup [.S [92,117,50,48,97,99],.cst (.bytes [226,130,172])],.tup [.S [92,85,48,48,48,49,70,54,48,48],.cst (.bytes [240,159,152,128])],.tup [.S [92,92],.cst (.bytes [92])],.tup [.S [96],.cst (.bytes [96])],.tup [.S [92,118],.cst (.bytes [11])]]))
noncomputable def wc:MS:=.ite (.loc 1) [wb] [wa,v9]
noncomputable def AS:ME:=(.call (.R 279) [.loc 0,.loc 2])
noncomputable def pY:MS:=.set 3 (.comp AS [true,false,true,false,false] (.call (.T "range") [.call (.R 272) [.loc 0,.I 5]]) [])
noncomputable def v8:MS:=.set 4 (.ite (.loc 1) (.S [96]) (.S [34]))
noncomputable def KC:ME:=(.sub (.loc 5) (.I 0))
noncomputable def KB:ME:=(.sub (.loc 5) (.I 1))
noncomputable def nx:MS:=.ret (.tup [.S [116,101,120,116],.bin .Add (.bin .Add (.loc 4) (.meth (.S []) "join" [.comp KC [false,false,false,false,false] (.loc 3) []])) (.loc 4),.meth (.cst (.bytes [])) "join" [.comp KB [false,false,false,false,false] (.loc 3) []]])
noncomputable def Hn:List Str:=["source","is_raw","some","drawn_now","quote"]
noncomputable def sC:List MS:=[wg,we,wc,pY,v8,nx]
noncomputable def v7:MS:=.set 1 (.call (.R 272) [.loc 0,.I 7])
noncomputable def v5:MS:=.ret (.tup [.S [110,97,109,101],.bin .Add (.call (.R 279) [.loc 0,.lst [.S [97],.S [90,113],.S [95],.S [120,57],.S [105,102,102],.S [114],.S [103,106,107,118,119,121,122],.S [65,66,75,77,81,87,88]]]) (.call (.R 279) [.loc 0,.lst [.S [],.S [],.S [95],.S [48,120],.S [103,111]]]),.cst .none])
noncomputable def v6:MS:=.ite (.cmp (.loc 1) .Eq (.I 0)) [v5] []
noncomputable def v0:MS:=.ret (.tup [.S [107,101,121,119,111,114,100],.call (.R 279) [.loc 0,.meth (.S zW) "split" [.S [32]]],.cst .none])
noncomputable def v4:MS:=.ite (.cmp (.loc 1) .Eq (.I 1)) [v0] []
noncomputable def vY:MS:=.ret (.call (.R 286) [.loc 0])
noncomputable def vZ:MS:=.ite (.cmp (.loc 1) .Eq (.I 2)) [vY] []
noncomputable def vW:MS:=.ret (.call (.R 291) [.loc 0])
noncomputable def vX:MS:=.ite (.cmp (.loc 1) .Eq (.I 3)) [vW] []
noncomputable def vU:MS:=.ret (.call (.R 279) [.loc 0,.lst [.tup [.S [114,117,110,101],.S [39,97,39],.I 97],.tup [.S [114,117,110,101],.S [39,92,110,39],.I 10],.tup [.S [114,117,110,101],.S [39,92,39,39],.I 39],.tup [.S [114,117,110,101],.S [39,34,39],.I 34],.tup [.S [114,117,110,101],.S [39,92,120,52,49,39],.I 65],.tup [.S [114,117,110,101],.S [39,92,51,55,55,39],.I 255],.tup [.S [114,117,110,101],.S [39,92,117,50,48,97,99,39],.I 8364],.tup [.S [114,117,110,101],.S [39,233,39],.I 233],.tup [.S [114,117,110,101],.S [39,92,92,39],.I 92],.tup [.S [114,117,110,101],.S [39,92,85,48,48,49,48,102,102,102,102,39],.I 1114111],.tup [.S [114,117,110,101],.S [39,96,39],.I 96]]])
noncomputable def vV:MS:=.ite (.cmp (.loc 1) .Eq (.I 4)) [vU] []
noncomputable def vT:MS:=.ret (.tup [.S [115,105,103,110],.call (.R 279) [.loc 0,.meth (.S rj) "split" [.S [32]]],.cst .none])
noncomputable def Hm:List Str:=["source","way"]
noncomputable def sB:List MS:=[v7,v6,v4,vZ,vX,vV,vT]
noncomputable def vS:MS:=.ret (.call (.R 279) [.loc 0,.lst [.S [32],.S [9,32],.S [13],.S [32,47,42,32,47,47,32,39,32,42,47,32],.S [32,47,42,42,47,32],.S [32,47,42,32,34,32,47,42,32,42,47,32]]])
noncomputable def Hl:List Str:=["source"]
noncomputable def sA:List MS:=[vS]
noncomputable def AR:ME:=(.call (.R 279) [.loc 0,.lst [.S [60],.S [62],.S [61],.S [46],.S [38],.S [124],.S [58],.S [45],.S [43],.S [33],.S [94]]])
noncomputable def vR:MS:=.set 1 (.meth (.S []) "join" [.comp AR [true,false,false,false,false] (.call (.T "range") [.call (.R 272) [.loc 0,.I 7]]) []])
noncomputable def vQ:MS:=.setT [2,3] (.tup [.newl [],.I 0])
noncomputable def AQ:ME:=(.loc 5)
noncomputable def AK:ME:=(.and [.cmp (.cut (.loc 1) (some (.loc 3)) (some (.bin .Add (.loc 3) (.loc 5)))) .In (.meth (.S rj) "split" [.S [32]]),.cmp (.bin .Add (.loc 3) (.loc 5)) .LtE (.call (.B "len") [.loc 1])])
noncomputable def vP:MS:=.set 4 (.call (.B "max") [.comp AQ [false,true,false,true,false] (.call (.T "range") [.I 1,.I 4]) [AK]])
noncomputable def vO:MS:=.expr (.meth (.loc 2) "append" [.tup [.loc 3,.cut (.loc 1) (some (.loc 3)) (some (.bin .Add (.loc 3) (.loc 4)))]])
noncomputable def vN:MS:=.set 3 (.bin .Add (.loc 3) (.loc 4))
noncomputable def FY:MS:=.while (.cmp (.loc 3) .Lt (.call (.B "len") [.loc 1])) [vP,vO,vN]
noncomputable def FX:MS:=.ret (.tup [.loc 1,.loc 2])
noncomputable def Hk:List Str:=["source","run","found","at","size"]
noncomputable def sz:List MS:=[vR,vQ,FY,FX]
noncomputable def vL:MS:=.ret (.cst (.bool true))
noncomputable def vM:MS:=.ite (.cmp (.sub (.loc 0) (.I 0)) .In (.lst [.S [110,97,109,101],.S [105,110,116],.S [114,117,110,101],.S [116,101,120,116]])) [vL] []
noncomputable def vK:MS:=.ret (.cmp (.sub (.loc 0) (.I 1)) .In (.lst [.S [98,114,101,97,107],.S [99,111,110,116,105,110,117,101],.S [102,97,108,108,116,104,114,111,117,103,104],.S [114,101,116,117,114,110],.S [43,43],.S [45,45],.S [41],.S [93],.S [125]]))
noncomputable def Hj:List Str:=["word"]
noncomputable def sy:List MS:=[vM,vK]
noncomputable def vJ:MS:=.setT [1,2] (.tup [.call (.R 279) [.loc 0,.lst [.S [],.S [32],.S [47,42,32,120,32,42,47]]],.newl []])
noncomputable def pX:MS:=.setT [4,5,6] (.call (.R 298) [.loc 0])
noncomputable def nw:MS:=.set 7 (.and [.cmp (.loc 2) .NotEq (.lst []),.cmp (.cmp (.loc 4) .Eq (.S [115,105,103,110])) .NotEq (.cmp (.sub (.sub (.loc 2) (.neg (.I 1))) (.I 0)) .Eq (.S [115,105,103,110])),.cmp (.S [46]) .NotIn (.bin .Add (.cut (.loc 5) none (some (.I 1))) (.cut (.sub (.sub (.loc 2) (.neg (.I 1))) (.I 1)) none (some (.I 1))))])
noncomputable def pW:MS:=.set 1 (.bin .Add (.loc 1) (.call (.R 305) [.loc 0]))
noncomputable def lM:MS:=.ite (.and [.cmp (.loc 2) .NotEq (.lst []),.not (.and [.loc 7,.cmp (.call (.R 272) [.loc 0,.I 2]) .Eq (.I 0)])]) [pW] []
noncomputable def jy:MS:=.expr (.meth (.loc 2) "append" [.tup [.loc 4,.loc 5,.call (.B "len") [.loc 1],.loc 6]])
noncomputable def jx:MS:=.set 1 (.bin .Add (.loc 1) (.loc 5))
noncomputable def FW:MS:=.for [3] (.call (.T "range") [.call (.R 272) [.loc 0,.I 8]]) [pX,nw,lM,jy,jx]
noncomputable def vH:MS:=.set 1 (.bin .Add (.loc 1) (.call (.R 305) [.loc 0]))
noncomputable def vI:MS:=.ite (.cmp (.loc 2) .NotEq (.lst [])) [vH] []
noncomputable def nv:MS:=.setT [8,9] (.call (.R 310) [.loc 0])
noncomputable def vG:MS:=.expr (.meth (.loc 2) "append" [.tup [.S [115,105,103,110],.loc 5,.bin .Add (.call (.B "len") [.loc 1]) (.loc 10),.cst .none]])
noncomputable def pV:MS:=.for [10,5] (.loc 9) [vG]
noncomputable def nu:MS:=.set 1 (.bin .Add (.bin .Add (.loc 1) (.loc 8)) (.call (.R 279) [.loc 0,.lst [.S [],.S [32],.S [47,47],.S [32,47,42,32,42,47]]]))
noncomputable def nt:MS:=.set 11 (.ite (.and [.cmp (.loc 2) .NotEq (.lst []),.call (.R 317) [.sub (.loc 2) (.neg (.I 1))]]) (.lst [.tup [.S [115,105,103,110],.S [59],.call (.B "len") [.loc 1],.cst .none]]) (.lst []))
noncomputable def lL:MS:=.ret (.tup [.loc 1,.bin .Add (.bin .Add (.loc 2) (.loc 11)) (.lst [.tup [.S [101,110,100],.S [],.call (.B "len") [.loc 1],.cst .none]])])
noncomputable def Hi:List Str:=["source","text","due","turn","kind","told","value","is_near","run","some","at","tail"]
noncomputable def sx:List MS:=[vJ,FW,vI,nv,pV,nu,nt,lL]
noncomputable def vE:MS:=.expr (.call (.R 200) [.loc 0])
noncomputable def vF:MS:=.try [vE] 45 1 none
noncomputable def FU:MS:=.ret (.cst .none)
noncomputable def Hh:List Str:=["text","e"]
noncomputable def sw:List MS:=[vF,FU]
noncomputable def pU:MS:=.setT [3,4] (.tup [.sub (.loc 1) (.loc 2),.sub (.loc 1) (.call (.B "min") [.bin .Add (.loc 2) (.I 2),.bin .Sub (.call (.B "len") [.loc 1]) (.I 1)])])
noncomputable def pT:MS:=.set 5 (.cmp (.sub (.loc 3) (.I 0)) .In (.lst [.S [115,105,103,110],.S [110,97,109,101],.S [107,101,121,119,111,114,100]]))
noncomputable def FS:MS:=.ret (.cst (.bool false))
noncomputable def pS:MS:=.ite (.or [.cmp (.meth (.loc 0) "peek" []) .NotEq (.loc 3),.cmp (.meth (.loc 0) "peek" [.I 1]) .NotEq (.sub (.loc 1) (.bin .Add (.loc 2) (.I 1))),.cmp (.meth (.loc 0) "peek" [.I 2]) .NotEq (.loc 4),.cmp (.meth (.loc 0) "looks" [.sub (.loc 3) (.I 1)]) .NotEq (.loc 5)]) [FS] []
noncomputable def FR:MS:=.ret (.cst (.bool false))
noncomputable def pR:MS:=.ite (.or [.cmp (.meth (.loc 0) "looks" [.sub (.loc 4) (.I 1),.I 2]) .NotEq (.cmp (.sub (.loc 4) (.I 0)) .In (.lst [.S [115,105,103,110],.S [110,97,109,101],.S [107,101,121,119,111,114,100]])),.cmp (.heardL 0) .NotEq (.tup [.S [114,101,102,117,115,101,100],.sub (.loc 3) (.I 2)])]) [FR] []
noncomputable def pQ:MS:=.set 6 (.call (.R 254) [.cut (.loc 1) (some (.loc 2)) none])
noncomputable def FQ:MS:=.ret (.cst (.bool false))
noncomputable def pP:MS:=.ite (.cmp (.heardM 6) .NotEq (.ite (.cmp (.sub (.loc 3) (.I 0)) .Eq (.S [110,97,109,101])) (.tup [.sub (.loc 3) (.I 1),.sub (.loc 3) (.I 2)]) (.tup [.S [114,101,102,117,115,101,100],.sub (.loc 3) (.I 2)]))) [FQ] []
noncomputable def FP:MS:=.ret (.cst (.bool false))
noncomputable def nr:MS:=.ite (.cmp (.meth (.loc 6) "peek" []) .NotEq (.sub (.loc 1) (.bin .Add (.loc 2) (.call (.T "int") [.cmp (.sub (.loc 3) (.I 0)) .Eq (.S [110,97,109,101])])))) [FP] []
noncomputable def lK:MS:=.set 7 (.ite (.and [.loc 5,.cmp (.bin .Mod (.loc 2) (.I 2)) .Eq (.I 0)]) (.meth (.loc 0) "expect" [.sub (.loc 3) (.I 1)]) (.meth (.loc 0) "take" []))
noncomputable def FO:MS:=.ret (.cst (.bool false))
noncomputable def jw:MS:=.ite (.cmp (.loc 7) .NotEq (.loc 3)) [FO] []
noncomputable def FT:MS:=.for [2] (.call (.T "range") [.bin .Sub (.call (.B "len") [.loc 1]) (.I 1)]) [pU,pT,pS,pR,pQ,pP,nr,lK,jw]
noncomputable def vD:MS:=.ret (.and [.cmp (.meth (.loc 0) "take" []) .Eq (.sub (.loc 1) (.neg (.I 1))),.cmp (.meth (.loc 0) "take" []) .Eq (.sub (.loc 1) (.neg (.I 1))),.cmp (.meth (.loc 0) "peek" [.I 5]) .Eq (.sub (.loc 1) (.neg (.I 1)))])
noncomputable def Hg:List Str:=["here","due","at","word","ahead","is_told","alone","told"]
noncomputable def sv:List MS:=[FT,vD]
noncomputable def FN:MS:=.ret (.cst (.bool false))
noncomputable def vC:MS:=.ite (.or [.cmp (.sub (.meth (.call (.R 200) [.S [34,92,120,102,102,92,117,48,48,102,102,34]]) "peek" []) (.I 3)) .NotEq (.cst (.bytes [255,195,191])),.cmp (.sub (.meth (.call (.R 200) [.bin .Mult (.S [57]) (.I 100)]) "peek" []) (.I 3)) .NotEq (.bin .Sub (.bin .Pow (.I 10) (.I 100)) (.I 1))]) [FN] []
noncomputable def vB:MS:=.set 1 (.call (.R 265) [.loc 0,.I 0])
noncomputable def vA:MS:=.setT [2,3] (.call (.R 324) [.loc 1])
noncomputable def FM:MS:=.ret (.cst (.bool false))
noncomputable def pO:MS:=.ite (.not (.call (.R 345) [.call (.R 200) [.loc 2],.loc 3])) [FM] []
noncomputable def vz:MS:=.setT [4,5] (.call (.R 279) [.loc 1,.lst [.tup [.S [35],.I 0],.tup [.S [34,97],.I 0],.tup [.S [34,97,10,98,34],.I 0],.tup [.S [34,92,113,34],.I 1],.tup [.S [39,97,98,39],.I 0],.tup [.S [39,39],.I 0],.tup [.S [39,92,34,39],.I 1],.tup [.S [34,92,39,34],.I 1],.tup [.S [48,120],.I 0],.tup [.S [49,95,95,50],.I 0],.tup [.S [49,95],.I 0],.tup [.S [48,56],.I 0],.tup [.S [48,98,49,50],.I 0],.tup [.S [49,97],.I 0],.tup [.S [49,46,53],.I 0],.tup [.S [47,42,32,97],.I 0],.tup [.S [96,97],.I 0],.tup [.S [39,92,52,48,48,39],.I 1],.tup [.S [34,97,92,117,100,56,48,48,34],.I 2],.tup [.S [34,92,120,52,34],.I 1],.tup [.bin .Mult (.S [57]) (.I 101),.I 0],.tup [.S [39],.I 0],.tup [.S [48,95,95,55],.I 0],.tup [.S [36],.I 0]]])
noncomputable def vy:MS:=.ret (.cmp (.call (.R 331) [.bin .Add (.bin .Add (.loc 2) (.S [10,32])) (.loc 4)]) .Eq (.bin .Add (.bin .Add (.call (.B "len") [.loc 2]) (.I 2)) (.loc 5)))
noncomputable def Hf:List Str:=["script","source","text","due","wrong","off"]
noncomputable def su:List MS:=[vC,vB,vA,pO,vz,vy]
section
open PySem.StrLaws PySem.Builtin.Str
theorem Ci (x:List Nat):(S_ x).cps.toList=x:=rfl
theorem tg (x:List Nat):(S_ x).length=x.length:=rfl
theorem kK (x:List Nat) (c:Nat):gF x [c]=decide (c∈x):=found_one (S_ x) c
theorem Jx (x y:List Nat):gF x y=true↔∃i,i+y.length<=x.length/\(x.drop i).take y.length=y:=by
 refine(found_iff (S_ x) (S_ y)).trans ?_
 constructor
 ·intro y0;refine ag y0 ?_;clear y0;intro i h1 h2;rw [subAt_eq] at h2;exact aj i h1 (beq_iff_eq.mp h2)
 ·intro y0;refine ag y0 ?_;clear y0;intro i h1 h2;refine aj i h1 ?_
  erw [subAt_eq]
  exact beq_iff_eq.mpr h2
noncomputable def d8:List Nat->Bool
 |a::b::r=>(a==95&&b==95)||d8 (b::r)
 |_=>false
theorem Jy:∀x:List Nat,gF x [95,95]=d8 x:=by
 intro x;rw [Bool.eq_iff_iff,Jx];induction x with
 |nil=>simp [d8]
 |cons a r ih=>
  cases r with
  |nil=>
   simp only [d8]
   constructor
   ·(intro y0;refine ag y0 ?_;clear y0;intro i h1 _);simp at h1
   ·intro h;exact ft h
  |cons b r=>
   simp only [d8,Bool.or_eq_true,cD,beq_iff_eq];rw [←ih]
   constructor
   ·intro y0;refine ag y0 ?_;clear y0;intro i h1 h2;induction i with
    |zero=>left;simpa using h2
    |succ i=>right;exact aj i (by simp at h1⊢;exact al [i,r.length] [] (.le (.a aa (.k 1)) ae) (.le (.a aa (.k 1)) ae) h1) (by simpa using h2)
   ·intro y0;(focus (refine av y0 ?_ ?_<;>clear y0;intro y1;refine af y1 ?_;clear y1;intro y2 y3;subst y2 y3;rotate_left;intro y1;refine ag y1 ?_;clear y1;intro i h1 h2;rotate_left))
    ·exact aj 0 (by simp) (by simp)
    ·exact aj (i+1) (by simp at h1⊢;exact al [i,r.length] [] (.le (.a aa (.k 1)) ae) (.le (.a aa (.k 1)) ae) h1) (by simpa using h2)
noncomputable def cm (y:List Nat):List Nat->Option Nat
 | []=>none
 |c::r=>if y.isPrefixOf (c::r) then some 0 else(cm y r).map (·+1)
theorem ze (s sub:Str) (hi:Nat) (a f:Nat):∀l:List Nat,(forIn l ((#[a]:Array Nat),f) (occBody s sub hi 1)).run=(#[a],f)
 | []=>rfl
 |i::l=>by
  erw [List.forIn_cons]
  unfold occBody
  erw [if_neg (by simp)]
  exact ze s sub hi a f l
theorem DJ {x y:List Nat}{i hi:Nat}(h:hi<=x.length):y.isPrefixOf ((x.take hi).drop i)=(decide (i+y.length<=hi\/y=[])&&((x.drop i).take y.length==y)):=by
 rw [Bool.eq_iff_iff,List.isPrefixOf_iff_prefix,cD,bi,beq_iff_eq,List.prefix_iff_eq_take,List.drop_take,List.take_take]
 constructor
 ·intro e;by_cases hy:y=[]
  ·subst hy;exact⟨.inr rfl,rfl⟩
  ·have hl:=congrArg List.length e;rw [List.length_take,dJ] at hl;have h0:=List.length_pos_iff.mpr hy;have e1:i+y.length<=hi:=by exact II [y.length,hi,i,hi-i,min y.length (hi-i),x.length,x.length-i,min (min y.length (hi-i)) (x.length-i)] [] (.eq aa t0) (.lt (.k 0) aa) (.sb aG ae ai) (.mn cb aa aG) (.sb t8 j4 ai) (.mn t0 cb t8) (.le (.a ai aa) ae) hl h0 (bg (hi) (i)) (eg (y.length) (hi-i)) (bg (x.length) (i)) (eg (min y.length (hi-i)) (x.length-i))
   have e2:min y.length (hi-i)=y.length:=Nat.min_eq_left (Nat.le_sub_of_add_le (Nat.add_comm i _▸e1));rw [e2] at e;exact⟨.inl e1,e.symm⟩
 ·intro y0;refine af y0 ?_;clear y0;intro y1 h2;obtain(h1 | rfl):=y1
  ·erw [Nat.min_eq_left (Nat.le_sub_of_add_le (Nat.add_comm i _▸h1))];exact h2.symm
  ·rfl
theorem qs {n i L:Nat}(h:n+1=L-i):i<L/\n=L-(i+1)/\L+1-i=(L+1-(i+1))+1:=
 (aI (Nat.lt_of_sub_eq_succ h.symm) (by(erw [Nat.sub_add_eq];refine aZ (h ..) ?_);rfl) (by(erw [Nat.add_sub_add_right];erw [Nat.succ_sub (Nat.le_of_lt (Nat.lt_of_sub_eq_succ h.symm))];with_reducible rfl)))
theorem qt {i L:Nat}(h:0=L-i) (hi:i<=L):i=L:=Nat.le_antisymm hi (Nat.sub_eq_zero_iff_le.mp h.symm)
theorem G3 (x y:List Nat) (hy:y≠[]) (hi:Nat) (hhi:hi<=x.length):∀(n i free:Nat),n=hi-i->free<=i->i<=hi->
  (forIn (List.range' i (hi+1-i)) ((#[]:Array Nat),free) (occBody (S_ x) (S_ y) hi 1)).run.fst.toList=match cm y ((x.take hi).drop i) with | some k=>[i+k] | none=>[]:=by
 have hyl:0<y.length:=List.length_pos_iff.mpr hy;intro n;induction n with
 |zero=>
  intro i free hn hf hi';cases qt hn hi'
  (erw [Nat.add_sub_cancel_left];erw [show((x.take hi).drop hi)=[] from List.drop_take_self])
  (erw [List.range'_one];erw [List.forIn_cons])
  unfold occBody;rw [if_neg fun h=>Nat.not_le.mpr (Nat.lt_add_of_pos_right hyl) h.1.2];rfl
 |succ n ih=>
  intro i free hn hf hi';refine be (qs hn) ?_;intro h1 h2 h3
  (erw [h3];erw [List.range'_succ];erw [List.forIn_cons])
  have hp:=DJ (y:=y) (i:=i) hhi;obtain⟨c,hd⟩:∃c,(x.take hi).drop i=c::(x.take hi).drop (i+1):=⟨_,List.drop_eq_getElem_cons (by erw [List.length_take];exact Nat.lt_min.mpr ⟨h1,bA h1 hhi⟩)⟩;rw [hd] at hp⊢;dsimp only [cm];unfold occBody;by_cases hc:y.isPrefixOf (c::(x.take hi).drop (i+1))=true
  ·have hc':=bb (hp.symm.trans hc);have hsub:subAt (S_ x) (S_ y) i=true:=by erw [subAt_eq];exact hc'.2
   have hle:i+y.length<=hi:=(cK hc'.1).elim id fun e=>absurd e hy;rw [if_pos ⟨⟨⟨Nat.zero_lt_one,hf⟩,hle⟩,hsub⟩,if_pos hc];have:=ze (S_ x) (S_ y) hi i (i+y.length) (List.range' (i+1) (hi+1-(i+1)))
   erw [this]
   rfl
  ·rw [if_neg fun h=>hc ?_,if_neg hc]
   ·show(forIn _ (#[],free) (occBody (S_ x) (S_ y) hi 1)).run.fst.toList=_;rw [ih (i+1) free h2 (Nat.le_succ_of_le hf) h1];cases cm y ((x.take hi).drop (i+1)) with
    |none=>rfl
    |some k=>
     show [i+1+k]=[i+(k+1)]
     (erw [Nat.add_right_comm];erw [Nat.add_assoc];with_reducible rfl)
   ·(erw [hp];erw [cD];erw [bi])
    have hs:=h.2;rw [subAt_eq] at hs;exact⟨.inl h.1.2,hs⟩
theorem AG {x y:List Nat}{lo hi:Nat}(hy:y≠[]) (h1:lo<=hi) (h2:hi<=x.length):gI x y lo hi=match cm y ((x.take hi).drop lo) with | some k=>((lo+k:Nat):Int) | none=>-1:=by
 unfold gI
 (erw [occ_eq];erw [G3 x y hy hi h2 _ lo lo rfl (bw _) h1])
 cases cm y ((x.take hi).drop lo)<;>rfl
noncomputable def gU (c:Nat):Nat->List Nat->List Nat
 |_,[]=>[]
 |i,a::r=>if a=c then i::gU c (i+1) r else gU c (i+1) r
theorem G4 (x:List Nat) (c:Nat):∀(n i free:Nat) (found:Array Nat),n=x.length-i->free<=i->i<=x.length->found.size<=i->
  (forIn (List.range' i (x.length+1-i)) (found,free) (occBody (S_ x) (S_ [c]) x.length (x.length+1))).run.fst.toList=found.toList++gU c i (x.drop i):=by
 intro n;induction n with
 |zero=>
  intro i free found hn hf hi hs;cases qt hn hi
  (erw [Nat.add_sub_cancel_left];erw [List.drop_length];erw [List.range'_one];erw [List.forIn_cons])
  unfold occBody;rw [if_neg fun h=>Nat.not_succ_le_self _ h.1.2];exact(cz _).symm
 |succ n ih=>
  intro i free found hn hf hi hs;refine be (qs hn) ?_;intro hlt h2 h3
  (erw [h3];erw [List.range'_succ];erw [List.forIn_cons];erw [List.drop_eq_getElem_cons hlt])
  have hsub:subAt (S_ x) (S_ [c]) i=true↔x[i]=c:=by
   erw [subAt_eq]
   refine(take1_drop (l:=x)).trans ?_
   (erw [eT hlt];erw [Option.some.injEq];with_reducible rfl)
  generalize x[i]=d at hsub⊢;simp only [gU];unfold occBody;by_cases hc:d=c
  ·rw [if_pos ⟨⟨⟨Nat.lt_succ_of_le (aW hs hi),hf⟩,hlt⟩,hsub.mpr hc⟩,if_pos hc];show(forIn _ (found.push i,i+(S_ [c]).length) (occBody (S_ x) (S_ [c]) x.length (x.length+1))).run.fst.toList=_;rw [ih (i+1) (i+(S_ [c]).length) (found.push i) h2 (bw _) hlt (by erw [Array.size_push];exact Nat.succ_le_succ hs),Array.toList_push,List.append_assoc];rfl
  ·rw [if_neg fun h=>hc (hsub.mp h.2),if_neg hc];exact ih (i+1) free found h2 (Nat.le_succ_of_le hf) hlt (Nat.le_succ_of_le hs)
noncomputable def jQ (x:List Nat):Nat->List Nat->List Nat
 |a,[]=>x.drop a
 |a,p::ps=>(x.take p).drop a++jQ x (p+1) ps
theorem KT (x:List Nat) (c:Nat):∀(n i a:Nat),n=x.length-i->a<=i->i<=x.length->jQ x a (gU c i (x.drop i))=(x.take i).drop a++(x.drop i).filter (fun b=>decide (b≠c)):=by
 intro n;induction n with
 |zero=>
  intro i a hn ha hi;cases qt hn hi
  (erw [List.drop_length];erw [List.take_length])
  exact(cz _).symm
 |succ n ih=>
  intro i a hn ha hi;refine be (qs hn) ?_;intro hlt h2 _;have ht:=List.take_succ_eq_append_getElem hlt
  erw [List.drop_eq_getElem_cons hlt]
  generalize x[i]=d at ht⊢;simp only [gU];by_cases hc:d=c
  ·rw [if_pos hc,List.filter_cons_of_neg (p:=fun b=>decide (b≠c)) (by erw [hc];exact fun h=>absurd rfl (cK h))];show(x.take i).drop a++jQ x (i+1) _=_;rw [ih (i+1) (i+1) h2 (bw _) hlt,List.drop_take_self];rfl
  ·rw [if_neg hc,ih (i+1) a h2 (Nat.le_succ_of_le ha) hlt,List.filter_cons_of_pos (p:=fun b=>decide (b≠c)) (decide_eq_true hc),ht,List.drop_append_of_le_length (by erw [List.length_take];exact Nat.le_min.mpr ⟨ha,aW ha hi⟩),List.append_assoc];rfl
theorem uS (x:List Nat) (i j:Nat):(strSub (S_ x) i j).cps.toList=(x.take j).drop i:=by
 (erw [strSub_toList];erw [Ci];erw [List.drop_take];with_reducible rfl)
theorem Ap:∀(l:List Str) (acc:Array Nat),(l.foldl (fun acc p=>acc++(S_ []).cps++p.cps) acc).toList=acc.toList++(l.map (·.cps.toList)).flatten
 | [],acc=>by simp
 |p::l,acc=>by
  (erw [List.foldl_cons];refine bx (Ap l ..) ?_)
  simp [S_]
theorem y9 (x:List Nat):∀(cuts:List Nat) (a:Nat),((((a::cuts.map (·+1)).zip (cuts++[x.length])).map fun(i,j)=>strSub (S_ x) i j).map (·.cps.toList)).flatten=jQ x a cuts
 | [],a=>by simp [jQ,uS]
 |p::ps,a=>by
  have ih:=y9 x ps (p+1);simp only [List.map_cons,List.cons_append,List.zip_cons_cons,List.flatten_cons,jQ,uS];(refine aZ (ih ..) ?_;with_reducible rfl)
set_option tactic.hygienic true in
theorem Gk (x:List Nat) (c:Nat):(Txt.replace (S_ x) (S_ [c]) (S_ [])).cps.toList=x.filter (fun b=>decide (b≠c)):=by
 have h:=G4 x c _ 0 0 #[] rfl (bw _) (Nat.zero_le _) (Nat.zero_le _);have h1:occurrences (S_ x) (S_ [c]) 0 (S_ x).length ((S_ x).length+1)=gU c 0 x:=by
  erw [occ_eq]
  have e:(S_ x).length=x.length:=tg x
  erw [e]
  simpa using h
 unfold Txt.replace
 erw [h1]
 have hf:=KT x c _ 0 0 rfl (bw _) (Nat.zero_le _);rw [List.drop_zero,List.take_zero,List.drop_nil,List.nil_append] at hf
 split
 ·rename_i he
  erw [Ci]
  have:gU c 0 x=[]:=by simpa [tg] using he
  rw [this] at hf;simpa [jQ] using hf
 ·refine aZ (hf ..) ?_;refine aZ (y9 ..) ?_
  delta glued partsBetween
  have e:(S_ x).length=x.length:=tg x
  (erw [e];erw [show(S_ [c]).length=1 from rfl])
  cases hp:((0::(gU c 0 x).map (·+1)).zip (gU c 0 x++[x.length])).map fun(i,j)=>strSub (S_ x) i j with
  |nil=>simp at hp
  |cons p ps=>
   (erw [List.headD_cons];erw [List.drop_one];erw [List.tail_cons];erw [Ap])
   simp
noncomputable def eO (c:Nat):Nat:=if 65<=c/\c<=90 then c+32 else c
noncomputable def dx (c:Nat):Nat:=if 97<=c/\c<=122 then c-32 else c
theorem IE:∀c<128,Unicode.lowerOf c=[eO c]:=by decide +kernel
theorem Dx:∀c<128,Unicode.upperOf c=[dx c]:=by decide +kernel
theorem rE (f:Nat->Nat):∀x:List Nat,(x.map fun c=>[f c]).flatten=x.map f
 | []=>rfl
 |a::r=>by simp only [List.map_cons,List.flatten_cons,List.singleton_append,rE f r]
theorem yZ (x:List Nat) (f:Nat->Nat->List Nat):(placed (S_ x) f).toList=(x.mapIdx fun i c=>f i c).flatten:=by
 have h:∀l:List Nat,∀g:Nat->Nat->List Nat,((l.mapIdx fun i c=>(g i c).toArray).toArray.flatten).toList=(l.mapIdx fun i c=>g i c).flatten:=by
  intro l g
  erw [Array.toList_flatten]
  congr 1
  apply List.ext_getElem
  ·simp
  ·intro i h1 h2;simp
 delta placed S_
 erw [List.mapIdx_toArray]
 exact h x f
theorem zR {x:List Nat}(h:∀c∈x,c<128):(Txt.lower (S_ x)).cps.toList=x.map eO:=by
 erw [yZ]
 have:(x.mapIdx fun i uz=>Unicode.lowerAt (S_ x).cps i)=x.map fun c=>[eO c]:=by
  apply List.ext_getElem
  ·simp
  ·intro i h1 h2;have hi:i<x.length:=by simpa using h1
   (erw [List.getElem_mapIdx];erw [List.getElem_map])
   have e:(S_ x).cps[i]? = some x[i]:=by simp [S_,hi]
   unfold Unicode.lowerAt
   erw [e]
   have hc:=h x[i] (List.getElem_mem hi);have:(x[i]==931)=false:=by rw [beq_eq_false_iff_ne];exact al [x[i]] [] (.lt aa (.k 128)) (.not (.eq aa (.k 931))) hc
   simp only [this,Bool.false_and,cM,if_false];exact IE _ hc
 erw [this]
 exact rE _ x
theorem Dw {x:List Nat}(h:∀c∈x,c<128):(Txt.upper (S_ x)).cps.toList=x.map dx:=by
 erw [yZ]
 have:(x.mapIdx fun uz c=>Unicode.upperOf c)=x.map fun c=>[dx c]:=by
  apply List.ext_getElem
  ·simp
  ·intro i h1 h2;have hi:i<x.length:=by simpa using h1
   (erw [List.getElem_mapIdx];erw [List.getElem_map])
   exact Dx _ (h x[i] (List.getElem_mem hi))
 erw [this]
 exact rE _ x
end
section
variable {F:Fx}{S:St}{st:List Cell}{Q:QE}{X:XE}{k:V->St->Prop}{kb:Bool->Prop}{kv:V->Prop}{D:Addr->Option (List (List Nat×Int))}
theorem ck {α β:Type}(f:α->β) (a:α) (l:List α):List.map f (a::l)=f a::List.map f l:=rfl
theorem cj {α β:Type}(f:α->β):List.map f []=[]:=rfl
theorem bV {α:Type}(a:α) (l r:List α):a::l++r=a::(l++r):=rfl
theorem bU {α:Type}(r:List α):[]++r=r:=rfl
theorem cC {α:Type}(n:Nat) (a:α):List.replicate (n+1) a=a::List.replicate n a:=rfl
theorem cg {α:Type}(a:α):List.replicate 0 a=[]:=rfl
theorem ar {α:Type}(a:α) (l:List α):(a::l)[0]? = some a:=rfl
theorem aA {α:Type}(a:α) (l:List α) (i:Nat):(a::l)[i+1]? = l[i]?:=rfl
theorem aS {α:Type}(a b:α) (l:List α):(a::l).set 0 b=b::l:=rfl
theorem aT {α:Type}(a b:α) (l:List α) (i:Nat):(a::l).set (i+1) b=a::l.set i b:=rfl
theorem aV {α:Type}(a:α) (l:List α):(a::l).length=l.length+1:=rfl
theorem aU {α:Type}:([]:List α).length=0:=rfl
theorem bp (p:Prop):gk true p=p:=rfl
theorem bn (n:Nat):short (n+1) []=true:=rfl
theorem bz (n:Nat) (a:V) (r:List V):short (n+1) (a::r)=short n r:=rfl
theorem ik (a0 a1 a2 a3:V):f2 D st (.tup [a0,a1,a2,a3]) (.int 0) kv=kv a0:=rfl
theorem jg (a0 a1 a2 a3:V):f2 D st (.tup [a0,a1,a2,a3]) (.int 1) kv=kv a1:=rfl
theorem pg (a0 a1 a2 a3:V):f2 D st (.tup [a0,a1,a2,a3]) (.int 2) kv=kv a2:=rfl
theorem t9 (a0 a1 a2 a3:V):f2 D st (.tup [a0,a1,a2,a3]) (.int 3) kv=kv a3:=rfl
theorem au (a:V) (k:V->Prop):fe (some (some a)) k=k a:=rfl
theorem gO (x:Int) (k:Int->Prop):bu (.int x) k=k x:=rfl
theorem fw (x:Bool) (k:Bool->Prop):dD (.bool x) k=k x:=rfl
theorem C9 (x:List Nat) (k:List Nat->Prop):isStr (.str x) k=k x:=rfl
theorem gp (x:List V) (k:List V->Prop):jG (.tup x) k=k x:=rfl
theorem eU (m:List Nat) (n:Int) (k:Int->Prop):nH [.str m,.int n] k=k n:=rfl
theorem j8 (p:Prop):ko .Add p=p:=rfl
theorem bl (p:Addr) (vs:List V):iH F (.val (.ref p)) vs S Q X=F.fn p vs S.st (fun a st'=>Q a {S with st:=st'}) (fun x st'=>X x {S with st:=st'}):=rfl
theorem cU (n:String) (vs:List V):iH F (.val (.builtin n)) vs S Q X=d9 F.z (.builtin n) vs S Q:=rfl
theorem e7 (n:String) (vs:List V):iH F (.val (.type n)) vs S Q X=d9 F.z (.type n) vs S Q:=rfl
theorem eH (z:Bool) (x:List Nat):d9 z (.builtin "len") [.str x] S k=k (.int x.length) S:=rfl
theorem m5 (z:Bool) (x:List V):d9 z (.builtin "len") [.lst x] S k=(k (.int x.length) S):=rfl
theorem ue (z:Bool) (x:List Nat):d9 z (.builtin "ord") [.str x] S k=∃c,x=[c]/\k (.int c) S:=rfl
theorem uj (z:Bool) (x y:Int):d9 z (.builtin "min") [.int x,.int y] S k=k (.int (if y<x then y else x)) S:=rfl
theorem C6 (z:Bool) (x y:Int):d9 z (.builtin "max") [.int x,.int y] S k=k (.int (if x<y then y else x)) S:=rfl
theorem CY (z:Bool) (x:Int):d9 z (.type "str") [.int x] S k=(x=100/\k (.str [49,48,48]) S):=rfl
theorem Da (z:Bool) (b:Bool):d9 z (.type "int") [.bool b] S k=k (.int (if b then 1 else 0)) S:=rfl
theorem ur (z:Bool) (n:Nat):d9 z (.type "bytes") [.obj n] S k=∃b,S.st[n]? = some (.barr b)/\k (.bytes b) S:=rfl
theorem pq (z:Bool) (vs:List V):d9 z (.type "bytes") [.lst vs] S k=∃b,vs.mapM gX=some b/\k (.bytes b) S:=rfl
theorem ut (z:Bool):d9 z (.type "bytearray") [] S k=(z=true/\k (.obj S.st.length) {S with st:=S.st++[.barr []]}):=rfl
theorem C7 (z:Bool) (a:V):d9 z (.type "list") [a] S k=∃vs,bY S.st a=some vs/\k (.lst vs) S:=rfl
theorem ud (z:Bool) (b:Int):d9 z (.type "range") [.int b] S k=k (.rng 0 b 1) S:=rfl
theorem uc (z:Bool) (a b:Int):d9 z (.type "range") [.int a,.int b] S k=k (.rng a b 1) S:=rfl
theorem CZ (z:Bool) (a b c:Int):d9 z (.type "range") [.int a,.int b,.int c] S k=(c≠0/\k (.rng a b c) S):=rfl
theorem cA (x y:Int):fJ .Add st (.int x) (.int y) kv=kv (.int (x+y)):=rfl
theorem j7 (x y:Int):fJ .Sub st (.int x) (.int y) kv=kv (.int (x-y)):=rfl
theorem ph (x y:Int):fJ .Mult st (.int x) (.int y) kv=(IntMulOk x y/\kv (.int (x*y))):=rfl
theorem uf (x:List Nat) (n:Int):fJ .Mult st (.str x) (.int n) kv=(0<n/\n<=1000/\x.length<=1000/\kv (.str (List.replicate n.toNat x).flatten)):=rfl
theorem pn (x y:Int):fJ .FloorDiv st (.int x) (.int y) kv=(0<y/\kv (.int (x / y))):=rfl
theorem m4 (x y:Int):fJ .Mod st (.int x) (.int y) kv=(0<y/\kv (.int (x % y))):=rfl
theorem lx (x y:Int):fJ .Pow st (.int x) (.int y) kv=(0<=y/\(Builtin.Int.intBits x:Int)*y<=2 ^ 27/\kv (.int (x ^ y.toNat))):=rfl
theorem fM (x y:List Nat):fJ .Add st (.str x) (.str y) kv=(x.length+y.length<=sizeLine/\kv (.str (x++y))):=rfl
theorem pr (x y:List V):fJ .Add st (.lst x) (.lst y) kv=(x.length+y.length<=sizeLine/\kv (.lst (x++y))):=rfl
theorem Df (n:Nat) (y:List V):fJ .Add st (.obj n) (.lst y) kv=∃x,bY st (.obj n)=some x/\x.length+y.length<=sizeLine/\kv (.lst (x++y)):=rfl
theorem Dg (n:Nat) (x:List V):fJ .Add st (.lst x) (.obj n) kv=∃y,bY st (.obj n)=some y/\x.length+y.length<=sizeLine/\kv (.lst (x++y)):=rfl
theorem jk (x y:Int):cG D .Eq st (.int x) (.int y) kb=kb (decide (x=y)):=rfl
theorem C2 (x y:Int):cG D .NotEq st (.int x) (.int y) kb=kb (!decide (x=y)):=rfl
theorem gN (x y:Int):cG D .Lt st (.int x) (.int y) kb=kb (decide (x<y)):=rfl
theorem ul (x y:Int):cG D .LtE st (.int x) (.int y) kb=kb (decide (x<=y)):=rfl
theorem lz (x y:Int):cG D .Gt st (.int x) (.int y) kb=kb (decide (y<x)):=rfl
theorem lA (x y:Int):cG D .GtE st (.int x) (.int y) kb=kb (decide (y<=x)):=rfl
theorem dw (x y:List Nat):cG D .Eq st (.str x) (.str y) kb=kb (decide (x=y)):=rfl
theorem j9 (x y:List Nat):cG D .NotEq st (.str x) (.str y) kb=kb (!decide (x=y)):=rfl
theorem m0 (x y:Bool):cG D .NotEq st (.bool x) (.bool y) kb=kb (x != y):=rfl
theorem C1 (x y:List UInt8):cG D .NotEq st (.bytes x) (.bytes y) kb=kb (!decide (x=y)):=rfl
theorem ka (x y:List Nat):cG D .In st (.str x) (.str y) kb=kb (gF y x):=rfl
theorem uo (x:List Nat) (d:Addr):cG D .In st (.str x) (.val (.ref d)) kb=∃t,D d=some t/\kb (t.lookup x).isSome:=rfl
theorem jj (x:List Nat) (vs:List V):cG D .In st (.str x) (.tup vs) kb=∃ys,vs.mapM eM=some ys/\kb (ys.contains x):=rfl
theorem C0 (x:List Nat) (vs:List V):cG D .NotIn st (.str x) (.tup vs) kb=∃ys,vs.mapM eM=some ys/\kb (!ys.contains x):=rfl
theorem ke (x:List Nat) (vs:List V):cG D .In st (.str x) (.lst vs) kb=∃ys,vs.mapM eM=some ys/\kb (ys.contains x):=rfl
theorem un (a:V):cG D .Is st a .none kb=((∀x,a≠.val x)/\kb (isNone a)):=rfl
theorem pi (a:V):cG D .IsNot st a .none kb=((∀x,a≠.val x)/\kb (!isNone a)):=rfl
theorem jh (x y:List V):cG D .NotEq st (.tup x) (.tup y) kb=(x=y/\x.all gJ=true/\kb false):=rfl
theorem ji (n:Nat):cG D .NotEq st (.obj n) (.lst []) kb=∃x,bY st (.obj n)=some x/\kb (!x.isEmpty):=rfl
theorem fL (x:List Nat) (j:Int):f2 D st (.str x) (.int j) kv=∃n c,seqIndex? j x.length=some n/\x[n]? = some c/\kv (.str [c]):=rfl
theorem kh {x:List V}{j:Int}{n:Nat}{a:V}(h1:seqIndex? j x.length=some n) (h2:x[n]? = some a) (h:kv a):na x j kv:=by unfold na;(erw [h1];erw [Option.map_some];erw [h2]);exact h
theorem j6 (x:List V) (j:Int):f2 D st (.tup x) (.int j) kv=na x j kv:=rfl
theorem ua (d:Addr) (x:List Nat):f2 D st (.val (.ref d)) (.str x) kv=∃t n,D d=some t/\t.lookup x=some n/\kv (.int n):=rfl
theorem iP (m:Nat) (j:Int):f2 D st (.obj m) (.int j) kv=∃vs n a,bY st (.obj m)=some vs/\seqIndex? j vs.length=some n/\vs[n]? = some a/\kv a:=rfl
theorem iQ (x:List V) (j:Int):f2 D st (.lst x) (.int j) kv=∃n a,seqIndex? j x.length=some n/\x[n]? = some a/\kv a:=rfl
theorem eI (x:List Nat) (l u:Int):jP st (.str x) (some (.int l)) (some (.int u)) kv=(0<=l/\0<=u/\kv (.str (cW x (some l) (some u)))):=rfl
theorem po (x:List Nat) (u:Int):jP st (.str x) none (some (.int u)) kv=(0<=u/\kv (.str (cW x none (some u)))):=rfl
theorem uq (x:List Nat) (l:Int):jP st (.str x) (some (.int l)) none kv=(0<=l/\kv (.str (cW x (some l) none))):=rfl
theorem De (x:List V) (l:Int):jP st (.lst x) (some (.int l)) none kv=(0<=l/\kv (.lst (x.drop l.toNat))):=rfl
theorem Dd (s y:List Nat):dB D (.str s) ("find":Str) [.str y] S k=(k (.int (gI s y 0 s.length)) S):=rfl
theorem pj (s y:List Nat) (i:Int):dB D (.str s) ("find":Str) [.str y,.int i] S k=(0<=i/\k (.int (gI s y i.toNat s.length)) S):=rfl
theorem Dc (s y:List Nat) (i j:Int):dB D (.str s) ("find":Str) [.str y,.int i,.int j] S k=(0<=i/\0<=j/\k (.int (gI s y i.toNat (min j.toNat s.length))) S):=rfl
theorem uk (s:List Nat):dB D (.str s) ("lower":Str) [] S k=((Txt.lower (S_ s)).cps.toList.length<=sizeLine/\k (.str (Txt.lower (S_ s)).cps.toList) S):=rfl
theorem CX (s:List Nat):dB D (.str s) ("upper":Str) [] S k=((Txt.upper (S_ s)).cps.toList.length<=sizeLine/\k (.str (Txt.upper (S_ s)).cps.toList) S):=rfl
theorem ub (s y:List Nat):dB D (.str s) ("split":Str) [.str y] S k=(y.length≠0/\(∃r:List (List Nat),(Txt.split (S_ s) (S_ y))=r.map S_/\(∀z∈r,z.length<=sizeLine)/\r.length<=sizeLine/\k (.lst (r.map .str)) S)):=rfl
theorem um (s:List Nat) (a:V):dB D (.str s) ("join":Str) [a] S k=(s=[]/\∃vs ys,bY S.st a=some vs/\vs.mapM eM=some ys/\ys.flatten.length<=sizeLine/\k (.str ys.flatten) S):=rfl
theorem C8 (s:List UInt8) (a:V):dB D (.bytes s) ("join":Str) [a] S k=(s=[]/\∃vs ys,bY S.st a=some vs/\vs.mapM mI=some ys/\ys.flatten.length<=sizeLine/\k (.bytes ys.flatten) S):=rfl
theorem Db (d:Addr) (y:List Nat):dB D (.val (.ref d)) ("get":Str) [.str y] S k=(∃t,D d=some t/\k (match t.lookup y with | some n=>.int n | none=>.none) S):=rfl
variable {kk:(List V->St->Prop)->Prop}
theorem ly (s:List Nat):dX F (.str s) ("find":Str) S kk Q X=(kk (fun vs S2=>dB F.dict (.str s) ("find":Str) vs S2 Q)):=rfl
theorem uh (s:List Nat):dX F (.str s) ("lower":Str) S kk Q X=(kk (fun vs S2=>dB F.dict (.str s) ("lower":Str) vs S2 Q)):=rfl
theorem C3 (s:List Nat):dX F (.str s) ("upper":Str) S kk Q X=(kk (fun vs S2=>dB F.dict (.str s) ("upper":Str) vs S2 Q)):=rfl
theorem ug (s:List Nat):dX F (.str s) ("split":Str) S kk Q X=(kk (fun vs S2=>dB F.dict (.str s) ("split":Str) vs S2 Q)):=rfl
theorem ui (s:List Nat):dX F (.str s) ("join":Str) S kk Q X=(kk (fun vs S2=>dB F.dict (.str s) ("join":Str) vs S2 Q)):=rfl
theorem C4 (s:List UInt8):dX F (.bytes s) ("join":Str) S kk Q X=(kk (fun vs S2=>dB F.dict (.bytes s) ("join":Str) vs S2 Q)):=rfl
theorem C5 (d:Addr):dX F (.val (.ref d)) ("get":Str) S kk Q X=((F.dict d).isSome=true/\kk (fun vs S2=>dB F.dict (.val (.ref d)) ("get":Str) vs S2 Q)):=rfl
theorem oM {n:Nat}{ys:List V}(h:S.st[n]? = some (.list ys)) (hk:kk (fun vs S2=>∃a ys,vs=[a]/\S2.st[n]? = some (.list ys)/\ys.length<sizeLine/\Q .none (cX S2 n (.list (ys++[a]))))):dX F (.obj n) ("append":Str) S kk Q X:=by
 unfold dX;dsimp only
 erw [h]
 exact⟨by decide,hk⟩
theorem dQ {n:Nat}{C f:Addr}{fs:List (Str×V)}{x:Str}(h:S.st[n]? = some (.inst C fs)) (hm:F.meth C x=some f) (hl:fs.lookup x=none) (hk:kk (fun vs S2=>F.fn f (.obj n::vs) S2.st (fun a st'=>Q a {S2 with st:=st'}) (fun x st'=>X x {S2 with st:=st'}))):dX F (.obj n) x S kk Q X:=by
 unfold dX;dsimp only
 erw [h]
 exact aQ f hm hl hk
theorem A9 (x:List Nat) (a b:Nat):cW x (some (a:Int)) (some (b:Int))=(x.take b).drop a:=rfl
theorem mG (x:List Nat) (a n:Nat):(x.take (a+n)).drop a=(x.drop a).take n:=by erw [List.drop_take];congr 1;exact al [a,n,a+n-a] [] (.sb ai (.a aa ae) aa) (.eq ai ae) (bg (a+n) (a))
theorem dN {n:Nat}{a:Nat}(h:a<n):seqIndex? (a:Int) n=some a:=by
 unfold seqIndex?;simp;omega
theorem ma (xs:List (List Nat)):(xs.map V.str).mapM eM=some xs:=by
 induction xs with
 |nil=>rfl
 |cons a r ih=>(erw [List.map_cons];erw [List.mapM_cons];erw [ih]);rfl
end
def aO (F:Fx) (p:Addr) (P:bq):Prop:=∀vs st Q X,P vs st Q X->F.fn p vs st Q X
section
variable {F:Fx}
def gv (F:Fx) (r:List MS) (Q:Fl->St->Prop) (X:XE) (f:Fl) (S1:St):Prop:=vd f (bN F r S1 Q X) (Q f S1)
theorem aq (e:MS) (r:List MS) (S:St) (Q:Fl->St->Prop) (X:XE):bN F (e::r) S Q X=dk F e S (gv F r Q X) X:=rfl
set_option tactic.hygienic true in
theorem a9 (S:St) (Q:Fl->St->Prop) (X:XE):bN F [] S Q X=Q .next S:=rfl
set_option tactic.hygienic true in
theorem aB (r:List MS) (Q:Fl->St->Prop) (X:XE) (S1:St):gv F r Q X .next S1=bN F r S1 Q X:=rfl
theorem bI (r:List MS) (Q:Fl->St->Prop) (X:XE) (v:V) (S1:St):gv F r Q X (.ret v) S1=Q (.ret v) S1:=rfl
def rW (F:Fx) (elt:ME) (m:List Bool) (ifs:List ME) (Q:QE) (a:V) (S1:St):Prop:=∃items,d6 S1.st a=some items/\items.length<=sizeLine/\
   ∃I:List V->List V->List Cell->Prop,I [] items (S1.st++[.list []])/\(∀ys v rest st,I ys (v::rest) st->(∀n,a=.obj n->st[n]? = S1.st[n]?)/\ys.length<sizeLine/\
    gq F ifs ⟨dC m S1.loc++[some v],st⟩ (fun b S2=>(b=true->aF F elt S2 (fun c S3=>S3.st[S1.st.length]? = some (.list ys)/\I (ys++[c]) rest (S3.st.set S1.st.length (.list (ys++[c])))) (fun uz uz=>False))/\(b=false->I ys rest S2.st)) (fun uz uz=>False))/\
    (∀ys st,I ys [] st->(∀n,a=.obj n->st[n]? = S1.st[n]?)/\Q (.obj S1.st.length) {S1 with st:=st})
theorem lC (elt:ME) (m:List Bool) (it:ME) (ifs:List ME) (S:St) (Q:QE) (X:XE):aF F (.comp elt m it ifs) S Q X=(F.z=false/\aF F it S (rW F elt m ifs Q) X):=rfl
theorem rV {elt:ME}{m:List Bool}{Q:QE}{f:V->V}{a:V}{S1:St}{items:List V}(hi:d6 S1.st a=some items) (hl:items.length<=sizeLine) (ho:∀n,a=.obj n->n<S1.st.length)
  (he:∀v∈items,∀(st':List Cell) (Q':QE),Q' (f v) ⟨dC m S1.loc++[some v],st'⟩->aF F elt ⟨dC m S1.loc++[some v],st'⟩ Q' (fun uz uz=>False))
  (hQ:Q (.obj S1.st.length) {S1 with st:=S1.st++[.list (items.map f)]}) :
  rW F elt m [] Q a S1:=by
 refine(aQ items hi hl (aQ (fun ys rest st=>∃done,items=done++rest/\ys=done.map f/\st=S1.st++[.list ys]) ((aQ ([]) rfl rfl rfl)) ?_ ?_))
 ·intro ys;intro v;intro rest;intro st;intro y160;refine a8 y160 ?_;clear y160;intro done e1 y163 y164;subst y163 y164;have hlen:=congrArg List.length e1;simp at hlen;refine aI (fun n hn=>dT (ho n hn)) (by simp;omega) ?_;refine⟨fun uz=>he v (by erw [e1];simp) _ _ ⟨by simp,done++[v],by simp [e1],by simp,by simp⟩,fun h=>by exact tf h⟩
 ·intro ys;intro st;intro y80;refine a8 y80 ?_;clear y80;intro done e1 y83 y84;subst y83 y84;refine⟨fun n hn=>dT (ho n hn),?_⟩;rw [cz] at e1;subst e1;exact hQ
def kE (I:Nat->St->Prop) (n:Nat) (Q:Fl->St->Prop) (f:Fl) (S2:St):Prop:=nQ f (∃m,m<n/\I m S2) (Q .next S2) fun v=>Q (.ret v) S2
set_option tactic.hygienic true in
theorem kf {t:ME}{b:List MS}{S:St}{Q:Fl->St->Prop}{X:XE}(I:Nat->St->Prop) (n:Nat) (h0:I n S)
  (h:∀n S',I n S'->cL F t S' (fun c S1=>(c=true->bN F b S1 (kE I n Q) X)/\(c=false->Q .next S1)) X):dk F (.while t b) S Q X:=(aj I (⟨n,h0⟩) h)
def rC (I:List V->St->Prop) (rest:List V) (Q:Fl->St->Prop) (f:Fl) (S3:St):Prop:=nQ f (I rest S3) (Q .next S3) fun v=>Q (.ret v) S3
def JS (F:Fx) (is:List Nat) (b:List MS) (Q:Fl->St->Prop) (X:XE) (a:V) (S1:St):Prop:=∃items,d6 S1.st a=some items/\
   ∃I:List V->St->Prop,I items S1/\(∀v rest S',I (v::rest) S'->(∀n,a=.obj n->S'.st[n]? = S1.st[n]?)/\jT S' is v fun S2=>bN F b S2 (rC I rest Q) X)/\
    (∀S',I [] S'->(∀n,a=.obj n->S'.st[n]? = S1.st[n]?)/\Q .next S')
theorem jK {is:List Nat}{it:ME}{b:List MS}{S:St}{Q:Fl->St->Prop}{X:XE}:dk F (.for is it b) S Q X=aF F it S (JS F is b Q X) X:=rfl
set_option tactic.hygienic true in
theorem mj (I:Nat->St->Prop) (n:Nat) (Q:Fl->St->Prop) (S2:St):kE I n Q .next S2=∃m,m<n/\I m S2:=rfl
set_option tactic.hygienic true in
theorem kM (I:List V->St->Prop) (r:List V) (Q:Fl->St->Prop) (S2:St):rC I r Q .next S2=I r S2:=rfl
theorem JW (I:List V->St->Prop) (r:List V) (Q:Fl->St->Prop) (S2:St) (v:V):rC I r Q (.ret v) S2=Q (.ret v) S2:=rfl
theorem ax (i:Nat) (S:St) (Q:QE) (X:XE):aF F (.loc i) S Q X=fe S.loc[i]? fun a=>Q a S:=rfl
theorem ay (v:V) (S:St) (Q:QE) (X:XE):aF F (.cst v) S Q X=Q v S:=rfl
theorem bh (op:Operator) (l r:ME) (S:St) (Q:QE) (X:XE):aF F (.bin op l r) S Q X=aF F l S (fun a S1=>aF F r S1 (fun b S2=>fJ op S2.st a b fun c=>Q c S2) X) X:=rfl
theorem i6 (e:ME) (S:St) (Q:QE) (X:XE):aF F (.neg e) S Q X=aF F e S (fun a S1=>bu a fun x=>Q (.int (-x)) S1) X:=rfl
theorem Kw (e:ME) (S:St) (Q:QE) (X:XE):aF F (.not e) S Q X=aF F e S (fun a S1=>dD a fun b=>Q (.bool !b) S1) X:=rfl
theorem gh (l:ME) (op:CmpOp) (r:ME) (S:St) (Q:QE) (X:XE):aF F (.cmp l op r) S Q X=aF F l S (fun a S1=>aF F r S1 (fun b S2=>cG F.dict op S2.st a b fun c=>Q (.bool c) S2) X) X:=rfl
theorem Kz (l:ME) (o1:CmpOp) (m:ME) (o2:CmpOp) (r:ME) (S:St) (Q:QE) (X:XE):aF F (.cmp2 l o1 m o2 r) S Q X=aF F l S (fun a S1=>aF F m S1 (fun b S2=>cG F.dict o1 S2.st a b fun c=>
   (c=true->aF F r S2 (fun d S3=>cG F.dict o2 S3.st b d fun c'=>Q (.bool c') S3) X)/\(c=false->Q (.bool false) S2)) X) X:=rfl
theorem mF (es:List ME) (S:St) (Q:QE) (X:XE):aF F (.and es) S Q X=jp F es S Q X:=rfl
theorem Kv (es:List ME) (S:St) (Q:QE) (X:XE):aF F (.or es) S Q X=jl F es S Q X:=rfl
theorem fG (t b o:ME) (S:St) (Q:QE) (X:XE):aF F (.ite t b o) S Q X=cL F t S (fun c S1=>(c=true->aF F b S1 Q X)/\(c=false->aF F o S1 Q X)) X:=rfl
theorem aN (f:ME) (as:List ME) (S:St) (Q:QE) (X:XE):aF F (.call f as) S Q X=aF F f S (fun g S1=>df F as S1 (fun vs S2=>iH F g vs S2 Q X) X) X:=rfl
theorem cR (o:ME) (x:Str) (as:List ME) (S:St) (Q:QE) (X:XE):aF F (.meth o x as) S Q X=aF F o S (fun g S1=>dX F g x S1 (fun Qs=>df F as S1 Qs X) Q X) X:=rfl
theorem Ku (o:ME) (y z:List Nat) (S:St) (Q:QE) (X:XE):aF F (.repl o y z) S Q X=aF F o S (fun g S1=>isStr g fun x=>y≠z/\x.length+(x.length+1)*z.length<=16777216/\Q (.str (Txt.replace (S_ x) (S_ y) (S_ z)).cps.toList) S1) X:=rfl
theorem KA (o:ME) (x:Str) (S:St) (Q:QE) (X:XE):aF F (.attr o x) S Q X=aF F o S (fun a S1=>BE F.field S1.st a x fun b=>Q b S1) X:=rfl
theorem bK (o i:ME) (S:St) (Q:QE) (X:XE):aF F (.sub o i) S Q X=aF F o S (fun a S1=>aF F i S1 (fun b S2=>f2 F.dict S2.st a b fun c=>Q c S2) X) X:=rfl
theorem dp (o:ME) (lo hi:Option ME) (S:St) (Q:QE) (X:XE):aF F (.cut o lo hi) S Q X=aF F o S (fun a S1=>jm F lo S1 (fun l S2=>jm F hi S2 (fun u S3=>jP S3.st a l u fun c=>Q c S3) X) X) X:=rfl
theorem bZ (es:List ME) (S:St) (Q:QE) (X:XE):aF F (.tup es) S Q X=df F es S (fun vs S1=>gk (short 100 vs) (Q (.tup vs) S1)) X:=rfl
theorem cV (es:List ME) (S:St) (Q:QE) (X:XE):aF F (.lst es) S Q X=df F es S (fun vs S1=>gk (short 100 vs) (Q (.lst vs) S1)) X:=rfl
theorem ow (es:List ME) (S:St) (Q:QE) (X:XE):aF F (.newl es) S Q X=df F es S (fun vs S1=>gk (short 100 vs) (Q (.obj S1.st.length) {S1 with st:=S1.st++[.list vs]})) X:=rfl
theorem Ky (i:Nat) (S:St) (Q:QE) (X:XE):aF F (.heardL i) S Q X=fe S.loc[i]? fun a=>F.heardL a S.st fun b st'=>Q b {S with st:=st'}:=rfl
theorem Kx (i:Nat) (S:St) (Q:QE) (X:XE):aF F (.heardM i) S Q X=fe S.loc[i]? fun a=>F.heardM a S.st fun b st'=>Q b {S with st:=st'}:=rfl
set_option tactic.hygienic true in
theorem m6 (e:ME) (S:St) (Q:Fl->St->Prop) (X:XE):dk F (.expr e) S Q X=aF F e S (fun uz S1=>Q .next S1) X:=rfl
theorem bk (i:Nat) (e:ME) (S:St) (Q:Fl->St->Prop) (X:XE):dk F (.set i e) S Q X=aF F e S (fun a S1=>Q .next (aJ S1 i a)) X:=rfl
theorem eJ (is:List Nat) (e:ME) (S:St) (Q:Fl->St->Prop) (X:XE):dk F (.setT is e) S Q X=aF F e S (fun a S1=>jG a fun vs=>vs.length=is.length/\Q .next (cw S1 is vs)) X:=rfl
theorem Dv (o:ME) (x:Str) (e:ME) (S:St) (Q:Fl->St->Prop) (X:XE):dk F (.setAttr o x e) S Q X=aF F e S (fun a S1=>aF F o S1 (fun b S2=>∃n C fs,b=.obj n/\S2.st[n]? = some (.inst C fs)/\F.field C x=true/\fs.length<100/\Q .next (cX S2 n (.inst C (setField x a fs)))) X) X:=rfl
theorem uB (o i e:ME) (S:St) (Q:Fl->St->Prop) (X:XE):dk F (.setItem o i e) S Q X=aF F e S (fun a S1=>aF F o S1 (fun b S2=>aF F i S2 (fun j S3=>∃n vs k,b=.obj n/\S3.st[n]? = some (.list vs)/\j=.int k/\0<=k/\k<vs.length/\Q .next (cX S3 n (.list (vs.set k.toNat a)))) X) X) X:=rfl
theorem m7 (i:Nat) (op:Operator) (e:ME) (S:St) (Q:Fl->St->Prop) (X:XE):dk F (.aug i op e) S Q X=fe S.loc[i]? fun old=>aF F e S (fun b S1=>ko op (BB F.z S1 i old b (Q .next))) X:=rfl
theorem uC (i:Nat) (x:Str) (op:Operator) (e:ME) (S:St) (Q:Fl->St->Prop) (X:XE):dk F (.augAttr i x op e) S Q X=∃n C fs k,S.loc[i]? = some (some (.obj n))/\S.st[n]? = some (.inst C fs)/\fs.lookup x=some (.int k)/\F.field C x=true/\fs.length<100/\aF F e S (fun b S1=>ko op (bu b fun y=>S1=S/\Q .next (cX S1 n (.inst C (setField x (.int (k+y)) fs))))) X:=rfl
theorem bH (e:ME) (S:St) (Q:Fl->St->Prop) (X:XE):dk F (.ret e) S Q X=aF F e S (fun a S1=>Q (.ret a) S1) X:=rfl
theorem bt (t:ME) (b o:List MS) (S:St) (Q:Fl->St->Prop) (X:XE):dk F (.ite t b o) S Q X=cL F t S (fun c S1=>(c=true->bN F b S1 Q X)/\(c=false->bN F o S1 Q X)) X:=rfl
theorem eK (C:Addr) (as:List ME) (S:St) (Q:Fl->St->Prop) (X:XE):dk F (.raise C as) S Q X=(F.exc C=true/\df F as S (fun vs S1=>nH vs fun n=>X ⟨C,n⟩ S1) X):=rfl
theorem Du (b:List MS) (C:Addr) (i:Nat) (z:Option (List Nat)) (S:St) (Q:Fl->St->Prop) (X:XE):dk F (.try b C i z) S Q X=(F.exc C=true/\bN F b S (fun f S1=>Q f S1) (fun x S1=>x.cls=C/\Q (.ret (jI z x.spot)) ⟨S1.loc.set i none,S1.st⟩)):=rfl
theorem aC (S:St) (Q:List V->St->Prop) (X:XE):df F [] S Q X=Q [] S:=rfl
theorem aD (e:ME) (r:List ME) (S:St) (Q:List V->St->Prop) (X:XE):df F (e::r) S Q X=aF F e S (fun a S1=>df F r S1 (fun vs S2=>Q (a::vs) S2) X) X:=rfl
theorem ky (S:St) (Q:Option V->St->Prop) (X:XE):jm F none S Q X=Q none S:=rfl
theorem dl (e:ME) (S:St) (Q:Option V->St->Prop) (X:XE):jm F (some e) S Q X=aF F e S (fun a S1=>Q (some a) S1) X:=rfl
theorem mN (e:ME) (S:St) (Q:QE) (X:XE):jp F [e] S Q X=aF F e S Q X:=rfl
theorem mO (e e':ME) (r:List ME) (S:St) (Q:QE) (X:XE):jp F (e::e'::r) S Q X=aF F e S (fun a S1=>dD a fun b=>(b=true->jp F (e'::r) S1 Q X)/\(b=false->Q (.bool false) S1)) X:=rfl
theorem GI (e:ME) (S:St) (Q:QE) (X:XE):jl F [e] S Q X=aF F e S Q X:=rfl
theorem GJ (e e':ME) (r:List ME) (S:St) (Q:QE) (X:XE):jl F (e::e'::r) S Q X=aF F e S (fun a S1=>dD a fun b=>(b=false->jl F (e'::r) S1 Q X)/\(b=true->Q (.bool true) S1)) X:=rfl
section
variable (S:St) (Q:Bool->St->Prop) (X:XE)
theorem js (e:ME):cL F (.not e) S Q X=cL F e S (fun b S1=>Q (!b) S1) X:=rfl
theorem fO (es:List ME):cL F (.and es) S Q X=gq F es S Q X:=rfl
theorem nd (es:List ME):cL F (.or es) S Q X=jo F es S Q X:=rfl
theorem lG (i:Nat):cL F (.loc i) S Q X=fe S.loc[i]? fun a=>dD a fun b=>Q b S:=rfl
theorem DN (v:V):cL F (.cst v) S Q X=dD v fun b=>Q b S:=rfl
theorem bf (l:ME) (op:CmpOp) (r:ME):cL F (.cmp l op r) S Q X=aF F l S (fun a S1=>aF F r S1 (fun b S2=>cG F.dict op S2.st a b fun c=>Q c S2) X) X:=rfl
theorem ki (f:ME) (as:List ME):cL F (.call f as) S Q X=aF F f S (fun g S1=>df F as S1 (fun vs S2=>iH F g vs S2 (fun a S1=>dD a fun b=>Q b S1) X) X) X:=rfl
theorem DM (o:ME) (x:Str) (as:List ME):cL F (.meth o x as) S Q X=aF F o S (fun g S1=>dX F g x S1 (fun Qs=>df F as S1 Qs X) (fun a S1=>dD a fun b=>Q b S1) X) X:=rfl
theorem all_nil:gq F [] S Q X=Q true S:=rfl
theorem all_cons (e:ME) (r:List ME):gq F (e::r) S Q X=cL F e S (fun b S1=>(b=true->gq F r S1 Q X)/\(b=false->Q false S1)) X:=rfl
theorem oN:jo F [] S Q X=Q false S:=rfl
theorem any_cons (e:ME) (r:List ME):jo F (e::r) S Q X=cL F e S (fun b S1=>(b=false->jo F r S1 Q X)/\(b=true->Q true S1)) X:=rfl
end
theorem E3 {i j:Nat}{a:V}{S:St}{Q:Fl->St->Prop}{X:XE}(h:S.loc[j]? = some (some a)) (k:Q .next (aJ S i a)):dk F (.set i (.loc j)) S Q X:=by
 show fe S.loc[j]? _
 erw [h]
 exact k
end
noncomputable def et (r:Int):Bool:=decide (0<=r)&&decide (r<=1114111)&&!(decide (55296<=r)&&decide (r<=57343))
def mV:bq:=fun vs st Q uz=>∃r,vs=[.int r]/\Q (.bool (et r)) st
theorem t70 (F:Fx):∀vs st Q X,mV vs st Q X->bJ F 1 [] 1 sr vs st Q X:=by
 intro vs;intro st;intro Q;intro X;intro y160;refine ag y160 ?_;clear y160;intro r y162 hQ;subst y162;refine⟨rfl,?_⟩;try dsimp only [sr,vx,bV,bU,bD,ck,cj,aV,aU,Nat.reduceAdd,Nat.reduceSub,cg,aq,bH,bI,mF,mO,mN,Kw,Kz,fw,ay,ax,ar,au,ul,bG]
 unfold et at hQ;by_cases h1:0<=r<;>by_cases h2:r<=1114111<;>by_cases h3:55296<=r<;>simp_all<;>(intros;omega)
noncomputable def gD (r:Int):List UInt8:=
 if r<128 then [UInt8.ofNat r.toNat] else
 if r<2048 then [UInt8.ofNat (192+r / 64).toNat,UInt8.ofNat (128+r % 64).toNat] else
 if r<65536 then [UInt8.ofNat (224+r / 4096).toNat,UInt8.ofNat (128+r / 64 % 64).toNat,UInt8.ofNat (128+r % 64).toNat] else
 [UInt8.ofNat (240+r / 262144).toNat,UInt8.ofNat (128+r / 4096 % 64).toNat,UInt8.ofNat (128+r / 64 % 64).toNat,UInt8.ofNat (128+r % 64).toNat]
noncomputable def fS (r:Int):List UInt8:=gD (if et r then r else 65533)
theorem gC {x:Int}(h0:0<=x) (h1:x<256):gX (.int x)=some (UInt8.ofNat x.toNat):=by
 simp only [gX];(erw [if_pos ⟨h0,h1⟩];with_reducible rfl)
theorem gB {a:V}{b:UInt8}{l:List V}{bs:List UInt8}(h1:gX a=some b) (h2:l.mapM gX=some bs):(a::l).mapM gX=some (b::bs):=by
 (erw [List.mapM_cons];erw [h1];erw [h2]);rfl
theorem lW:([]:List V).mapM gX=some []:=rfl
def oX:bq:=fun vs st Q uz=>∃r:Int,vs=[.int r]/\∀ex,Q (.bytes (fS r)) (st++ex)
noncomputable def qE (r:Int):V->V
 | .int s=>.int (128+r / 64 ^ s.toNat % 64)
 |v=>v
theorem rk (st:List Cell) (l:List V):bY (st++[.list l]) (.obj st.length)=some l:=fU List.getElem?_concat_length
theorem t75 (F:Fx) (hz:F.z=false) (h70:aO F 70 mV):∀vs st Q X,oX vs st Q X->bJ F 1 [] 3 sq vs st Q X:=by
 intro vs;intro st;intro Q;intro X;intro y160;refine ag y160 ?_;clear y160;intro r y162 hQ;subst y162;refine⟨rfl,?_⟩;try dsimp only [sq,bD,aV,aU,ck,cj,bV,bU,Nat.reduceAdd,Nat.reduceSub,cC,cg]
 have main:∀r':Int,0<=r'->r'<=1114111->(∀ex,Q (.bytes (gD r')) (st++ex))->bN F [pN,pM,nq,np] ⟨[some (.int r'),none,none],st⟩
   (dO Q) (dc X):=by
  intro r' h0 h1 hq;have h64:∀s:Int,0<=s->s<=3->(Builtin.Int.intBits 64:Int)*s<=2 ^ 27:=fun s a b=>by
   have:(Builtin.Int.intBits 64:Int)=7:=by decide
   erw [this];omega
  have he:∀(m:Int) (k:Nat) (st':List Cell) (Q':QE),k<=2->Q' (qE r' (.int k)) ⟨dC [true,false,false] [some (.int r'),some (.int m),none]++[some (.int k)],st'⟩->
    aF F rO ⟨dC [true,false,false] [some (.int r'),some (.int m),none]++[some (.int k)],st'⟩ Q' (fun uz uz=>False):=by
   intro m k st' Q' hk h;try dsimp only [dC,bV,bU,rO,bh,ay,ax,ar,aA,au,lx,pn,m4,cA] at h⊢
   refine jY (aH [k] [] (.Le (.k 0) (.c aa))) (h64 k (aH [k] [] (.Le (.k 0) (.c aa))) (al [k] [] (.le aa (.k 2)) (.Le (.c aa) (.k 3)) hk)) (Int.pow_pos (by decide)) (by decide) h
  have tail:∀m:Nat,1<=m->m<=3->(2048<=r'->2<=m)->(65536<=r'->m=3)->(r'<65536->m<=2)->(r'<2048->m=1)->¬r'<128->bN F [nq,np] ⟨[some (.int r'),some (.int m),none],st⟩
   (dO Q) (dc X):=by
   intro m m1 m3 c1 c2 c3 c4 hr
   erw [aq]
   dsimp only [nq,bk,lC];refine⟨hz,?_⟩;try dsimp only [aN,aJ,aB,aq,aD,aC,i6,ay,gO,bh,ax,aA,ar,e7,au,j7,CZ]
   refine⟨by decide,?_⟩;have hq1:=hq [.list (((List.range m).reverse.map fun(k:Nat)=>V.int k).map (qE r'))];refine rV (f:=qE r') (items:=(List.range m).reverse.map fun(k:Nat)=>V.int k) ?_ ?_ ?_ (fun v hv st' Q' h=>?_) ?_
   ·have:m=1\/m=2\/m=3:=by exact aL [m] [] (.le (.k 1) aa) (.le aa (.k 3)) (.or (.eq aa (.k 1)) (.or (.eq aa (.k 2)) (.eq aa (.k 3)))) m1 m3
    ((focus (refine av this ?_ ?_<;>clear this;rintro rfl;rotate_left;intro y0;(focus (refine av y0 ?_ ?_<;>clear y0;rintro rfl;rotate_left;rintro rfl;rotate_left));rotate_left 2)))<;>rfl
   ·simp;unfold sizeLine;exact al [m] [] (.le aa (.k 3)) (.le aa (.k 16777216)) m3
   ·intro n h;cases h
   ·refine ag (List.mem_map.mp hv) ?_;intro k hk y2;subst y2;have:k<m:=by simpa using hk
    exact he m k st' Q' (aL [m,k] [] (.le aa (.k 3)) (.lt ae aa) (.le ae (.k 2)) m3 this) h
   ·try dsimp only [np,bH,bI,aN,aD,aC,bh,ax,cV,bz,bn,bp,ay,bK,e7,aT,aS,aA,ar,au,Dg,aV,aU,pq,lx,pn,j7,bG]
    have:m=1\/m=2\/m=3:=by exact aL [m] [] (.le (.k 1) aa) (.le aa (.k 3)) (.or (.eq aa (.k 1)) (.or (.eq aa (.k 2)) (.eq aa (.k 3)))) m1 m3
    (focus (refine av this ?_ ?_<;>clear this;rintro rfl;rotate_left;intro y0;(focus (refine av y0 ?_ ?_<;>clear y0;rintro rfl;rotate_left;rintro rfl;rotate_left));rotate_left 2))
    ·have e:gD r'=[UInt8.ofNat (192+r' / 64).toNat,UInt8.ofNat (128+r' / 1 % 64).toNat]:=by unfold gD;rw [if_neg hr,if_pos (by exact al [] [r'] (.imp (.Le (.k 2048) aw) (.le (.k 2) (.k 1))) (.Lt aw (.k 2048)) c1),Int.ediv_one]
     rw [e] at hq1;try simp only [j6]
     refine kh (n:=0) (by decide) rfl ?_;try simp only [j6]
     refine kh (n:=0) (a:=.int 192) (by decide) rfl ?_;refine dq (by decide) (h64 _ (by decide) (by decide)) (by decide) ?_;refine(aQ _ (rk _ _) (by simp;decide) (aj _ (gB (gC ?_ ?_) (gB (gC ?_ ?_) lW)) hq1))
     all_goals (simp;omega)
    ·have e:gD r'=[UInt8.ofNat (224+r' / 4096).toNat,UInt8.ofNat (128+r' / 64 % 64).toNat,UInt8.ofNat (128+r' / 1 % 64).toNat]:=by unfold gD;rw [if_neg hr,if_neg (by exact al [] [r'] (.imp (.Lt aw (.k 2048)) (.eq (.k 2) (.k 1))) (.not (.Lt aw (.k 2048))) c4),if_pos (by exact al [] [r'] (.imp (.Le (.k 65536) aw) (.eq (.k 2) (.k 3))) (.Lt aw (.k 65536)) c2),Int.ediv_one]
     rw [e] at hq1;try simp only [j6]
     refine kh (n:=1) (by decide) rfl ?_;try simp only [j6]
     refine kh (n:=0) (a:=.int 224) (by decide) rfl ?_;refine dq (by decide) (h64 _ (by decide) (by decide)) (by decide) ?_;refine(aQ _ (rk _ _) (by simp;decide) (aj _ (gB (gC ?_ ?_) (gB (gC ?_ ?_) (gB (gC ?_ ?_) lW))) hq1))
     all_goals (simp;omega)
    ·have e:gD r'=[UInt8.ofNat (240+r' / 262144).toNat,UInt8.ofNat (128+r' / 4096 % 64).toNat,UInt8.ofNat (128+r' / 64 % 64).toNat,UInt8.ofNat (128+r' / 1 % 64).toNat]:=by unfold gD;rw [if_neg hr,if_neg (by exact al [] [r'] (.imp (.Lt aw (.k 2048)) (.eq (.k 3) (.k 1))) (.not (.Lt aw (.k 2048))) c4),if_neg (by exact al [] [r'] (.imp (.Lt aw (.k 65536)) (.le (.k 3) (.k 2))) (.not (.Lt aw (.k 65536))) c3),Int.ediv_one]
     rw [e] at hq1;try simp only [j6]
     refine kh (n:=2) (by decide) rfl ?_;try simp only [j6]
     refine kh (n:=0) (a:=.int 240) (by decide) rfl ?_;refine dq (by decide) (h64 _ (by decide) (by decide)) (by decide) ?_;refine(aQ _ (rk _ _) (by simp;decide) (aj _ (gB (gC ?_ ?_) (gB (gC ?_ ?_) (gB (gC ?_ ?_) (gB (gC ?_ ?_) lW)))) hq1))
     all_goals (simp;omega)
  try dsimp only [pN,vr,pM,aq,bt,bH,bI,aN,aD,aC,cV,bz,bn,bp,ax,ay,e7,pq,a9,aB,bk,aJ,fG,bf,ar,au,aT,aS,gN,bG,bc]
  try simp only [bi,bE]
  refine⟨fun h=>(aj _ (gB (gC h0 (al [] [r'] (.Lt aw (.k 128)) (.Lt aw (.k 256)) h)) lW) ?_),fun h=>⟨fun h2=>?_,fun h2=>⟨fun h3=>?_,fun h3=>?_⟩⟩⟩
  ·have:=hq []
   unfold gD at this;rw [if_pos h,cz] at this;exact this
  ·exact tail 1 (aH [] [] (.le (.k 1) (.k 1))) (aH [] [] (.le (.k 1) (.k 3))) (al [] [r'] (.Lt aw (.k 2048)) (.imp (.Le (.k 2048) aw) (.le (.k 2) (.k 1))) h2) (al [] [r'] (.Lt aw (.k 2048)) (.imp (.Le (.k 65536) aw) (.eq (.k 1) (.k 3))) h2) (aH [] [r'] (.imp (.Lt aw (.k 65536)) (.le (.k 1) (.k 2)))) (aH [] [r'] (.imp (.Lt aw (.k 2048)) (.eq (.k 1) (.k 1)))) h
  ·exact tail 2 (aH [] [] (.le (.k 1) (.k 2))) (aH [] [] (.le (.k 2) (.k 3))) (aH [] [r'] (.imp (.Le (.k 2048) aw) (.le (.k 2) (.k 2)))) (al [] [r'] (.Lt aw (.k 65536)) (.imp (.Le (.k 65536) aw) (.eq (.k 2) (.k 3))) h3) (aH [] [r'] (.imp (.Lt aw (.k 65536)) (.le (.k 2) (.k 2)))) (al [] [r'] (.not (.Lt aw (.k 2048))) (.imp (.Lt aw (.k 2048)) (.eq (.k 2) (.k 1))) h2) h
  ·exact tail 3 (aH [] [] (.le (.k 1) (.k 3))) (aH [] [] (.le (.k 3) (.k 3))) (aH [] [r'] (.imp (.Le (.k 2048) aw) (.le (.k 2) (.k 3)))) (aH [] [r'] (.imp (.Le (.k 65536) aw) (.eq (.k 3) (.k 3)))) (al [] [r'] (.not (.Lt aw (.k 65536))) (.imp (.Lt aw (.k 65536)) (.le (.k 3) (.k 2))) h3) (al [] [r'] (.not (.Lt aw (.k 65536))) (.imp (.Lt aw (.k 2048)) (.eq (.k 3) (.k 1))) h3) h
 erw [aq]
 try dsimp only [vw,vt,bt,aq,bk,aJ,aB,a9,ay,js,ki,aD,aC,ax,ar,bl,aS,au,bc]
 refine h70 _ _ _ _ (aj r rfl ?_);try dsimp only [fw]
 unfold fS at hQ;cases hr:et r with
 |true=>
  rw [hr,if_pos rfl] at hQ;refine⟨fun h=>by simp at h,fun uz=>?_⟩;unfold et at hr;simp at hr;exact main r (al [] [r] (.and (.and (.Le (.k 0) aw) (.Le aw (.k 1114111))) (.or (.Lt aw (.k 55296)) (.Lt (.k 57343) aw))) (.Le (.k 0) aw) hr) (al [] [r] (.and (.and (.Le (.k 0) aw) (.Le aw (.k 1114111))) (.or (.Lt aw (.k 55296)) (.Lt (.k 57343) aw))) (.Le aw (.k 1114111)) hr) hQ
 |false=>
  rw [hr] at hQ;refine⟨fun uz=>?_,fun h=>by simp at h⟩;exact main 65533 (aH [] [] (.Le (.k 0) (.k 65533))) (aH [] [] (.Le (.k 65533) (.k 1114111))) hQ
section
noncomputable def run (g s:List Nat):Nat:=(s.takeWhile fun c=>decide (c∈g)).length
theorem nB {g s:List Nat}{c:Nat}(h:c∈g):run g (c::s)=run g s+1:=by unfold run;simp [List.takeWhile_cons,h]
theorem nA {g s:List Nat}{c:Nat}(h:c∉g):run g (c::s)=0:=by unfold run;simp [List.takeWhile_cons,h]
theorem qm {g s:List Nat}:run g s<=s.length:=by
 unfold run;exact(List.takeWhile_prefix _).length_le
def mU:bq:=fun vs st Q uz=>∃(t g:List Nat) (a:Nat),vs=[.str t,.int a,.str g]/\a<=t.length/\Q (.int ((a+run g (t.drop a):Nat):Int)) st
theorem t88 (F:Fx):∀vs st Q X,mU vs st Q X->bJ F 3 [] 3 so vs st Q X:=by
 intro vs;intro st;intro Q;intro X;intro y160;refine cu y160 ?_;clear y160;intro t g a y164 ha hQ;subst y164;refine⟨rfl,?_⟩;try dsimp only [so,bD,aV,aU,ck,cj,bV,bU,Nat.reduceAdd,Nat.reduceSub,cC,cg]
 erw [aq]
 refine kf (fun n S'=>∃k:Nat,S'=⟨[some (.str t),some (.int ((a+k:Nat):Int)),some (.str g)],st⟩/\n=t.length-(a+k)/\a+k<=t.length/\run g (t.drop a)=k+run g (t.drop (a+k))) (t.length-a) (gM 0 rfl rfl ha (by simp)) ?_;intro n;intro S';intro y80;refine iL y80 ?_;clear y80;intro k y82 y83 hk hr;subst y82 y83;try dsimp only [aq,aB,fO,all_cons,all_nil,bf,ax,bK,aN,aD,aC,ay,cU,aA,ar,au,eH,fL,ka,gN]
 try simp only [bi,dj,fv,dK,and_true,cM,true_and,bE]
 refine⟨fun h1=>?_,fun h1=>?_⟩
 ·have hlt:a+k<t.length:=by exact al [a,k,t.length] [] (.Lt (.c (.a aa ae)) (.c ai)) (.lt (.a aa ae) ai) h1
  refine bj (a+k) (t[a+k]) (dN hlt) (eT hlt) ?_
  erw [kK]
  have hd:=List.drop_eq_getElem_cons hlt;refine⟨fun h2=>?_,fun h2=>?_⟩
  ·rw [hd,nB (by simpa using h2)] at hr;refine(aj (t.length-(a+(k+1))) (bQ [a,k,t.length,t.length-(a+(k+1)),t.length-(a+k)] [] (.Lt (.c (.a aa ae)) (.c ai)) (.sb aG ai (.a aa (.a ae (.k 1)))) (.sb cb ai (.a aa ae)) (.lt aG cb) h1 (bg (t.length) (a+(k+1))) (bg (t.length) (a+k))) (gM (k+1) ?_ rfl (al [a,k,t.length] [] (.Lt (.c (.a aa ae)) (.c ai)) (.le (.a aa (.a ae (.k 1))) ai) h1) (by erw [hr];simp only [Nat.add_assoc];exact aH [k,run g (List.drop (a+(k+1)) t)] [] (.eq (.a aa (.a ae (.k 1))) (.a aa (.a (.k 1) ae))))));rfl
  ·try dsimp only [pL,bH,bI,ax,aA,ar,au,bG]
   rw [hd,nA (by simpa using h2)] at hr;rw [show a+k=a+run g (t.drop a) by exact al [run g (List.drop a t),k,a] [] (.eq aa (.a ae (.k 0))) (.eq (.a ai ae) (.a ai aa)) hr];exact hQ
 ·try dsimp only [pL,bH,bI,ax,aA,ar,au,bG]
  have:a+k=t.length:=by exact aL [a,k,t.length] [] (.le (.a aa ae) ai) (.not (.Lt (.c (.a aa ae)) (.c ai))) (.eq (.a aa ae) ai) hk h1
  rw [this,List.drop_length] at hr
  (with_reducible refine bx ((show a+k=a+run g (t.drop a) by erw [hr];simp [run]) ..) ?_)
  exact hQ
inductive Res (α:Type) where
 |ok (a:α)
 |err (n:Nat)
 |out
def Res.run {α:Type}(r:Res α) (Q:α->Prop) (X:Nat->Prop):Prop:=match r with
 | .ok a=>Q a
 | .err n=>X n
 | .out=>False
theorem dz {α:Type}(a:α) (Q:α->Prop) (X:Nat->Prop):(Res.ok a).run Q X=Q a:=rfl
theorem gw {α:Type}(n:Nat) (Q:α->Prop) (X:Nat->Prop):(Res.err n:Res α).run Q X=X n:=rfl
theorem kQ (x:List Nat) (a n:Nat):cW x (some (a:Int)) (some ((a:Int)+(n:Int)))=(x.drop a).take n:=by
 show(x.take ((a:Int)+(n:Int)).toNat).drop (a:Int).toNat=_
 (with_reducible refine bx ((show((a:Int)+(n:Int)).toNat=a+n by omega) ..) ?_;erw [Int.toNat_natCast])
 exact mG x a n
theorem oz (x:List Nat) (a:Nat):cW x (some (a:Int)) (some ((a:Int)+1))=(x.drop a).take 1:=kQ x a 1
theorem A7 (x:List Nat) (a:Nat):cW x (some (a:Int)) (some ((a:Int)+2))=(x.drop a).take 2:=kQ x a 2
theorem oq {t y:List Nat}{a:Nat}(hy:y≠[]) (ha:a<=t.length):gI t y a t.length=match cm y (t.drop a) with | some k=>((a+k:Nat):Int) | none=>-1:=by
 have:=AG (x:=t) (y:=y) hy ha (bw _)
 rw [List.take_length] at this;exact this
noncomputable def gR (s:List Nat) (a:Nat):Res Nat:=
 if s.take 2=[47,47] then .ok (match cm [10] s with | some k=>k | none=>s.length)
 else match cm [42,47] (s.drop 2) with
  |some k=>.ok (k+4)
  |none=>.err a
def tF:bq:=fun vs st Q X=>∃(t:List Nat) (a:Nat),vs=[.str t,.int a]/\a+2<=t.length/\(gR (t.drop a) a).run (fun k=>Q (.int ((a+k:Nat):Int)) st) (fun n=>X ⟨45,n⟩ st)
theorem t95 (F:Fx) (hx:F.exc 45=true):∀vs st Q X,tF vs st Q X->bJ F 2 [] 3 sm vs st Q X:=by
 intro vs;intro st;intro Q;intro X;intro y160;refine aY y160 ?_;clear y160;intro t a y163 ha hQ;subst y163;refine⟨rfl,?_⟩;try dsimp only [sm,bD,aV,aU,ck,cj,bV,bU,Nat.reduceAdd,Nat.reduceSub,cC,cg]
 try simp only [cz]
 unfold gR at hQ;try dsimp only [vq,vp,aq,bt,bk,aJ,aB,cR,aD,aC,ax,ay,a9,bf,dp,dl,bh,ar,aA,au,ly,pj,aT,aS,cA,eI,dw,bc]
 try simp only [bi,bE]
 refine aI (aH [a] [] (.Le (.k 0) (.c aa))) (aH [a] [] (.Le (.k 0) (.a (.c aa) (.k 2)))) ?_
 erw [A7]
 have h2:((a:Int)+2).toNat=a+2:=by omega
 refine⟨fun h1=>?_,fun h1=>?_⟩
 ·rw [if_pos h1] at hQ;refine⟨by exact aH [a] [] (.Le (.k 0) (.c aa)),?_⟩;rw [Int.toNat_natCast,oq (by simp) (by exact al [a,t.length] [] (.le (.a aa (.k 2)) ae) (.le aa ae) ha)];try dsimp only [vo,bH,bI,fG,aN,aD,aC,ax,ay,cU,bf,aA,ar,au,eH,gN,bG]
  cases hf:cm [10] (t.drop a) with
  |none=>
   rw [hf] at hQ;refine⟨fun uz=>?_,fun h=>by simp at h⟩;rw [dJ] at hQ;have hQ':Q (.int ((a+(t.length-a):Nat):Int)) st:=hQ;rw [show a+(t.length-a)=t.length by exact aL [a,t.length,t.length-a] [] (.le (.a aa (.k 2)) ae) (.sb ai ae aa) (.eq (.a aa ai) ae) ha (bg (t.length) (a))] at hQ';exact hQ'
  |some k=>
   rw [hf] at hQ;refine⟨fun h=>by simp at h;omega,fun uz=>hQ⟩
 ·rw [if_neg h1] at hQ;try dsimp only [vn,bk,aJ,aB,aq,cR,aD,aC,bh,ay,ax,ar,aA,au,cA,ly,pj,aT,aS]
  refine⟨by exact aH [a] [] (.Le (.k 0) (.a (.c aa) (.k 2))),?_⟩;rw [h2,oq (by simp) (by exact al [a,t.length] [] (.le (.a aa (.k 2)) ae) (.le (.a aa (.k 2)) ae) ha)];rw [List.drop_drop] at hQ;try dsimp only [vm,vk,bt,aq,eK,aD,aC,ax,ay,a9,aB,bf,aA,ar,au,eU,gN,bc,eN]
  cases hf:cm [42,47] (t.drop (a+2)) with
  |none=>
   rw [hf] at hQ;refine⟨fun uz=>⟨hx,hQ⟩,fun h=>by simp at h⟩
  |some k=>
   rw [hf] at hQ;refine⟨fun h=>by simp at h;omega,fun uz=>?_⟩;try dsimp only [vj,bH,bI,bh,ay,ax,aA,ar,au,cA,bG]
   have:((a+2+k:Nat):Int)+2=((a+(k+4):Nat):Int):=by push_cast;exact aH [a,k] [] (.Eq (.a (.a (.a (.a (.c aa) (.k 1)) (.k 1)) (.c ae)) (.k 2)) (.a (.c aa) (.a (.a (.a (.a (.c ae) (.k 1)) (.k 1)) (.k 1)) (.k 1))))
   erw [this]
   exact hQ
end
noncomputable def cH:List Nat:=[32,9,13,10]
noncomputable def gV:Option Nat->V
 |none=>.none
 |some k=>.int k
noncomputable def f4 (br f:Option Nat):Option Nat:=match br with
 |none=>f
 |some b=>some b
noncomputable def dP:Nat->List Nat->Nat->Option Nat->Res (Nat×Option Nat)
 | 0,_,_,_=>.out
 |_+1,[],a,br=>.ok (a,br)
 |n+1,c::r,a,br=>
  if c∈cH then
   dP n ((c::r).drop (run cH (c::r))) (a+run cH (c::r)) (f4 br ((cm [10] ((c::r).take (run cH (c::r)))).map fun j=>a+j))
  else if(c::r).take 2=[47,47]\/(c::r).take 2=[47,42] then
   match gR (c::r) a with
   | .ok k=>dP n ((c::r).drop k) (a+k) (f4 br ((cm [10] ((c::r).take k)).map fun uz=>a))
   | .err e=>.err e
   | .out=>.out
  else .ok (a,br)
set_option tactic.hygienic true in
theorem ot {y:List Nat}(hy:y≠[]):∀{s:List Nat}{k:Nat},cm y s=some k->k+y.length<=s.length
 | [],k,h=>by cases h
 |c::r,k,h=>by
  unfold cm at h
  split at h
  ·rename_i hp
   obtain rfl:=Option.some.inj h;have:=(List.isPrefixOf_iff_prefix.mp hp).length_le;exact al [y.length,(c::r).length] [] (.le aa ae) (.le (.a (.k 0) aa) ae) this
  ·refine ag (Option.map_eq_some_iff.mp h) ?_;intro j hj y2;subst y2;have:=ot hy hj;simp;exact al [j,y.length,r.length] [] (.le (.a aa ae) ai) (.le (.a (.a aa (.k 1)) ae) (.a ai (.k 1))) this
set_option tactic.hygienic true in
theorem yR {s:List Nat}{a k:Nat}(h2:2<=s.length) (h:gR s a=.ok k):k<=s.length:=by
 unfold gR at h
 split at h
 ·cases h
  cases hf:cm [10] s with
  |none=>exact bw _
  |some j=>have:=ot (by simp) hf;simp at this;show j<=_;exact al [j,s.length] [] (.le (.a aa (.k 1)) ae) (.le aa ae) this
 ·split at h
  ·rename_i j hf
   cases h
   have:=ot (by simp) hf
   simp at this;exact aL [j,s.length,s.length-2] [] (.le (.a aa (.k 2)) ai) (.sb ai ae (.k 2)) (.le (.a aa (.k 4)) ae) this (bg (s.length) (2))
  ·cases h
theorem Gl {s:List Nat}{a:Nat}:gR s a≠.out:=by
 unfold gR
 split
 ·simp
 ·split<;>simp
theorem J0 {t:List Nat}{a k:Nat}(h:a+k<=t.length):gI t [10] a (min (a+k) t.length)=match cm [10] ((t.drop a).take k) with | some j=>((a+j:Nat):Int) | none=>-1:=by
 rw [Nat.min_eq_left h,AG (by simp) (by exact aH [a,k] [] (.le aa (.a aa ae))) h,mG]
 all_goals (cases cm [10] ((t.drop a).take k)<;>rfl)
def nM (Q:V->List Cell->Prop) (X:Exn->List Cell->Prop) (st:List Cell) (r:Res (Nat×Option Nat)):Prop:=r.run (fun p=>Q (.tup [.int (p.1:Nat),gV p.2]) st) (fun n=>X ⟨45,n⟩ st)
def tV:bq:=fun vs st Q X=>∃(t:List Nat) (a n:Nat),vs=[.str t,.int a]/\a<=t.length/\nM Q X st (dP n (t.drop a) a none)
def CV (t:List Nat) (st:List Cell) (Q:V->List Cell->Prop) (X:Exn->List Cell->Prop) (n:Nat) (S':St):Prop:=
 ∃(a:Nat) (br:Option Nat) (u v:Option V),S'=⟨[some (.str t),some (.int (a:Int)),some (gV br),u,v],st⟩/\a<=t.length/\nM Q X st (dP n (t.drop a) a br)
theorem qG (br:Option Nat):∀x,gV br≠.val x:=by cases br<;>(intro x h;cases h)
theorem Ev (F:Fx) (h88:aO F 88 mU) (h95:aO F 95 tF):∀vs st Q X,tV vs st Q X->bJ F 2 [] 5 sY vs st Q X:=by
 intro vs;intro st;intro Q;intro X;intro y160;refine cu y160 ?_;clear y160;intro t a n y164 ha hQ;subst y164;refine⟨rfl,?_⟩;try dsimp only [sY,bD,aV,aU,ck,cj,bV,bU,Nat.reduceAdd,Nat.reduceSub,cC,cg]
 erw [aq]
 dsimp only [yM,bk,ay,ax,au,ar,aA,aB,aJ,aT,aS]
 erw [aq]
 refine kf (CV t st Q X) n (jf a none none none rfl ha hQ) ?_;clear hQ ha a n;intro n;intro S';intro y80;refine eX y80 ?_;clear y80;intro a br u v y85 ha hQ;subst y85;try dsimp only [aq,aB,bf,aN,aD,aC,ax,ay,cU,aA,ar,au,eH,gN]
 try simp only [bi,bE]
 cases n with
 |zero=>exact hQ.elim
 |succ n=>
 refine⟨fun h1=>?_,fun h1=>?_⟩
 ·have hlt:a<t.length:=by exact al [a,t.length] [] (.Lt (.c aa) (.c ae)) (.lt aa ae) h1
  have hd:=List.drop_eq_getElem_cons hlt;generalize hc:t[a]=c at hd;have hg:t[a]? = some c:=by(erw [eT hlt];erw [hc];with_reducible rfl)
  rw [hd] at hQ;unfold dP at hQ;try dsimp only [yL,yK,bk,aJ,aB,aq,bt,bf,ay,bK,ax,aA,ar,aT,aS,au,fL,ka]
  refine bj a c (dN hlt) hg ?_
  erw [kK]
  have tail:∀(k:Nat),a+k<=t.length->nM Q X st (dP n (t.drop (a+k)) (a+k) (f4 br ((cm [10] ((t.drop a).take k)).map fun j=>if c=47 then a else a+j)))->
    bN F [ql,qk] ⟨[some (.str t),some (.int ((a+k:Nat):Int)),some (gV br),some (.int (a:Int)),v],st⟩ (kE (CV t st Q X) (n+1) (gv F [yF] (dO Q) (dc X))) (dc X):=by
   intro k hk hres;try dsimp only [ql,qk,aq,bk,aJ,aB,bt,a9,mj,fO,all_cons,all_nil,bf,ay,ax,un,cR,aD,aC,ar,aA,au,ly,Dc,aT,aS,lA,bc]
   try simp only [bi,dj,fv,dK,and_true,bE,cM,true_and]
   refine aI (aH [a] [] (.Le (.k 0) (.c aa))) (aH [a,k] [] (.Le (.k 0) (.c (.a aa ae)))) ?_
   (erw [Int.toNat_natCast];erw [Int.toNat_natCast];erw [J0 hk])
   refine⟨qG br,?_⟩;induction br with
   |none=>
    try dsimp only [gV,isNone,yG,bk,aJ,aB,a9,mj,fG,ax,bf,ay,bK,ar,aA,aT,aS,au,fL,dw,bc]
    try simp only [bi,bE,dj,fv,dK,and_true]
    cases hf:cm [10] ((t.drop a).take k) with
    |none=>
     rw [hf] at hres;refine⟨fun h=>by simp at h,fun uz=>(aj n (iN _) (jf _ none _ _ rfl hk hres))⟩
    |some j=>
     rw [hf] at hres;refine⟨fun uz=>(bj a c (dN hlt) hg ?_),fun h=>by simp at h;omega⟩;simp only [List.cons.injEq,and_true];refine⟨fun hc=>?_,fun hc=>?_⟩
     ·simp only [f4,Option.map_some,if_pos hc] at hres;exact(aj n (iN _) (jf _ (some a) _ _ rfl hk hres))
     ·simp only [f4,Option.map_some,if_neg hc] at hres;exact(aj n (iN _) (jf _ (some (a+j)) _ _ rfl hk hres))
   |some b=>
    try dsimp only [gV,isNone]
    refine bF ?_;exact(aj n (iN _) (jf _ (some b) _ _ rfl hk hres))
  simp only [bi,bE];have hbl:c∈[32,9,13,10]↔c∈cH:=Iff.rfl;refine⟨fun hb=>?_,fun hb=>?_⟩
  ·rw [if_pos (hbl.mp hb)] at hQ;try dsimp only [yJ,bk,aJ,aB,a9,aq,aN,aD,aC,ay,ax,ar,aA,bl,aT,aS,au,bc]
   refine h88 _ _ _ _ (dG t ([32,9,13,10]) a rfl ha ?_);have hrl:=qm (g:=cH) (s:=t.drop a);rw [dJ] at hrl;have hc47:c≠47:=fun e=>by rw [e] at hb;simp at hb
   have:=tail (run cH (t.drop a)) (bQ [a,t.length,run cH (List.drop a t),t.length-a] [] (.lt aa ae) (.le ai aG) (.sb aG ae aa) (.le (.a aa ai) ae) hlt hrl (bg (t.length) (a))) (by
    simp only [if_neg hc47]
    rw [←hd,List.drop_drop] at hQ
    exact hQ)
   rw [aq] at this;exact this
  ·rw [if_neg (fun h=>hb (hbl.mpr h))] at hQ;try dsimp only [yI,bt,aq,bf,bZ,aD,bz,aC,bn,bp,ay,dp,dl,bh,ax,ar,aA,au,cA,eI,jj]
   refine(aI (aH [a] [] (.Le (.k 0) (.c aa))) (aH [a] [] (.Le (.k 0) (.a (.c aa) (.k 2)))) (aj ([[47,47],[47,42]]) rfl ?_))
   (erw [A7];erw [hd])
   by_cases h2:(c::t.drop (a+1)).take 2=[47,47]\/(c::t.drop (a+1)).take 2=[47,42]
   ·rw [if_pos h2] at hQ;have hcon:([[47,47],[47,42]]:List (List Nat)).contains ((c::t.drop (a+1)).take 2)=true:=by
     (refine av h2 ?_ ?_<;>clear h2<;>intro h2)<;>(erw [h2])<;>rfl
    erw [hcon]
    refine⟨fun uz=>?_,fun h=>absurd h (by decide)⟩;have hlen:2<=(c::t.drop (a+1)).length:=by
     have:((c::t.drop (a+1)).take 2).length=2:=by(refine av h2 ?_ ?_<;>clear h2<;>intro h2)<;>(erw [h2])<;>rfl
     rw [List.length_take] at this;exact aL [(c::List.drop (a+1) t).length,min 2 (c::List.drop (a+1) t).length] [] (.eq ae (.k 2)) (.mn ae (.k 2) aa) (.le (.k 2) aa) this (eg (2) ((c::List.drop (a+1) t).length))
    have hc:c=47:=by
     refine av h2 ?_ ?_<;>clear h2<;>intro h2
     ·rw [List.take_succ_cons] at h2;exact(List.cons.inj h2).1
     ·rw [List.take_succ_cons] at h2;exact(List.cons.inj h2).1
    have hl2:a+2<=t.length:=by
     rw [←hd,dJ] at hlen;exact aL [t.length,a,t.length-a] [] (.le (.k 2) ai) (.sb ai aa ae) (.le (.a ae (.k 2)) aa) hlen (bg (t.length) (a))
    try dsimp only [yH,bk,aJ,aB,a9,aq,aN,aD,aC,ax,ay,ar,aA,bl,aT,aS,au,bc]
    refine h95 _ _ _ _ (bj t a rfl hl2 ?_)
    erw [hd]
    cases hr:gR (c::t.drop (a+1)) a with
    |ok k=>
     rw [hr] at hQ
     erw [dz]
     have hk:=yR hlen hr;rw [←hd,dJ] at hk;have:=tail k (bQ [a,t.length,k,t.length-a] [] (.le (.a aa (.k 2)) ae) (.le ai aG) (.sb aG ae aa) (.le (.a aa ai) ae) hl2 hk (bg (t.length) (a))) (by
      simp only [if_pos hc]
      rw [←hd] at hQ
      dsimp only at hQ
      rw [List.drop_drop] at hQ
      exact hQ)
     rw [aq] at this;exact this
    |err e=>rw [hr] at hQ;exact hQ
    |out=>exact absurd hr Gl
   ·rw [if_neg h2] at hQ;have hcon:([[47,47],[47,42]]:List (List Nat)).contains ((c::t.drop (a+1)).take 2)=false:=by
     rw [Bool.eq_false_iff];intro h;simp only [List.contains_cons,List.contains_nil,Bool.or_false,Bool.or_eq_true,beq_iff_eq] at h;exact h2 h
    erw [hcon]
    refine⟨fun h=>absurd h (by decide),fun uz=>?_⟩;exact hQ
 ·have:t.drop a=[]:=List.drop_eq_nil_of_le (al [a,t.length] [] (.not (.Lt (.c aa) (.c ae))) (.le ae aa) h1)
  rw [this] at hQ;exact hQ
noncomputable def dL (c:Nat):Int:=match cm [eO c] db with
 |some k=>k
 |none=>99
theorem rT (x:List Nat) (a:Nat):cW x (some ((a:Int)+1)) (some ((a:Int)+2))=((x.drop a).drop 1).take 1:=by
 have:=kQ x (a+1) 1
 erw [List.drop_drop]
 (refine aZ (this ..) ?_)
 congr 2
def pe:bq:=fun vs st Q uz=>∃c,vs=[.str [c]]/\c<128/\Q (.int (dL c)) st
theorem Eu (F:Fx):∀vs st Q X,pe vs st Q X->bJ F 1 [] 2 sX vs st Q X:=by
 intro vs;intro st;intro Q;intro X;intro y160;refine a8 y160 ?_;clear y160;intro c y162 hc hQ;subst y162;refine⟨rfl,?_⟩;have hl:(Txt.lower (S_ [c])).cps.toList=[eO c]:=zR (x:=[c]) (by simpa using hc);try dsimp only [sX,yE,yD,bV,bU,bD,ck,cj,aV,aU,Nat.reduceAdd,Nat.reduceSub,cC,cg,aq,bk,aJ,aB,bH,bI,fG,ax,ay,bf,cR,aD,aC,ar,au,uh,uk,ly,Dd,aT,aS,aA,lA,bG]
 try simp only [hl,bi,bE]
 try dsimp only [aV,aU,Nat.reduceAdd]
 have hf:=oq (t:=db) (y:=[eO c]) (a:=0) (by simp) (Nat.zero_le _);rw [List.drop_zero] at hf;unfold dL at hQ;refine⟨by decide,?_⟩
 erw [hf]
 cases h:cm [eO c] db with
 |none=>
  rw [h] at hQ;exact⟨fun h=>by simp at h,fun uz=>hQ⟩
 |some k=>
  rw [h] at hQ;refine⟨fun uz=>?_,fun h=>(by simp at h)⟩;simp only [Nat.zero_add];exact hQ
noncomputable def PB:List (List Nat×Int):=[([48,120],16),([48,111],8),([48,98],2)]
noncomputable def gy:List Nat->Int×List Nat
 | 48::c::r=>(8,if c=95 then r else c::r)
 |w=>(10,w)
noncomputable def dW (w:List Nat):Int×List Nat:=match PB.lookup ((w.take 2).map eO) with
 |some b=>(b,if(w.drop 2).take 1=[95] then w.drop 3 else w.drop 2)
 |none=>gy w
theorem GF {w:List Nat}(h:w.length<=1):gy w=(10,w):=by
 unfold gy
 split
 ·simp at h
 ·rfl
set_option tactic.hygienic true in
theorem GG {x c:Nat}{r:List Nat}(h:x≠48):gy (x::c::r)=(10,x::c::r):=by
 unfold gy
 split
 ·rename_i e;cases e;exact absurd rfl h
 ·rfl
def tU:bq:=fun vs st Q uz=>∃w,vs=[.str w]/\(∀c∈w,c<128)/\Q (.tup [.int (dW w).1,.str (dW w).2]) st
theorem KN (x:List Nat):cW x none (some 2)=x.take 2:=rfl
theorem KP (x:List Nat):cW x (some 2) (some 3)=(x.drop 2).take 1:=kQ x 2 1
theorem rR (x:List Nat) (n:Nat):cW x (some (n:Int)) none=x.drop n:=by
 show(x.take x.length).drop _=_
 erw [List.take_length];rfl
theorem Et (F:Fx) (hd:F.dict 79=some PB):∀vs st Q X,tU vs st Q X->bJ F 1 [] 2 sW vs st Q X:=by
 intro vs;intro st;intro Q;intro X;intro y160;refine a8 y160 ?_;clear y160;intro w y162 hw hQ;subst y162;refine⟨rfl,?_⟩;have hl:(Txt.lower (S_ (w.take 2))).cps.toList=(w.take 2).map eO:=zR fun c hc=>hw c (List.mem_of_mem_take hc);try dsimp only [sW,yC,bV,bU,bD,ck,cj,aV,aU,Nat.reduceAdd,Nat.reduceSub,cC,cg,aq,bk,aJ,aB,cR,aD,aC,dp,dl,ay,ky,ax,ar,au,po,uh,uk,C5,Db,aT,aS]
 try simp only [hd,Option.isSome_some,KN,hl,Option.some.injEq,exists_eq_left',true_and]
 unfold dW at hQ;have c3:cW w (some 3) none=w.drop 3:=rR w 3;have c2:cW w (some 2) none=w.drop 2:=rR w 2;have c1:cW w (some 1) none=w.drop 1:=rR w 1;refine aI (by decide) ?_ ?_
 ·(erw [eQ];erw [List.length_take]);unfold sizeLine;exact al [w.length,min 2 w.length] [] (.mn ae (.k 2) aa) (.le ae (.k 16777216)) (eg (2) (w.length))
 cases hp:PB.lookup ((w.take 2).map eO) with
 |some b=>
  rw [hp] at hQ;try dsimp only [qj,yB,bt,aq,bH,bI,bZ,aD,bz,aC,bn,bp,fG,dp,ky,dl,ay,ax,bf,a9,aB,pi,isNone,aA,ar,au,uq,eI,dw,bG,bc]
  try simp only [cN,KP,bi,bE,dj,eZ,cM,dK,and_true]
  refine jY ((by intro x h;cases h)) (by decide) (by decide) (fun h=>?_) (fun h=>?_)
  ·simp only [if_pos h] at hQ
   erw [c3];exact⟨by decide,hQ⟩
  ·simp only [if_neg h] at hQ
   erw [c2];exact⟨by decide,hQ⟩
 |none=>
  rw [hp] at hQ;try dsimp only [qj,yA,bt,aq,a9,aB,fO,all_cons,all_nil,bf,ay,bK,ax,aN,aD,aC,cU,pi,isNone,aA,ar,au,eH,fL,dw,lz,bc]
  try simp only [cN,fv,dK,eZ,bi,dj,and_true,bE,cM,true_and]
  refine aI ((by intro x h;cases h)) (fun h=>?_) (fun h=>?_)
  ·match w,h,hQ,c2,c1 with
   | [],h,_,_,_=>simp at h
   | [_],h,_,_,_=>simp at h
   |x::c::r,h,hQ,c2,c1=>
    refine bv 0 x (dN (a:=0) (by simp)) rfl (fun hx=>?_) (fun hx=>?_)
    ·simp only [List.cons.injEq,and_true] at hx;subst hx;try dsimp only [yz,bH,bI,bZ,aD,bz,aC,bn,bp,fG,dp,ky,dl,ay,ax,bf,bK,ar,au,uq,fL,aV,dw,bG]
     try simp only [bi,bE]
     refine bv 1 c (dN (a:=1) (by simp)) rfl (fun h=>?_) (fun h=>?_)
     ·simp only [List.cons.injEq,and_true] at h;simp only [gy,if_pos h] at hQ
      erw [c2];exact⟨by decide,hQ⟩
     ·simp only [List.cons.injEq,and_true] at h;simp only [gy,if_neg h] at hQ
      erw [c1];exact⟨by decide,hQ⟩
    ·simp only [List.cons.injEq,and_true] at hx;rw [GG hx] at hQ;exact hQ
  ·rw [GF (al [w.length] [] (.not (.Lt (.k 1) (.c aa))) (.le aa (.k 1)) h)] at hQ;exact hQ
noncomputable def dR (base:Int):List Nat->Int->Option Int
 | [],v=>some v
 |c::r,v=>if base<=dL c then none else dR base r (v*base+dL c)
theorem Av (b v:Int):dR b [] v=some v:=rfl
theorem rB (b v:Int) (c:Nat) (r:List Nat):dR b (c::r) v=if b<=dL c then none else dR b r (v*b+dL c):=rfl
theorem Bs {v b:Int}(h:b=2\/b=8\/b=10\/b=16):IntMulOk v b:=by
 refine IntMulOk.of_right ?_
 ((focus (refine av h ?_ ?_<;>clear h;rintro rfl;rotate_left;intro y0;(focus (refine av y0 ?_ ?_<;>clear y0;rintro rfl;rotate_left;intro y1;(focus (refine av y1 ?_ ?_<;>clear y1;rintro rfl;rotate_left;rintro rfl;rotate_left));rotate_left 2));rotate_left 3)))<;>decide
noncomputable def ir (s:List Nat):Bool:=decide (s.take 1=[46])&&gF fX ((s.drop 1).take 1)&&decide (s.drop 1≠[])
noncomputable def ja (figs:List Nat):Bool:=decide (figs=[])||decide (figs.head? = some 95)||decide (figs.getLast? = some 95)||d8 figs
theorem Mc (figs:List Nat):ja figs=true↔figs=[]\/figs.head? = some 95\/figs.getLast? = some 95\/d8 figs=true:=by
 unfold ja;simp only [Bool.or_eq_true,bi,or_assoc]
noncomputable def cq (s:List Nat) (a:Nat):Res (V×Nat):=
 let w:=s.take (run bX s);let p:=dW w
 if ja p.2=true then .err a
 else if 100<p.2.length then .err a
 else match dR p.1 (p.2.filter (fun b=>decide (b≠95))) 0 with
  |none=>.err a
  |some v=>if ir (s.drop (run bX s))=true then .err a else .ok (.tup [.str [105,110,116],.str w,.int a,.int v],run bX s)
set_option tactic.hygienic true in
theorem GD (w:List Nat):(dW w).1=2\/(dW w).1=8\/(dW w).1=10\/(dW w).1=16:=by
 unfold dW
 split
 ·rename_i b hb
  unfold PB at hb;simp only [List.lookup_cons,List.lookup_nil] at hb
  split at hb
  ·cases hb;simp
  ·split at hb
   ·cases hb;simp
   ·split at hb
    ·cases hb;simp
    ·exact ba hb
 ·unfold gy
  split<;>simp
theorem GC (w:List Nat):∀c∈(dW w).2,c∈w:=by
 unfold dW
 split
 ·intro c hc;dsimp only at hc
  split at hc<;>exact List.mem_of_mem_drop hc
 ·unfold gy
  split
  ·intro c hc;dsimp only at hc
   split at hc
   ·exact .tail _ (.tail _ hc)
   ·exact .tail _ hc
  ·exact fun c hc=>hc
theorem Gb {g s:List Nat}:∀c∈s.take (run g s),c∈g:=by
 intro c hc;have:s.take (run g s)=s.takeWhile fun c=>decide (c∈g):=by
  exact(List.prefix_iff_eq_take.mp (List.takeWhile_prefix _)).symm
 rw [this] at hc;have:=List.all_takeWhile (l:=s) (p:=fun c=>decide (c∈g));rw [List.all_eq_true] at this;simpa using this c hc
theorem HN:∀c∈bX,c<128:=by decide
def tT:bq:=fun vs st Q X=>∃(t:List Nat) (a:Nat),vs=[.str t,.int a]/\a<=t.length/\t.length<=sizeLine/\(cq (t.drop a) a).run (fun p=>Q (.tup [p.1,.int ((a+p.2:Nat):Int)]) st) (fun n=>X ⟨45,n⟩ st)
def Nx (t:List Nat) (a e:Nat) (b:Int) (figs:List Nat) (R:Option Int) (st:List Cell) (rest:List V) (S':St):Prop:=
 ∃(cs:List Nat) (v:Int) (x:Option V),rest=cs.map (fun c=>.str [c])/\S'=⟨[some (.str t),some (.int (a:Int)),some (.int (e:Int)),some (.int b),some (.str figs),some (.int v),x],st⟩/\dR b cs v=R/\∀c∈cs,c<128
theorem Mb (figs:List Nat) (P XX:Prop) (hB:ja figs=true->XX) (hC:¬ja figs=true->P) :
  (¬figs=[]->∃n c,seqIndex? 0 figs.length=some n/\figs[n]? = some c/\(¬[c]=[95]->∃n c,seqIndex? (-1) figs.length=some n/\figs[n]? = some c/\
   (¬[c]=[95]->(gF figs [95,95]=false->P)/\(gF figs [95,95]=true->XX))/\([c]=[95]->XX))/\([c]=[95]->XX))/\(figs=[]->XX):=by
 rw [Mc] at hB hC
 erw [Jy]
 refine⟨fun hne=>?_,fun he=>hB (.inl he)⟩;refine du (List.exists_cons_of_ne_nil hne) ?_;intro c r y2;subst y2;refine bv 0 c (dN (a:=0) (by simp)) rfl (fun h1=>?_) (fun h1=>hB (.inr (.inl (by simpa using h1))));have hlast:(c::r)[(c::r).length-1]? = (c::r).getLast?:=by(erw [List.getLast?_eq_getElem?];with_reducible rfl)
 have hl:(c::r).getLast? = some ((c::r).getLast (by simp)):=List.getLast?_eq_some_getLast (by simp);refine bv ((c::r).length-1) ((c::r).getLast (by simp)) ?_ (hlast.trans hl) (fun h2=>⟨fun h3=>hC ?_,fun h3=>hB (.inr (.inr (.inr h3)))⟩) (fun h2=>hB (.inr (.inr (.inl ?_))))
 ·unfold seqIndex?;simp;omega
 ·rintro(h | h | h | h)
  ·cases h
  ·exact h1 (by simpa using h)
  ·rw [hl] at h;exact h2 (by(erw [Option.some.inj h];with_reducible rfl))
  ·rw [h] at h3;exact tf h3
 ·erw [hl]
  simp only [List.cons.injEq,and_true] at h2
  (erw [h2];with_reducible rfl)
theorem Es (F:Fx) (hx:F.exc 45=true) (h88:aO F 88 mU) (h109:aO F 109 pe) (h116:aO F 116 tU):∀vs st Q X,tT vs st Q X->bJ F 2 [] 7 sV vs st Q X:=by
 intro vs;intro st;intro Q;intro X;intro y160;refine b0 y160 ?_;clear y160;intro t a y163 ha ht hQ;subst y163;refine⟨rfl,?_⟩;try dsimp only [sV,bD,aV,aU,ck,cj,bV,bU,Nat.reduceAdd,Nat.reduceSub,cC,cg]
 try simp only [cz]
 try dsimp only [yy,aq,bk,aJ,aB,aN,aD,aC,ay,ax,ar,aA,bl,aT,aS,au]
 refine h88 _ _ _ _ (dG t bX a rfl ha ?_);have hrl:=qm (g:=bX) (s:=t.drop a);rw [dJ] at hrl;unfold cq at hQ;dsimp only at hQ;generalize hn:run bX (t.drop a)=n at hQ hrl⊢;have hcut:cW t (some (a:Int)) (some ((a+n:Nat):Int))=(t.drop a).take n:=by(erw [A9];erw [mG];with_reducible rfl)
 have hw:∀c∈(t.drop a).take n,c<128:=fun c hc=>HN c (Gb c (hn▸hc));try dsimp only [yx,eJ,aV,aU,aB,aq,aN,aD,aC,dp,dl,ax,ay,ar,aA,bl,au,eI]
 try simp only [hcut]
 refine aI (aH [a] [] (.Le (.k 0) (.c aa))) (aH [a,n] [] (.Le (.k 0) (.c (.a aa ae)))) (h116 _ _ _ _ (aQ _ rfl hw ?_));generalize hwd:(t.drop a).take n=w at hQ hw⊢;have hb:=GD w;have hs:=GC w;generalize dW w=p at hQ hb hs⊢;obtain⟨b,figs⟩:=p;dsimp only at hQ hb hs⊢;try dsimp only [yw,yv,bt,aq,eK,aD,aC,ax,ay,a9,aB,nd,any_cons,oN,bf,bK,i6,gO,gp,aV,aU,cw,aJ,aT,aS,aA,ar,au,eU,ka,fL,dw,bc,eN]
 try simp only [bE,cM,dK,dj,true_and,fv,and_true,bi]
 have fault:F.exc 45=true/\X ⟨45,(a:Int)⟩ st↔X ⟨45,(a:Int)⟩ st:=⟨fun h=>h.2,fun h=>⟨hx,h⟩⟩;rw [fault];refine Mb figs _ _ (fun hbad=>?_) fun hbad=>?_
 ·rw [if_pos hbad,gw] at hQ;exact hQ
 rw [if_neg hbad] at hQ;try dsimp only [yu,yt,bt,aq,eK,aD,aC,ax,bh,ay,aN,e7,CY,fM,aV,aU,a9,aB,bf,aA,ar,cU,au,eH,eU,lz,bc,eN]
 try simp only [bi,true_and,bE]
 refine⟨fun hl=>?_,fun hl=>?_⟩
 ·rw [if_pos (by exact al [figs.length] [] (.Lt (.k 100) (.c aa)) (.lt (.k 100) aa) hl),gw] at hQ;exact dq hx (by decide) (by decide) hQ
 rw [if_neg (by exact al [figs.length] [] (.not (.Lt (.k 100) (.c aa))) (.not (.lt (.k 100) aa)) hl)] at hQ;try dsimp only [yr,yq,bk,aJ,aB,aq,jK,Ku,aU,ax,ay,aT,aS,aA,ar,au,C9]
 have hrep:(Txt.replace (S_ figs) (S_ [95]) (S_ [])).cps.toList=figs.filter (fun b=>decide (b≠95)):=Gk figs 95
 erw [hrep]
 generalize hcs:figs.filter (fun b=>decide (b≠95))=cs at hQ⊢;have hcs':∀c∈cs,c<128:=fun c hc=>hw c (hs c (List.mem_filter.mp (hcs▸hc)).1);generalize hR:dR b cs 0=R at hQ;refine(aI (by decide) (by simp;exact al [figs.length] [] (.not (.Lt (.k 100) (.c aa))) (.le aa (.k 16777216)) hl) (aj (cs.map (fun c=>.str [c])) rfl (aQ (Nx t a (a+n) b figs R st) ((ed cs 0 none rfl rfl hR hcs')) ?_ ?_)))
 ·intro v;intro rest;intro S';intro y120;refine f0 y120 ?_;clear y120;intro cs2 v2 x e1 y125 hf hc2;subst y125
  match cs2,e1 with
  |c::cs2,e1=>
  rw [List.map_cons] at e1;refine af (List.cons.inj e1) ?_;intro y0 y1;subst y0 y1;refine⟨(by intro n h;cases h),?_⟩;try dsimp only [jT,yp,yo,yn,aJ,aT,aS,aq,bt,eK,aD,aC,ax,bh,ay,a9,aB,bk,kM,aN,bl,bf,aA,ar,au,fM,aV,aU,eU,ph,bc,eN]
  refine h109 _ _ _ _ (aQ c rfl (hc2 c (.head _)) ?_);try dsimp only [lA]
  try simp only [bi,bE]
  rw [rB] at hf;refine⟨fun h=>?_,fun h=>?_⟩
  ·rw [if_pos h] at hf;rw [←hf,gw] at hQ;exact aI hx (by decide) hQ
  ·rw [if_neg h] at hf;refine⟨Bs hb,?_⟩;refine h109 _ _ _ _ (aQ c rfl (hc2 c (.head _)) ?_);exact ed cs2 _ _ rfl rfl hf (fun c hc=>hc2 c (.tail _ hc))
 ·intro S';intro y40;refine f0 y40 ?_;clear y40;intro cs2 v2 x e1 y45 hf hc2;subst y45;have:cs2=[]:=by simpa using e1.symm
  subst this;rw [Av] at hf;rw [←hf] at hQ;refine⟨(by intro n h;cases h),?_⟩;try dsimp only [aB,ym,yl,aq,bt,eK,aD,aC,ax,ay,a9,fO,all_cons,all_nil,bf,aN,cU,bh,dp,dl,ar,aA,au,eH,eU,cA,gN,eI,ka,dw,bc,eN]
  try simp only [bi,dj,fv,dK,and_true,bE,cM,true_and]
  (erw [oz];erw [rT])
  rw [List.drop_drop] at hQ;have fin:ir (t.drop (a+n))=false->dk F qi ⟨[some (.str t),some (.int (a:Int)),some (.int ((a+n:Nat):Int)),some (.int b),some (.str figs),some (.int v2),x],st⟩
    (gv F [] (dO Q) (dc X)) (dc X):=by
   intro hp;simp only [hp,cM,if_false,dz] at hQ;try dsimp only [qi,bH,bI,bZ,aD,bz,aC,bn,bp,ax,dp,dl,ay,ar,aA,au,eI,bG]
   try simp only [hcut,hwd]
   exact aI (aH [a] [] (.Le (.k 0) (.c aa))) (aH [a,n] [] (.Le (.k 0) (.c (.a aa ae)))) hQ
  unfold ir at fin;refine dq (aH [a,n] [] (.Le (.k 0) (.c (.a aa ae)))) (aH [a,n] [] (.Le (.k 0) (.a (.c (.a aa ae)) (.k 1)))) (fun h1=>(dq (aH [a,n] [] (.Le (.k 0) (.a (.c (.a aa ae)) (.k 1)))) (aH [a,n] [] (.Le (.k 0) (.a (.c (.a aa ae)) (.k 2)))) (fun h2=>⟨fun h3=>?_,fun h3=>fin ?_⟩) (fun h2=>fin ?_))) (fun h1=>fin ?_)
  ·have hp:ir (t.drop (a+n))=true:=by
    unfold ir;have h3':(t.drop (a+n)).drop 1≠[]:=by
     erw [List.drop_drop]
     intro h;have:=List.drop_eq_nil_iff.mp h;exact aL [a,n,t.length] [] (.Lt (.a (.c (.a aa ae)) (.k 1)) (.c ai)) (.le ai (.a (.a aa ae) (.k 1))) .F h3 this
    (erw [h2];erw [decide_eq_true h1];erw [decide_eq_true h3']);rfl
   simp only [hp,if_true,gw] at hQ;exact⟨hx,hQ⟩
  ·have h3':(t.drop (a+n)).drop 1=[]:=by
    erw [List.drop_drop]
    exact List.drop_eq_nil_iff.mpr (al [a,n,t.length] [] (.not (.Lt (.a (.c (.a aa ae)) (.k 1)) (.c ai))) (.le ai (.a (.a aa ae) (.k 1))) h3)
   erw [h3'];simp
  ·erw [h2];simp
  ·erw [decide_eq_false h1];simp
noncomputable def kN (s:List Nat) (many:Nat) (base:Int) (sp:Nat):Res Int:=
 if(s.take many).all (fun c=>decide (c<128))=false then .out else
 match dR base (s.take many) 0 with
 |none=>.err sp
 |some v=>if(s.take many).length<many then .err sp else .ok v
def tS:bq:=fun vs st Q X=>∃(t:List Nat) (a m sp:Nat) (b:Int),vs=[.str t,.int a,.int m,.int b,.int sp]/\a<=t.length/\(b=2\/b=8\/b=10\/b=16)/\
 (kN (t.drop a) m b sp).run (fun v=>Q (.int v) st) (fun n=>X ⟨45,n⟩ st)
def Nw (t:List Nat) (a m sp:Nat) (b:Int) (figs:List Nat) (R:Option Int) (st:List Cell) (rest:List V) (S':St):Prop:=
 ∃(cs:List Nat) (v:Int) (x:Option V),rest=cs.map (fun c=>.str [c])/\S'=⟨[some (.str t),some (.int (a:Int)),some (.int (m:Int)),some (.int b),some (.int (sp:Int)),some (.str figs),some (.int v),x],st⟩/\dR b cs v=R/\∀c∈cs,c<128
set_option tactic.hygienic true in
theorem Er (F:Fx) (hx:F.exc 45=true) (h109:aO F 109 pe):∀vs st Q X,tS vs st Q X->bJ F 5 [] 8 sU vs st Q X:=by
 intro vs;intro st;intro Q;intro X;intro y160;refine ln y160 ?_;clear y160;intro t a m sp b y166 ha hb hQ;subst y166;refine⟨rfl,?_⟩;try dsimp only [sU,bD,aV,aU,ck,cj,bV,bU,Nat.reduceAdd,Nat.reduceSub,cC,cg]
 try dsimp only [yk,yj,yi,aq,bk,aJ,aB,jK,ax,ay,dp,dl,bh,ar,aA,aT,aS,au,cA,eI]
 try simp only [kQ]
 unfold kN at hQ
 split at hQ
 ·exact hQ.elim
 rename_i hall
 have hall':∀c∈(t.drop a).take m,c<128:=by
  simpa using hall
 generalize hfs:(t.drop a).take m=figs at hQ hall'⊢;generalize hR:dR b figs 0=R at hQ;refine(aI (aH [a] [] (.Le (.k 0) (.c aa))) (aH [a,m] [] (.Le (.k 0) (.a (.c aa) (.c ae)))) (aj (figs.map (fun c=>.str [c])) rfl (aQ (Nw t a m sp b figs R st) ((ed figs 0 none rfl rfl hR hall')) ?_ ?_)))
 ·intro v;intro rest;intro S';intro y120;refine f0 y120 ?_;clear y120;intro cs2 v2 x e1 y125 hf hc2;subst y125
  match cs2,e1 with
  |c::cs2,e1=>
  rw [List.map_cons] at e1;refine af (List.cons.inj e1) ?_;intro y0 y1;subst y0 y1;refine⟨(by intro n h;cases h),?_⟩;try dsimp only [jT,yh,yg,yf,aJ,aT,aS,aq,bt,eK,aD,aC,ax,bh,ay,a9,aB,bk,kM,aN,bl,bf,aA,ar,au,fM,aV,aU,eU,ph,bc,eN]
  refine h109 _ _ _ _ (aQ c rfl (hc2 c (.head _)) ?_);try dsimp only [lA]
  try simp only [bi,bE]
  rw [rB] at hf;refine⟨fun h=>?_,fun h=>?_⟩
  ·rw [if_pos h] at hf;rw [←hf,gw] at hQ;exact aI hx (by decide) hQ
  ·rw [if_neg h] at hf;refine⟨Bs hb,?_⟩;refine h109 _ _ _ _ (aQ c rfl (hc2 c (.head _)) ?_);exact ed cs2 _ _ rfl rfl hf (fun c hc=>hc2 c (.tail _ hc))
 ·intro S';intro y40;refine f0 y40 ?_;clear y40;intro cs2 v2 x e1 y45 hf hc2;subst y45;have:cs2=[]:=by simpa using e1.symm
  subst this;rw [Av] at hf;rw [←hf] at hQ;refine⟨(by intro n h;cases h),?_⟩;try dsimp only [aB,ye,yd,yc,aq,bt,eK,aD,aC,ax,ay,a9,bH,bI,bf,aN,aA,ar,cU,au,eH,eU,gN,bG,bc,eN]
  try simp only [bi,bE]
  dsimp only at hQ;refine⟨fun h=>?_,fun h=>?_⟩
  ·rw [if_pos (by exact al [figs.length,m] [] (.Lt (.c aa) (.c ae)) (.lt aa ae) h)] at hQ;exact⟨hx,hQ⟩
  ·rw [if_neg (by exact al [figs.length,m] [] (.not (.Lt (.c aa) (.c ae))) (.not (.lt aa ae)) h)] at hQ;exact hQ
def mY:bq:=fun vs st Q X=>∃(t:List Nat) (a c:Nat),vs=[.str t,.int a]/\t[a]? = some c/\(if et c=true then Q (.int c) st else X ⟨45,a⟩ st)
theorem Eo (F:Fx) (hx:F.exc 45=true) (h70:aO F 70 mV):∀vs st Q X,mY vs st Q X->bJ F 2 [] 3 sS vs st Q X:=by
 intro vs;intro st;intro Q;intro X;intro y160;refine cu y160 ?_;clear y160;intro t a c y164 hc hQ;subst y164;refine⟨rfl,?_⟩;have hlt:a<t.length:=(ce hc).1;try dsimp only [sS,bD,aV,aU,ck,cj,bV,bU,Nat.reduceAdd,Nat.reduceSub,cC,cg]
 try simp only [cz]
 try dsimp only [xN,xM,xL,xK,aq,bk,aJ,aB,bt,eK,aD,aC,ax,ay,a9,bH,bI,js,ki,bl,aN,bK,ar,aA,cU,au,fL,ue,aT,aS,eU,bG,bc,eN]
 try simp only [cN,eZ]
 refine(bj a c (dN hlt) hc (aj c rfl (h70 _ _ _ _ (aj _ rfl ?_))));refine⟨fun h=>?_,fun h=>?_⟩
 ·rw [h] at hQ;simp only [cM,if_false] at hQ;exact⟨hx,hQ⟩
 ·rw [h,if_pos rfl] at hQ;exact hQ
noncomputable def jd:List (List Nat×Int):=[([97],7),([98],8),([102],12),([110],10),([114],13),([116],9),([118],11),([92],92)]
noncomputable def ic:List (List Nat×Int):=[([120],2),([117],4),([85],8)]
noncomputable def jL (s:List Nat) (q sp:Nat):Res (Int×Bool×Nat):=
 match jd.lookup ((s.drop 1).take 1) with
 |some v=>.ok (v,false,2)
 |none=>if(s.drop 1).take 1=[q] then .ok (q,false,2) else
  match ic.lookup ((s.drop 1).take 1) with
  |some m=>(match kN (s.drop 2) m.toNat 16 sp with
    | .ok v=>if(s.drop 1).take 1≠[120]/\et v=false then .err sp else .ok (v,decide ((s.drop 1).take 1=[120]),2+m.toNat)
    | .err n=>.err n
    | .out=>.out)
  |none=>(match kN (s.drop 1) 3 8 sp with
    | .ok v=>if 255<v then .err sp else .ok (v,true,4)
    | .err n=>.err n
    | .out=>.out)
def pd:bq:=fun vs st Q X=>∃(t:List Nat) (a q:Nat),vs=[.str t,.int a,.str [q]]/\a+1<=t.length/\(jL (t.drop a) q a).run (fun p=>Q (.tup [.int p.1,.bool p.2.1,.int ((a+p.2.2:Nat):Int)]) st) (fun n=>X ⟨45,n⟩ st)
set_option tactic.hygienic true in
theorem Nt {x:List Nat}{m:Int}(h:ic.lookup x=some m):∃k:Nat,m=k/\x≠[]:=by
 unfold ic at h;simp only [List.lookup_cons,List.lookup_nil] at h
 split at h
 ·rename_i e;cases h;exact aj 2 rfl (by erw [beq_iff_eq.mp e];simp)
 ·split at h
  ·rename_i e;cases h;exact aj 4 rfl (by erw [beq_iff_eq.mp e];simp)
  ·split at h
   ·rename_i e;cases h;exact aj 8 rfl (by erw [beq_iff_eq.mp e];simp)
   ·exact ba h
theorem Ep (F:Fx) (hx:F.exc 45=true) (hS:F.dict 80=some jd) (hL:F.dict 81=some ic) (h70:aO F 70 mV) (h130:aO F 130 tS):∀vs st Q X,pd vs st Q X->bJ F 3 [] 6 sT vs st Q X:=by
 intro vs;intro st;intro Q;intro X;intro y160;refine cu y160 ?_;clear y160;intro t a q y164 ha hQ;subst y164;refine⟨rfl,?_⟩;try dsimp only [sT,bD,aV,aU,ck,cj,bV,bU,Nat.reduceAdd,Nat.reduceSub,cC,cg]
 try simp only [cz]
 try dsimp only [ya,x9,x8,aq,bk,aJ,aB,bt,bH,bI,bZ,aD,bz,aC,bn,bp,bh,ay,ax,bK,a9,bf,dp,dl,ar,aA,aT,aS,au,cA,eI,ua,uo,bG,bc]
 try simp only [hS,Option.some.injEq,rT,exists_eq_left']
 unfold jL at hQ;generalize hs1:((t.drop a).drop 1).take 1=s1 at hQ⊢;refine dq (aH [a] [] (.Le (.k 0) (.a (.c aa) (.k 1)))) (aH [a] [] (.Le (.k 0) (.a (.c aa) (.k 2)))) (fun h1=>?_) (fun h1=>?_)
 ·refine an (Option.isSome_iff_exists.mp h1) ?_;intro v hv;rw [hv,dz] at hQ;exact bj jd v rfl hv hQ
 have h1':jd.lookup s1=none:=by
  cases h:jd.lookup s1 with
  |none=>rfl
  |some v=>rw [h] at h1;cases h1
 rw [h1'] at hQ;try dsimp only [xZ,xY,bt,aq,bH,bI,bZ,aD,bz,aC,bn,bp,bh,ay,ax,aN,cU,a9,aB,bf,aA,ar,au,ue,cA,dw,bG,bc]
 try simp only [bi,bE]
 refine⟨fun h2=>?_,fun h2=>?_⟩
 ·dsimp only at hQ;rw [if_pos h2,dz] at hQ;exact aj q rfl hQ
 dsimp only at hQ;rw [if_neg h2] at hQ;try dsimp only [xX,bt,aq,a9,aB,bf,ay,ax,aA,ar,au,uo,bc]
 try simp only [hL,Option.some.injEq,exists_eq_left']
 refine⟨fun h3=>?_,fun h3=>?_⟩
 ·refine an (Option.isSome_iff_exists.mp h3) ?_;intro m hm;refine ag (Nt hm) ?_;intro k y1 hne;subst y1;rw [hm] at hQ;dsimp only at hQ;rw [Int.toNat_natCast] at hQ;have hl:a+2<=t.length:=by
   refine av (Nat.lt_or_ge (a+1) t.length) (fun h=>?_) fun h=>?_
   ·exact al [a,t.length] [] (.lt (.a aa (.k 1)) ae) (.le (.a aa (.k 2)) ae) h
   ·rw [List.drop_drop,List.drop_eq_nil_iff.mpr h] at hs1;exact absurd hs1.symm hne
  try dsimp only [xW,xV,bk,aJ,aB,aq,aN,aD,aC,ax,ay,bh,bl,bK,aA,ar,aT,aS,au,cA,ua]
  try simp only [hL,Option.some.injEq]
  refine bj ic k rfl hm ?_;refine h130 _ _ _ _ (eD t (a+2) k a 16 rfl hl (aH [] [] (.or (.Eq (.k 16) (.k 2)) (.or (.Eq (.k 16) (.k 8)) (.or (.Eq (.k 16) (.k 10)) (.Eq (.k 16) (.k 16)))))) ?_);rw [List.drop_drop] at hQ;cases hf:kN (t.drop (a+2)) k 16 a with
  |err n=>rw [hf] at hQ;exact hQ
  |out=>rw [hf] at hQ;exact hQ
  |ok v=>
   rw [hf] at hQ;dsimp only at hQ
   erw [dz]
   try dsimp only [xU,xT,xS,bt,aq,eK,aD,aC,ax,ay,a9,aB,bH,bI,bZ,bz,bn,bp,bh,gh,fO,all_cons,all_nil,js,ki,bl,bf,aA,ar,au,eU,cA,dw,j9,bG,bc,eN]
   try simp only [cN,bE,dj,fv,dK,and_true,eZ,cM,true_and,bi]
   have fin:¬(s1≠[120]/\et v=false)->Q (.tup [.int v,.bool (decide (s1=[120])),.int ((a:Int)+2+(k:Int))]) st:=by
    intro hn;rw [if_neg hn,dz] at hQ;have:(a:Int)+2+(k:Int)=((a+(2+k):Nat):Int):=by push_cast;exact aH [a,k] [] (.Eq (.a (.a (.c aa) (.k 2)) (.c ae)) (.a (.c aa) (.a (.k 2) (.c ae))))
    erw [this];exact hQ
   refine⟨fun h4=>h70 _ _ _ _ (aj _ rfl ?_),fun h4=>fin fun h=>h.1 h4⟩;refine⟨fun h5=>?_,fun h5=>fin fun h=>by rw [h5] at h;cases h.2⟩;rw [if_pos ⟨h4,h5⟩] at hQ;exact⟨hx,hQ⟩
 ·have h3':ic.lookup s1=none:=by
   cases h:ic.lookup s1 with
   |none=>rfl
   |some v=>rw [h] at h3;cases h3
  rw [h3'] at hQ;dsimp only at hQ;try dsimp only [xR,bk,aJ,aB,aq,aN,aD,aC,ax,ay,bh,ar,aA,bl,aT,aS,au,cA]
  refine h130 _ _ _ _ (eD t (a+1) 3 a 8 rfl ha (aH [] [] (.or (.Eq (.k 8) (.k 2)) (.or (.Eq (.k 8) (.k 8)) (.or (.Eq (.k 8) (.k 10)) (.Eq (.k 8) (.k 16)))))) ?_);rw [List.drop_drop] at hQ;cases hf:kN (t.drop (a+1)) 3 8 a with
  |err n=>rw [hf] at hQ;exact hQ
  |out=>rw [hf] at hQ;exact hQ
  |ok v=>
   rw [hf] at hQ;dsimp only at hQ
   erw [dz]
   try dsimp only [xQ,xP,xO,bt,aq,eK,aD,aC,ax,ay,a9,aB,bH,bI,bZ,bz,bn,bp,bh,bf,aA,ar,au,eU,cA,lz,bG,bc,eN]
   try simp only [bi,bE]
   refine⟨fun h=>?_,fun h=>?_⟩
   ·rw [if_pos h] at hQ;exact⟨hx,hQ⟩
   ·rw [if_neg h] at hQ;exact hQ
theorem rS (x:List Nat) (a b:Nat):cW x (some (a:Int)) (some ((b:Int)+1))=(x.drop a).take (b+1-a):=by
 show(x.take ((b:Int)+1).toNat).drop (a:Int).toNat=_
 (with_reducible refine bx ((show((b:Int)+1).toNat=b+1 by omega) ..) ?_;erw [Int.toNat_natCast];erw [List.drop_take];with_reducible rfl)
theorem KQ (x:List Nat) (a:Nat):cW x (some ((a:Int)+1)) (some ((a:Int)+1+1))=((x.drop a).drop 1).take 1:=rT x a
noncomputable def nz (s:List Nat) (a:Nat) (v:Int) (j:Nat):Res (V×Nat):=
 if(s.drop j).take 1=[39] then .ok (.tup [.str [114,117,110,101],.str (s.take (j+1)),.int a,.int v],j+1) else .err a
noncomputable def rune (s:List Nat) (a:Nat):Res (V×Nat):=
 match s.drop 1 with
 | []=>.err a
 |c::r=>if c=10\/c=39 then .err a else
  if c=92 then(match jL (c::r) 39 (a+1) with
   | .ok (v,_,k)=>nz s a v (1+k)
   | .err n=>.err n
   | .out=>.out)
  else if et c=true then nz s a c 2 else .err (a+1)
def tP:bq:=fun vs st Q X=>∃(t:List Nat) (a:Nat),vs=[.str t,.int a]/\a<t.length/\(rune (t.drop a) a).run (fun p=>Q (.tup [p.1,.int ((a+p.2:Nat):Int)]) st) (fun n=>X ⟨45,n⟩ st)
theorem Ek (F:Fx) (hx:F.exc 45=true) (h137:aO F 137 pd) (h144:aO F 144 mY):∀vs st Q X,tP vs st Q X->bJ F 2 [] 5 sP vs st Q X:=by
 intro vs;intro st;intro Q;intro X;intro y160;refine aY y160 ?_;clear y160;intro t a y163 ha hQ;subst y163;refine⟨rfl,?_⟩;try dsimp only [sP,bD,aV,aU,ck,cj,bV,bU,Nat.reduceAdd,Nat.reduceSub,cC,cg]
 unfold rune at hQ;have tail:∀(v:Int) (j:Nat) (y:Option V),(nz (t.drop a) a v j).run (fun p=>Q (.tup [p.1,.int ((a+p.2:Nat):Int)]) st) (fun n=>X ⟨45,n⟩ st)->
   bN F [qe,qd] ⟨[some (.str t),some (.int (a:Int)),some (.int ((a+j:Nat):Int)),some (.int v),y],st⟩ (dO Q) (dc X):=by
  intro v j y h;try dsimp only [qe,xl,qd,aq,bt,eK,aD,aC,ax,ay,a9,aB,bH,bI,bZ,bz,bn,bp,bh,dp,dl,bf,ar,aA,au,eU,cA,eI,j9,bG,bc,eN]
  try simp only [oz,cN,bE,eZ,bi,rS]
  unfold nz at h;rw [List.drop_drop] at h;refine dq (aH [a,j] [] (.Le (.k 0) (.c (.a aa ae)))) (aH [a,j] [] (.Le (.k 0) (.a (.c (.a aa ae)) (.k 1)))) (fun h1=>?_) (fun h1=>?_)
  ·rw [if_neg h1,gw] at h;exact⟨hx,h⟩
  ·rw [if_pos h1,dz] at h;refine aI (aH [a] [] (.Le (.k 0) (.c aa))) (aH [a,j] [] (.Le (.k 0) (.a (.c (.a aa ae)) (.k 1)))) ?_;rw [show a+j+1-a=j+1 by exact al [a,j,a+j+1-a] [] (.sb ai (.a (.a aa ae) (.k 1)) aa) (.eq ai (.a ae (.k 1))) (bg (a+j+1) (a))];exact h
 try dsimp only [xt,xr,xq,aq,bk,aJ,aB,bt,eK,aD,aC,ax,ay,a9,bf,bZ,bz,bn,bp,dp,dl,bh,aA,ar,aT,aS,au,eU,cA,eI,jj,bc,eN]
 try simp only [KQ]
 refine(aI (aH [a] [] (.Le (.k 0) (.a (.c aa) (.k 1)))) (aH [a] [] (.Le (.k 0) (.a (.a (.c aa) (.k 1)) (.k 1)))) (aj ([[],[10],[39]]) rfl ?_));have hg:(t.drop a)[1]? = t[a+1]?:=by(erw [List.getElem?_drop];with_reducible rfl)
 cases hd:(t.drop a).drop 1 with
 |nil=>
  rw [hd] at hQ;refine⟨fun uz=>⟨hx,hQ⟩,fun h=>absurd h (by decide)⟩
 |cons c r=>
  rw [hd] at hQ;dsimp only at hQ;have hc:t[a+1]? = some c:=by
   have:=congrArg (fun l:List Nat=>l[0]?) hd
   simpa [List.getElem?_drop] using this
  have hlt:=(ce hc).1;have hd':t.drop (a+1)=c::r:=by(refine aZ (List.drop_drop ..) ?_);exact hd
  simp only [List.take_succ_cons,List.take_zero];have hcon:([[],[10],[39]]:List (List Nat)).contains [c]=true↔c=10\/c=39:=by
   simp [List.contains_cons]
  have hcon':([[],[10],[39]]:List (List Nat)).contains [c]=false↔¬(c=10\/c=39):=by
   rw [←hcon,Bool.not_eq_true]
  rw [hcon,hcon'];refine⟨fun h=>?_,fun h=>?_⟩
  ·rw [if_pos h,gw] at hQ;exact⟨hx,hQ⟩
  rw [if_neg h] at hQ;try dsimp only [xo,bt,aq,bf,ay,bK,ax,ar,aA,au,fL,dw]
  try simp only [bi,bE]
  refine bv (a+1) c (dN hlt) hc (fun h2=>?_) (fun h2=>?_)
  ·simp only [List.cons.injEq,and_true] at h2;rw [if_pos h2] at hQ;try dsimp only [xn,eJ,aV,aU,aB,a9,aq,aN,aD,aC,ay,ax,ar,aA,bl,au,bc]
   refine h137 _ _ _ _ (dG t (a+1) 39 rfl (al [a,t.length] [] (.lt (.a aa (.k 1)) ae) (.le (.a (.a aa (.k 1)) (.k 1)) ae) hlt) ?_)
   erw [hd']
   cases he:jL (c::r) 39 (a+1) with
   |err n=>rw [he] at hQ;exact hQ
   |out=>rw [he] at hQ;exact hQ
   |ok p=>
    obtain⟨v,o,k⟩:=p;rw [he] at hQ
    erw [dz]
    have:=tail v (1+k) (some (.bool o)) hQ
    rw [aq,show a+(1+k)=a+1+k by exact aH [a,k] [] (.eq (.a aa (.a (.k 1) ae)) (.a (.a aa (.k 1)) ae))] at this;exact⟨rfl,this⟩
  ·simp only [List.cons.injEq,and_true] at h2;rw [if_neg h2] at hQ;try dsimp only [xm,eJ,aV,aU,aB,a9,aq,bZ,gp,aD,bz,cw,aJ,aC,bn,bp,bh,ay,ax,aN,ar,aA,bl,aT,aS,au,cA,bc]
   try simp only [true_and]
   refine h144 _ _ _ _ (dG t (a+1) c rfl hc ?_);cases hr:et c with
   |true=>
    rw [hr,if_pos rfl] at hQ
    erw [if_pos rfl]
    have:=tail c 2 none hQ
    rw [aq] at this;exact this
   |false=>
    rw [hr] at hQ;simp only [cM,if_false,gw] at hQ⊢;exact hQ
noncomputable def sign (s:List Nat) (a:Nat):Res (V×Nat):=match ct.find? (fun g=>decide (s.take g.length=g)) with
 |some g=>.ok (.tup [.str [115,105,103,110],.str g,.int a,.none],g.length)
 |none=>.err a
def tO:bq:=fun vs st Q X=>∃(t:List Nat) (a:Nat),vs=[.str t,.int a]/\a<t.length/\(sign (t.drop a) a).run (fun p=>Q (.tup [p.1,.int ((a+p.2:Nat):Int)]) st) (fun n=>X ⟨45,n⟩ st)
def Nu (t:List Nat) (a:Nat) (R:Option (List Nat)) (st:List Cell) (rest:List V) (S':St):Prop:=
 ∃(gs:List (List Nat)) (x:Option V),rest=gs.map .str/\S'=⟨[some (.str t),some (.int (a:Int)),x],st⟩/\gs.find? (fun g=>decide ((t.drop a).take g.length=g))=R
theorem Ej (F:Fx) (hx:F.exc 45=true):∀vs st Q X,tO vs st Q X->bJ F 2 [] 3 sO vs st Q X:=by
 intro vs;intro st;intro Q;intro X;intro y160;refine aY y160 ?_;clear y160;intro t a y163 ha hQ;subst y163;refine⟨rfl,?_⟩;try dsimp only [sO,bD,aV,aU,ck,cj,bV,bU,Nat.reduceAdd,Nat.reduceSub,cC,cg]
 try simp only [cz]
 try dsimp only [xk,aq,jK,ay]
 unfold sign at hQ;generalize hR:ct.find? (fun g=>decide ((t.drop a).take g.length=g))=R at hQ;refine(aj (ct.map .str) rfl (aQ (Nu t a R st) ((bj ct none rfl rfl hR)) ?_ ?_))
 ·intro v;intro rest;intro S';intro y120;refine aY y120 ?_;clear y120;intro gs x e1 y124 hf;subst y124
  match gs,e1 with
  |g::gs,e1=>
  rw [List.map_cons] at e1;refine af (List.cons.inj e1) ?_;intro y0 y1;subst y0 y1;refine⟨(by intro n h;cases h),?_⟩;try dsimp only [jT,xj,xi,aJ,aT,aS,aq,bt,bH,bI,JW,bZ,aD,bz,aC,bn,bp,bh,aN,ax,ay,cU,a9,aB,kM,bf,dp,dl,ar,aA,au,eH,cA,eI,dw,bG,bc]
  try simp only [kQ,bi,bE]
  rw [List.find?_cons] at hf;refine dq (aH [a] [] (.Le (.k 0) (.c aa))) (aH [a,g.length] [] (.Le (.k 0) (.a (.c aa) (.c ae)))) (fun h=>?_) (fun h=>?_)
  ·rw [decide_eq_true h] at hf;rw [←hf] at hQ;exact hQ
  ·rw [decide_eq_false h] at hf;exact bj gs _ rfl rfl hf
 ·intro S';intro y40;refine aY y40 ?_;clear y40;intro gs x e1 y44 hf;subst y44;have:gs=[]:=by simpa using e1.symm
  subst this;rw [List.find?_nil] at hf;rw [←hf] at hQ;refine⟨(by intro n h;cases h),?_⟩;try dsimp only [aB,xh,aq,eK,aD,aC,ax,bh,bK,ay,ar,aA,au,fL,fM,aV,aU,eU,eN]
  exact⟨hx,a,t[a],dN ha,eT ha,by simp;decide,hQ⟩
noncomputable def mr:List (List Nat):=[[110,97,109,101],[105,110,116],[114,117,110,101],[116,101,120,116]]
noncomputable def jM (k w:List Nat):Bool:=mr.contains k||ou.contains w
def tM:bq:=fun vs st Q uz=>∃(k w:List Nat) (p v:V),vs=[.tup [.str k,.str w,p,v]]/\Q (.bool (jM k w)) st
theorem Eh (F:Fx):∀vs st Q X,tM vs st Q X->bJ F 1 [] 1 sM vs st Q X:=by
 intro vs;intro st;intro Q;intro X;intro y160;refine mT y160 ?_;clear y160;intro k w p v y165 hQ;subst y165;refine⟨rfl,?_⟩;try dsimp only [sM,wY,bV,bU,bD,ck,cj,aV,aU,Nat.reduceAdd,Nat.reduceSub,cg,aq,bH,bI,Kv,GJ,GI,gh,ay,bK,ax,fw,bZ,aD,bz,aC,bn,bp,ar,au,jg,jj,ik,bG]
 unfold jM at hQ;try simp only [jj]
 refine aj mr rfl ?_;cases h:mr.contains k with
 |true=>
  rw [h] at hQ;exact⟨fun h=>absurd h (by decide),fun uz=>hQ⟩
 |false=>
  rw [h,Bool.false_or] at hQ;refine⟨fun uz=>?_,fun h=>absurd h (by decide)⟩;exact aj ou (ma _) hQ
theorem G2 (r:Int):(gD r).length<=4:=by
 unfold gD
 split
 ·simp
 ·split
  ·simp
  ·split<;>simp
theorem lX (r:Int):(fS r).length<=4:=G2 _
noncomputable def eV:Nat->List Nat->Nat->List UInt8->Res (List UInt8×Nat×Bool)
 | 0,_,_,_=>.out
 |_+1,[],a,acc=>.ok (acc,a,false)
 |n+1,c::r,a,acc=>
  if 1000000<acc.length then .out else
  if c=10 then .ok (acc,a,false) else if c=34 then .ok (acc,a,true) else
  if c=92 then(match jL (c::r) 34 a with
   | .ok (v,o,k)=>if o=true then(if 0<=v/\v<256 then eV n ((c::r).drop k) (a+k) (acc++[UInt8.ofNat v.toNat]) else .out) else eV n ((c::r).drop k) (a+k) (acc++fS v)
   | .err e=>.err e
   | .out=>.out)
  else if et c=true then eV n r (a+1) (acc++fS c) else .err a
def lU (t:List Nat) (b:Nat) (Q:V->List Cell->Prop) (X:Exn->List Cell->Prop) (st:List Cell) (r:Res (List UInt8×Nat×Bool)):Prop:=
 r.run (fun p=>if p.2.2=true then ∀ex,Q (.tup [.tup [.str [116,101,120,116],.str ((t.drop b).take (p.2.1+1-b)),.int b,.bytes p.1],.int ((p.2.1+1:Nat):Int)]) (st++ex) else ∀ex,X ⟨45,b⟩ (st++ex)) (fun n=>∀ex,X ⟨45,n⟩ (st++ex))
def tR:bq:=fun vs st Q X=>∃(t:List Nat) (a n:Nat),vs=[.str t,.int a]/\lU t a Q X st (eV n (t.drop (a+1)) (a+1) [])
def NB (t:List Nat) (b:Nat) (st:List Cell) (Q:V->List Cell->Prop) (X:Exn->List Cell->Prop) (n:Nat) (S':St):Prop:=
 ∃(a:Nat) (acc:List UInt8) (ex:List Cell) (u v:Option V),S'=⟨[some (.str t),some (.int (b:Int)),some (.obj st.length),some (.int (a:Int)),u,v],st++.barr acc::ex⟩/\lU t b Q X st (eV n (t.drop a) a acc)
theorem ge (st:List Cell) (c:Cell) (ex:List Cell):(st++c::ex)[st.length]? = some c:=by simp
theorem lJ (st:List Cell) (c d:Cell) (ex:List Cell):(st++c::ex).set st.length d=st++d::ex:=by simp
theorem KD {t:List Nat}{a c:Nat}{r:List Nat}(h:t.drop a=c::r):a<t.length/\t[a]? = some c/\t.drop (a+1)=r:=by
 have hlt:a<t.length:=by
  refine av (Nat.lt_or_ge a t.length) (fun h'=>?_) fun h'=>?_
  ·exact h'
  ·rw [List.drop_eq_nil_iff.mpr h'] at h;cases h
 have:=List.drop_eq_getElem_cons hlt
 rw [h] at this;refine af (List.cons.inj this) ?_;intro e1 e2;exact aI hlt (by(erw [eT hlt];erw [e1];with_reducible rfl)) e2.symm
set_option tactic.hygienic true in
theorem En (F:Fx) (hz:F.z=true) (hx:F.exc 45=true) (h75:aO F 75 oX) (h137:aO F 137 pd) (h144:aO F 144 mY):∀vs st Q X,tR vs st Q X->bJ F 2 [] 6 sR vs st Q X:=by
 intro vs;intro st;intro Q;intro X;intro y160;refine dH y160 ?_;clear y160;intro t b n y164 hQ;subst y164;refine⟨rfl,?_⟩;try dsimp only [sR,bD,aV,aU,ck,cj,bV,bU,Nat.reduceAdd,Nat.reduceSub,cC,cg]
 try dsimp only [xI,aq,eJ,aV,aU,aB,bZ,gp,aD,bz,cw,aJ,aC,bn,bp,bh,ay,ax,aN,e7,ut,aA,ar,aT,aS,au,cA]
 try simp only [true_and]
 refine⟨hz,?_⟩;refine kf (NB t b st Q X) n (lk (b+1) ([]) ([]) none none rfl hQ) ?_;clear hQ n;intro n;intro S';intro y80;refine oS y80 ?_;clear y80;intro a acc ex u v y86 hQ;subst y86;try dsimp only [aq,aB,bf,bZ,aD,bz,aC,bn,bp,ay,dp,dl,bh,ax,ar,aA,au,cA,eI,C0]
 try simp only [oz,cN,eZ]
 refine(aI (aH [a] [] (.Le (.k 0) (.c aa))) (aH [a] [] (.Le (.k 0) (.a (.c aa) (.k 1)))) (aj ([[],[10],[34]]) rfl ?_));induction n with
 |zero=>exact hQ.elim
 |succ n=>
 have gu:∀(cl:Bool),((t.drop a).take 1=[34]↔cl=true)->lU t b Q X st (.ok (acc,a,cl))->
   bN F [qh,qg] ⟨[some (.str t),some (.int (b:Int)),some (.obj st.length),some (.int (a:Int)),u,v],st++.barr acc::ex⟩ (dO Q) (dc X):=by
  intro cl hcl h;try dsimp only [qh,xC,qg,aq,bt,eK,aD,aC,ax,ay,a9,aB,bH,bI,bZ,bz,bn,bp,bh,aN,e7,dp,dl,bf,ar,aA,au,eU,ur,cA,eI,j9,bG,bc,eN]
  try simp only [oz,cN,bE,eZ,bi,rS]
  unfold lU at h;rw [dz] at h;refine dq (aH [a] [] (.Le (.k 0) (.c aa))) (aH [a] [] (.Le (.k 0) (.a (.c aa) (.k 1)))) (fun h1=>?_) (fun h1=>?_)
  ·have:cl=false:=by rw [←Bool.not_eq_true,←hcl];exact h1
   subst this;exact⟨hx,h _⟩
  ·have:cl=true:=hcl.mp h1
   subst this;exact(aI (aH [b] [] (.Le (.k 0) (.c aa))) (aH [a] [] (.Le (.k 0) (.a (.c aa) (.k 1)))) (aj acc (ge _ _ _) (h _)))
 cases hd:t.drop a with
 |nil=>
  rw [hd] at hQ;refine⟨fun h=>absurd h (by decide),fun uz=>?_⟩;have:=gu false (by erw [hd];simp) hQ;rw [aq] at this;exact this
 |cons c r=>
  refine be (KD hd) ?_;intro hlt hc hr;rw [hd] at hQ;unfold eV at hQ;simp only [List.take_succ_cons,List.take_zero];have hcon:([[],[10],[34]]:List (List Nat)).contains [c]=true↔c=10\/c=34:=by
   simp [List.contains_cons]
  have hcon':([[],[10],[34]]:List (List Nat)).contains [c]=false↔¬(c=10\/c=34):=by
   rw [←hcon,Bool.not_eq_true]
  rw [hcon,hcon']
  split at hQ
  ·exact hQ.elim
  rename_i hacc
  have hsw:∀{P1 P2:Prop},(¬(c=10\/c=34)->P1)->((c=10\/c=34)->P2)->(¬(c=10\/c=34)->P1)/\((c=10\/c=34)->P2):=fun a b=>⟨a,b⟩;refine hsw (fun h=>?_) (fun h=>?_)
  ·rw [if_neg (fun e=>h (.inl e)),if_neg (fun e=>h (.inr e))] at hQ;try dsimp only [xH,bt,aq,bf,ay,bK,ax,ar,aA,au,fL,dw]
   try simp only [bi,bE]
   refine bv a c (dN hlt) hc (fun h2=>?_) (fun h2=>?_)
   ·simp only [List.cons.injEq,and_true] at h2;rw [if_pos h2] at hQ;try dsimp only [xG,eJ,aV,aU,aB,aq,aN,aD,aC,ay,ax,ar,aA,bl,au]
    refine h137 _ _ _ _ (dG t a 34 rfl (al [a,t.length] [] (.lt aa ae) (.le (.a aa (.k 1)) ae) hlt) ?_)
    erw [hd]
    cases he:jL (c::r) 34 a with
    |err n=>rw [he] at hQ;exact hQ _
    |out=>rw [he] at hQ;exact hQ
    |ok p=>
     obtain⟨v',o,k⟩:=p;rw [he] at hQ;dsimp only at hQ
     erw [dz]
     try dsimp only [xF,m7,j8,fG,aN,aD,aC,cV,bz,bn,bp,ax,ay,e7,pq,bl,lG,gp,aV,aU,cw,aJ,aT,aS,aA,ar,au,fw]
     refine⟨rfl,?_⟩;rw [←hd,List.drop_drop] at hQ;refine⟨fun h3=>?_,fun h3=>?_⟩
     ·subst h3;simp only [if_true] at hQ
      split at hQ
      ·rename_i hv
       refine(aQ _ (gB (gC hv.1 hv.2) lW) hz (aQ acc (ge _ _ _) (by simp [sizeLine];exact al [acc.length] [] (.not (.lt (.k 1000000) aa)) (.le aa (.k 16777215)) hacc) ?_));simp only [cX,lJ,List.set_cons_succ,List.set_cons_zero];exact(aj n (iN _) (lk (a+k) _ ex _ _ rfl hQ))
      ·exact hQ.elim
     ·subst h3;refine h75 _ _ _ _ (aj v' rfl (fun ex'=>?_));have hol:=lX v'
      (erw [List.append_assoc];erw [List.cons_append])
      refine⟨hz,acc,ge _ _ _,by simp [sizeLine];exact aL [acc.length,(fS v').length] [] (.not (.lt (.k 1000000) aa)) (.le ae (.k 4)) (.le (.a aa ae) (.k 16777216)) hacc hol,?_⟩;simp only [cX,lJ,List.set_cons_succ,List.set_cons_zero];exact(aj n (iN _) (lk (a+k) _ (ex++ex') _ _ rfl hQ))
   ·simp only [List.cons.injEq,and_true] at h2;rw [if_neg h2] at hQ;try dsimp only [xE,m7,aA,ar,j8,aN,aD,aC,ax,ay,bl,au]
    refine h144 _ _ _ _ (dG t a c rfl hc ?_);cases hr':et c with
    |false=>
     rw [hr'] at hQ;simp only [cM,if_false] at hQ⊢;exact hQ _
    |true=>
     rw [hr',if_pos rfl] at hQ
     erw [if_pos rfl]
     refine h75 _ _ _ _ (aj c rfl (fun ex'=>?_));have hol:=lX c
     (erw [List.append_assoc];erw [List.cons_append])
     refine⟨hz,acc,ge _ _ _,by simp [sizeLine];exact aL [acc.length,(fS ↑c).length] [] (.not (.lt (.k 1000000) aa)) (.le ae (.k 4)) (.le (.a aa ae) (.k 16777216)) hacc hol,?_⟩;try dsimp only [aB,xD,cX,aJ,aT,aS,aq,m7,aA,ar,j8,ay,au]
     try simp only [lJ]
     exact(aj n (iN _) (lk (a+1) _ (ex++ex') _ _ rfl (by erw [hr];exact hQ)))
  ·by_cases h10:c=10
   ·rw [if_pos h10] at hQ;have:=gu false (by(erw [hd];erw [h10]);simp) hQ;rw [aq] at this;exact this
   ·have h34:c=34:=h.resolve_left h10;rw [if_neg h10,if_pos h34] at hQ;have:=gu true (by(erw [hd];erw [h34]);simp) hQ;rw [aq] at this;exact this
theorem Gp {a k:Nat}:(Builtin.Range.rangeSize ((a:Nat):Int) ((a+k:Nat):Int) 1).toNat=k:=by
 unfold Builtin.Range.rangeSize
 erw [if_pos (by decide)]
 split
 ·erw [Int.ediv_one];omega
 ·omega
theorem nX {st:List Cell}{a k:Nat}(h:a+k<2 ^ 62):d6 st (.rng ((a:Nat):Int) ((a+k:Nat):Int) 1)=some (dA ((a:Nat):Int) 1 k):=by
 show gd _ (some (dA _ 1 (Builtin.Range.rangeSize _ _ 1).toNat))=_
 erw [Gp]
 exact rA (PySem.small_one (by omega) (by omega) (by omega) (by omega))
noncomputable def gT:List Nat->Nat->List UInt8->Res (List UInt8)
 | [],_,acc=>.ok acc
 |c::r,a,acc=>if 1000000<acc.length then .out else if c=13 then gT r (a+1) acc else if et c=true then gT r (a+1) (acc++fS c) else .err a
noncomputable def nG (s:List Nat) (a:Nat):Res (V×Nat):=match cm [96] (s.drop 1) with
 |none=>.err a
 |some k=>(match gT ((s.drop 1).take k) (a+1) [] with
  | .ok acc=>.ok (.tup [.str [116,101,120,116],.str (s.take (k+2)),.int a,.bytes acc],k+2)
  | .err n=>.err n
  | .out=>.out)
def lT (a:Nat) (Q:V->List Cell->Prop) (X:Exn->List Cell->Prop) (st:List Cell) (r:Res (V×Nat)):Prop:=
 r.run (fun p=>∀ex,Q (.tup [p.1,.int ((a+p.2:Nat):Int)]) (st++ex)) (fun n=>∀ex,X ⟨45,n⟩ (st++ex))
def tQ:bq:=fun vs st Q X=>∃(t:List Nat) (a:Nat),vs=[.str t,.int a]/\a<t.length/\t.length<=sizeLine/\lT a Q X st (nG (t.drop a) a)
def Nv (t:List Nat) (b e:Nat) (R:Res (List UInt8)) (st:List Cell) (rest:List V) (S':St):Prop:=
 ∃(a k:Nat) (acc:List UInt8) (ex:List Cell) (x:Option V),rest=dA ((a:Nat):Int) 1 k/\a+k=e/\S'=⟨[some (.str t),some (.int (b:Int)),some (.int (e:Int)),some (.obj st.length),x],st++.barr acc::ex⟩/\gT ((t.drop a).take k) a acc=R
set_option tactic.hygienic true in
theorem El (F:Fx) (hz:F.z=true) (hx:F.exc 45=true) (h75:aO F 75 oX) (h144:aO F 144 mY):∀vs st Q X,tQ vs st Q X->bJ F 2 [] 5 sQ vs st Q X:=by
 intro vs;intro st;intro Q;intro X;intro y160;refine b0 y160 ?_;clear y160;intro t b y163 hb hsz hQ;subst y163;refine⟨rfl,?_⟩;try dsimp only [sQ,bD,aV,aU,ck,cj,bV,bU,Nat.reduceAdd,Nat.reduceSub,cC,cg]
 try dsimp only [xB,xA,xz,aq,bk,aJ,aB,bt,eK,aD,aC,ax,ay,a9,bf,cR,bh,ar,aA,au,cA,ly,pj,aT,aS,eU,gN,bc,eN]
 try simp only [bi,bE]
 unfold nG at hQ;have hfd:gI t [96] ((b:Int)+1).toNat t.length=match cm [96] (t.drop (b+1)) with | some k=>((b+1+k:Nat):Int) | none=>-1:=by
  rw [show((b:Int)+1).toNat=b+1 by omega,oq (by simp) (by exact al [b,t.length] [] (.lt aa ae) (.le (.a aa (.k 1)) ae) hb)]
  all_goals (cases cm [96] (t.drop (b+1))<;>rfl)
 erw [hfd]
 rw [List.drop_drop] at hQ;refine⟨by exact aH [b] [] (.Le (.k 0) (.a (.c aa) (.k 1))),?_⟩;cases hf:cm [96] (t.drop (b+1)) with
 |none=>
  rw [hf] at hQ;refine⟨fun uz=>⟨hx,by simpa using hQ []⟩,fun h=>absurd (show((-1:Int)<0) by decide) h⟩
 |some k=>
  rw [hf] at hQ;dsimp only at hQ⊢;have hk:=ot (by simp) hf;rw [dJ] at hk;simp only [List.length_cons,List.length_nil] at hk;refine⟨fun h=>absurd h (Int.not_lt.mpr (Int.natCast_nonneg _)),fun uz=>?_⟩;try dsimp only [xy,xx,bk,aJ,aB,aq,jK,aN,aD,aC,ax,bh,ay,e7,ut,aT,aS,aA,ar,au,cA,uc]
  refine⟨hz,?_⟩;generalize hR:gT ((t.drop (b+1)).take k) (b+1) []=R at hQ;unfold sizeLine at hsz;refine(aj (dA ((b+1:Nat):Int) 1 k) (nX (a:=b+1) (k:=k) (bQ [t.length,k,b,t.length-(b+1)] [] (.le aa (.k 16777216)) (.le (.a ae (.a (.k 0) (.k 1))) aG) (.sb aG aa (.a ai (.k 1))) (.lt (.a (.a ai (.k 1)) ae) (.k 4611686018427387904)) hsz hk (bg (t.length) (b+1)))) (aQ (Nv t b (b+1+k) R st) ((eD (b+1) k ([]) ([]) none rfl rfl rfl hR)) ?_ ?_))
  ·intro v;intro rest;intro S';intro y120;refine ln y120 ?_;clear y120;intro a j acc ex x e1 e2 y128 hrb;subst y128
   match j,e1,e2,hrb with
   |j+1,e1,e2,hrb=>
   rw [dA] at e1;refine af (List.cons.inj e1) ?_;intro y0 y1;subst y0 y1;refine⟨(by intro n h;cases h),?_⟩;have hlt:a<t.length:=by exact bQ [k,t.length,b,t.length-(b+1),a,j] [] (.le (.a aa (.a (.k 0) (.k 1))) aG) (.eq (.a cb (.a j4 (.k 1))) (.a (.a ai (.k 1)) aa)) (.sb aG ae (.a ai (.k 1))) (.lt cb ae) hk e2 (bg (t.length) (b+1))
   have hd:=List.drop_eq_getElem_cons hlt;rw [hd,List.take_succ_cons] at hrb;rw [gT] at hrb;try dsimp only [xw,xv,aq,bt,m7,j8,aN,aD,aC,ax,ay,bl,a9,aB,kM,bf,bK,jT,aJ,aT,aS,ar,aA,au,fL,j9,bc]
   try simp only [cN,bE,eZ,bi]
   refine bj a (t[a]) (dN hlt) (eT hlt) ?_;simp only [List.cons.injEq,and_true]
   split at hrb
   ·rw [←hrb] at hQ;exact hQ.elim
   rename_i hacc
   refine⟨fun h=>?_,fun h=>?_⟩
   ·rw [if_neg h] at hrb;refine h144 _ _ _ _ (dG t a _ rfl (eT hlt) ?_);cases hr:et t[a] with
    |false=>
     rw [hr] at hrb;simp only [cM,if_false] at hrb⊢;rw [←hrb] at hQ;exact hQ _
    |true=>
     rw [hr,if_pos rfl] at hrb
     erw [if_pos rfl]
     refine h75 _ _ _ _ (aj _ rfl (fun ex'=>?_));have hol:=lX (t[a]:Nat)
     (erw [List.append_assoc];erw [List.cons_append])
     refine⟨hz,acc,ge _ _ _,by simp [sizeLine];exact aL [acc.length,(fS ↑t[a]).length] [] (.not (.lt (.k 1000000) aa)) (.le ae (.k 4)) (.le (.a aa ae) (.k 16777216)) hacc hol,?_⟩;try dsimp only [aB,cX,aJ,aT,aS,a9,kM,bc]
     try simp only [lJ]
     exact eD (a+1) j _ (ex++ex') _ rfl (al [a,j,b,k] [] (.eq (.a aa (.a ae (.k 1))) (.a (.a ai (.k 1)) aG)) (.eq (.a (.a aa (.k 1)) ae) (.a (.a ai (.k 1)) aG)) e2) rfl hrb
   ·rw [if_pos h] at hrb;exact eD (a+1) j acc ex _ rfl (al [a,j,b,k] [] (.eq (.a aa (.a ae (.k 1))) (.a (.a ai (.k 1)) aG)) (.eq (.a (.a aa (.k 1)) ae) (.a (.a ai (.k 1)) aG)) e2) rfl hrb
  ·intro S';intro y40;refine ln y40 ?_;clear y40;intro a j acc ex x e1 e2 y48 hrb;subst y48;have:j=0:=by
    induction j with
    |zero=>rfl
    |succ j=>rw [dA] at e1;cases e1
   subst this;rw [List.take_zero,gT] at hrb;rw [←hrb] at hQ;refine⟨(by intro n h;cases h),?_⟩;try dsimp only [aB,xu,aq,bH,bI,bZ,aD,bz,aC,bn,bp,bh,ay,ax,aN,e7,dp,dl,ar,aA,au,ur,cA,eI,bG]
   try simp only [rS]
   refine(aI (aH [b] [] (.Le (.k 0) (.c aa))) (aH [b,k] [] (.Le (.k 0) (.a (.c (.a (.a aa (.k 1)) ae)) (.k 1)))) (aj acc (ge _ _ _) ?_));rw [show b+1+k+1-b=k+2 by exact al [b,k,b+1+k+1-b] [] (.sb ai (.a (.a (.a aa (.k 1)) ae) (.k 1)) aa) (.eq ai (.a ae (.k 2))) (bg (b+1+k+1) (b))];have:((b+1+k:Nat):Int)+1=((b+(k+2):Nat):Int):=by push_cast;exact aH [b,k] [] (.Eq (.a (.a (.a (.c aa) (.k 1)) (.c ae)) (.k 1)) (.a (.c aa) (.a (.a (.c ae) (.k 1)) (.k 1))))
   erw [this]
   exact hQ _
noncomputable def my:List Nat:=[107,101,121,119,111,114,100]
noncomputable def fF:List Nat:=[110,97,109,101]
noncomputable def qC (n:Nat) (s:List Nat) (a:Nat):Res (V×Nat):=match eV n (s.drop 1) (a+1) [] with
 | .ok (acc,e,true)=>.ok (.tup [.str [116,101,120,116],.str (s.take (e+1-a)),.int a,.bytes acc],e+1-a)
 | .ok (_,_,false)=>.err a
 | .err k=>.err k
 | .out=>.out
noncomputable def e9 (n:Nat) (s:List Nat) (a:Nat):Res (V×Nat):=match s with
 | []=>.out
 |c::r=>
  if c∈gE then .ok (.tup [.str (if dZ.contains ((c::r).take (run bX (c::r)))=true then my else fF),.str ((c::r).take (run bX (c::r))),.int a,.none],run bX (c::r))
  else if c∈fX then cq (c::r) a
  else if c=34 then qC n (c::r) a
  else if c=96 then nG (c::r) a
  else if c=39 then rune (c::r) a
  else sign (c::r) a
def tN:bq:=fun vs st Q X=>∃(t:List Nat) (a n:Nat),vs=[.str t,.int a]/\a<t.length/\t.length<=sizeLine/\lT a Q X st (e9 n (t.drop a) a)
theorem nF:∀(n:Nat) (s:List Nat) (a:Nat) (acc:List UInt8) {p:List UInt8×Nat×Bool},eV n s a acc=.ok p->a<=p.2.1
 | 0,s,a,acc,p,h=>by unfold eV at h;cases h
 |n+1,[],a,acc,p,h=>by unfold eV at h;cases h;exact bw _
 |n+1,c::r,a,acc,p,h=>by
  unfold eV at h
  split at h
  ·cases h
  split at h
  ·cases h;exact bw _
  split at h
  ·cases h;exact bw _
  split at h
  ·split at h
   ·split at h
    ·split at h
     ·exact aW (Nat.le_add_right _ _) (nF n _ _ _ h)
     ·cases h
    ·exact aW (Nat.le_add_right _ _) (nF n _ _ _ h)
   ·cases h
   ·cases h
  ·split at h
   ·exact aW (Nat.le_succ _) (nF n _ _ _ h)
   ·cases h
theorem nK {a:Nat}{Q:V->List Cell->Prop}{X:Exn->List Cell->Prop}{st:List Cell}{r:Res (V×Nat)}(h:lT a Q X st r):r.run (fun p=>Q (.tup [p.1,.int ((a+p.2:Nat):Int)]) st) (fun n=>X ⟨45,n⟩ st):=by
 unfold lT at h;induction r with
 |ok p=>rw [dz] at h⊢;simpa using h []
 |err n=>rw [gw] at h⊢;simpa using h []
 |out=>exact h
theorem Ei (F:Fx) (h88:aO F 88 mU) (h123:aO F 123 tT) (h151:aO F 151 tR) (h158:aO F 158 tQ) (h165:aO F 165 tP) (h172:aO F 172 tO):∀vs st Q X,tN vs st Q X->bJ F 2 [] 5 sN vs st Q X:=by
 intro vs;intro st;intro Q;intro X;intro y160;refine f0 y160 ?_;clear y160;intro t a n y164 ha hsz hQ;subst y164;refine⟨rfl,?_⟩;try dsimp only [sN,bD,aV,aU,ck,cj,bV,bU,Nat.reduceAdd,Nat.reduceSub,cC,cg]
 try simp only [cz]
 have hd:=List.drop_eq_getElem_cons ha;have hg:t[a]? = some t[a]:=eT ha;generalize t[a]=c at hd hg;rw [hd] at hQ;unfold e9 at hQ;dsimp only at hQ;try dsimp only [xg,xf,aq,bk,aJ,aB,bt,a9,bf,ay,ax,bK,ar,aA,aT,aS,au,fL,ka,bc]
 refine bj a c (dN ha) hg ?_
 erw [kK]
 simp only [bi,bE];refine⟨fun h=>?_,fun h=>?_⟩
 ·rw [if_pos h] at hQ;rw [←hd] at hQ;try dsimp only [xe,bk,aJ,aB,aq,aN,aD,aC,ay,ax,ar,aA,bl,aT,aS,au]
  refine h88 _ _ _ _ (dG t bX a rfl (al [a,t.length] [] (.lt aa ae) (.le aa ae) ha) ?_);try dsimp only [xd,xc,bk,aJ,aB,aq,bH,bI,bZ,aD,bz,aC,bn,bp,ax,ay,dp,dl,fG,bf,ar,aA,aT,aS,au,eI,jj,bG]
  try simp only [A9,mG]
  refine(aI (aH [a] [] (.Le (.k 0) (.c aa))) (aH [a,run bX (List.drop a t)] [] (.Le (.k 0) (.c (.a aa ae)))) (aj dZ (ma _) ?_));have hq:=nK hQ;rw [dz] at hq;refine⟨fun h=>?_,fun h=>?_⟩
  ·rw [h,if_pos rfl] at hq;exact aI (aH [a] [] (.Le (.k 0) (.c aa))) (aH [a,run bX (List.drop a t)] [] (.Le (.k 0) (.c (.a aa ae)))) hq
  ·rw [h] at hq;exact aI (aH [a] [] (.Le (.k 0) (.c aa))) (aH [a,run bX (List.drop a t)] [] (.Le (.k 0) (.c (.a aa ae)))) hq
 rw [if_neg h] at hQ;try dsimp only [xb,bt,aq,a9,aB,bf,ay,ax,aA,ar,au,ka,bc]
 erw [kK]
 simp only [bi,bE];refine⟨fun h=>?_,fun h=>?_⟩
 ·rw [if_pos h] at hQ;try dsimp only [w9,bH,bI,aN,aD,aC,ax,ay,ar,aA,bl,au,bG]
  rw [←hd] at hQ;exact h123 _ _ _ _ (bv t a rfl (al [a,t.length] [] (.lt aa ae) (.le aa ae) ha) hsz (nK hQ))
 rw [if_neg h] at hQ;try dsimp only [w8,bt,aq,a9,aB,bf,ay,ax,aA,ar,au,dw,bc]
 try simp only [List.cons.injEq,and_true,bi,bE]
 refine⟨fun h=>?_,fun h=>?_⟩
 ·rw [if_pos h] at hQ;try dsimp only [w7,bH,bI,aN,aD,aC,ax,ay,ar,aA,bl,au,bG]
  refine h151 _ _ _ _ (ie t a n rfl ?_);unfold qC at hQ;rw [←hd,List.drop_drop] at hQ;unfold lU;cases hr:eV n (t.drop (a+1)) (a+1) [] with
  |err k=>rw [hr] at hQ;exact hQ
  |out=>rw [hr] at hQ;exact hQ
  |ok p=>
   obtain⟨acc,e,cl⟩:=p;rw [hr] at hQ;have hle:=nF _ _ _ _ hr
   erw [dz]
   induction cl with
   |false=>exact hQ
   |true=>
    intro ex;have:=hQ ex;dsimp only at this⊢;rw [show((a+(e+1-a):Nat):Int)=((e+1:Nat):Int) by dsimp only at hle;exact aL [a,e,e+1-a] [] (.le (.a aa (.k 1)) ae) (.sb ai (.a ae (.k 1)) aa) (.Eq (.c (.a aa ai)) (.c (.a ae (.k 1)))) hle (bg (e+1) (a))] at this;exact this
 rw [if_neg h] at hQ;try dsimp only [w6,bt,aq,a9,aB,bf,ay,ax,aA,ar,au,dw,bc]
 try simp only [List.cons.injEq,and_true,bi,bE]
 refine⟨fun h=>?_,fun h=>?_⟩
 ·rw [if_pos h] at hQ;try dsimp only [w5,bH,bI,aN,aD,aC,ax,ay,ar,aA,bl,au,bG]
  rw [←hd] at hQ;exact h158 _ _ _ _ (bv t a rfl ha hsz hQ)
 rw [if_neg h] at hQ;try dsimp only [wZ,bH,bI,fG,aN,aD,aC,ax,ay,bl,bf,aA,ar,au,dw,bG]
 try simp only [List.cons.injEq,and_true,bi,bE]
 refine⟨fun h=>?_,fun h=>?_⟩
 ·rw [if_pos h] at hQ;rw [←hd] at hQ;exact h165 _ _ _ _ (bj t a rfl ha (nK hQ))
 ·rw [if_neg h] at hQ;rw [←hd] at hQ;exact h172 _ _ _ _ (bj t a rfl ha (nK hQ))
noncomputable def jv (p:Nat):V:=.tup [.str [115,105,103,110],.str [59],.int p,.none]
noncomputable def hZ (p:Nat):V:=.tup [.str [101,110,100],.str [],.int p,.none]
noncomputable def mA (a:V):Bool:=match a with
 | .str _=>true
 |_=>false
noncomputable def rq (a:V):Bool:=match a with
 | .int _=>true
 |_=>false
noncomputable def uG (a:V):List V:=match a with
 | .tup l=>l
 |_=>[]
noncomputable def uw (l:List V):Bool:=match l with
 | [a,b,c,_]=>mA a&&(mA b&&rq c)
 |_=>false
noncomputable def iF (v:V):Bool:=uw (uG v)
theorem Aa {a:V}(h:mA a=true):∃x,a=.str x:=by
 induction a using V.casesOn with
 |str x=>exact⟨x,rfl⟩
 |_=>cases h
theorem Jc {a:V}(h:rq a=true):∃x,a=.int x:=by
 induction a using V.casesOn with
 |int x=>exact⟨x,rfl⟩
 |_=>cases h
theorem DB {a b:V}{r:List V}(h:uG a=b::r):a=.tup (b::r):=by
 induction a using V.casesOn with
 |tup l=>exact congrArg V.tup h
 |_=>cases h
theorem Dp {l:List V}(h:uw l=true):∃k w p v,l=[.str k,.str w,.int p,v]:=by
 cases l with
 |nil=>cases h
 |cons a l=>cases l with
  |nil=>cases h
  |cons b l=>cases l with
   |nil=>cases h
   |cons c l=>cases l with
    |nil=>cases h
    |cons d l=>induction l with
     |cons=>cases h
     |nil=>
      have h:(mA a&&(mA b&&rq c))=true:=h;have h1:=bb h;have h2:=bb h1.2;refine an (Aa h1.1) ?_;intro k ek;refine an (Aa h2.1) ?_;intro w ew;refine an (Jc h2.2) ?_;intro p ep;exact oR k w p d (by(erw [ek];erw [ew];erw [ep];with_reducible rfl))
theorem I6 {v:V}(h:iF v=true):∃k w p x,v=.tup [.str k,.str w,.int p,x]:=by
 refine tB (Dp h) ?_;intro k w p x e;exact oR k w p x (DB e)
noncomputable def kO:V->Bool
 | .tup [.str k,.str w,_,_]=>jM k w
 |_=>false
noncomputable def fy (fs:List V) (br:Option Nat):List V:=match br,fs.getLast? with
 |some b,some l=>if kO l=true then fs++[jv b] else fs
 |_,_=>fs
noncomputable def dg:Nat->List Nat->Nat->List V->Res (List V)
 | 0,_,_,_=>.out
 |n+1,s,a,fs=>if 1000000<fs.length then .out else match dP n s a none with
  | .ok (a1,br)=>
   if s.drop (a1-a)=[] then .ok (fy fs (f4 br (some a1))++[hZ a1])
   else(match e9 n (s.drop (a1-a)) a1 with
    | .ok (w,k)=>if(s.drop (a1-a)).length<k\/iF w=false then .out else dg n ((s.drop (a1-a)).drop k) (a1+k) (fy fs br++[w])
    | .err e=>.err e
    | .out=>.out)
  | .err e=>.err e
  | .out=>.out
set_option tactic.hygienic true in
theorem qA:∀(n:Nat) (s:List Nat) (a:Nat) (br:Option Nat) {p:Nat×Option Nat},dP n s a br=.ok p->a<=p.1/\p.1<=a+s.length
 | 0,s,a,br,p,h=>by unfold dP at h;cases h
 |n+1,[],a,br,p,h=>by unfold dP at h;cases h;exact⟨bw _,by simp⟩
 |n+1,c::r,a,br,p,h=>by
  unfold dP at h
  split at h
  ·have hr:=qm (g:=cH) (s:=c::r);have:=qA n _ _ _ h;rw [dJ] at this;exact bQ [run cH (c::r),(c::r).length,a,p.fst,(c::r).length-run cH (c::r)] [] (.le aa ae) (.and (.le (.a ai aa) aG) (.le aG (.a (.a ai aa) cb))) (.sb cb ae aa) (.and (.le ai aG) (.le aG (.a ai ae))) hr this (bg ((c::r).length) (run cH (c::r)))
  ·split at h
   ·rename_i h2
    have hlen:2<=(c::r).length:=by
     have:((c::r).take 2).length=2:=by(refine av h2 ?_ ?_<;>clear h2<;>intro h2)<;>(erw [h2])<;>rfl
     rw [List.length_take] at this;exact aL [(c::r).length,min 2 (c::r).length] [] (.eq ae (.k 2)) (.mn ae (.k 2) aa) (.le (.k 2) aa) this (eg (2) ((c::r).length))
    split at h
    ·rename_i k hk
     have hr:=yR hlen hk;have:=qA n _ _ _ h;rw [dJ] at this;exact bQ [k,(c::r).length,a,p.fst,(c::r).length-k] [] (.le aa ae) (.and (.le (.a ai aa) aG) (.le aG (.a (.a ai aa) cb))) (.sb cb ae aa) (.and (.le ai aG) (.le aG (.a ai ae))) hr this (bg ((c::r).length) (k))
    ·cases h
    ·cases h
   ·cases h;exact⟨bw _,by simp⟩
theorem Dq {fs:List V}{br:Option Nat}(h:∀w∈fs,iF w=true):∀w∈fy fs br,iF w=true:=by
 unfold fy
 split
 ·split
  ·intro w hw;refine av (dI hw) (fun hw=>?_) fun hw=>?_
   ·exact h w hw
   ·erw [List.mem_singleton.mp hw];rfl
  ·exact h
 ·exact h
def jz (Q:V->List Cell->Prop) (X:Exn->List Cell->Prop) (st:List Cell) (r:Res (List V)):Prop:=r.run (fun rows=>∀ex,Q (.obj st.length) (st++.list rows::ex)) (fun n=>∀ex,X ⟨45,n⟩ (st++ex))
def tL:bq:=fun vs st Q X=>∃(t:List Nat) (n:Nat),vs=[.str t]/\t.length<=sizeLine/\jz Q X st (dg n t 0 [])
def pf (t:List Nat) (st:List Cell) (Q:V->List Cell->Prop) (X:Exn->List Cell->Prop) (n:Nat) (S':St):Prop:=
 ∃(a:Nat) (fs:List V) (ex:List Cell) (u v:Option V),S'=⟨[some (.str t),some (.obj st.length),some (.int (a:Int)),u,v],st++.list fs::ex⟩/\a<=t.length/\(∀w∈fs,iF w=true)/\jz Q X st (dg n (t.drop a) a fs)
theorem ri (st:List Cell) (l:List V) (ex:List Cell):bY (st++.list l::ex) (.obj st.length)=some l:=fU (ge _ _ _)
set_option tactic.hygienic true in
theorem ta {F:Fx}{st ex:List Cell}{fs:List V}{e:ME}{a:V}{loc:List (Option V)}{Q:Fl->St->Prop}{X:XE}{k:Nat}(hk:loc[k]? = some (some (.obj st.length))) (hl:fs.length<sizeLine)
  (he:∀(Q':QE),Q' a ⟨loc,st++.list fs::ex⟩->aF F e ⟨loc,st++.list fs::ex⟩ Q' X) (h:Q .next ⟨loc,st++.list (fs++[a])::ex⟩) :
  dk F (.expr (.meth (.loc k) ("append":Str) [e])) ⟨loc,st++.list fs::ex⟩ Q X:=by
 show fe loc[k]? fun o=>dX F o ("append":Str) ⟨loc,st++.list fs::ex⟩ (fun Qs=>df F [e] ⟨loc,st++.list fs::ex⟩ Qs X) (fun uz S1=>Q .next S1) X
 (erw [hk];erw [au])
 refine oM (S:=⟨loc,st++.list fs::ex⟩) (n:=st.length) (ys:=fs) (ge _ _ _) ?_;refine he _ ?_;refine bv a fs rfl (ge _ _ _) hl ?_;unfold cX
 erw [lJ]
 exact h
set_option tactic.hygienic true in
theorem Eg (F:Fx) (h102:aO F 102 tV) (h179:aO F 179 tN) (h186:aO F 186 tM):∀vs st Q X,tL vs st Q X->bJ F 1 [] 5 sL vs st Q X:=by
 intro vs;intro st;intro Q;intro X;intro y160;refine aY y160 ?_;clear y160;intro t n y163 hsz hQ;subst y163;refine⟨rfl,?_⟩;try dsimp only [sL,bD,aV,aU,ck,cj,bV,bU,Nat.reduceAdd,Nat.reduceSub,cC,cg]
 try dsimp only [wX,aq,eJ,aV,aU,aB,bZ,gp,aD,bz,cw,aJ,aC,bn,bp,ay,ow,aT,aS]
 refine⟨rfl,?_⟩;refine kf (pf t st Q X) n (eD 0 ([]) ([]) none none rfl (Nat.zero_le _) (by simp) (by simpa using hQ)) ?_;clear hQ n;intro n;intro S';intro y80;refine ln y80 ?_;clear y80;intro a fs ex u v y86 ha hfs hQ;subst y86;try dsimp only [aq,aB,a9,DN,fw,bc]
 refine bT ?_;induction n with
 |zero=>exact hQ.elim
 |succ n=>
 unfold dg at hQ
 split at hQ
 ·exact hQ.elim
 rename_i hacc
 try dsimp only [wW,eJ,aV,aU,aB,aq,aN,aD,aC,ax,ay,ar,aA,bl,au]
 refine h102 _ _ _ _ (dG t a n rfl ha ?_);unfold nM;cases hb:dP n (t.drop a) a none with
 |err e=>rw [hb] at hQ;exact hQ _
 |out=>rw [hb] at hQ;exact hQ
 |ok p=>
 obtain⟨a1,br⟩:=p;rw [hb] at hQ;have hle:=qA _ _ _ _ hb;dsimp only at hQ hle;rw [dJ] at hle;rw [List.drop_drop,show a+(a1-a)=a1 by exact bQ [a,a1,t.length,t.length-a,a1-a] [] (.and (.le aa ae) (.le ae (.a aa aG))) (.sb aG ai aa) (.sb cb ae aa) (.eq (.a aa cb) ae) hle (bg (t.length) (a)) (bg (a1) (a))] at hQ
 erw [dz]
 try dsimp only [gp,aV,aU,cw,aJ,aT,aS]
 have hat:((a1:Nat):Int)=(t.length:Int)↔t.drop a1=[]:=by
  rw [List.drop_eq_nil_iff];omega
 have fin:∀(fs':List V) (b:V),(∀w∈fs',iF w=true)->fs'.length<=1000001->(if t.drop a1=[] then jz Q X st (.ok (fs'++[hZ a1])) else jz Q X st (match e9 n (t.drop a1) a1 with
    | .ok (w,k)=>if(t.drop a1).length<k\/iF w=false then .out else dg n ((t.drop a1).drop k) (a1+k) (fs'++[w])
    | .err e=>.err e
    | .out=>.out))->
   bN F [lO,lN,ny] ⟨[some (.str t),some (.obj st.length),some (.int (a1:Int)),some b,v],st++.list fs'::ex⟩ (kE (pf t st Q X) (n+1) (gv F [] (dO Q) (dc X))) (dc X):=by
  intro fs' b hf hfl h;try dsimp only [lO,aq,bt,a9,aB,bf,aN,aD,aC,ax,ay,cU,aA,ar,au,eH,jk,bc]
  try simp only [hat,bi,bE]
  refine⟨fun h1=>?_,fun h1=>?_⟩
  ·rw [if_pos h1] at h;refine ta (a:=hZ a1) rfl (by unfold sizeLine;exact al [fs'.length] [] (.le aa (.k 1000001)) (.lt aa (.k 16777216)) hfl) (fun Q' hq=>?_) ?_
   ·exact hq
   ·exact h ex
  ·rw [if_neg h1] at h;have hlt:a1<t.length:=by rw [List.drop_eq_nil_iff] at h1;exact al [t.length,a1] [] (.not (.le aa ae)) (.lt ae aa) h1
   try dsimp only [lN,eJ,aV,aU,aB,aq,aN,aD,aC,ax,ay,ar,aA,bl,au]
   refine h179 _ _ _ _ (ed t a1 n rfl hlt hsz ?_);unfold lT;cases hw:e9 n (t.drop a1) a1 with
   |err e=>
    rw [hw] at h
    erw [gw]
    intro ex'
    erw [List.append_assoc]
    exact h _
   |out=>rw [hw] at h;exact h
   |ok p=>
    obtain⟨w,k⟩:=p;rw [hw] at h;dsimp only at h
    erw [dz]
    intro ex'
    split at h
    ·exact h.elim
    rename_i hk
    simp only [not_or,Nat.not_lt,Bool.not_eq_false] at hk;refine af hk ?_;clear hk;intro hk1 hk2;rw [dJ] at hk1;try dsimp only [gp,aV,aU,cw,aJ,aT,aS]
    refine⟨rfl,?_⟩
    (erw [List.append_assoc];erw [List.cons_append])
    refine ta (fs:=fs') (a:=w) rfl (by unfold sizeLine;exact al [fs'.length] [] (.le aa (.k 1000001)) (.lt aa (.k 16777216)) hfl) (fun Q' hq=>?_) ?_
    ·exact hq
    ·rw [List.drop_drop] at h;refine(aj n (iN _) (eD (a1+k) (fs'++[w]) (ex++ex') _ _ rfl (bQ [a1,t.length,k,t.length-a1] [] (.lt aa ae) (.le ai aG) (.sb aG ae aa) (.le (.a aa ai) ae) hlt hk1 (bg (t.length) (a1))) ?_ h));intro x hx;refine av (dI hx) (fun hx=>?_) fun hx=>?_
     ·exact hf x hx
     ·erw [List.mem_singleton.mp hx];exact hk2
 have mid:∀(br1:Option Nat),(if t.drop a1=[] then jz Q X st (.ok (fy fs br1++[hZ a1])) else jz Q X st (match e9 n (t.drop a1) a1 with
    | .ok (w,k)=>if(t.drop a1).length<k\/iF w=false then .out else dg n ((t.drop a1).drop k) (a1+k) (fy fs br1++[w])
    | .err e=>.err e
    | .out=>.out))->
   bN F [qb,lO,lN,ny] ⟨[some (.str t),some (.obj st.length),some (.int (a1:Int)),some (gV br1),v],st++.list fs::ex⟩ (kE (pf t st Q X) (n+1) (gv F [] (dO Q) (dc X))) (dc X):=by
  intro br1 h;have stay:fy fs br1=fs->bN F [lO,lN,ny] ⟨[some (.str t),some (.obj st.length),some (.int (a1:Int)),some (gV br1),v],st++.list fs::ex⟩ (kE (pf t st Q X) (n+1) (gv F [] (dO Q) (dc X))) (dc X):=by
   intro e;rw [e] at h;exact fin fs _ hfs (al [fs.length] [] (.not (.lt (.k 1000000) aa)) (.le aa (.k 1000001)) hacc) h
  erw [aq]
  dsimp only [qb,bt,aq,a9,aB,fO,all_cons,all_nil,ki,aD,aC,bK,i6,ay,gO,ax,bl,bf,cV,bn,bp,pi,aA,ar,au,iP,ji,bc];refine⟨qG br1,?_⟩;induction br1 with
  |none=>
   refine⟨fun h=>absurd h (by decide),fun uz=>⟨fun h=>absurd h (by decide),fun uz=>stay rfl⟩⟩
  |some b=>
   refine⟨fun uz=>?_,fun h=>absurd h (by simp [gV,isNone])⟩;simp only [ji,ri,Option.some.injEq,exists_eq_left'];cases hl:fs.getLast? with
   |none=>
    have:fs=[]:=List.getLast?_eq_none_iff.mp hl
    subst this;refine⟨fun h=>absurd h (by decide),fun uz=>⟨fun h=>absurd h (by decide),fun uz=>stay rfl⟩⟩
   |some l=>
    have hne:fs≠[]:=fun e=>by rw [e] at hl;cases hl
    have hws:fy fs (some b)=if kO l=true then fs++[jv b] else fs:=by unfold fy;(erw [hl];with_reducible rfl)
    have hlw:=hfs l (List.mem_of_getLast? hl);have hlen:0<fs.length:=List.length_pos_iff.mpr hne;refine⟨fun uz=>?_,fun h=>absurd h (by simp [hne])⟩;try simp only [iP,ri,Option.some.injEq]
    refine ed fs (fs.length-1) l rfl ?_ (by(refine aZ (hl ..) ?_;erw [List.getLast?_eq_getElem?];with_reducible rfl)) ?_
    ·unfold seqIndex?;simp;omega
    refine tB (I6 hlw) ?_;intro kk ww pp vv y4;subst y4
    ·refine h186 _ _ _ _ (tp kk ww _ vv rfl ?_);cases he:jM kk ww with
     |true=>
      have hE:kO (.tup [.str kk,.str ww,.int pp,vv])=true:=he;refine⟨fun uz=>⟨fun uz=>?_,fun h=>absurd h (by decide)⟩,fun h=>absurd h (by decide)⟩;rw [hws,if_pos hE] at h;refine ta (a:=jv b) rfl (by unfold sizeLine;exact al [fs.length] [] (.not (.lt (.k 1000000) aa)) (.lt aa (.k 16777216)) hacc) (fun Q' hq=>?_) ?_
      ·exact hq
      ·(erw [aB];erw [a9];erw [aB])
       refine fin _ _ ?_ (by simp;exact al [fs.length] [] (.not (.lt (.k 1000000) aa)) (.le aa (.k 1000000)) hacc) h;rw [←if_pos (c:=kO (.tup [.str kk,.str ww,.int pp,vv])=true) (t:=fs++[jv b]) (e:=fs) hE,←hws];exact Dq hfs
     |false=>
      have hE:kO (.tup [.str kk,.str ww,.int pp,vv])=false:=he;refine⟨fun h=>absurd h (by decide),fun uz=>⟨fun h=>absurd h (by decide),fun uz=>?_⟩⟩;refine stay ?_
      (erw [hws];erw [hE]);rfl
 try dsimp only [wV,bt,aq,a9,aB,fO,all_cons,all_nil,bf,ay,un,ax,aN,aD,aC,cU,aA,ar,au,eH,jk,bc]
 try simp only [hat,bi,dj,fv,dK,and_true,cM,true_and,bE]
 refine⟨fun h1=>?_,fun h1=>?_⟩
 ·rw [if_pos h1] at hQ;refine⟨qG br,?_⟩;have:=mid (f4 br (some a1)) (by erw [if_pos h1];exact hQ);rw [aq] at this;induction br with
  |none=>
   refine⟨fun uz=>?_,fun h=>absurd h (by decide)⟩;refine E3 (a:=.int a1) rfl ?_
   (erw [aB];erw [a9];erw [aB];erw [aq])
   exact this
  |some b=>exact⟨fun h=>absurd h (by simp [gV,isNone]),fun uz=>this⟩
 ·rw [if_neg h1] at hQ;have:=mid br (by erw [if_neg h1];exact hQ);rw [aq] at this;exact this
noncomputable def wf (rows:List V) (k:Nat):List (Str×V):=[(("rows":Str),.lst rows),(("at":Str),.int (k:Int)),(("expr_reader":Str),.none),(("body_reader":Str),.none)]
theorem uy (rows:List V) (k:Nat):(wf rows k).lookup ("rows":Str)=some (.lst rows):=rfl
theorem pw (rows:List V) (k:Nat):(wf rows k).lookup ("at":Str)=some (.int (k:Int)):=rfl
def o9:bq:=fun vs st Q uz=>∃(n:Nat) (a:V) (rows:List V),vs=[.obj n,a]/\st[n]? = some (.inst 254 [])/\bY st a=some rows/\Q .none (st.set n (.inst 254 (wf rows 0)))
def jq (F:Fx):Prop:=F.field 254 ("rows":Str)=true/\F.field 254 ("at":Str)=true/\F.field 254 ("expr_reader":Str)=true/\F.field 254 ("body_reader":Str)=true
theorem Ee (F:Fx) (hw:jq F):∀vs st Q X,o9 vs st Q X->bJ F 2 [] 2 sJ vs st Q X:=by
 intro vs;intro st;intro Q;intro X;intro y160;refine f0 y160 ?_;clear y160;intro n a rows y164 h1 h2 hQ;subst y164;refine⟨rfl,?_⟩;refine ig hw ?_;clear hw;intro w1 w2 w3 w4;try dsimp only [sJ,bD,aV,aU,ck,cj,bV,bU,Nat.reduceAdd,Nat.reduceSub,cC,cg]
 try simp only [cz]
 have hlt:=(ce h1).1;try dsimp only [wT,wS,wR,wQ,aq,Dv,aB,a9,ax,ay,aN,aD,aC,aA,ar,e7,C7,au,bc]
 refine(aj rows h2 (gm n 254 _ rfl h1 w1 (by decide) ?_));simp only [cX];refine gm n 254 _ rfl (fu hlt) w2 ((by show 1<100;decide)) ?_
 erw [List.set_set]
 refine gm n 254 _ rfl (fu hlt) w3 ((by show 2<100;decide)) ?_
 erw [List.set_set]
 refine gm n 254 _ rfl (fu hlt) w4 ((by show 3<100;decide)) ?_
 erw [List.set_set]
 exact hQ
def ls:bq:=fun vs st Q uz=>∃(a:V) (rows:List V),vs=[a]/\bY st a=some rows/\Q (.obj st.length) (st++[.inst 254 (wf rows 0)])
theorem IH {st ex:List Cell}{a:V}{l:List V}(h:bY st a=some l):bY (st++ex) a=some l:=by
 induction a using V.casesOn with
 |obj n=>
  refine ag (gl h) ?_;intro c hc e;cases zU e;exact fU ((dT (ce hc).1).trans hc)
 |_=>exact h
theorem D6:∀vs st Q X,ls vs st Q X->o9 (.obj st.length::vs) (st++[.inst 254 []]) (fun a st'=>a=.none/\Q (.obj st.length) st') X:=by
 intro vs;intro st;intro Q;intro X;intro y160;refine aY y160 ?_;clear y160;intro a rows y163 h hQ;subst y163;exact gm _ a rows rfl (by simp) (IH h) rfl (by simpa using hQ)
def pb:bq:=fun vs st Q X=>∃(t:List Nat) (n:Nat),vs=[.str t]/\t.length<=sizeLine/\(dg n t 0 []).run (fun rows=>∀ex,Q (.obj (st++ex).length) (st++ex++[.inst 254 (wf rows 0)])) (fun e=>∀ex,X ⟨45,e⟩ (st++ex))
theorem Ef (F:Fx) (h193:aO F 193 tL) (h254:aO F 254 ls):∀vs st Q X,pb vs st Q X->bJ F 1 [] 1 sK vs st Q X:=by
 intro vs;intro st;intro Q;intro X;intro y160;refine aY y160 ?_;clear y160;intro t n y163 hsz hQ;subst y163;refine⟨rfl,?_⟩;try dsimp only [sK,bD,aV,aU,ck,cj,bV,bU,Nat.reduceAdd,Nat.reduceSub,cC,cg]
 try simp only [cz]
 try dsimp only [wU,aq,bH,bI,aN,aD,aC,ax,ay,bl,ar,au,bG]
 refine h193 _ _ _ _ (bj t n rfl hsz ?_);unfold jz;cases hr:dg n t 0 [] with
 |err e=>rw [hr] at hQ;exact hQ
 |out=>rw [hr] at hQ;exact hQ
 |ok rows=>
  rw [hr,dz] at hQ
  erw [dz]
  intro ex;refine h254 _ _ _ _ (bj (.obj st.length) rows rfl (ri _ _ _) ?_);exact hQ (.list rows::ex)
noncomputable def dh (rows:List V) (k:Nat):Option V:=rows[min k (rows.length-1)]?
def eY:bq:=fun vs st Q uz=>∃(n k j:Nat) (rows:List V) (w:V),(vs=[.obj n,.int j]\/(vs=[.obj n]/\j=0))/\st[n]? = some (.inst 254 (wf rows k))/\dh rows (k+j)=some w/\Q w st
theorem uO (F:Fx) (hw:jq F):∀(n k j:Nat) (rows:List V) (w:V) st (Q:V->List Cell->Prop) (X:Exn->List Cell->Prop),st[n]? = some (.inst 254 (wf rows k))->dh rows (k+j)=some w->Q w st->
  bN F kX ⟨[some (.obj n),some (.int (j:Int))],st⟩ (dO Q) (dc X):=by
 intro n k j rows w st Q X h1 h2 hQ;refine ig hw ?_;clear hw;intro w1 w2 w3 w4;have hlen:0<rows.length:=by
  unfold dh at h2;have:=(ce h2).1;exact al [min (k+j) (rows.length-1),rows.length] [] (.lt aa ae) (.lt (.k 0) ae) this
 try dsimp only [kX,wP,aq,bH,bI,bK,aN,aD,aC,bh,ay,KA,ax,cU,ar,aA,au,bG]
 refine(gm 254 _ _ h1 (uy _ _) w1 (by simp) (gm 254 _ _ h1 (pw _ _) w2 (by simp) ?_));refine gm 254 _ _ h1 (uy _ _) w1 (by simp) ?_;try simp only [m5,j7,uj,iQ]
 have e:(if(rows.length:Int)-1<(k:Int)+(j:Int) then(rows.length:Int)-1 else(k:Int)+(j:Int))=((min (k+j) (rows.length-1):Nat):Int):=by
  split<;>omega
 erw [e]
 exact bj _ w (dN (bQ [rows.length,k,j,rows.length-1,min (k+j) (rows.length-1)] [] (.lt (.k 0) aa) (.sb aG aa (.k 1)) (.mn cb (.a ae ai) aG) (.lt cb aa) hlen (bg (rows.length) (1)) (eg (k+j) (rows.length-1)))) h2 hQ
theorem Ed (F:Fx) (hw:jq F):∀vs st Q X,(vs.length=1/\eY vs st Q X)->bJ F 1 [.int 0] 2 kX vs st Q X:=by
 intro vs;intro st;intro Q;intro X;intro y160;refine af y160 ?_;clear y160;intro hl y162;refine ln y162 ?_;clear y162;intro n k j rows w hv h1 h2 hQ;refine av hv ?_ ?_<;>clear hv
 ·rintro rfl;cases hl
 ·intro y0;refine af y0 ?_;clear y0;intro y1 y2;subst y1 y2;exact⟨rfl,uO F hw n k 0 rows w st Q X h1 h2 hQ⟩
theorem Ec (F:Fx) (hw:jq F):∀vs st Q X,(vs.length=2/\eY vs st Q X)->bJ F 2 [] 2 kX vs st Q X:=by
 intro vs;intro st;intro Q;intro X;intro y160;refine af y160 ?_;clear y160;intro hl y162;refine ln y162 ?_;clear y162;intro n k j rows w hv h1 h2 hQ;refine av hv ?_ ?_<;>clear hv
 ·rintro rfl;exact⟨rfl,uO F hw n k j rows w st Q X h1 h2 hQ⟩
 ·intro y0;refine af y0 ?_;clear y0;intro y1 y2;subst y1 y2;cases hl
noncomputable def i5:List Nat:=[101,110,100]
noncomputable def dm:List Nat:=[115,105,103,110]
def gt (F:Fx):Prop:=F.meth 254 ("peek":Str)=some 222/\F.meth 254 ("take":Str)=some 229/\F.meth 254 ("looks":Str)=some 237/\F.meth 254 ("expect":Str)=some 244
theorem dM (rows:List V) (k:Nat):(wf rows k).lookup ("peek":Str)=none/\(wf rows k).lookup ("take":Str)=none/\(wf rows k).lookup ("looks":Str)=none/\(wf rows k).lookup ("expect":Str)=none/\(wf rows k).lookup ("name":Str)=none:=(jY rfl rfl rfl rfl rfl)
noncomputable def im (st:List Cell) (n:Nat) (rows:List V) (k:Nat) (kd:List Nat):List Cell:=if kd=i5 then st else st.set n (.inst 254 (wf rows (k+1)))
def lw:bq:=fun vs st Q uz=>∃(n k:Nat) (rows:List V) (kd t:List Nat) (p v:V),vs=[.obj n]/\st[n]? = some (.inst 254 (wf rows k))/\dh rows k=some (.tup [.str kd,.str t,p,v])/\Q (.tup [.str kd,.str t,p,v]) (im st n rows k kd)
theorem Eb (F:Fx) (hw:jq F) (hm:gt F) (h222:aO F 222 eY):∀vs st Q X,lw vs st Q X->bJ F 1 [] 2 sI vs st Q X:=by
 intro vs;intro st;intro Q;intro X;intro y160;refine tz y160 ?_;clear y160;intro n k rows kd t p v y168 h1 h2 hQ;subst y168;refine⟨rfl,?_⟩;try dsimp only [sI,bD,aV,aU,ck,cj,bV,bU,Nat.reduceAdd,Nat.reduceSub,cC,cg]
 try simp only [cz]
 try dsimp only [wO,aq,bk,aJ,aB,cR,aC,ax,ar,au]
 refine dQ h1 hm.1 (dM rows k).1 (h222 _ _ _ _ (eD n k 0 rows _ (.inr ⟨rfl,rfl⟩) h1 h2 ?_));try dsimp only [wN,aT,aS,wL,bt,aq,a9,aB,bH,bI,ax,bf,ay,bK,aA,ar,au,ik,j9,bG,bc]
 try simp only [cN,bE,eZ,bi]
 unfold im at hQ;refine⟨fun h=>?_,fun h=>?_⟩
 ·rw [if_neg (show ¬kd=i5 from h)] at hQ;try dsimp only [wM,uC,ar,aB,a9,aq,bH,bI,ax,j8,ay,gO,bG,bc]
  try simp only [Option.some.injEq,V.obj.injEq,true_and]
  exact mR n 254 (wf rows k) k rfl h1 (pw _ _) hw.2.1 (by show 4<100;decide) hQ
 ·rw [if_pos (show kd=i5 from h)] at hQ;exact hQ
noncomputable def e8:List (List Nat):=[dm,fF,my]
noncomputable def fT (kd t tx:List Nat):Bool:=e8.contains kd&&decide (t=tx)
def ij:bq:=fun vs st Q uz=>∃(n k j:Nat) (rows:List V) (kd t tx:List Nat) (p v:V),(vs=[.obj n,.str tx,.int j]\/(vs=[.obj n,.str tx]/\j=0))/\st[n]? = some (.inst 254 (wf rows k))/\dh rows (k+j)=some (.tup [.str kd,.str t,p,v])/\Q (.bool (fT kd t tx)) st
theorem uN (F:Fx) (hm:gt F) (h222:aO F 222 eY):∀(n k j:Nat) (rows:List V) (kd t tx:List Nat) (p v:V) st (Q:V->List Cell->Prop) (X:Exn->List Cell->Prop),st[n]? = some (.inst 254 (wf rows k))->dh rows (k+j)=some (.tup [.str kd,.str t,p,v])->Q (.bool (fT kd t tx)) st->
  bN F kW ⟨[some (.obj n),some (.str tx),some (.int (j:Int)),none],st⟩ (dO Q) (dc X):=by
 intro n k j rows kd t tx p v st Q X h1 h2 hQ;try dsimp only [kW,wK,aq,bk,aJ,aB,cR,aD,aC,ax,ar,aA,au]
 refine dQ h1 hm.1 (dM rows k).1 (h222 _ _ _ _ (eD n k j rows _ (.inl rfl) h1 h2 ?_));try dsimp only [wJ,aT,aS,bH,bI,mF,mO,mN,gh,ax,bK,ay,fw,bZ,aD,bz,aC,bn,bp,aA,ar,au,jg,dw,ik,jj,bG]
 unfold fT at hQ;try simp only [jj]
 refine aj e8 rfl ?_;cases h:e8.contains kd with
 |true=>
  rw [h,Bool.true_and] at hQ;refine⟨fun uz=>?_,fun h=>absurd h (by decide)⟩;try simp only [dw]
  exact hQ
 |false=>
  rw [h,Bool.false_and] at hQ;exact⟨fun h=>absurd h (by decide),fun uz=>hQ⟩
theorem Ea (F:Fx) (hm:gt F) (h222:aO F 222 eY):∀vs st Q X,(vs.length=2/\ij vs st Q X)->bJ F 2 [.int 0] 4 kW vs st Q X:=by
 intro vs;intro st;intro Q;intro X;intro y160;refine af y160 ?_;clear y160;intro hl y162;refine CJ y162 ?_;clear y162;intro n k j rows kd t tx p v hv h1 h2 hQ;refine av hv ?_ ?_<;>clear hv
 ·rintro rfl;cases hl
 ·intro y0;refine af y0 ?_;clear y0;intro y1 y2;subst y1 y2;exact⟨rfl,uN F hm h222 n k 0 rows kd t tx p v st Q X h1 h2 hQ⟩
theorem D9 (F:Fx) (hm:gt F) (h222:aO F 222 eY):∀vs st Q X,(vs.length=3/\ij vs st Q X)->bJ F 3 [] 4 kW vs st Q X:=by
 intro vs;intro st;intro Q;intro X;intro y160;refine af y160 ?_;clear y160;intro hl y162;refine CJ y162 ?_;clear y162;intro n k j rows kd t tx p v hv h1 h2 hQ;refine av hv ?_ ?_<;>clear hv
 ·rintro rfl;exact⟨rfl,uN F hm h222 n k j rows kd t tx p v st Q X h1 h2 hQ⟩
 ·intro y0;refine af y0 ?_;clear y0;intro y1 y2;subst y1 y2;cases hl
def lv:bq:=fun vs st Q X=>∃(n k:Nat) (rows:List V) (kd t tx:List Nat) (p:Int) (v:V),vs=[.obj n,.str tx]/\tx.length<=1000000/\st[n]? = some (.inst 254 (wf rows k))/\dh rows k=some (.tup [.str kd,.str t,.int p,v])/\
 (if fT kd t tx=true then Q (.tup [.str kd,.str t,.int p,v]) (im st n rows k kd) else X ⟨57,p⟩ st)
theorem D8 (F:Fx) (hx:F.exc 57=true) (hm:gt F) (h222:aO F 222 eY) (h229:aO F 229 lw) (h237:aO F 237 ij):∀vs st Q X,lv vs st Q X->bJ F 2 [] 2 sH vs st Q X:=by
 intro vs;intro st;intro Q;intro X;intro y160;obtain⟨n,k,rows,kd,t,tx,p,v,y169,hl,h1,h2,hQ⟩:=y160;subst y169;refine⟨rfl,?_⟩;try dsimp only [sH,bD,aV,aU,ck,cj,bV,bU,Nat.reduceAdd,Nat.reduceSub,cC,cg]
 try simp only [cz]
 try dsimp only [wI,aq,bt,a9,aB,js,DM,aD,aC,ax,ar,aA,au,bc]
 try simp only [cN,eZ]
 refine dQ h1 hm.2.2.1 (dM rows k).2.2.1 (h237 _ _ _ _ (tm n k 0 rows kd t tx (.int p) v (.inr ⟨rfl,rfl⟩) h1 h2 ?_));refine⟨fun h=>?_,fun h=>?_⟩
 ·rw [h] at hQ;try dsimp only [wH,eK,aD,aC,bK,ay,cR,ax,bh,aA,ar,au,fM,aV,aU,eN]
  refine aI hx (by simp [sizeLine];exact al [tx.length] [] (.le aa (.k 1000000)) (.le aa (.k 16777205)) hl) (dQ h1 hm.1 (dM rows k).1 (h222 _ _ _ _ (eD n k 0 rows _ (.inr ⟨rfl,rfl⟩) h1 h2 ?_)));exact hQ
 ·rw [h,if_pos rfl] at hQ;try dsimp only [wG,bH,bI,cR,aC,ax,ar,au,bG]
  exact dQ h1 hm.2.1 (dM rows k).2.1 (h229 _ _ _ _ (lf n k rows kd t (.int p) v rfl h1 h2 hQ))
def lu:bq:=fun vs st Q X=>∃(n k:Nat) (rows:List V) (kd t:List Nat) (p:Int) (v:V),vs=[.obj n]/\st[n]? = some (.inst 254 (wf rows k))/\dh rows k=some (.tup [.str kd,.str t,.int p,v])/\
 (if kd=fF then Q (.tup [.str t,.int p]) (st.set n (.inst 254 (wf rows (k+1)))) else X ⟨57,p⟩ st)
theorem D7 (F:Fx) (hx:F.exc 57=true) (hw:jq F) (hm:gt F) (h222:aO F 222 eY):∀vs st Q X,lu vs st Q X->bJ F 1 [] 2 sG vs st Q X:=by
 intro vs;intro st;intro Q;intro X;intro y160;refine tz y160 ?_;clear y160;intro n k rows kd t p v y168 h1 h2 hQ;subst y168;refine⟨rfl,?_⟩;try dsimp only [sG,bD,aV,aU,ck,cj,bV,bU,Nat.reduceAdd,Nat.reduceSub,cC,cg]
 try simp only [cz]
 try dsimp only [wF,aq,bk,aJ,aB,cR,aC,ax,ar,au]
 refine dQ h1 hm.1 (dM rows k).1 (h222 _ _ _ _ (eD n k 0 rows _ (.inr ⟨rfl,rfl⟩) h1 h2 ?_));try dsimp only [wE,aT,aS,bt,aq,a9,aB,bf,ay,bK,ax,aA,ar,au,ik,j9,bc]
 try simp only [cN,bE,eZ,bi]
 refine⟨fun h=>?_,fun h=>?_⟩
 ·rw [if_neg (show ¬kd=fF from h)] at hQ;try dsimp only [wD,eK,aD,aC,bK,ay,ax,aA,ar,au,pg,eU,eN]
  exact⟨hx,hQ⟩
 ·rw [if_pos (show kd=fF from h)] at hQ;try dsimp only [wC,uC,ar,aB,aq,j8,ay,gO]
  try simp only [Option.some.injEq,V.obj.injEq,true_and]
  refine mR n 254 (wf rows k) k rfl h1 (pw _ _) hw.2.1 (by show 4<100;decide) ?_;exact hQ
section
def Src (st:List Cell) (n:Nat):Prop:=∃x y:Int,0<=x/\0<=y/\y<2147483647/\st[n]? = some (.list [.int x,.int y])
structure Ext (n:Nat) (st st':List Cell):Prop where
 src:Src st' n
 len:st.length<=st'.length
 same:∀m,m<st.length->m≠n->st'[m]? = st[m]?
theorem Ext.refl {n:Nat}{st:List Cell}(h:Src st n):Ext n st st:=⟨h,bw _,fun uz uz uz=>rfl⟩
theorem Ext.trans {n:Nat}{a b c:List Cell}(h1:Ext n a b) (h2:Ext n b c):Ext n a c:=⟨h2.src,aW h1.len h2.len,fun m hm hn=>(h2.same m (bA hm h1.len) hn).trans (h1.same m hm hn)⟩
theorem Src.lt {st:List Cell}{n:Nat}(h:Src st n):n<st.length:=by(refine b0 h ?_;clear h;intro x y _ _ _ h);exact(ce h).1
theorem Src.app {st ex:List Cell}{n:Nat}(h:Src st n):Src (st++ex) n:=by
 refine b0 h ?_;clear h;intro x y a b c d;exact bv x y a b c (by erw [dT (ce d).1];exact d)
theorem Ext.app {st st' ex:List Cell}{n:Nat}(h:Ext n st st'):Ext n st (st'++ex):=⟨h.src.app,by erw [cf];exact aW h.len (Nat.le_add_right _ _),fun m hm hn=>by
 erw [dT (bA hm h.len)];exact h.same m hm hn⟩
theorem Ext.put {st:List Cell}{n:Nat}{x y:Int}(h:Src st n) (h0:0<=x) (h1:0<=y) (h2:y<2147483647):Ext n st (st.set n (.list [.int x,.int y])):=
 ⟨(bv x y h0 h1 h2 (fu h.lt)),by simp,fun m hm hn=>iO (Ne.symm hn)⟩
theorem Ext.other {st st':List Cell}{n m:Nat}{c:Cell}(h:Ext n st st') (hm:m≠n) (hl:st.length<=m):Ext n st (st'.set m c):=by
 refine⟨?_,by erw [List.length_set];exact h.len,fun k hk hn=>?_⟩
 ·refine b0 h.src ?_;intro x y a b c' d;exact bv x y a b c' (by erw [iO hm];exact d)
 ·rw [iO (by exact aL [st.length,m,k] [] (.le aa ae) (.lt ai aa) (.not (.eq ae ai)) hl hk)];exact h.same k hk hn
def iM:bq:=fun vs st Q uz=>∃(n:Nat) (top:Int),vs=[.obj n,.int top]/\Src st n/\0<top/\∀(f:Int) st',0<=f->f<top->Ext n st st'->Q (.int f) st'
theorem uE {st:List Cell}{n:Nat}{x y:Int}(h:st[n]? = some (.list [.int x,.int y])):bY st (.obj n)=some [.int x,.int y]:=fU h
set_option tactic.hygienic true in
theorem LI {x:Int}(h0:0<=x) (h1:x<2147483647):Builtin.Int.intBits x<=64:=by
 unfold Builtin.Int.intBits
 split
 ·exact aH [] [] (.le (.k 0) (.k 64))
 ·rename_i h
  have hx:x≠0:=by simpa using h
  have:x.natAbs.log2<31:=(Nat.log2_lt (by omega)).mpr (by omega)
  exact al [x.natAbs.log2] [] (.lt aa (.k 31)) (.le (.a aa (.k 1)) (.k 64)) this
theorem D3 (F:Fx):∀vs st Q X,iM vs st Q X->bJ F 2 [] 3 sF vs st Q X:=by
 intro vs;intro st;intro Q;intro X;intro y160;refine b0 y160 ?_;clear y160;intro n top y163 hs htop hQ;subst y163;refine⟨rfl,?_⟩;refine b0 (id hs) ?_;intro x y h0 h1 h2 hc;have hl:=uE hc;try dsimp only [sF,bD,aV,aU,ck,cj,bV,bU,Nat.reduceAdd,Nat.reduceSub,cC,cg]
 try simp only [cz]
 try dsimp only [wA,aq,bt,a9,aB,bf,ay,bK,ax,ar,au,iP,bc]
 refine ed _ 0 (.int x) hl rfl rfl ?_;refine⟨fun hx=>?_,fun hx=>?_⟩
 ·try dsimp only [wz,wy,wv,bk,aJ,aB,aq,uB,bH,bI,ax,ay,bh,bK,ar,aA,aT,aS,au,iP,bG]
  refine ed _ 0 (.int x) hl rfl rfl ?_;refine⟨htop,_,0,.int x,hl,rfl,rfl,?_⟩;refine⟨htop,_,_,_,rfl,hc,rfl,by decide,by simp,?_⟩;exact hQ _ _ (Int.emod_nonneg _ (al [] [top] (.Lt (.k 0) aw) (.not (.Eq aw (.k 0))) htop)) (Int.emod_lt_of_pos _ htop) (Ext.put hs (Int.ediv_nonneg h0 (al [] [top] (.Lt (.k 0) aw) (.Le (.k 0) aw) htop)) h1 h2)
 ·try dsimp only [wu,uB,aB,aq,ay,ax,bh,bK,ar,au,iP]
  refine ed _ 1 (.int y) hl rfl rfl ?_;refine(aI (IntMulOk.of_right (by decide)) (by decide) (jX _ _ _ rfl hc rfl (by decide) (by simp) ?_));try dsimp only [wt,bH,bI,bh,ax,ay,bK,bG]
  have hy0:0<=(y*39373+7) % 2147483647:=Int.emod_nonneg _ (by decide);have hy1:(y*39373+7) % 2147483647<2147483647:=Int.emod_lt_of_pos _ (by decide);generalize (y*39373+7) % 2147483647=y' at hy0 hy1⊢;have hE:Ext n st (st.set n (.list [.int x,.int y'])):=Ext.put hs h0 hy0 hy1;have hc':(st.set n (.list [.int x,.int y']))[n]? = some (.list [.int x,.int y']):=fu hs.lt;have hl':=uE hc';refine(ed _ 1 (.int y') hl' rfl rfl (ed _ 1 (.int y') hl' rfl rfl ?_));refine jY ?_ (by decide) (by decide) htop ?_
  ·exact IntMulOk.of_right (LI hy0 hy1)
  ·exact hQ _ _ (Int.emod_nonneg _ (al [] [top] (.Lt (.k 0) aw) (.not (.Eq aw (.k 0))) htop)) (Int.emod_lt_of_pos _ htop) hE
def ii:bq:=fun vs st Q uz=>∃(n:Nat) (things:List V),vs=[.obj n,.lst things]/\Src st n/\things≠[]/\∀(a:V) st',a∈things->Ext n st st'->Q a st'
theorem D2 (F:Fx) (h272:aO F 272 iM):∀vs st Q X,ii vs st Q X->bJ F 2 [] 2 sE vs st Q X:=by
 intro vs;intro st;intro Q;intro X;intro y160;refine b0 y160 ?_;clear y160;intro n things y163 hs hne hQ;subst y163;refine⟨rfl,?_⟩;try dsimp only [sE,wr,bV,bU,bD,ck,cj,aV,aU,Nat.reduceAdd,Nat.reduceSub,cg,aq,bH,bI,bK,aN,aD,aC,ax,ay,cU,bl,aA,ar,au,m5,bG]
 have hl:0<things.length:=List.length_pos_iff.mpr hne;refine h272 _ _ _ _ (bv n things.length rfl hs (al [things.length] [] (.lt (.k 0) aa) (.Lt (.k 0) (.c aa)) hl) (fun f st' h0 h1 hE=>?_));refine an (Int.eq_ofNat_of_zero_le h0) ?_;intro k y1;subst y1;have hk:k<things.length:=by exact al [k,things.length] [] (.Lt (.c aa) (.c ae)) (.lt aa ae) h1
 exact bj k (things[k]) (dN hk) (eT hk) (hQ _ _ (List.getElem_mem hk) hE)
def tK:bq:=fun vs st Q uz=>∃(is:List Int),vs=[.lst (is.map .int),.int 0]/\∀x y:Int,0<=x->0<=y->y<2147483647->Q (.obj st.length) (st++[.list [.int x,.int y]])
theorem D4 (F:Fx):∀(is:List Int) st (Q:V->List Cell->Prop) (X:Exn->List Cell->Prop),(∀x y:Int,0<=x->0<=y->y<2147483647->Q (.obj st.length) (st++[.list [.int x,.int y]]))->bJ F 2 [] 5 oH [.lst (is.map .int),.int 0] st Q X:=by
 intro is st Q X hQ;refine⟨rfl,?_⟩;try dsimp only [oH,bD,aV,aU,ck,cj,bV,bU,Nat.reduceAdd,Nat.reduceSub,cC,cg]
 try simp only [cz]
 have tail:∀c:Int,bN F [qa,p0,pZ] ⟨[some (.lst (is.map .int)),some (.int 0),some (.int c),none,none],st⟩ (dO Q) (dc X):=by
  intro c
  erw [aq]
  try dsimp only [qa,bk,aJ,aN,aD,aC,bh,ax,i6,ay,gO,aA,ar,cU,au,j7,C6,aT,aS]
  (erw [aB];erw [aq])
  have hbig:0<=(if c < -1-c then -1-c else c):=by split<;>omega
  generalize (if c < -1-c then -1-c else c)=big at hbig⊢;try dsimp only [p0,bk,aJ,bh,ay,ax,aA,ar,aT,aS,au,ph,m4,cA]
  refine CF (by decide) (IntMulOk.of_right (by decide)) (IntMulOk.of_right (by decide)) (IntMulOk.of_right (by decide)) (IntMulOk.of_right (by decide)) (by decide) ?_
  (erw [aB];erw [aq])
  try dsimp only [pZ,bH,ow,aD,bz,aC,bn,bp,ax,fG,ay,bf,bh,lx,aA,ar,au,lA,bG]
  refine aI (by decide) (by decide) ?_;have hy0:=Int.emod_nonneg ((big % 2147483629+7919*0*0+31*0+17)*48271) (show(2147483647:Int)≠0 by decide);have hy1:=Int.emod_lt_of_pos ((big % 2147483629+7919*0*0+31*0+17)*48271) (show(0:Int)<2147483647 by decide);exact⟨fun uz=>hQ _ _ hbig hy0 hy1,fun uz=>hQ _ _ (by decide) hy0 hy1⟩
 erw [aq]
 try dsimp only [wB,bk,aJ,fG,bK,ax,ay,bf,aN,aD,aC,cU,aA,ar,au,m5,aT,aS,iQ,gN]
 try simp only [bi,bE]
 refine⟨fun h=>?_,fun h=>?_⟩
 ·have hlt:0<(is.map V.int).length:=by exact al [(List.map V.int is).length] [] (.Lt (.k 0) (.c aa)) (.lt (.k 0) aa) h
  have hlt':0<is.length:=by simpa using hlt
  refine bj 0 (.int is[0]) (dN (a:=0) hlt) (by(erw [List.getElem?_map];erw [eT hlt']);rfl) ?_
  erw [aB]
  exact tail is[0]
 ·erw [aB]
  exact tail 0
theorem D5 (F:Fx):∀vs st Q X,tK vs st Q X->bJ F 2 [] 5 oH vs st Q X:=by
 intro vs;intro st;intro Q;intro X;intro y160;refine ag y160 ?_;clear y160;intro is y162 hQ;subst y162;exact D4 F is st Q X hQ
noncomputable def fW:List (List Nat):=[[32],[9,32],[13],[32,47,42,32,47,47,32,39,32,42,47,32],[32,47,42,42,47,32],[32,47,42,32,34,32,47,42,32,42,47,32]]
def mX:bq:=fun vs st Q uz=>∃n,vs=[.obj n]/\Src st n/\∀g st',g∈fW->Ext n st st'->Q (.str g) st'
theorem DX (F:Fx) (h279:aO F 279 ii):∀vs st Q X,mX vs st Q X->bJ F 1 [] 1 sA vs st Q X:=by
 intro vs;intro st;intro Q;intro X;intro y160;refine a8 y160 ?_;clear y160;intro n y162 hs hQ;subst y162;refine⟨rfl,?_⟩;try dsimp only [sA,vS,bV,bU,bD,ck,cj,aV,aU,Nat.reduceAdd,Nat.reduceSub,cg,aq,bH,bI,aN,aD,aC,cV,bz,bn,bp,ay,ax,ar,bl,au,bG]
 refine h279 _ _ _ _ (bv n _ rfl hs (by simp) (fun a st' ha hE=>?_));have:a∈fW.map V.str:=ha;refine ag (List.mem_map.mp this) ?_;intro g hg y2;subst y2;exact hQ g st' hg hE
def oY:bq:=fun vs st Q uz=>∃(k w:List Nat) (p v:V),vs=[.tup [.str k,.str w,p,v]]/\Q (.bool (jM k w)) st
theorem DV (F:Fx):∀vs st Q X,oY vs st Q X->bJ F 1 [] 1 sy vs st Q X:=by
 intro vs;intro st;intro Q;intro X;intro y160;refine mT y160 ?_;clear y160;intro k w p v y165 hQ;subst y165;refine⟨rfl,?_⟩;try dsimp only [sy,vM,vL,vK,bV,bU,bD,ck,cj,aV,aU,Nat.reduceAdd,Nat.reduceSub,cg,aq,bt,bH,bI,ay,a9,aB,gh,cV,aD,bz,aC,bn,bp,bK,ax,bf,ar,au,jg,ke,ik,bG,bc]
 unfold jM at hQ;try simp only [ke]
 refine aj mr rfl ?_;cases h:mr.contains k with
 |true=>
  rw [h] at hQ;exact⟨fun uz=>hQ,fun h=>absurd h (by decide)⟩
 |false=>
  rw [h,Bool.false_or] at hQ;refine⟨fun h=>absurd h (by decide),fun uz=>?_⟩;try simp only [ke]
  exact aj ou rfl hQ
end
section
noncomputable def jW:List (List Nat×Int):=[([],10),([48,120],16),([48,88],16),([48,111],8),([48],8),([48,98],2),([48,98,95],2),([48,95],8)]
structure Figs (base v:Int) (s:List Nat):Prop where
 ne:∃c r,s=c::r/\c∈db/\c≠48
 chars:∀c∈s,c∈db\/c=95
 last:s.getLast?≠some 95
 nodbl:d8 s=false
 len:s.length<=80
 val:dR base (s.filter (fun b=>decide (b≠95))) 0=some v
def tj (told:List Nat) (v:Int):Prop:=(told=[48]/\v=0)\/∃p∈jW,∃s,Figs p.2 v s/\(told=p.1++s\/told=p.1++s.map dx)
structure Loop (base cq left:Int) (s:List Nat):Prop where
 pos:0<=left
 bound:∃j:Nat,j<=38/\s.length<=2*j/\left*2 ^ j<=cq
 chars:∀c∈s,c∈db\/c=95
 last:s.getLast?≠some 95
 nodbl:d8 s=false
 val:dR base (s.filter (fun b=>decide (b≠95))) left=some cq
 head:left=0->∃c r,s=c::r/\c∈db/\c≠48
theorem Jo:∀d:Nat,d<16->db[d]? = some (db.getD d 0)/\dL (db.getD d 0)=(d:Int)/\(db.getD d 0=48->d=0)/\db.getD d 0≠95:=by decide
theorem A4 {c:Nat}{s:List Nat}(hc:c≠95) (h:d8 s=false):d8 (c::s)=false:=by
 induction s with
 |nil=>rfl
 |cons b r=>
  unfold d8;rw [h,Bool.or_false,Bool.and_eq_false_iff];exact .inl (beq_eq_false_iff_ne.mpr hc)
theorem KI {c:Nat}{s:List Nat}(hc:c≠95) (h:d8 (c::s)=false):d8 (95::c::s)=false:=by
 unfold d8;rw [h,Bool.or_false,Bool.and_eq_false_iff];exact .inr (beq_eq_false_iff_ne.mpr hc)
theorem zX {c:Nat}{s:List Nat}(hc:c≠95) (h:s.getLast?≠some 95):(c::s).getLast?≠some 95:=by
 induction s with
 |nil=>simpa using hc
 |cons b r=>erw [List.getLast?_cons_cons];exact h
theorem Loop.step {base cq left:Int}{s:List Nat}(hb:2<=base) (hb2:base<=16) (hN:cq<2 ^ 37) (h:Loop base cq left s) (hl:0<left) :
  ∃c,db[(left % base).toNat]? = some c/\Loop base cq (left / base) (c::s)/\(0<left / base->Loop base cq (left / base) (95::c::s)):=by
 have h0:0<=left % base:=Int.emod_nonneg _ (al [] [base] (.Le (.k 2) aw) (.not (.Eq aw (.k 0))) hb);have h1:left % base<base:=Int.emod_lt_of_pos _ (al [] [base] (.Le (.k 2) aw) (.Lt (.k 0) aw) hb);refine ig (Jo (left % base).toNat (bQ [(left % base).toNat] [base,left % base] (.Le aw (.k 16)) (.Lt cO aw) (.tn aa cO) (.lt aa (.k 16)) hb2 h1 (di (left % base)))) ?_;intro hc hw hz hc95;generalize db.getD (left % base).toNat 0=c at hc hw hz hc95;have hmem:c∈db:=List.mem_of_getElem? hc;have hdiv:left / base*base+left % base=left:=by have:=Int.mul_ediv_add_emod left base;rw [Int.mul_comm] at this;exact this
 have hd0:0<=left / base:=Int.ediv_nonneg (al [] [left] (.Lt (.k 0) aw) (.Le (.k 0) aw) hl) (al [] [base] (.Le (.k 2) aw) (.Le (.k 0) aw) hb);refine a8 h.bound ?_;intro j hj0 hj1 hj2;have hj3:j<=36:=by
  apply Nat.le_of_not_lt;intro hj;have h1:(2:Int) ^ 37<=2 ^ j:=by
   have:=Int.ofNat_le.mpr (Nat.pow_le_pow_right (n:=2) (by decide) hj)
   simpa [Int.natCast_pow] using this
  have h2:(2:Int) ^ j<=left*2 ^ j:=by
   have:=Int.mul_le_mul_of_nonneg_right (show(1:Int)<=left by exact al [] [left] (.Lt (.k 0) aw) (.Le (.k 1) aw) hl) (show(0:Int)<=2 ^ j from Int.pow_nonneg (by decide))
   rwa [Int.one_mul] at this
  omega
 have hlt:left / base<left:=Int.ediv_lt_self_of_pos_of_ne_one hl (al [] [base] (.Le (.k 2) aw) (.not (.Eq aw (.k 1))) hb);have h2:left / base*2<=left:=by
  have:left / base*2<=left / base*base:=Int.mul_le_mul_of_nonneg_left hb hd0
  exact bQ [] [left % base,left / base*base,left,left / base*2] (.Le (.k 0) aw) (.Eq (.a cO aw) mZ) (.Le tZ cO) (.Le tZ mZ) h0 hdiv this
 have hb1:left / base*2 ^ (j+1)<=cq:=by
  (erw [Int.pow_succ];erw [Int.mul_comm (2 ^ j) 2];refine aZ (Int.mul_assoc ..) ?_)
  exact Int.le_trans (Int.mul_le_mul_of_nonneg_right h2 (Int.pow_nonneg (by decide))) hj2
 have hfil:(c::s).filter (fun b=>decide (b≠95))=c::s.filter (fun b=>decide (b≠95)):=by
  (erw [List.filter_cons];erw [if_pos (by simpa using hc95)];with_reducible rfl)
 have hval:dR base ((c::s).filter (fun b=>decide (b≠95))) (left / base)=some cq:=by
  rw [hfil,rB,if_neg (by exact f8 [(left % base).toNat] [base,left % base,dL c] (.Le (.k 2) aw) (.Lt cO aw) (.Eq mZ (.c aa)) (.tn aa cO) (.not (.Le aw mZ)) hb h1 hw (di (left % base))),hw,show left / base*base+((left % base).toNat:Int)=left by omega];exact h.val
 have hch:∀x∈c::s,x∈db\/x=95:=fun x hx=>by
  refine av (bC hx) ?_ ?_
  ·rintro rfl;exact .inl hmem
  ·intro hx;exact h.chars x hx
 refine aQ c hc (⟨hd0,(aQ (j+1) (al [j] [] (.le aa (.k 36)) (.le (.a aa (.k 1)) (.k 38)) hj3) (by simp;exact al [s.length,j] [] (.le aa (.m 2 ae)) (.le (.a aa (.k 1)) (.m 2 (.a ae (.k 1)))) hj1) hb1),hch,zX hc95 h.last,A4 hc95 h.nodbl,hval,fun h0'=>(bj c s rfl hmem (fun e=>?_))⟩) (fun hp=>⟨hd0,(aQ (j+1) (al [j] [] (.le aa (.k 36)) (.le (.a aa (.k 1)) (.k 38)) hj3) (by simp;exact al [s.length,j] [] (.le aa (.m 2 ae)) (.le (.a (.a aa (.k 1)) (.k 1)) (.m 2 (.a ae (.k 1)))) hj1) hb1),fun x hx=>?_,?_,KI hc95 (A4 hc95 h.nodbl),?_,fun h0'=>by omega⟩)
 ·have:=hz e
  have:left % base=left:=by(refine aZ (hdiv ..) ?_;erw [h0']);simp
  omega
 ·refine av (bC hx) ?_ ?_
  ·rintro rfl;exact .inr rfl
  ·intro hx;exact hch x hx
 ·erw [List.getLast?_cons_cons];exact zX hc95 h.last
 ·(erw [List.filter_cons];erw [if_neg (by simp)]);exact hval
theorem Loop.done {base cq:Int}{s:List Nat}(h:Loop base cq 0 s):Figs base cq s:=by
 refine a8 h.bound ?_;intro j h0 h1 h2;exact⟨h.head rfl,h.chars,h.last,h.nodbl,by exact aL [j,s.length] [] (.le aa (.k 38)) (.le ae (.m 2 aa)) (.le ae (.k 80)) h0 h1,h.val⟩
theorem Loop.first {base cq:Int}(h0:0<cq):Loop base cq cq []:=
 ⟨by exact al [] [cq] (.Lt (.k 0) aw) (.Le (.k 0) aw) h0,(aQ 0 (aH [] [] (.le (.k 0) (.k 38))) (by simp) (by simp)),by simp,by simp,rfl,rfl,fun h=>by omega⟩
def tJ:bq:=fun vs st Q uz=>∃n,vs=[.obj n]/\Src st n/\∀told v st',tj told v->Ext n st st'->Q (.tup [.str [105,110,116],.str told,.int v]) st'
theorem G5 {x t:Int}(h0:0<=t) (h1:t<10 ^ 7) (h:V.int x∈[V.int 1,V.int 7,V.int 200,V.int 4096,V.int (t*10 ^ 4+5)]):0<x/\x<2 ^ 37:=by
 simp only [List.mem_cons,V.int.injEq,List.not_mem_nil,or_false] at h;omega
theorem bases {p:List Nat×Int}(h:p∈jW):2<=p.2/\p.2<=16/\p.1.length<=3:=by
 revert p;decide
theorem D1 (F:Fx) (h272:aO F 272 iM) (h279:aO F 279 ii):∀vs st Q X,tJ vs st Q X->bJ F 1 [] 6 sD vs st Q X:=by
 intro vs;intro st;intro Q;intro X;intro y160;refine a8 y160 ?_;clear y160;intro n y162 hs hQ;subst y162;refine⟨rfl,?_⟩;try dsimp only [sD,wo,bV,bU,bD,ck,cj,aV,aU,Nat.reduceAdd,Nat.reduceSub,cC,cg,aq,eJ,aB,aN,aD,aC,cV,bz,bn,bp,bZ,ay,ax,ar,bl,au]
 refine h279 _ _ _ _ (bv n _ rfl hs (by simp) (fun a st1 ha hE1=>?_));have ha':a∈jW.map fun p=>V.tup [.str p.1,.int p.2]:=ha;refine ag (List.mem_map.mp ha') ?_;intro y0 hp y2;obtain⟨p,base⟩:=y0;subst y2;have⟨hb1,hb2,hpl⟩:=bases hp;dsimp only at hb1 hb2 hpl;refine⟨rfl,?_⟩;try dsimp only [wn,cw,aJ,aT,aS,bk,aB,aq,aN,aD,aC,cV,bz,bn,bp,bh,ay,lx,ax,bl,ar,au]
 refine aI (by decide) (by decide) (h272 _ _ _ _ (bv n _ rfl hE1.src (by decide) (fun t st2 ht0 ht1 hE2=>?_)));refine dq (by decide) (by decide) ?_ ((h279 _ _ _ _ (bv n _ rfl hE2.src (by simp) (fun a st3 ha hE3=>?_))))
 ·exact IntMulOk.of_right (by decide)
 have:∃cq,a=.int cq:=by
  refine(?_:∀a∈_,∃cq,a=V.int cq) a ha
  repeat refine mc ⟨_,rfl⟩ ?_
  exact mn
 refine an this ?_;clear this;intro cq y1;subst y1;refine af (G5 ht0 ht1 ha) ?_;intro hn0 hn1;have hE:Ext n st st3:=(hE1.trans hE2).trans hE3;try dsimp only [wm,eJ,aV,aU,aB,aq,bZ,gp,aD,bz,cw,aJ,aC,bn,bp,ax,ay,aA,ar,aT,aS,au]
 try simp only [true_and]
 refine kf (fun m S'=>∃s left st',S'=⟨[some (.obj n),some (.str p),some (.int base),some (.int cq),some (.str s),some (.int left)],st'⟩/\Ext n st st'/\Loop base cq left s/\m=left.toNat) cq.toNat (ed ([]) cq st3 rfl hE (Loop.first hn0) rfl) ?_;intro m;intro S';intro y80;refine f0 y80 ?_;clear y80;intro s left st' y84 hE' hL y87;subst y84 y87;try dsimp only [aq,aB,bf,ay,ax,aA,ar,au,lz]
 try simp only [bi,bE]
 refine⟨fun hl=>?_,fun hl=>?_⟩
 ·refine a8 (Loop.step hb1 hb2 hn1 hL hl) ?_;intro c hc hL1 hL2;have hlt:left / base<left:=Int.ediv_lt_self_of_pos_of_ne_one hl (al [] [base] (.Le (.k 2) aw) (.not (.Eq aw (.k 1))) hb1);have hlen:∀{l:Int} {s:List Nat},Loop base cq l s->s.length<=76:=fun h=>by(refine a8 h.bound ?_;intro j h0 h1 h2);omega
  have hsm:=hlen hL;have hsm1:=hlen hL1;have h0:0<=left % base:=Int.emod_nonneg _ (al [] [base] (.Le (.k 2) aw) (.not (.Eq aw (.k 0))) hb1);have h1:left % base<base:=Int.emod_lt_of_pos _ (al [] [base] (.Le (.k 2) aw) (.Lt (.k 0) aw) hb1);try dsimp only [wl,bk,aJ,aB,aq,bh,ax,bK,ay,aA,ar,aT,aS,au,m4,fL,fM,aV,aU]
  refine⟨by exact al [] [base] (.Le (.k 2) aw) (.Lt (.k 0) aw) hb1,(left % base).toNat,c,?_,hc,?_,?_⟩
  ·conv=>lhs;lhs;rw [←Int.toNat_of_nonneg h0]
   exact dN (show(left % base).toNat<db.length by show _<16;exact bQ [(left % base).toNat] [base,left % base] (.Le aw (.k 16)) (.Lt cO aw) (.tn aa cO) (.lt aa (.k 16)) hb2 h1 (di (left % base)))
  ·simp [sizeLine];exact al [s.length] [] (.le aa (.k 76)) (.le (.a (.k 1) aa) (.k 16777216)) hsm
  try dsimp only [wk,wj,bk,aJ,aB,aq,bt,a9,mj,fO,all_cons,all_nil,bf,ay,aN,aD,aC,ax,bl,bh,aA,ar,aT,aS,au,pn,lz,bc]
  try simp only [bi,dj,fv,dK,and_true,cM,true_and,bE]
  refine aI (al [] [base] (.Le (.k 2) aw) (.Lt (.k 0) aw) hb1) (fun hp2=>h272 _ _ _ _ (bv n 5 rfl hE'.src (by decide) (fun f st5 hf0 hf1 hE5=>?_))) (fun hp2=>?_)
  ·try dsimp only [wi,bk,aJ,aB,a9,mj,bh,ax,ay,aA,ar,aT,aS,au,fM,aV,aU,jk,bc]
   refine⟨fun hf=>?_,fun hf=>?_⟩
   ·refine⟨by simp [sizeLine] at *;exact al [s.length] [] (.le aa (.k 75)) (.le (.a (.k 1) (.a aa (.k 1))) (.k 16777216)) hsm1,(left / base).toNat,by exact f8 [(left / base).toNat,left.toNat] [left / base,left] (.Lt aw cO) (.Lt (.k 0) aw) (.tn aa aw) (.tn ae cO) (.lt aa ae) hlt hp2 (di (left / base)) (di (left)),_,_,_,rfl,hE'.trans hE5,hL2 hp2,rfl⟩
   ·exact(aj ((left / base).toNat) (f8 [(left / base).toNat,left.toNat] [left / base,left] (.Lt aw cO) (.Lt (.k 0) aw) (.tn aa aw) (.tn ae cO) (.lt aa ae) hlt hp2 (di (left / base)) (di (left))) (ed _ _ _ rfl (hE'.trans hE5) hL1 rfl))
  ·exact(aj ((left / base).toNat) (f8 [(left / base).toNat,left.toNat] [left,left / base] (.Lt (.k 0) aw) (.not (.Lt (.k 0) cO)) (.tn aa cO) (.tn ae aw) (.lt aa ae) hl hp2 (di (left / base)) (di (left))) (ed _ _ _ rfl hE' hL1 rfl))
 ·have:left=0:=by have:=hL.pos;exact aL [] [left] (.not (.Lt (.k 0) aw)) (.Le (.k 0) aw) (.Eq aw (.k 0)) hl this
  subst this;have hF:=hL.done;have hlen:=hF.len;have hasc:∀c∈s,c<128:=by
   intro c hc;refine av (hF.chars c hc) ?_ ?_
   ·intro h;exact(show ∀c∈db,c<128 by decide) c h
   ·rintro rfl
    decide
  try dsimp only [wh,bH,bI,aN,aD,aC,cV,bz,bn,bp,bZ,ay,ax,bh,cR,ar,aA,bl,au,C3,CX,fM,bG]
  erw [Dw hasc]
  refine dq (by simp [sizeLine];exact aL [p.length,s.length] [] (.le aa (.k 3)) (.le ae (.k 80)) (.le (.a aa ae) (.k 16777216)) hpl hlen) (by simp [sizeLine];exact al [s.length] [] (.le aa (.k 80)) (.le aa (.k 16777216)) hlen) (by simp [sizeLine];exact aL [p.length,s.length] [] (.le aa (.k 3)) (.le ae (.k 80)) (.le (.a aa ae) (.k 16777216)) hpl hlen) ((h279 _ _ _ _ (bv n _ rfl hE'.src (by simp) (fun a st6 ha hE6=>?_))));simp only [List.mem_cons,List.not_mem_nil,or_false] at ha
  (focus (refine av ha ?_ ?_<;>clear ha;rintro rfl;rotate_left;intro y0;(focus (refine av y0 ?_ ?_<;>clear y0;rintro rfl;rotate_left;rintro rfl;rotate_left));rotate_left 2))
  ·exact hQ _ _ _ (.inr (aj _ hp (aj s hF (.inl rfl)))) (hE'.trans hE6)
  ·exact hQ _ _ _ (.inr (aj _ hp (aj s hF (.inr rfl)))) (hE'.trans hE6)
  ·exact hQ _ _ _ (.inl ⟨rfl,rfl⟩) (hE'.trans hE6)
end
theorem Ext.at_ {n m:Nat}{st st':List Cell}{c:Cell}(h:Ext n st st') (hc:st[m]? = some c) (hm:m≠n):st'[m]? = some c:=by
 erw [h.same m (ce hc).1 hm];exact hc
theorem Bd {F:Fx}{elt:ME}{m:List Bool}{S1:St}{Q:QE}{n:Nat}{things:List V}{t:Int}(ht:t<=100) (h0:0<=t) (hs:Src S1.st n)
  (he:∀v st' Q',Ext n S1.st st'->(∀a st'',a∈things->Ext n st' st''->Q' a ⟨dC m S1.loc++[some v],st''⟩)->aF F elt ⟨dC m S1.loc++[some v],st'⟩ Q' (fun uz uz=>False))
  (hQ:∀ys st',ys.length=t.toNat->(∀y∈ys,y∈things)->Ext n S1.st st'->st'[S1.st.length]? = some (.list ys)->Q (.obj S1.st.length) {S1 with st:=st'}) :
  rW F elt m [] Q (.rng 0 t 1) S1:=by
 have hN:S1.st.length≠n:=by have:=hs.lt;exact al [n,S1.st.length] [] (.lt aa ae) (.not (.eq ae aa)) this
 have hi:d6 S1.st (.rng 0 t 1)=some (dA 0 1 t.toNat):=by
  have:=nX (st:=S1.st) (a:=0) (k:=t.toNat) (aL [t.toNat] [t] (.Le aw (.k 100)) (.tn aa aw) (.lt (.a (.k 0) aa) (.k 4611686018427387904)) ht (di (t)))
  rw [Nat.zero_add,Int.toNat_of_nonneg h0] at this;exact this
 have hl:(dA 0 1 t.toNat).length=t.toNat:=nD _ _;refine(aQ (dA 0 1 t.toNat) hi (by erw [hl];simp [sizeLine];exact al [] [t] (.Le aw (.k 100)) (.Le aw (.k 16777216)) ht) (aQ (fun ys rest st=>ys.length+rest.length=t.toNat/\(∀y∈ys,y∈things)/\Ext n S1.st st/\st[S1.st.length]? = some (.list ys)) ((dq (by simp [hl]) (by simp) ((Ext.refl hs).app) (by simp))) ?_ ?_))
 ·intro ys;intro v;intro rest;intro st;intro y160;refine ig y160 ?_;clear y160;intro e1 e2 e3 e4;rw [List.length_cons] at e1;refine aI (fun n hn=>by(cases hn)) (by simp [sizeLine];exact bQ [ys.length,rest.length,t.toNat] [t] (.Le aw (.k 100)) (.eq (.a aa (.a ae (.k 1))) ai) (.tn ai aw) (.lt aa (.k 16777216)) ht e1 (di (t))) ?_
  erw [all_nil]
  refine⟨fun uz=>he v _ _ e3 (fun a st'' ha hE=>(jY (hE.at_ e4 hN) ?_ ?_ ?_ ?_)),fun h=>absurd h (by decide)⟩
  ·simp;exact al [ys.length,rest.length,t.toNat] [] (.eq (.a aa (.a ae (.k 1))) ai) (.eq (.a (.a aa (.k 1)) ae) ai) e1
  ·intro y hy;refine av (dI hy) (fun hy=>?_) fun hy=>?_
   ·exact e2 y hy
   ·erw [List.mem_singleton.mp hy];exact ha
  ·exact(e3.trans hE).other hN (bw _)
  ·exact fu (ce (hE.at_ e4 hN)).1
 ·intro ys;intro st;intro y80;refine ig y80 ?_;clear y80;intro e1 e2 e3 e4;exact⟨fun n hn=>by(cases hn),hQ ys st (by simpa using e1) e2 e3 e4⟩
noncomputable def sg:List (List Nat×List UInt8):=[([97],[97]),([233],[195,169]),([128512],[240,159,152,128]),([39],[39]),([32],[32]),([47,47],[47,47])]
noncomputable def gS:List (List Nat×List UInt8):=sg++[([92,110],[92,110]),([10],[10]),([13],[]),([34],[34])]
noncomputable def gf:List (List Nat×List UInt8):=sg++[([92,110],[10]),([92,120,52,49],[65]),([92,120,102,102],[255]),([92,51,55,55],[255]),([92,49,48,49],[65]),([92,116],[9]),([92,34],[34])]++[([92,117,50,48,97,99],[226,130,172]),([92,85,48,48,48,49,70,54,48,48],[240,159,152,128]),([92,92],[92]),([96],[96]),([92,118],[11])]
noncomputable def fA (p:List Nat×List UInt8):V:=.tup [.str p.1,.bytes p.2]
def oP (told:List Nat) (data:List UInt8):Prop:=∃ds:List (List Nat×List UInt8),ds.length<=4/\data=(ds.map (·.2)).flatten/\
 (((∀d∈ds,d∈gS)/\told=[96]++(ds.map (·.1)).flatten++[96])\/((∀d∈ds,d∈gf)/\told=[34]++(ds.map (·.1)).flatten++[34]))
def tI:bq:=fun vs st Q uz=>∃n,vs=[.obj n]/\Src st n/\∀told data st',oP told data->Ext n st st'->Q (.tup [.str [116,101,120,116],.str told,.bytes data]) st'
theorem re {α β:Type}{f:α->β}{xs:List α}:∀{ys:List β},(∀y∈ys,y∈xs.map f)->∃ds:List α,ys=ds.map f/\∀d∈ds,d∈xs
 | [],_=>(aj ([]) rfl (by simp))
 |y::r,h=>by
  refine ag (List.mem_map.mp (h y (by simp))) ?_;intro d hd y2;subst y2;refine ag (re (ys:=r) fun z hz=>h z (by simp [hz])) ?_;intro ds y1 h2;subst y1;exact aj (d::ds) rfl (fun x hx=>by
   refine av (bC hx) ?_ ?_
   ·rintro rfl
    exact hd
   ·intro hx
    exact h2 x hx)
noncomputable def lS:V->V
 | .tup (a::_)=>a
 |a=>a
noncomputable def nJ:V->V
 | .tup (_::a::_)=>a
 |a=>a
theorem ID (xs:List (List UInt8)):(xs.map V.bytes).mapM mI=some xs:=by
 induction xs with
 |nil=>rfl
 |cons a r ih=>(erw [List.map_cons];erw [List.mapM_cons];erw [ih]);rfl
theorem nU {ds:List (List Nat×List UInt8)}(h:∀d∈ds,d.1.length<=10/\d.2.length<=10):(ds.map (·.1)).flatten.length<=10*ds.length/\(ds.map (·.2)).flatten.length<=10*ds.length:=by
 induction ds with
 |nil=>simp
 |cons a r ih=>
  have h1:=h a (by simp);have h2:=ih fun d hd=>h d (by simp [hd]);simp only [List.map_cons,List.flatten_cons,cf,List.length_cons];exact aL [a.fst.length,a.snd.length,(List.map (fun(x:List Nat×List UInt8)=>x.fst) r).flatten.length,r.length,(List.map (fun(x:List Nat×List UInt8)=>x.snd) r).flatten.length] [] (.and (.le aa (.k 10)) (.le ae (.k 10))) (.and (.le ai (.m 10 aG)) (.le cb (.m 10 aG))) (.and (.le (.a aa ai) (.m 10 (.a aG (.k 1)))) (.le (.a ae cb) (.m 10 (.a aG (.k 1))))) h1 h2
theorem lH:∀b:Bool,∀d∈(if b then gS else gf),d.1.length<=10/\d.2.length<=10:=by decide
theorem DZ (F:Fx) (hz:F.z=false) (h272:aO F 272 iM) (h279:aO F 279 ii):∀vs st Q X,tI vs st Q X->bJ F 1 [] 5 sC vs st Q X:=by
 intro vs;intro st;intro Q;intro X;intro y160;refine a8 y160 ?_;clear y160;intro n y162 hs hQ;subst y162;refine⟨rfl,?_⟩;try dsimp only [sC,wg,bV,bU,bD,ck,cj,aV,aU,Nat.reduceAdd,Nat.reduceSub,cC,cg,aq,bk,aJ,aB,gh,ay,aN,aD,aC,ax,ar,bl,aT,aS,au]
 refine h272 _ _ _ _ (bv n 3 rfl hs (by decide) (fun f st1 hf0 hf1 hE1=>?_));try dsimp only [jk]
 have rest:∀(b:Bool),bN F [pY,v8,nx] ⟨[some (.obj n),some (.bool b),some (.lst ((if b then gS else gf).map fA)),none,none],st1⟩ (dO Q) (dc X):=by
  intro b;have hlen:=lH b;have hne:(if b then gS else gf).map fA≠[]:=by cases b<;>simp [gS,gf,sg]
  have hmem:∀ds:List (List Nat×List UInt8),(∀d∈ds,d∈(if b then gS else gf))->ds.length<=4->oP ((if b then [96] else [34])++(ds.map (·.1)).flatten++(if b then [96] else [34])) (ds.map (·.2)).flatten:=by
   intro ds h1 h2;refine aQ ds h2 rfl ?_;induction b with
   |true=>exact .inl ⟨h1,rfl⟩
   |false=>exact .inr ⟨h1,rfl⟩
  generalize (if b then gS else gf)=things at hlen hne hmem⊢;try dsimp only [pY,aq,bk,aJ,aB,lC,aN,aD,aC,ay,ax,bl,ar,e7,au]
  refine⟨hz,h272 _ _ _ _ (bv n 5 rfl hE1.src (by decide) (fun t st2 ht0 ht1 hE2=>?_))⟩;try dsimp only [ud]
  refine Bd (S1:=⟨_,st2⟩) (things:=things.map fA) (n:=n) (al [] [t] (.Lt aw (.k 5)) (.Le aw (.k 100)) ht1) ht0 hE2.src (fun v st' Q' hE' h=>?_) (fun ys st3 hy1 hy2 hE3 hy3=>?_)
  ·try dsimp only [AS,dC,bV,bU,aN,aD,aC,ax,ay,ar,aA,bl,au]
   exact h279 _ _ _ _ (bv n _ rfl hE'.src hne (fun a st'' ha hE=>h a st'' ha hE))
  refine ag (re hy2) ?_;intro ds y1 hds;subst y1;dsimp only at hy1 hy3 hE3;rw [eQ] at hy1;have hN:st2.length≠n:=by have:=hE2.src.lt;exact al [n,st2.length] [] (.lt aa ae) (.not (.eq ae aa)) this
  have hE:Ext n st st3:=(hE1.trans hE2).trans hE3;have hfl:=nU fun d hd=>hlen d (hds d hd);have htx:=hmem ds hds (bQ [ds.length,t.toNat] [t] (.Lt aw (.k 5)) (.eq aa ae) (.tn ae aw) (.le aa (.k 4)) ht1 hy1 (di (t)));have fin:∀q:List Nat,q=(if b then [96] else [34])->bN F [nx] ⟨[some (.obj n),some (.bool b),some (.lst (things.map fA)),some (.obj st2.length),some (.str q)],st3⟩ (dO Q) (dc X):=by
   rintro q rfl;have hq:(if b then [96] else [34]:List Nat).length=1:=by cases b<;>rfl
   try dsimp only [nx,aq,bH,bI,bZ,aD,bz,aC,bn,bp,cR,lC,ax,ay,C4,C8,bh,ui,aA,ar,au,bG]
   try simp only [true_and]
   generalize (if b then [96] else [34]:List Nat)=q at htx hq⊢;refine⟨hz,?_⟩;refine rV (f:=lS) (items:=ds.map fA) (rm hy3) (by simp [sizeLine];exact bQ [ds.length,t.toNat] [t] (.Lt aw (.k 5)) (.eq aa ae) (.tn ae aw) (.le aa (.k 16777216)) ht1 hy1 (di (t))) (fun k hk=>by cases hk;exact(ce hy3).1) (fun v hv st' Q' h=>?_) ?_
   ·refine ag (List.mem_map.mp hv) ?_;intro d _ y2;subst y2;exact h
   erw [um]
   refine⟨rfl,(ds.map fA).map lS,ds.map (·.1),fU (ge _ _ []),?_,by simp only [sizeLine];exact f8 [ds.length,t.toNat,(List.map (fun(x:List Nat×List UInt8)=>x.fst) ds).flatten.length,(List.map (fun(x:List Nat×List UInt8)=>x.snd) ds).flatten.length] [t] (.Lt aw (.k 5)) (.eq aa ae) (.and (.le ai (.m 10 aa)) (.le aG (.m 10 aa))) (.tn ae aw) (.le ai (.k 16777216)) ht1 hy1 hfl (di (t)),?_⟩
   ·(with_reducible refine bx ((show(ds.map fA).map lS=(ds.map (·.1)).map V.str by simp [fA,lS]) ..) ?_)
    exact ma _
   try dsimp only [fM,aA,ar,au]
   refine dq (by simp only [sizeLine,hq];exact f8 [ds.length,t.toNat,(List.map (fun(x:List Nat×List UInt8)=>x.fst) ds).flatten.length,(List.map (fun(x:List Nat×List UInt8)=>x.snd) ds).flatten.length] [t] (.Lt aw (.k 5)) (.eq aa ae) (.and (.le ai (.m 10 aa)) (.le aG (.m 10 aa))) (.tn ae aw) (.le (.a (.k 1) ai) (.k 16777216)) ht1 hy1 hfl (di (t))) (by simp only [sizeLine,hq,cf];exact f8 [ds.length,t.toNat,(List.map (fun(x:List Nat×List UInt8)=>x.fst) ds).flatten.length,(List.map (fun(x:List Nat×List UInt8)=>x.snd) ds).flatten.length] [t] (.Lt aw (.k 5)) (.eq aa ae) (.and (.le ai (.m 10 aa)) (.le aG (.m 10 aa))) (.tn ae aw) (.le (.a (.a (.k 1) ai) (.k 1)) (.k 16777216)) ht1 hy1 hfl (di (t))) hz ?_;have hy4:(st3++[Cell.list ((ds.map fA).map lS)])[st2.length]? = some (.list (ds.map fA)):=by
    erw [dT (ce hy3).1];exact hy3
   refine rV (f:=nJ) (items:=ds.map fA) (rm hy4) (by simp [sizeLine];exact bQ [ds.length,t.toNat] [t] (.Lt aw (.k 5)) (.eq aa ae) (.tn ae aw) (.le aa (.k 16777216)) ht1 hy1 (di (t))) (fun k hk=>by cases hk;exact(ce hy4).1) (fun v hv st' Q' h=>?_) ?_
   ·refine ag (List.mem_map.mp hv) ?_;intro d _ y2;subst y2;exact h
   refine bv ((ds.map fA).map nJ) (ds.map (·.2)) (fU (ge _ _ [])) ?_ (by simp only [sizeLine];exact f8 [ds.length,t.toNat,(List.map (fun(x:List Nat×List UInt8)=>x.fst) ds).flatten.length,(List.map (fun(x:List Nat×List UInt8)=>x.snd) ds).flatten.length] [t] (.Lt aw (.k 5)) (.eq aa ae) (.and (.le ai (.m 10 aa)) (.le aG (.m 10 aa))) (.tn ae aw) (.le aG (.k 16777216)) ht1 hy1 hfl (di (t))) ?_
   ·(with_reducible refine bx ((show(ds.map fA).map nJ=(ds.map (·.2)).map V.bytes by simp [fA,nJ]) ..) ?_)
    exact ID _
   exact hQ _ _ _ htx (hE.app.app)
  induction b with
  |true=>exact⟨fun uz=>by have:=fin [96] rfl;rw [aq] at this;exact this,fun h=>absurd h (by decide)⟩
  |false=>exact⟨fun h=>absurd h (by decide),fun uz=>by have:=fin [34] rfl;rw [aq] at this;exact this⟩
 try dsimp only [we,wc,bk,aJ,aB,aq,bt,lG,cV,aD,bz,aC,bn,bp,bZ,ay,aT,aS,aA,ar,au,fw]
 try simp only [bi,bE]
 refine⟨fun h=>?_,fun h=>?_⟩
 ·erw [decide_eq_true h]
  try dsimp only [wb,bk,aJ,aB,a9,aq,bh,cV,aD,bz,aC,bn,bp,bZ,ay,ax,aA,ar,aT,aS,au,pr,aV,aU,bc]
  refine⟨by decide,?_⟩;have:=rest true;rw [aq] at this;exact this
 ·erw [decide_eq_false h]
  try dsimp only [wa,v9,bk,aJ,aB,aq,a9,bh,cV,aD,bz,aC,bn,bp,bZ,ay,ax,aA,ar,aT,aS,au,pr,aV,aU,bc]
  refine aI (by decide) (by decide) ?_;have:=rest false;rw [aq] at this;exact this
section
theorem u0:Txt.split (S_ rj) (S_ [32])=ct.map S_:=by decide +kernel
theorem EP:Txt.split (S_ zW) (S_ [32])=dZ.map S_:=by decide +kernel
noncomputable def nW:List Nat:=[105,110,116]
noncomputable def kG:List Nat:=[116,101,120,116]
noncomputable def nV:List Nat:=[114,117,110,101]
noncomputable def jD:List (List Nat):=[[97],[90,113],[95],[120,57],[105,102,102],[114],[103,106,107,118,119,121,122],[65,66,75,77,81,87,88]]
noncomputable def jC:List (List Nat):=[[],[],[95],[48,120],[103,111]]
noncomputable def km:List (List Nat×Int):=[([39,97,39],97),([39,92,110,39],10),([39,92,39,39],39),([39,34,39],34),([39,92,120,52,49,39],65),([39,92,51,55,55,39],255),([39,92,117,50,48,97,99,39],8364),([39,233,39],233),([39,92,92,39],92),([39,92,85,48,48,49,48,102,102,102,102,39],1114111),([39,96,39],96)]
inductive WordT:List Nat->List Nat->V->Prop
 |name {a b:List Nat}:a∈jD->b∈jC->WordT fF (a++b) .none
 |key {w:List Nat}:w∈dZ->WordT my w .none
 |int {w:List Nat} {n:Int}:tj w n->WordT nW w (.int n)
 |text {w:List Nat} {d:List UInt8}:oP w d->WordT kG w (.bytes d)
 |rune {p:List Nat×Int}:p∈km->WordT nV p.1 (.int p.2)
 |sign {w:List Nat}:w∈ct->WordT dm w .none
def o8:bq:=fun vs st Q uz=>∃n,vs=[.obj n]/\Src st n/\∀k w v st',WordT k w v->Ext n st st'->Q (.tup [.str k,.str w,v]) st'
theorem nO:(∀a∈jD,a.length<=7)/\∀b∈jC,b.length<=2:=by decide
theorem uv:(∀z∈ct,z.length<=sizeLine)/\ct.length<=sizeLine/\(∀z∈dZ,z.length<=sizeLine)/\dZ.length<=sizeLine:=by
 simp only [sizeLine];decide
theorem kj {a:V}{l:List (List Nat)}(h:a∈l.map V.str):∃w∈l,a=.str w:=by
 (refine ag (List.mem_map.mp h) ?_;intro w h1 y2;subst y2);exact aj w h1 rfl
theorem DY (F:Fx) (h272:aO F 272 iM) (h279:aO F 279 ii) (h286:aO F 286 tJ) (h291:aO F 291 tI):∀vs st Q X,o8 vs st Q X->bJ F 1 [] 2 sB vs st Q X:=by
 intro vs;intro st;intro Q;intro X;intro y160;refine a8 y160 ?_;clear y160;intro n y162 hs hQ;subst y162;refine⟨rfl,?_⟩;refine ig uv ?_;intro z1 z2 z3 z4;try dsimp only [sB,v7,bV,bU,bD,ck,cj,aV,aU,Nat.reduceAdd,Nat.reduceSub,cC,cg,aq,bk,aJ,aB,aN,aD,aC,ay,ax,ar,bl,aT,aS,au]
 refine h272 _ _ _ _ (bv n 7 rfl hs (by decide) (fun f st1 hf0 hf1 hE1=>?_));try dsimp only [v6,v5,v4,v0,vZ,vY,vX,vW,vV,vU,vT,bt,aq,bH,bI,bZ,aD,bz,aC,bn,bp,ay,bh,aN,cV,ax,bl,a9,aB,cR,ug,ub,aV,aU,bf,aA,ar,au,jk,bG,bc]
 refine⟨fun h=>?_,fun uz=>⟨fun h=>?_,fun uz=>⟨fun h=>?_,fun uz=>⟨fun h=>?_,fun uz=>⟨fun h=>?_,fun uz=>?_⟩⟩⟩⟩⟩
 ·refine h279 _ _ _ _ (bv n _ rfl hE1.src (by simp) (fun a st2 ha hE2=>?_));refine ag (kj (l:=jD) ha) ?_;intro a hA y2;subst y2;refine h279 _ _ _ _ (bv n _ rfl hE2.src (by simp) (fun b st3 hb hE3=>?_));refine ag (kj (l:=jC) hb) ?_;intro b hB y2;subst y2;have h1:=nO.1 a hA;have h2:=nO.2 b hB;exact⟨by simp only [sizeLine];exact aL [a.length,b.length] [] (.le aa (.k 7)) (.le ae (.k 2)) (.le (.a aa ae) (.k 16777216)) h1 h2,hQ _ _ _ _ (.name hA hB) ((hE1.trans hE2).trans hE3)⟩
 ·refine⟨by decide,dZ,EP,z3,z4,h279 _ _ _ _ (bv n _ rfl hE1.src (by simp [dZ]) (fun a st2 ha hE2=>?_))⟩;refine ag (kj ha) ?_;intro a hA y2;subst y2;exact hQ _ _ _ _ (.key hA) (hE1.trans hE2)
 ·exact h286 _ _ _ _ (aQ n rfl hE1.src (fun told v st2 h hE2=>hQ _ _ _ _ (.int h) (hE1.trans hE2)))
 ·exact h291 _ _ _ _ (aQ n rfl hE1.src (fun told v st2 h hE2=>hQ _ _ _ _ (.text h) (hE1.trans hE2)))
 ·refine h279 _ _ _ _ (bv n _ rfl hE1.src (by simp) (fun a st2 ha hE2=>?_));have ha':a∈km.map fun p=>V.tup [.str nV,.str p.1,.int p.2]:=ha;refine ag (List.mem_map.mp ha') ?_;intro p hp y2;subst y2;exact hQ _ _ _ _ (.rune hp) (hE1.trans hE2)
 ·refine⟨by decide,ct,u0,z1,z2,h279 _ _ _ _ (bv n _ rfl hE1.src (by simp [ct]) (fun a st2 ha hE2=>?_))⟩;refine ag (kj ha) ?_;intro a hA y2;subst y2;exact hQ _ _ _ _ (.sign hA) (hE1.trans hE2)
end
section
noncomputable def gQ:List Nat:=[60,62,61,46,38,124,58,45,43,33,94]
theorem Gc:∀c∈gQ,[c]∈ct:=by decide
noncomputable def cB (s:List Nat) (m:Nat):Bool:=ct.contains (s.take m)&&decide (m<=s.length)
noncomputable def bR (s:List Nat):Nat:=if cB s 3=true then 3 else if cB s 2=true then 2 else 1
inductive Munch:List Nat->Nat->List (Nat×List Nat)->Prop
 |nil {a:Nat}:Munch [] a []
 |cons {s:List Nat} {a:Nat} {r:List (Nat×List Nat)}:s≠[]->Munch (s.drop (bR s)) (a+bR s) r->Munch s a ((a,s.take (bR s))::r)
theorem qO {s:List Nat}(hs:s≠[]) (hc:∀c∈s,c∈gQ):cB s 1=true:=by
 induction s with
 |nil=>exact absurd rfl hs
 |cons c r=>
  unfold cB;have:=Gc c (hc c (by simp));simp [this]
set_option tactic.hygienic true in
theorem nk {s:List Nat}(hs:s≠[]):1<=bR s/\bR s<=s.length:=by
 have:0<s.length:=List.length_pos_iff.mpr hs
 unfold bR
 split
 ·rename_i h;simp [cB] at h;omega
 ·split
  ·rename_i h;simp [cB] at h;omega
  ·exact al [s.length] [] (.lt (.k 0) aa) (.and (.le (.k 1) (.k 1)) (.le (.k 1) aa)) this
theorem Ix {s:List Nat}(h1:cB s 1=true):kD ((([1,2,3]:List Nat).filter (cB s)).map (fun(n:Nat)=>(n:Int)))=(bR s:Int):=by
 unfold bR;simp only [List.filter,h1];cases cB s 2<;>cases cB s 3<;>rfl
noncomputable def jJ (p:Nat×List Nat):V:=.tup [.int p.1,.str p.2]
def oZ:bq:=fun vs st Q uz=>∃n,vs=[.obj n]/\Src st n/\∀run found m st',(∀c∈run,c∈gQ)->run.length<=6->Munch run 0 found->Ext n st st'->st'[m]? = some (.list (found.map jJ))->m≠n->st.length<=m->Q (.tup [.str run,.obj m]) st'
theorem rD:∀cs:List Nat,(cs.map fun c=>[c]).flatten=cs
 | []=>rfl
 |c::r=>by(erw [List.map_cons];erw [List.flatten_cons];erw [rD r]);rfl
theorem IC (xs:List Nat):(xs.map fun(n:Nat)=>V.int n).mapM n7=some (xs.map fun(n:Nat)=>(n:Int)):=by
 induction xs with
 |nil=>rfl
 |cons a r ih=>(erw [List.map_cons];erw [List.mapM_cons];erw [ih]);rfl
theorem A6 (x:List Nat) (a b:Nat):cW x (some (a:Int)) (some ((a:Int)+(b:Int)))=(x.drop a).take b:=by
 show(x.take ((a:Int)+(b:Int)).toNat).drop (a:Int).toNat=_
 (with_reducible refine bx ((show((a:Int)+(b:Int)).toNat=a+b by omega) ..) ?_;erw [Int.toNat_natCast];erw [mG];with_reducible rfl)
theorem DW (F:Fx) (hz:F.z=false) (h272:aO F 272 iM) (h279:aO F 279 ii):∀vs st Q X,oZ vs st Q X->bJ F 1 [] 5 sz vs st Q X:=by
 intro vs;intro st;intro Q;intro X;intro y160;refine a8 y160 ?_;clear y160;intro n y162 hs hQ;subst y162;refine⟨rfl,?_⟩;refine ig uv ?_;intro z1 z2 z3 z4;try dsimp only [sz,vR,bV,bU,bD,ck,cj,aV,aU,Nat.reduceAdd,Nat.reduceSub,cC,cg,aq,bk,aJ,aB,cR,aD,aC,lC,aN,ay,ax,bl,e7,ar,au,ui]
 refine⟨hz,h272 _ _ _ _ (bv n 7 rfl hs (by decide) (fun t st1 ht0 ht1 hE1=>?_))⟩;try dsimp only [ud]
 refine Bd (S1:=⟨_,st1⟩) (things:=gQ.map fun c=>V.str [c]) (n:=n) (al [] [t] (.Lt aw (.k 7)) (.Le aw (.k 100)) ht1) ht0 hE1.src (fun v st' Q' hE' h=>?_) (fun ys st2 hy1 hy2 hE2 hy3=>?_)
 ·try dsimp only [AR,dC,bV,bU,aN,aD,aC,cV,bz,bn,bp,ay,ax,ar,bl,au]
  exact h279 _ _ _ _ (bv n _ rfl hE'.src (by simp) (fun a st'' ha hE=>h a st'' ha hE))
 refine ag (re hy2) ?_;intro run y1 hrun;subst y1;dsimp only at hy1 hy3 hE2;rw [eQ] at hy1;have hrl:run.length<=6:=by exact bQ [run.length,t.toNat] [t] (.Lt aw (.k 7)) (.eq aa ae) (.tn ae aw) (.le aa (.k 6)) ht1 hy1 (di (t))
 erw [um]
 refine⟨rfl,run.map fun c=>.str [c],run.map fun c=>[c],fU hy3,?_,by erw [rD];simp only [sizeLine];exact al [run.length] [] (.le aa (.k 6)) (.le aa (.k 16777216)) hrl,?_⟩
 ·have:=ma (run.map fun c=>[c])
  rw [List.map_map] at this;exact this
 erw [rD]
 have hE:Ext n st st2:=hE1.trans hE2;try dsimp only [vQ,aT,aS,eJ,aV,aU,aB,aq,bZ,gp,aD,bz,cw,aJ,aC,bn,bp,ay,ow]
 refine⟨rfl,?_⟩;have hM:st2.length≠n:=by have:=hE2.src.lt;exact al [n,st2.length] [] (.lt aa ae) (.not (.eq ae aa)) this
 have hM':st.length<=st2.length:=hE.len;generalize hMM:st2.length=M at hM hM';have hcell:(st2++[Cell.list []])[M]? = some (.list []):=by(refine aZ (hMM ..) ?_);simp
 have hE3:Ext n st (st2++[Cell.list []]):=hE.app;generalize st2++[Cell.list []]=st3 at hcell hE3;refine kf (fun k S'=>∃(a:Nat) (done:List (Nat×List Nat)) (st':List Cell) (y:Option V),S'=⟨[some (.obj n),some (.str run),some (.obj M),some (.int (a:Int)),y],st'⟩/\a<=run.length/\k=run.length-a/\Ext n st st'/\st'[M]? = some (.list (done.map jJ))/\done.length<=a/\∀r,Munch (run.drop a) a r->Munch run 0 (done++r)) run.length (Cz 0 ([]) st3 none rfl (Nat.zero_le _) rfl hE3 hcell (bw _) (fun r h=>h)) ?_;intro k;intro S';intro y80;obtain⟨a,done,st',y,y85,ha,y87,hE',hc',hdl,hm⟩:=y80;subst y85 y87;try dsimp only [aq,aB,bf,aN,aD,aC,ax,ay,cU,aA,ar,au,eH,gN]
 try simp only [bi,bE]
 refine⟨fun hl=>?_,fun hl=>?_⟩
 ·have hlt:a<run.length:=by exact al [a,run.length] [] (.Lt (.c aa) (.c ae)) (.lt aa ae) hl
  have hne:run.drop a≠[]:=by rw [ne_eq,List.drop_eq_nil_iff];exact al [a,run.length] [] (.Lt (.c aa) (.c ae)) (.not (.le ae aa)) hl
  have hcs:∀c∈run.drop a,c∈gQ:=fun c h=>hrun c (List.mem_of_mem_drop h);have hsz:=nk hne;have hmx:=Ix (qO hne hcs);rw [dJ] at hsz;try dsimp only [vP,bk,aJ,aB,aq,aN,aD,aC,lC,ay,e7,uc,cU]
  refine⟨hz,[1,2,3].map fun(n:Nat)=>V.int n,by rfl,by decide,fun ys rest st''=>∃dn rs:List Nat,[1,2,3]=dn++rs/\rest=rs.map (fun(n:Nat)=>V.int n)/\ys=(dn.filter (cB (run.drop a))).map (fun(n:Nat)=>V.int n)/\st''=st'++[.list ys],(bv ([]) ([1,2,3]) rfl rfl rfl rfl),?_,?_⟩
  ·intro ys;intro v;intro rest;intro st'';intro y160;refine b0 y160 ?_;clear y160;intro dn rs e1 e2 y165 y166;subst y165 y166
   match rs,e2 with
   |m::rs,e2=>
   rw [List.map_cons] at e2;refine af (List.cons.inj e2) ?_;intro y0 y1;subst y0 y1;have hm3:m<=3/\dn.length<=2:=by
    have h1:m∈[1,2,3]:=by erw [e1];simp
    have h2:=congrArg List.length e1;simp at h2;simp at h1;exact aL [dn.length,rs.length,m] [] (.eq (.k 3) (.a aa (.a ae (.k 1)))) (.or (.eq ai (.k 1)) (.or (.eq ai (.k 2)) (.eq ai (.k 3)))) (.and (.le ai (.k 3)) (.le aa (.k 2))) h2 h1
   refine aI (fun n hn=>by(cases hn)) ?_ ?_
   ·have:=List.length_filter_le (cB (run.drop a)) dn
    erw [eQ];simp only [sizeLine];exact aL [m,dn.length,(List.filter (cB (List.drop a run)) dn).length] [] (.and (.le aa (.k 3)) (.le ae (.k 2))) (.le ai ae) (.lt ai (.k 16777216)) hm3 this
   have hok:cB (run.drop a) m=(ct.contains ((run.drop a).take m)&&decide ((a:Int)+(m:Int)<=(run.length:Int))):=by
    unfold cB
    congr 1
    erw [dJ]
    exact decide_eq_decide.mpr (by omega)
   have yes:cB (run.drop a) m=true->(dn++[m]).filter (cB (run.drop a))=dn.filter (cB (run.drop a))++[m]:=fun h=>by(erw [List.filter_append];erw [List.filter_cons];erw [if_pos h];erw [List.filter_nil];with_reducible rfl)
   have no:cB (run.drop a) m=false->(dn++[m]).filter (cB (run.drop a))=dn.filter (cB (run.drop a)):=fun h=>by(erw [List.filter_append];erw [List.filter_cons];erw [h]);simp
   have e3:([1,2,3]:List Nat)=(dn++[m])++rs:=by erw [e1];simp
   try dsimp only [AK,dC,bV,bU,AQ,ax,all_cons,all_nil,fO,bf,aN,aD,aC,ay,cU,bh,cR,ug,ub,aV,aU,dp,dl,aA,ar,au,eH,cA,ul,eI,ke]
   try simp only [A6,bi,dj,fv,and_true,dK,cM,true_and,bE]
   refine(dq (aH [a] [] (.Le (.k 0) (.c aa))) (aH [a,m] [] (.Le (.k 0) (.a (.c aa) (.c ae)))) (by decide) (gM ct u0 z1 z2 ?_));refine aQ ct (ma _) (fun h1=>⟨fun h2=>⟨by simp,dn++[m],rs,e3,rfl,?_,?_⟩,fun h2=>(bj (dn++[m]) rs e3 rfl ?_)⟩) (fun h1=>(bj (dn++[m]) rs e3 rfl ?_))
   ·rw [yes (by(erw [hok];erw [h1];erw [decide_eq_true h2]);rfl)];simp
   ·simp
   ·rw [no (by(erw [hok];erw [h1];erw [decide_eq_false h2]);rfl)]
   ·rw [no (by(erw [hok];erw [h1]);rfl)]
  ·intro ys;intro st'';intro y80;refine b0 y80 ?_;clear y80;intro dn rs e1 e2 y85 y86;subst y85 y86;have:rs=[]:=by simpa using e2.symm
   subst this;rw [cz] at e1;subst e1;refine⟨fun n hn=>by(cases hn),?_⟩;refine bv ((([1,2,3]:List Nat).filter (cB (run.drop a))).map fun(n:Nat)=>V.int n) _ (fU (ge _ _ [])) (IC _) ?_ ?_
   ·have:=qO hne hcs
    simp only [List.filter,this,List.map_cons];simp
   ·dsimp only
    erw [hmx]
    have hc2:(st'++[Cell.list ((([1,2,3]:List Nat).filter (cB (run.drop a))).map fun(n:Nat)=>V.int n)])[M]? = some (.list (done.map jJ)):=by
     erw [dT (ce hc').1];exact hc'
    have hE2':=hE'.app (ex:=[Cell.list ((([1,2,3]:List Nat).filter (cB (run.drop a))).map fun(n:Nat)=>V.int n)]);generalize st'++[Cell.list ((([1,2,3]:List Nat).filter (cB (run.drop a))).map fun(n:Nat)=>V.int n)]=st4 at hc2 hE2';try dsimp only [vO,aT,aS,vN,m6,aB,aq,bk,aJ,a9,mj,bh,ax,cR,aD,aC,bZ,bz,bn,bp,dp,dl,aA,ar,au,cA,eI,bc]
    refine oM hc2 ?_;try dsimp only
    try simp only [A6]
    refine(aI (aH [a] [] (.Le (.k 0) (.c aa))) (aH [a,bR (List.drop a run)] [] (.Le (.k 0) (.a (.c aa) (.c ae)))) (bv _ _ rfl hc2 (by erw [eQ];simp only [sizeLine];exact bQ [run.length,done.length,a] [] (.le aa (.k 6)) (.le ae ai) (.Lt (.c ai) (.c aa)) (.lt ae (.k 16777216)) hrl hdl hl) ?_));refine(aj (run.length-(a+bR (run.drop a))) (bQ [bR (List.drop a run),run.length,a,run.length-a,run.length-(a+bR (List.drop a run))] [] (.and (.le (.k 1) aa) (.le aa aG)) (.sb aG ae ai) (.sb cb ae (.a ai aa)) (.lt cb aG) hsz (bg (run.length) (a)) (bg (run.length) (a+bR (List.drop a run)))) (Cz (a+bR (run.drop a)) (done++[(a,(run.drop a).take (bR (run.drop a)))]) _ _ rfl (aL [bR (List.drop a run),run.length,a,run.length-a] [] (.and (.le (.k 1) aa) (.le aa aG)) (.sb aG ae ai) (.le (.a ai aa) ae) hsz (bg (run.length) (a))) rfl (hE2'.other hM hM') ?_ (by simp;exact aL [done.length,a,bR (List.drop a run),run.length-a] [] (.le aa ae) (.and (.le (.k 1) ai) (.le ai aG)) (.le (.a aa (.k 1)) (.a ae ai)) hdl hsz) (fun r h=>?_)))
    ·erw [fu (ce hc2).1];simp [jJ]
    ·erw [List.append_assoc]
     exact hm _ (.cons hne (by erw [List.drop_drop];exact h))
 ·have:a=run.length:=by exact aL [a,run.length] [] (.le aa ae) (.not (.Lt (.c aa) (.c ae))) (.eq aa ae) ha hl
  subst this;have hM2:=hm [] (by erw [List.drop_length];exact .nil);rw [cz] at hM2;exact hQ run done M st' hrun hrl hM2 hE' hc' hM hM'
end
section
structure It where
 g:List Nat
 k:List Nat
 w:List Nat
 v:V
def It.ok (x:It):Prop:=WordT x.k x.w x.v
noncomputable def cY (k w:List Nat) (p:Nat) (v:V):V:=.tup [.str k,.str w,.int p,v]
noncomputable def flat:List It->List Nat
 | []=>[]
 |x::r=>x.g++x.w++flat r
noncomputable def cE:Nat->List It->List V
 |_,[]=>[]
 |a,x::r=>cY x.k x.w (a+x.g.length) x.v::cE (a+x.g.length+x.w.length) r
noncomputable def fz:List (List Nat):=[[],[32],[47,42,32,120,32,42,47]]
noncomputable def ends:List (List Nat):=[[],[32],[47,47],[32,47,42,32,42,47]]
noncomputable def iw (k w k' w':List Nat):Bool:=(decide (k'=dm) != decide (k=dm))&&!gF (w'.take 1++w.take 1) [46]
def CH (x y:It):Prop:=y.g∈fW\/(y.g=[]/\iw x.k x.w y.k y.w=true)
def Chain:List It->Prop
 | []=>True
 | [x]=>x.ok
 |x::y::r=>x.ok/\CH x y/\Chain (y::r)
theorem Chain.snoc:∀{xs:List It}{x y:It},Chain (xs++[x])->y.ok->CH x y->Chain (xs++[x]++[y])
 | [],x,y,h,h1,h2=>(aI h h2 h1)
 | [a],x,y,h,h1,h2=>(jY h.1 h.2.1 h.2.2 h2 h1)
 |a::b::r,x,y,h,h1,h2=>(aI h.1 h.2.1 (Chain.snoc (xs:=b::r) h.2.2 h1 h2))
theorem Az:∀(xs:List It) (x:It),flat (xs++[x])=flat xs++x.g++x.w
 | [],x=>by simp [flat]
 |a::r,x=>by rw [List.cons_append,flat,flat,Az r x];simp
theorem rP:∀(xs:List It) (x:It) (a:Nat),cE a (xs++[x])=cE a xs++[cY x.k x.w (a+(flat xs).length+x.g.length) x.v]
 | [],x,a=>by simp [cE,flat]
 |b::r,x,a=>by
  rw [List.cons_append,cE,cE,rP r x,List.cons_append]
  congr 4
  rw [flat];simp;exact aH [a,b.g.length,b.w.length,(flat r).length] [] (.eq (.a (.a (.a aa ae) ai) aG) (.a aa (.a ae (.a ai aG))))
theorem jN:∀(xs:List It) (a:Nat),(cE a xs).length=xs.length
 | [],_=>rfl
 |x::r,a=>by rw [cE,List.length_cons,jN r,List.length_cons]
theorem AT:∀(xs:List It) (a:Nat),∀r∈cE a xs,∃k w p v,r=cY k w p v
 | [],_,r,h=>by cases h
 |x::xs,a,r,h=>by
  rw [cE] at h;refine av (bC h) ?_ ?_
  ·rintro rfl;exact oR _ _ _ _ rfl
  ·intro h;exact AT xs _ r h
structure LineOk (its:List It) (g:List Nat):Prop where
 chain:Chain its
 head:∀x r,its=x::r->x.g∈fz
 gap:(its=[]/\g∈fz)\/(its≠[]/\g∈fW)
noncomputable def lI (a:Nat) (p:Nat×List Nat):V:=cY dm p.2 (a+p.1) .none
noncomputable def cP (its:List It) (g:List Nat) (found:List (Nat×List Nat)):List V:=cE 0 its++found.map (lI (flat its++g).length)
noncomputable def fN (rows:List V) (p:Nat):List V:=match rows.getLast? with
 |some l=>if kO l=true then [jv p] else []
 |none=>[]
def tH:bq:=fun vs st Q uz=>∃n,vs=[.obj n]/\Src st n/\∀its g run found e st',LineOk its g->its.length<=7->(∀c∈run,c∈gQ)->run.length<=6->Munch run 0 found->e∈ends->Ext n st st'->
 Q (.tup [.str (flat its++g++run++e),.lst (cP its g found++fN (cP its g found) (flat its++g++run++e).length++[hZ (flat its++g++run++e).length])]) st'
theorem pv {k w:List Nat}{v:V}(h:WordT k w v):w.length<=90:=by
 induction h with
 |name h1 h2=>have:=nO.1 _ h1;have:=nO.2 _ h2;erw [cf];omega
 |key h=>exact(show ∀z∈dZ,z.length<=90 by decide) _ h
 |int h=>
  refine av h ?_ ?_<;>clear h
  ·intro y0;refine af y0 ?_;clear y0;intro y1 _;subst y1
   decide
  ·intro y0;refine ag y0 ?_;clear y0;intro p hp y3;refine ag y3 ?_;clear y3;intro s hF h;have h1:=(bases hp).2.2;have h2:=hF.len
   ((focus (refine aK h ?_ ?_<;>clear h;rintro rfl;rotate_left;rintro rfl)))<;>simp<;>exact aL [p.fst.length,s.length] [] (.le aa (.k 3)) (.le ae (.k 80)) (.le (.a aa ae) (.k 90)) h1 h2
 |text h=>
  refine a8 h ?_;clear h;intro ds h1 _ h2;have hb:∀b:Bool,(∀d∈ds,d∈(if b then gS else gf))->(ds.map (·.1)).flatten.length<=40:=by
   intro b h;have:=nU fun d hd=>lH b d (h d hd);exact aL [ds.length,(List.map (fun(x:List Nat×List UInt8)=>x.fst) ds).flatten.length,(List.map (fun(x:List Nat×List UInt8)=>x.snd) ds).flatten.length] [] (.le aa (.k 4)) (.and (.le ae (.m 10 aa)) (.le ai (.m 10 aa))) (.le ae (.k 40)) h1 this
  refine av h2 ?_ ?_<;>clear h2
  ·intro y0;refine af y0 ?_;clear y0;intro h2 y2;subst y2;have:=hb true h2;simp only [cf,List.length_cons,List.length_nil];exact al [(List.map (fun(x:List Nat×List UInt8)=>x.fst) ds).flatten.length] [] (.le aa (.k 40)) (.le (.a (.a (.a (.k 0) (.k 1)) aa) (.a (.k 0) (.k 1))) (.k 90)) this
  ·intro y0;refine af y0 ?_;clear y0;intro h2 y2;subst y2;have:=hb false h2;simp only [cf,List.length_cons,List.length_nil];exact al [(List.map (fun(x:List Nat×List UInt8)=>x.fst) ds).flatten.length] [] (.le aa (.k 40)) (.le (.a (.a (.a (.k 0) (.k 1)) aa) (.a (.k 0) (.k 1))) (.k 90)) this
 |rune h=>exact(show ∀p∈km,p.1.length<=90 by decide) _ h
 |sign h=>exact(show ∀z∈ct,z.length<=90 by decide) _ h
theorem hV:(∀g∈fW,g.length<=20)/\(∀g∈fz,g.length<=20)/\∀g∈ends,g.length<=20:=by decide
theorem vc {α:Type}(l:List α) (x:α):seqIndex? (-1) (l++[x]).length=some l.length/\(l++[x])[l.length]? = some x:=by
 constructor
 ·unfold seqIndex?;simp;omega
 ·simp
theorem pH {α:Type}(l:List α):l=[]\/∃r x,l=r++[x]:=by
 refine av (List.eq_nil_or_concat l) ?_ ?_
 ·intro h;exact .inl h
 ·intro y0;refine du y0 ?_;clear y0;intro r x h;exact .inr (mS r x (by erw [h];simp))
end
section
structure LineG (n M:Nat) (st:List Cell) (its:List It) (text:List Nat) (st':List Cell):Prop where
 chain:Chain its
 head:∀x r,its=x::r->x.g∈fz
 txt:(its=[]/\text∈fz)\/(its≠[]/\text=flat its)
 ext:Ext n st st'
 cell:st'[M]? = some (.list (cE 0 its))
 len:text.length<=20+110*its.length
theorem Jw {xs:List It}{y:It}(hne:xs≠[]) (h:∀x r,xs=x::r->x.g∈fz):∀x r,xs++[y]=x::r->x.g∈fz:=by
 induction xs with
 |nil=>exact absurd rfl hne
 |cons a l=>intro x r e;rw [List.cons_append] at e;exact h x l (by(erw [(List.cons.inj e).1];with_reducible rfl))
theorem DS (F:Fx) (h272:aO F 272 iM) (h298:aO F 298 o8) (h305:aO F 305 mX) (n M:Nat) (hM:M≠n) (st:List Cell) (hM':st.length<=M) (its:List It) (text:List Nat) (st':List Cell) (hG:LineG n M st its text st') (hi:its.length<=6)
  (x3 x4 x5 x6 x7:Option V) (Q:Fl->St->Prop) (X:XE)
  (hQ:∀y text st'' x4 x5 x6 x7,LineG n M st (its++[y]) text st''->Q .next ⟨[some (.obj n),some (.str text),some (.obj M),x3,x4,x5,x6,x7,none,none,none,none],st''⟩) :
  bN F [pX,nw,lM,jy,jx] ⟨[some (.obj n),some (.str text),some (.obj M),x3,x4,x5,x6,x7,none,none,none,none],st'⟩ Q X:=by
 obtain⟨hch,hhd,htx,hE,hc,hlen⟩:=hG;try dsimp only [pX,aq,eJ,aV,aU,aB,aN,aD,aC,ax,ay,ar,bl,au]
 refine h298 _ _ _ _ (aQ n rfl hE.src (fun k w v st1 hw hE1=>⟨rfl,?_⟩));have hwl:=pv hw;have hc1:=hE1.at_ hc hM;have hE01:=hE.trans hE1;have fin:∀(g:List Nat) (nb:Bool) (st2:List Cell),(its≠[]->g∈[]::fW)->(its=[]->g=[])->(∀xs x,its=xs++[x]->g∈fW\/(g=[]/\iw x.k x.w k w=true))->Ext n st st2->st2[M]? = some (.list (cE 0 its))->
   bN F [jy,jx] ⟨[some (.obj n),some (.str (text++g)),some (.obj M),x3,some (.str k),some (.str w),some v,some (.bool nb),none,none,none,none],st2⟩ Q X:=by
  intro g nb st2 hg1 hg0 hg2 hE2 hc2;have hgl:g.length<=20:=by
   by_cases h:its=[]
   ·erw [hg0 h];simp
   ·refine av (bC (hg1 h)) ?_ ?_
    ·rintro rfl;simp
    ·intro h;exact hV.1 g h
  try dsimp only [jy,jx,aq,m6,aB,bk,aJ,a9,bh,ax,cR,aD,aC,bZ,bz,bn,bp,aN,ay,cU,aA,ar,au,eH,bc]
  refine oM hc2 ?_;refine bv _ _ rfl hc2 (by erw [jN];simp only [sizeLine];exact al [its.length] [] (.le aa (.k 6)) (.lt aa (.k 16777216)) hi) ?_;try dsimp only [cX,aA,ar,aT,aS,au,fM]
  have hlt:=(ce hc2).1;refine⟨by simp only [sizeLine,cf];exact f8 [its.length,text.length,w.length,g.length] [] (.le aa (.k 6)) (.le ae (.a (.k 20) (.m 110 aa))) (.le ai (.k 90)) (.le aG (.k 20)) (.le (.a (.a ae aG) ai) (.k 16777216)) hi hlen hwl hgl,?_⟩;refine av (pH its) ?_ ?_
  ·rintro rfl;have hg:=hg0 rfl;subst hg;have ht:text∈fz:=by
    refine av htx ?_ ?_<;>clear htx<;>intro h
    ·exact h.2
    ·exact absurd rfl h.1
   have:=hQ ⟨text,k,w,v⟩ (text++w) (st2.set M (.list (cE 0 []++[cY k w text.length v]))) (some (.str k)) (some (.str w)) (some v) (some (.bool nb)) ⟨hw,fun x r e=>by cases e;exact ht,.inr ⟨by simp,by simp [flat]⟩,hE2.other hM hM',by erw [fu hlt];simp [cE],by simp at hlen⊢;exact aL [w.length,text.length] [] (.le aa (.k 90)) (.le ae (.k 20)) (.le (.a ae aa) (.k 130)) hwl hlen⟩
   simpa [cY] using this
  ·intro y0;refine du y0 ?_;clear y0;intro xs x y3;subst y3;have ht:text=flat (xs++[x]):=by
    refine av htx ?_ ?_<;>clear htx<;>intro h
    ·exact absurd h.1 (by simp)
    ·exact h.2
   refine hQ ⟨g,k,w,v⟩ (text++g++w) _ _ _ _ _ ⟨Chain.snoc hch hw (hg2 _ _ rfl),Jw (by simp) hhd,.inr ⟨by simp,by(erw [Az];erw [ht];with_reducible rfl)⟩,hE2.other hM hM',?_,by simp at hlen⊢;exact bQ [w.length,g.length,text.length,xs.length] [] (.le aa (.k 90)) (.le ae (.k 20)) (.le ai (.a (.k 20) (.m 110 (.a aG (.k 1))))) (.le (.a ai (.a ae aa)) (.a (.k 20) (.m 110 (.a aG (.k 2))))) hwl hgl hlen⟩
   (erw [fu hlt];erw [rP (xs++[x]) ⟨g,k,w,v⟩ 0];erw [ht])
   simp only [cY,cf,Nat.zero_add]
 refine av (pH its) ?_ ?_
 ·rintro rfl;try dsimp only [nw,cw,aJ,aT,aS,bk,aB,aq,mF,mO,mN,gh,bh,dp,dl,ay,ky,bK,i6,gO,ax,fw,m0,cV,aC,bn,bp,aA,ar,au,iP,po,dw,ji]
  refine aQ _ (fU hc1) (fun h=>absurd h (by decide)) (fun uz=>?_);try dsimp only [lM,aq,bt,a9,aB,fO,all_cons,all_nil,js,bf,ay,aN,aD,aC,ax,bl,lG,cV,bn,bp,aA,ar,au,fw,ji,bc]
  refine aQ _ (fU hc1) (fun h=>absurd h (by decide)) (fun uz=>?_);refine bF ?_;have:=fin [] false st1 (fun h=>absurd rfl h) (fun uz=>rfl) (fun xs x h=>by simp at h) hE01 hc1;rw [cz,aq] at this;exact this
 ·intro y0;refine du y0 ?_;clear y0;intro xs x y3;subst y3;refine af (vc (cE 0 xs) (cY x.k x.w (0+(flat xs).length+x.g.length) x.v)) ?_;intro q1 q2;have hl:bY st1 (.obj M)=some (cE 0 xs++[cY x.k x.w (0+(flat xs).length+x.g.length) x.v]):=(fU hc1).trans (by(erw [rP];with_reducible rfl));have hne:(!(cE 0 xs++[cY x.k x.w (0+(flat xs).length+x.g.length) x.v]).isEmpty)=true:=by simp
  have go:∀nb:Bool,nb=iw x.k x.w k w->bN F [lM,jy,jx] ⟨[some (.obj n),some (.str text),some (.obj M),x3,some (.str k),some (.str w),some v,some (.bool nb),none,none,none,none],st1⟩ Q X:=by
   intro nb hnb;have near:∀st2,nb=true->Ext n st1 st2->bN F [jy,jx] ⟨[some (.obj n),some (.str text),some (.obj M),x3,some (.str k),some (.str w),some v,some (.bool nb),none,none,none,none],st2⟩ Q X:=by
    intro st2 h hE2;have:=fin [] nb st2 (fun uz=>by simp) (fun uz=>rfl) (fun ys y e=>?_) (hE01.trans hE2) (hE2.at_ hc1 hM)
    ·rw [cz] at this;exact this
    ·have:=(List.append_inj' e rfl).2
     rw [(List.cons.inj this).1] at hnb;exact .inr ⟨rfl,by(refine aZ (hnb ..) ?_);exact h⟩
   have far:∀st2,Ext n st1 st2->dk F pW ⟨[some (.obj n),some (.str text),some (.obj M),x3,some (.str k),some (.str w),some v,some (.bool nb),none,none,none,none],st2⟩ (gv F [] (gv F [jy,jx] Q X) X) X:=by
    intro st2 hE2;try dsimp only [pW,bk,aJ,aB,a9,aq,bh,aN,aD,aC,ax,ay,bl,aA,ar,aT,aS,au,bc]
    refine h305 _ _ _ _ (aQ n rfl (hE01.trans hE2 |>.src) (fun g st3 hg hE3=>?_));have hgl:=hV.1 g hg;try dsimp only [fM]
    refine⟨by simp only [sizeLine];exact bQ [(xs++[x]).length,text.length,g.length] [] (.le aa (.k 6)) (.le ae (.a (.k 20) (.m 110 aa))) (.le ai (.k 20)) (.le (.a ae ai) (.k 16777216)) hi hlen hgl,?_⟩;have:=fin g nb st3 (fun uz=>by simp [hg]) (fun h=>absurd h (by simp)) (fun ys y e=>.inl hg) ((hE01.trans hE2).trans hE3) (hE3.at_ (hE2.at_ hc1 hM) hM);rw [aq] at this;exact this
   try dsimp only [lM,aq,bt,a9,aB,fO,all_cons,all_nil,js,bf,ay,aN,aD,aC,ax,bl,lG,cV,bn,bp,aA,ar,au,fw,ji,bc]
   refine aQ _ hl (fun uz=>?_) (fun h=>absurd h (by simp));refine⟨fun h=>?_,fun h=>?_⟩
   ·refine h272 _ _ _ _ (bv n 2 rfl hE01.src (by decide) (fun f st2 hf0 hf1 hE2=>?_));refine⟨fun hf=>bF (bF ?_),fun hf=>bT (bT ?_)⟩
    ·have:=near st2 h hE2
     simp only [aq] at this;exact this
    ·exact far st2 hE2
   ·exact bT (bT (far st1 (Ext.refl hE01.src)))
  try dsimp only [nw,cw,aJ,aT,aS,bk,aB,aq,mF,mO,mN,gh,bh,dp,dl,ay,ky,bK,i6,gO,ax,fw,m0,cV,aC,bn,bp,aA,ar,au,iP,po,dw,ji]
  refine aQ _ hl (fun uz=>?_) (fun h=>absurd h (by simp));refine ed _ _ _ hl q1 q2 ?_;refine⟨fun h1=>⟨by decide,_,_,_,hl,q1,q2,?_⟩,fun h1=>?_⟩
  ·refine aI (by decide) (by simp [sizeLine,cW];exact aL [w.length,min 1 w.length,x.w.length,min 1 x.w.length] [] (.mn ae (.k 1) aa) (.mn aG (.k 1) ai) (.le (.a ae aG) (.k 16777216)) (eg (1) (w.length)) (eg (1) (x.w.length))) ?_;have:=go (iw x.k x.w k w) rfl;unfold iw at this;rw [show(decide (k=dm) != decide (x.k=dm))=true from h1,Bool.true_and,aq] at this;exact this
  ·have:=go (iw x.k x.w k w) rfl
   unfold iw at this;rw [show(decide (k=dm) != decide (x.k=dm))=false from h1,Bool.false_and,aq] at this;exact this
end
theorem zJ:∀{s:List Nat}{a:Nat}{f:List (Nat×List Nat)},Munch s a f->f.length<=s.length:=by
 intro s a f h;induction h with
 |nil=>simp
 | @cons s a r hne h ih=>
  have:=nk hne
  rw [dJ] at ih
  erw [List.length_cons]
  exact bQ [r.length,s.length,bR s,s.length-bR s] [] (.le aa aG) (.and (.le (.k 1) ai) (.le ai ae)) (.sb aG ae ai) (.le (.a aa (.k 1)) ae) ih this (bg (s.length) (bR s))
theorem DT (F:Fx) (h279:aO F 279 ii) (h305:aO F 305 mX) (h310:aO F 310 oZ) (h317:aO F 317 oY) (n M:Nat) (hM:M≠n) (st:List Cell) (hM':st.length<=M) (its:List It) (text:List Nat) (st':List Cell) (hG:LineG n M st its text st') (hi:its.length<=7)
  (x3 x4 x5 x6 x7:Option V) (Q:V->List Cell->Prop) (X:Exn->List Cell->Prop)
  (hQ:∀its g run found e st',LineOk its g->its.length<=7->(∀c∈run,c∈gQ)->run.length<=6->Munch run 0 found->e∈ends->Ext n st st'->
   Q (.tup [.str (flat its++g++run++e),.lst (cP its g found++fN (cP its g found) (flat its++g++run++e).length++[hZ (flat its++g++run++e).length])]) st') :
  bN F [vI,nv,pV,nu,nt,lL] ⟨[some (.obj n),some (.str text),some (.obj M),x3,x4,x5,x6,x7,none,none,none,none],st'⟩ (dO Q) (dc X):=by
 obtain⟨hch,hhd,htx,hE,hc,hlen⟩:=hG;have hl:bY st' (.obj M)=some (cE 0 its):=fU hc;have rest:∀g st1,LineOk its g->Ext n st st1->st1[M]? = some (.list (cE 0 its))->(flat its++g).length<=1000->
   bN F [nv,pV,nu,nt,lL] ⟨[some (.obj n),some (.str (flat its++g)),some (.obj M),x3,x4,x5,x6,x7,none,none,none,none],st1⟩ (dO Q) (dc X):=by
  intro g st1 hL hE1 hc1 hlen1;have hMl:=(ce hc1).1;try dsimp only [nv,aq,eJ,aV,aU,aB,aN,aD,aC,ax,ay,ar,bl,au]
  refine h310 _ _ _ _ (aQ n rfl hE1.src (fun run found m st2 hr1 hr2 hmu hE2 hm1 hm2 hm3=>⟨rfl,?_⟩));have hml:=zJ hmu;have hmM:M≠m:=by exact aL [M,st1.length,m] [] (.lt aa ae) (.le ae ai) (.not (.eq aa ai)) hMl hm3
  have hc2:=hE2.at_ hc1 hM;have hE02:=hE1.trans hE2;try dsimp only [cw,aJ,aT,aS]
  erw [jK]
  generalize hbase:flat its++g=base at hlen1 hQ⊢;refine(aj (found.map jJ) (rm hm1) (aQ (fun rest S'=>∃dn rs st3 x5 x10,found=dn++rs/\rest=rs.map jJ/\S'=⟨[some (.obj n),some (.str base),some (.obj M),x3,x4,x5,x6,x7,some (.str run),some (.obj m),x10,none],st3⟩/\Ext n st st3/\st3[m]? = some (.list (found.map jJ))/\st3[M]? = some (.list (cE 0 its++dn.map (lI base.length)))) ((Cy ([]) found st2 x5 none rfl rfl rfl hE02 hm1 (by simpa using hc2))) ?_ ?_))
  ·intro v;intro rs';intro S';intro y120;refine CO y120 ?_;clear y120;intro dn rs st3 y5 y10 e1 e2 y128 hE3 hm4 hc3;subst y128
   match rs,e2 with
   |p::rs,e2=>
   rw [List.map_cons] at e2;refine af (List.cons.inj e2) ?_;intro y0 y1;subst y0 y1;refine⟨fun k hk=>by cases hk;exact hm4.trans hm1.symm,?_⟩;refine⟨rfl,?_⟩;try dsimp only [aq,vG,cw,aJ,aT,aS,m6,aB,a9,kM,cR,aD,aC,bZ,bz,bn,bp,ay,bh,ax,aN,cU,aA,ar,au,eH,cA,bc]
   refine oM hc3 ?_;have hdl:dn.length<=6:=by have:=congrArg List.length e1;simp at this;exact bQ [run.length,found.length,dn.length,rs.length] [] (.le aa (.k 6)) (.le ae aa) (.eq ae (.a ai (.a aG (.k 1)))) (.le ai (.k 6)) hr2 hml this
   refine bv _ _ rfl hc3 (by(erw [cf];erw [jN];erw [eQ]);simp only [sizeLine];exact aL [its.length,dn.length] [] (.le aa (.k 7)) (.le ae (.k 6)) (.lt (.a aa ae) (.k 16777216)) hi hdl) ?_;refine Cy (dn++[p]) rs _ _ _ (by erw [e1];simp) rfl rfl (hE3.other hM hM') (by erw [iO hmM];exact hm4) ?_
   erw [fu (ce hc3).1]
   simp [lI,cY,dm]
  ·intro S';intro y40;refine CO y40 ?_;clear y40;intro dn rs st3 y5 y10 e1 e2 y48 hE3 hm4 hc3;subst y48;have:rs=[]:=by simpa using e2.symm
   subst this;rw [cz] at e1;subst e1;refine⟨fun k hk=>by cases hk;exact hm4.trans hm1.symm,?_⟩;try dsimp only [aB,nu,aq,bk,aJ,bh,aN,aD,aC,cV,bz,bn,bp,ay,ax,bl,aA,ar,aT,aS,au,fM]
   refine⟨by simp only [sizeLine];exact aL [run.length,base.length] [] (.le aa (.k 6)) (.le ae (.k 1000)) (.le (.a ae aa) (.k 16777216)) hr2 hlen1,(h279 _ _ _ _ (bv n _ rfl hE3.src (by simp) (fun e st4 he hE4=>?_)))⟩;refine ag (kj (l:=ends) he) ?_;intro e he' y2;subst y2;have hel:=hV.2.2 e he';refine⟨by simp only [sizeLine,cf];exact bQ [run.length,base.length,e.length] [] (.le aa (.k 6)) (.le ae (.k 1000)) (.le ai (.k 20)) (.le (.a (.a ae aa) ai) (.k 16777216)) hr2 hlen1 hel,?_⟩;have hq:=hQ its g run found e st4 hL hi hr1 hr2 hmu he' (hE3.trans hE4);have hc4:=hE4.at_ hc3 hM;have hrows:cP its g found=cE 0 its++found.map (lI base.length):=by unfold cP;(erw [hbase];with_reducible rfl)
   have hrl:(cP its g found).length<=20:=by(erw [hrows];erw [cf];erw [jN];erw [eQ]);exact bQ [its.length,run.length,found.length] [] (.le aa (.k 7)) (.le ae (.k 6)) (.le ai ae) (.le (.a aa ai) (.k 20)) hi hr2 hml
   have hrw:∀r∈cP its g found,∃k w p v,r=cY k w p v:=by
    intro r hr;rw [hrows] at hr;refine av (dI hr) (fun h=>?_) fun h=>?_
    ·exact AT _ _ _ h
    ·(refine ag (List.mem_map.mp h) ?_;intro p _ y2;subst y2);exact oR _ _ _ _ rfl
   rw [←hrows] at hc4;rw [hbase] at hq;generalize cP its g found=rows at hc4 hq hrl hrw;have hl4:bY st4 (.obj M)=some rows:=fU hc4;have fin:∀tl:List V,tl=fN rows (base++run++e).length->bN F [lL] ⟨[some (.obj n),some (.str (base++run++e)),some (.obj M),x3,x4,y5,x6,x7,some (.str run),some (.obj m),y10,some (.lst tl)],st4⟩ (dO Q) (dc X):=by
    rintro tl htl;have htl1:tl.length<=1:=by
     erw [htl];unfold fN;split
     ·split<;>simp
     ·simp
    try dsimp only [lL,aq,bH,bI,bZ,aD,bz,aC,bn,bp,bh,cV,ay,aN,ax,cU,aA,ar,au,eH,Df,pr,aV,aU,bG]
    refine gM _ hl4 (by simp only [sizeLine];exact aL [rows.length,tl.length] [] (.le aa (.k 20)) (.le ae (.k 1)) (.le (.a aa ae) (.k 16777216)) hrl htl1) (by simp only [sizeLine,cf];exact aL [rows.length,tl.length] [] (.le aa (.k 20)) (.le ae (.k 1)) (.le (.a (.a aa ae) (.a (.k 0) (.k 1))) (.k 16777216)) hrl htl1) ?_
    erw [htl]
    exact hq
   try dsimp only [nt,bk,aJ,aB,aq,fG,cV,aD,bz,aC,bn,bp,bZ,ay,aN,ax,cU,fO,all_cons,all_nil,ki,bK,i6,gO,bl,bf,aA,ar,au,eH,aT,aS,iP,ji]
   try simp only [cN,dj,fv,dK,and_true,cM,true_and,eZ]
   refine av (pH rows) ?_ ?_
   ·rintro rfl;refine aQ ([]) hl4 (fun h=>absurd h (by decide)) (fun uz=>?_);have:=fin [] rfl;rw [aq] at this;exact this
   ·intro y0;refine du y0 ?_;clear y0;intro pre l y3;subst y3;refine tB (hrw l (by simp)) ?_;intro kd wd p v y4;subst y4;refine af (vc pre (cY kd wd p v)) ?_;intro q1 q2;refine aQ _ hl4 (fun uz=>(ed _ _ _ hl4 q1 q2 ?_)) (fun h=>absurd h (by simp));refine h317 _ _ _ _ (tp kd wd (.int p) v rfl ?_);have ht:fN (pre++[cY kd wd p v]) (base++run++e).length=if jM kd wd=true then [jv (base++run++e).length] else []:=by
     unfold fN;erw [List.getLast?_concat];rfl
    refine⟨fun h=>?_,fun h=>?_⟩
    ·have:=fin [jv (base++run++e).length] (by(erw [ht];erw [if_pos h];with_reducible rfl))
     rw [aq] at this;exact this
    ·have:=fin [] (by(erw [ht];erw [if_neg (by(refine bx (h ..) ?_);decide)];with_reducible rfl))
     rw [aq] at this;exact this
 have hflat:its≠[]->text=flat its:=fun h=>by
  refine av htx ?_ ?_<;>clear htx<;>intro h'
  ·exact absurd h'.1 h
  ·exact h'.2
 refine aQ _ hl (fun h=>?_) (fun h=>?_)
 ·have hne:its≠[]:=by rintro rfl;exact absurd h (by decide)
  have ht:=hflat hne;subst ht;try dsimp only [vH,bk,aJ,aB,a9,aq,bh,aN,aD,aC,ax,ay,bl,aA,ar,aT,aS,au,bc]
  refine h305 _ _ _ _ (aQ n rfl hE.src (fun g st1 hg hE1=>?_));have hgl:=hV.1 g hg;refine⟨by simp only [sizeLine];exact bQ [its.length,(flat its).length,g.length] [] (.le aa (.k 7)) (.le ae (.a (.k 20) (.m 110 aa))) (.le ai (.k 20)) (.le (.a ae ai) (.k 16777216)) hi hlen hgl,?_⟩;have:=rest g st1 ⟨hch,hhd,.inr ⟨hne,hg⟩⟩ (hE.trans hE1) (hE1.at_ hc hM) (by erw [cf];exact bQ [its.length,(flat its).length,g.length] [] (.le aa (.k 7)) (.le ae (.a (.k 20) (.m 110 aa))) (.le ai (.k 20)) (.le (.a ae ai) (.k 1000)) hi hlen hgl);rw [aq] at this;exact this
 ·have h0:its=[]:=by
   have:cE 0 its=[]:=by simpa using h
   have:=congrArg List.length this
   rw [jN] at this;exact List.length_eq_zero_iff.mp this
  subst h0;have hst:text∈fz:=by
   refine av htx ?_ ?_<;>clear htx<;>intro h'
   ·exact h'.2
   ·exact absurd rfl h'.1
  have:=rest text st' ⟨hch,hhd,.inl ⟨rfl,hst⟩⟩ hE hc (by simp only [flat,List.nil_append];simp at hlen;exact al [text.length] [] (.le aa (.k 20)) (.le aa (.k 1000)) hlen)
  rw [aq] at this;exact this
theorem DU (F:Fx) (h272:aO F 272 iM) (h279:aO F 279 ii) (h298:aO F 298 o8) (h305:aO F 305 mX) (h310:aO F 310 oZ) (h317:aO F 317 oY):∀vs st Q X,tH vs st Q X->bJ F 1 [] 12 sx vs st Q X:=by
 intro vs;intro st;intro Q;intro X;intro y160;refine a8 y160 ?_;clear y160;intro n y162 hs hQ;subst y162;refine⟨rfl,?_⟩;try dsimp only [sx,vJ,bV,bU,bD,ck,cj,aV,aU,Nat.reduceAdd,Nat.reduceSub,cC,cg,aq,eJ,aB,bZ,gp,aD,bz,cw,aJ,aC,bn,bp,ow,aN,cV,ay,ax,ar,bl,aT,aS,au]
 try simp only [true_and]
 refine h279 _ _ _ _ (bv n _ rfl hs (by simp) (fun a st1 ha hE1=>?_));refine ag (kj (l:=fz) ha) ?_;intro text ht y2;subst y2;have htl:=hV.2.1 text ht;have hM:st1.length≠n:=by have:=hE1.src.lt;exact al [n,st1.length] [] (.lt aa ae) (.not (.eq ae aa)) this
 have hM':st.length<=st1.length:=hE1.len;generalize hMM:st1.length=M at hM hM';have hcell:(st1++[Cell.list []])[M]? = some (.list []):=by(refine aZ (hMM ..) ?_);simp
 have hE2:Ext n st (st1++[Cell.list []]):=hE1.app;generalize st1++[Cell.list []]=st2 at hcell hE2
 erw [jK]
 try dsimp only [aN,aD,aC,ay,ax,bl,ar,e7,au]
 refine h272 _ _ _ _ (bv n 8 rfl hE2.src (by decide) (fun t st3 ht0 ht1 hE3=>?_));have hi:d6 st3 (.rng 0 t 1)=some (dA 0 1 t.toNat):=by
  have:=nX (st:=st3) (a:=0) (k:=t.toNat) (aL [t.toNat] [t] (.Lt aw (.k 8)) (.tn aa aw) (.lt (.a (.k 0) aa) (.k 4611686018427387904)) ht1 (di (t)))
  rw [Nat.zero_add,Int.toNat_of_nonneg ht0] at this;exact this
 have hl:(dA 0 1 t.toNat).length=t.toNat:=nD _ _;refine(aj (dA 0 1 t.toNat) hi (aQ (fun rest S'=>∃its text st' x3 x4 x5 x6 x7,its.length+rest.length=t.toNat/\S'=⟨[some (.obj n),some (.str text),some (.obj M),x3,x4,x5,x6,x7,none,none,none,none],st'⟩/\LineG n M st its text st') ((Cv ([]) text st3 none none none none none (by simp [hl]) rfl (⟨trivial,fun x r h=>(by cases h),.inl ⟨rfl,ht⟩,hE2.trans hE3,hE3.at_ hcell hM,by simp;exact al [text.length] [] (.le aa (.k 20)) (.le aa (.k 20)) htl⟩))) ?_ ?_))
 ·intro v;intro rest;intro S';intro y120;refine CK y120 ?_;clear y120;intro its text st' x3 x4 x5 x6 x7 e1 y130 hG;subst y130;rw [List.length_cons] at e1;refine⟨fun k hk=>by(cases hk),?_⟩;refine DS F h272 h298 h305 n M hM st hM' its text st' hG (bQ [its.length,rest.length,t.toNat] [t] (.Lt aw (.k 8)) (.eq (.a aa (.a ae (.k 1))) ai) (.tn ai aw) (.le aa (.k 6)) ht1 e1 (di (t))) _ _ _ _ _ _ _ fun y text st'' x4 x5 x6 x7 hG'=>?_;exact Cv (its++[y]) text st'' _ x4 x5 x6 x7 (by simp;exact al [its.length,rest.length,t.toNat] [] (.eq (.a aa (.a ae (.k 1))) ai) (.eq (.a (.a aa (.k 1)) ae) ai) e1) rfl hG'
 ·intro S';intro y40;refine CK y40 ?_;clear y40;intro its text st' x3 x4 x5 x6 x7 e1 y50 hG;subst y50;refine⟨fun k hk=>by(cases hk),?_⟩;exact DT F h279 h305 h310 h317 n M hM st hM' its text st' hG (by simp at e1;exact bQ [its.length,t.toNat] [t] (.Lt aw (.k 8)) (.eq aa ae) (.tn ae aw) (.le aa (.k 7)) ht1 e1 (di (t))) x3 x4 x5 x6 x7 Q X hQ
def tG:bq:=fun vs st Q uz=>∃(t:List Nat) (n e:Nat),vs=[.str t]/\t.length<=sizeLine/\dg n t 0 []=.err e/\∀ex,Q (.int e) (st++ex)
theorem DR (F:Fx) (hx:F.exc 45=true) (h200:aO F 200 pb):∀vs st Q X,tG vs st Q X->bJ F 1 [] 2 sw vs st Q X:=by
 intro vs;intro st;intro Q;intro X;intro y160;refine f0 y160 ?_;clear y160;intro t n e y164 hsz he hQ;subst y164;refine⟨rfl,?_⟩;try dsimp only [sw,vF,vE,bV,bU,bD,ck,cj,aV,aU,Nat.reduceAdd,Nat.reduceSub,cC,cg,aq,Du,bI,m6,aB,a9,aN,aD,aC,ax,ay,ar,bl,au,bG,bc]
 refine⟨hx,h200 _ _ _ _ (bj t n rfl hsz ?_)⟩
 (erw [he];erw [gw])
 intro ex;exact⟨rfl,hQ ex⟩
section
noncomputable def gY:List Nat:=[110,111,119,104,101,114,101]
noncomputable def iq:List Nat:=[114,101,102,117,115,101,100]
structure WalkRows (rows:List V) (N:Nat):Prop where
 len:rows.length=N+1
 row:∀i,i<=N->∃kd t p v,rows[i]? = some (.tup [.str kd,.str t,.int p,v])/\gJ v=true/\fT kd t gY=false/\t.length<=1000/\(i<N->kd≠i5)/\(i=N->kd=i5)
def CL (a:V) (st:List Cell) (k:V->List Cell->Prop):Prop:=∃n i rows kd t p v,a=.obj n/\st[n]? = some (.inst 254 (wf rows i))/\dh rows i=some (.tup [.str kd,.str t,.int p,v])/\fT kd t gY=false/\k (.tup [.str iq,.int p]) st
def CM (a:V) (st:List Cell) (k:V->List Cell->Prop):Prop:=∃n i rows kd t p v,a=.obj n/\st[n]? = some (.inst 254 (wf rows i))/\dh rows i=some (.tup [.str kd,.str t,.int p,v])/\
 (if kd=fF then k (.tup [.str t,.int p]) (st.set n (.inst 254 (wf rows (i+1)))) else k (.tup [.str iq,.int p]) st)
structure Kp (h:Nat) (st st':List Cell):Prop where
 len:st.length<=st'.length
 same:∀m,m<st.length->m≠h->st'[m]? = st[m]?
theorem Kp.refl {h:Nat}{st:List Cell}:Kp h st st:=⟨bw _,fun uz uz uz=>rfl⟩
theorem Kp.trans {h:Nat}{a b c:List Cell}(h1:Kp h a b) (h2:Kp h b c):Kp h a c:=⟨aW h1.len h2.len,fun m hm hn=>(h2.same m (bA hm h1.len) hn).trans (h1.same m hm hn)⟩
theorem Kp.app {h:Nat}{st ex:List Cell}:Kp h st (st++ex):=⟨by simp,fun m hm uz=>dT hm⟩
theorem Kp.put {h:Nat}{st st':List Cell}{m:Nat}{c:Cell}(k:Kp h st st') (hm:m=h\/st.length<=m):Kp h st (st'.set m c):=
 ⟨by erw [List.length_set];exact k.len,fun j hj hn=>by rw [iO (by exact bQ [m,h,st.length,j] [] (.or (.eq aa ae) (.le ai aa)) (.lt aG ai) (.not (.eq aG ae)) (.not (.eq aa aG)) hm hj hn)];exact k.same j hj hn⟩
theorem nI {rows:List V}{N i:Nat}(h:rows.length=N+1):dh rows i=rows[min i N]?:=by
 unfold dh;erw [h];rfl
theorem rh (kd t:List Nat):fT kd t t=e8.contains kd:=by unfold fT;simp
theorem y7 {rows:List V}{N i j:Nat}(h:rows.length=N+1) (hi:i+j<=N):dh (rows.drop i) j=rows[i+j]?:=by
 unfold dh
 (erw [dJ];erw [h];erw [List.getElem?_drop])
 congr 1;exact f8 [i,j,N,N+1-i,N+1-i-1,min j (N+1-i-1)] [] (.le (.a aa ae) ai) (.sb aG (.a ai (.k 1)) aa) (.sb cb aG (.k 1)) (.mn j4 ae cb) (.eq (.a aa j4) (.a aa ae)) hi (bg (N+1) (i)) (bg (N+1-i) (1)) (eg (j) (N+1-i-1))
theorem jb {kd t:List Nat}{p:Int}{v:V}(h:gJ v=true):[V.str kd,V.str t,V.int p,v].all gJ=true:=by
 simp only [List.all_cons,List.all_nil,h];rfl
theorem DP (F:Fx) (hm:gt F) (h222:aO F 222 eY) (h229:aO F 229 lw) (h237:aO F 237 ij) (h244:aO F 244 lv) (h254:aO F 254 ls) (hL:∀a st k,CL a st k->F.heardL a st k) (hM:∀a st k,CM a st k->F.heardM a st k)
  (h N i:Nat) (rows:List V) (W:WalkRows rows N) (hi:i<N) (st:List Cell) (hc:st[h]? = some (.inst 254 (wf rows i))) (x3 x4 x5 x6 x7:Option V) (Q:Fl->St->Prop) (X:XE)
  (hQ:∀x3 x4 x5 x6 x7 st',st'[h]? = some (.inst 254 (wf rows (i+1)))->Kp h st st'->Q .next ⟨[some (.obj h),some (.lst rows),some (.int (i:Int)),x3,x4,x5,x6,x7],st'⟩) :
  bN F [pU,pT,pS,pR,pQ,pP,nr,lK,jw] ⟨[some (.obj h),some (.lst rows),some (.int (i:Int)),x3,x4,x5,x6,x7],st⟩ Q X:=by
 refine lq (W.row i (al [i,N] [] (.lt aa ae) (.le aa ae) hi)) ?_;intro kd t p v g0 a0 n0 tl0 e0 _;refine lq (W.row (i+1) (al [i,N] [] (.lt aa ae) (.le (.a aa (.k 1)) ae) hi)) ?_;intro kd1 t1 p1 v1 g1 a1 n1 _ _ _;refine lq (W.row (min (i+2) N) (al [i,N,min (i+2) N] [] (.mn ai (.a aa (.k 2)) ae) (.le ai ae) (eg (i+2) (N)))) ?_;intro kd2 t2 p2 v2 g2 a2 n2 _ _ _;have hne:=e0 hi;have hlen:=W.len;have k0:dh rows i=some (.tup [.str kd,.str t,.int p,v]):=by rw [nI hlen,Nat.min_eq_left (by exact al [i,N] [] (.lt aa ae) (.le aa ae) hi)];exact g0
 have k1:dh rows (i+1)=some (.tup [.str kd1,.str t1,.int p1,v1]):=by rw [nI hlen,Nat.min_eq_left (by exact al [i,N] [] (.lt aa ae) (.le (.a aa (.k 1)) ae) hi)];exact g1
 have k2:dh rows (i+2)=some (.tup [.str kd2,.str t2,.int p2,v2]):=by erw [nI hlen];exact g2
 try dsimp only [pU,aq,eJ,aV,aU,aB,bZ,gp,aD,bz,cw,aJ,aC,bn,bp,bK,aN,bh,ay,ax,cU,aA,ar,au,m5,j7,cA,uj,aT,aS,iQ]
 try simp only [true_and]
 refine bj i _ (dN (aL [i,N,rows.length] [] (.lt aa ae) (.eq ai (.a ae (.k 1))) (.lt aa ai) hi hlen)) g0 ?_
 (with_reducible refine bx ((show(if(rows.length:Int)-1<(i:Int)+2 then(rows.length:Int)-1 else(i:Int)+2)=((min (i+2) N:Nat):Int) by split<;>omega) ..) ?_)
 refine bj _ _ (dN (aL [rows.length,N,i,min (i+2) N] [] (.eq aa (.a ae (.k 1))) (.mn aG (.a ai (.k 2)) ae) (.lt aG aa) hlen (eg (i+2) (N)))) g2 ?_;try dsimp only [pT,bk,aJ,aB,aq,gh,cV,aD,bz,aC,bn,bp,ay,bK,ax,aA,ar,aT,aS,au,ik,ke]
 refine aj e8 rfl ?_;try dsimp only [pS,bt,aq,a9,aB,nd,any_cons,oN,bf,ax,cR,aD,aC,bK,ay,bh,ar,au,bc]
 refine dQ hc hm.1 (dM rows i).1 (h222 _ _ _ _ (eD h i 0 rows _ (.inr ⟨rfl,rfl⟩) hc k0 ?_));try dsimp only [aA,ar,au,jh]
 refine⟨rfl,jb a0,cF ?_⟩;refine dQ hc hm.1 (dM rows i).1 (h222 _ _ _ _ (eD h i 1 rows _ (.inl rfl) hc k1 ?_));try dsimp only [aA,ar,au,cA,iQ]
 refine(bj (i+1) _ (dN (a:=i+1) (aL [i,N,rows.length] [] (.lt aa ae) (.eq ai (.a ae (.k 1))) (.lt (.a aa (.k 1)) ai) hi hlen)) g1 (aI rfl (jb a1) (cF ?_)));refine dQ hc hm.1 (dM rows i).1 (h222 _ _ _ _ (eD h i 2 rows _ (.inl rfl) hc k2 ?_));try dsimp only [aA,ar,au,jg,jh]
 refine⟨rfl,jb a2,cF ?_⟩;refine dQ hc hm.2.2.1 (dM rows i).2.2.1 (h237 _ _ _ _ (tm h i 0 rows kd t t (.int p) v (.inr ⟨rfl,rfl⟩) hc k0 ?_))
 erw [rh]
 try dsimp only [aA,ar,au,m0]
 refine⟨fun uz=>?_,fun h=>absurd h (by simp)⟩;try dsimp only [pR,bt,aq,a9,aB,nd,any_cons,oN,bf,bZ,aD,bz,aC,bn,bp,bK,ay,ax,Ky,gh,cV,cR,ar,aA,au,jg,bc]
 try simp only [cM,dK,dj,true_and,fv,and_true]
 refine dQ hc hm.2.2.1 (dM rows i).2.2.1 (h237 _ _ _ _ (tm h i 2 rows kd2 t2 t2 (.int p2) v2 (.inl rfl) hc k2 ?_))
 erw [rh]
 try dsimp only [aA,ar,au,pg,ik,ke,m0]
 refine aQ e8 rfl (fun uz=>?_) (fun h=>absurd h (by simp));refine hL _ _ _ (⟨h,i,rows,kd,t,p,v,rfl,hc,k0,n0,?_⟩);try dsimp only [jh]
 try simp only [dj,cM,dK,and_true]
 refine aI rfl rfl ?_;try dsimp only [pQ,bk,aJ,aB,aq,aN,aD,aC,dp,ky,dl,ax,ay,aA,ar,bl,aT,aS,au,De]
 refine⟨by exact aH [i] [] (.Le (.k 0) (.c aa)),h254 _ _ _ _ (bj (.lst (rows.drop i)) (rows.drop i) rfl rfl ?_)⟩;have hst:=(ce hc).1;have hcA:(st++[Cell.inst 254 (wf (rows.drop i) 0)])[st.length]? = some (.inst 254 (wf (rows.drop i) 0)):=by simp
 have hcB:(st++[Cell.inst 254 (wf (rows.drop i) 0)])[h]? = some (.inst 254 (wf rows i)):=by erw [dT hst];exact hc
 have hne2:st.length≠h:=by exact al [h,st.length] [] (.lt aa ae) (.not (.eq ae aa)) hst
 have hdl:(rows.drop i).length=N-i+1:=by erw [dJ];exact f8 [i,N,rows.length,rows.length-i,N-i] [] (.lt aa ae) (.eq ai (.a ae (.k 1))) (.sb aG ai aa) (.sb cb ae aa) (.eq aG (.a cb (.k 1))) hi hlen (bg (rows.length) (i)) (bg (N) (i))
 have d0:dh (rows.drop i) 0=some (.tup [.str kd,.str t,.int p,v]):=by rw [y7 hlen (by exact al [i,N] [] (.lt aa ae) (.le (.a aa (.k 0)) ae) hi)];exact g0
 have d1:dh (rows.drop i) 1=some (.tup [.str kd1,.str t1,.int p1,v1]):=by rw [y7 hlen (by exact al [i,N] [] (.lt aa ae) (.le (.a aa (.k 1)) ae) hi)];exact g1
 have kA:Kp h st (st++[Cell.inst 254 (wf (rows.drop i) 0)]):=Kp.app;generalize st++[Cell.inst 254 (wf (rows.drop i) 0)]=st1 at hcA hcB kA;have stepT:∀st2:List Cell,st2[h]? = some (.inst 254 (wf rows i))->Kp h st st2->bN F [lK,jw] ⟨[some (.obj h),some (.lst rows),some (.int (i:Int)),some (.tup [.str kd,.str t,.int p,v]),some (.tup [.str kd2,.str t2,.int p2,v2]),some (.bool (e8.contains kd)),some (.obj st.length),x7],st2⟩ Q X:=by
  intro st2 hc2 k2';have done:∀st3:List Cell,st3=im st2 h rows i kd->bN F [jw] ⟨[some (.obj h),some (.lst rows),some (.int (i:Int)),some (.tup [.str kd,.str t,.int p,v]),some (.tup [.str kd2,.str t2,.int p2,v2]),some (.bool (e8.contains kd)),some (.obj st.length),some (.tup [.str kd,.str t,.int p,v])],st3⟩ Q X:=by
   intro st3 h3;try dsimp only [jw,aq,bt,a9,aB,bf,ax,aA,ar,au,jh,bc]
   try simp only [cM,dK,dj,true_and]
   refine⟨jb a0,hQ _ _ _ _ _ _ ?_ ?_⟩
   ·erw [h3];unfold im;erw [if_neg hne]
    exact fu (ce hc2).1
   ·erw [h3];unfold im;erw [if_neg hne]
    exact k2'.put (.inl rfl)
  have take:∀Q':QE,(∀st3,st3=im st2 h rows i kd->Q' (.tup [.str kd,.str t,.int p,v]) ⟨[some (.obj h),some (.lst rows),some (.int (i:Int)),some (.tup [.str kd,.str t,.int p,v]),some (.tup [.str kd2,.str t2,.int p2,v2]),some (.bool (e8.contains kd)),some (.obj st.length),x7],st3⟩)->dX F (.obj h) ("take":Str) ⟨[some (.obj h),some (.lst rows),some (.int (i:Int)),some (.tup [.str kd,.str t,.int p,v]),some (.tup [.str kd2,.str t2,.int p2,v2]),some (.bool (e8.contains kd)),some (.obj st.length),x7],st2⟩ (fun Qs=>Qs [] ⟨[some (.obj h),some (.lst rows),some (.int (i:Int)),some (.tup [.str kd,.str t,.int p,v]),some (.tup [.str kd2,.str t2,.int p2,v2]),some (.bool (e8.contains kd)),some (.obj st.length),x7],st2⟩) Q' X:=by
   intro Q' hQ';exact dQ hc2 hm.2.1 (dM rows i).2.1 (h229 _ _ _ _ (lf h i rows kd t (.int p) v rfl hc2 k0 (hQ' _ rfl)))
  try dsimp only [lK,aq,bk,aJ,aB,fG,cR,aD,aC,bK,ay,ax,fO,all_cons,all_nil,bf,bh,lG,aA,ar,au,jg,m4,jk,fw]
  try simp only [bi,dj,fv,dK,and_true,bE,cM,true_and]
  have tk:dX F (.obj h) ("take":Str) ⟨[some (.obj h),some (.lst rows),some (.int (i:Int)),some (.tup [.str kd,.str t,.int p,v]),some (.tup [.str kd2,.str t2,.int p2,v2]),some (.bool (e8.contains kd)),some (.obj st.length),x7],st2⟩ (fun Qs=>Qs [] ⟨[some (.obj h),some (.lst rows),some (.int (i:Int)),some (.tup [.str kd,.str t,.int p,v]),some (.tup [.str kd2,.str t2,.int p2,v2]),some (.bool (e8.contains kd)),some (.obj st.length),x7],st2⟩) (fun a S1=>dk F jw {loc:=S1.loc.set 7 (some a),st:=S1.st} (gv F [] Q X) X) X:=by
   refine take _ fun st3 h3=>?_;have:=done st3 h3;rw [aq] at this;exact this
  refine⟨fun htel=>(aI (by decide) (fun uz=>?_) (fun uz=>tk)),fun uz=>tk⟩;refine dQ hc2 hm.2.2.2 (dM rows i).2.2.2.1 (h244 _ _ _ _ (Cu h i rows kd t t p v rfl (al [t.length] [] (.le aa (.k 1000)) (.le aa (.k 1000000)) tl0) hc2 k0 ?_))
  (erw [rh];erw [if_pos htel])
  have:=done _ rfl
  rw [aq] at this;exact this
 have six:∀(st2:List Cell) (j:Nat),j=(if kd=fF then 1 else 0)->st2[st.length]? = some (.inst 254 (wf (rows.drop i) j))->st2[h]? = some (.inst 254 (wf rows i))->Kp h st st2->bN F [nr,lK,jw] ⟨[some (.obj h),some (.lst rows),some (.int (i:Int)),some (.tup [.str kd,.str t,.int p,v]),some (.tup [.str kd2,.str t2,.int p2,v2]),some (.bool (e8.contains kd)),some (.obj st.length),x7],st2⟩ Q X:=by
  intro st2 j hj hcA2 hcB2 k2';have hd:∃kd3 t3 p3 v3,(rows.drop i)[j]? = some (.tup [.str kd3,.str t3,.int p3,v3])/\rows[i+j]? = some (.tup [.str kd3,.str t3,.int p3,v3])/\dh (rows.drop i) (j+0)=some (.tup [.str kd3,.str t3,.int p3,v3])/\gJ v3=true:=by
   by_cases hk:kd=fF
   ·rw [if_pos hk] at hj;subst hj;exact iJ kd1 t1 p1 v1 (by erw [List.getElem?_drop];exact g1) g1 d1 a1
   ·rw [if_neg hk] at hj;subst hj;exact iJ kd t p v (by erw [List.getElem?_drop];exact g0) g0 d0 a0
  refine eW hd ?_;clear hd;intro kd3 t3 p3 v3 q1 q2 q3 q4;try dsimp only [aq,nr,bt,a9,aB,bf,bK,bh,aN,aD,aC,gh,ay,ax,e7,Da,cR,aA,ar,au,bc]
  refine dQ hcA2 hm.1 (dM _ _).1 (h222 _ _ _ _ (eD _ j 0 (rows.drop i) _ (.inr ⟨rfl,rfl⟩) hcA2 q3 ?_));try dsimp only [aA,ar,au,ik,dw,cA,iQ]
  try simp only [bi]
  have e:(i:Int)+(if kd=([110,97,109,101]:List Nat) then 1 else 0)=((i+j:Nat):Int):=by
   erw [hj]
   by_cases hk:kd=fF
   ·rw [if_pos hk,if_pos (show kd=[110,97,109,101] from hk)];rfl
   ·rw [if_neg hk,if_neg (show ¬kd=[110,97,109,101] from hk)];simp
  erw [e]
  refine bj (i+j) _ (dN (a:=i+j) (by have:=(ce q2).1;exact this)) q2 ?_;try simp only [jh]
  refine aI trivial (jb q4) ?_;try simp only [cM,dK,dj,true_and]
  have:=stepT st2 hcB2 k2'
  rw [aq] at this;exact this
 try dsimp only [pP,bt,aq,a9,aB,bf,fG,bZ,aD,bz,aC,bn,bp,bK,ay,ax,Kx,aA,ar,au,pg,jg,ik,dw,bc]
 try simp only [bi,bE]
 refine hM _ _ _ (lf st.length 0 (rows.drop i) kd t p v rfl hcA d0 ?_);by_cases hk:kd=fF
 ·erw [if_pos hk]
  try dsimp only [jh]
  try simp only [cM,dK,dj,true_and]
  refine⟨fun uz=>?_,fun h=>absurd hk h⟩;refine⟨rfl,?_⟩;have:=six _ 1 (by(erw [if_pos hk];with_reducible rfl)) (fu (ce hcA).1) (by erw [iO hne2];exact hcB) (kA.put (.inr (bw _)));rw [aq] at this;exact this
 ·erw [if_neg hk]
  try dsimp only [jh]
  try simp only [cM,dK,dj,true_and]
  refine⟨fun h=>absurd h hk,fun uz=>?_⟩;refine aI rfl rfl ?_;have:=six _ 0 (by(erw [if_neg hk];with_reducible rfl)) hcA hcB kA;rw [aq] at this;exact this
end
def mW:bq:=fun vs st Q uz=>∃(h N:Nat) (rows:List V),vs=[.obj h,.lst rows]/\WalkRows rows N/\N<=1000/\st[h]? = some (.inst 254 (wf rows 0))/\∀st',Kp h st st'->Q (.bool true) st'
theorem DQ (F:Fx) (hm:gt F) (h222:aO F 222 eY) (h229:aO F 229 lw) (h237:aO F 237 ij) (h244:aO F 244 lv) (h254:aO F 254 ls) (hL:∀a st k,CL a st k->F.heardL a st k) (hM:∀a st k,CM a st k->F.heardM a st k):∀vs st Q X,mW vs st Q X->bJ F 2 [] 8 sv vs st Q X:=by
 intro vs;intro st;intro Q;intro X;intro y160;refine oU y160 ?_;clear y160;intro h N rows y164 W hN hc hQ;subst y164;refine⟨rfl,?_⟩;have hlen:=W.len;try dsimp only [sv,bD,aV,aU,ck,cj,bV,bU,Nat.reduceAdd,Nat.reduceSub,cC,cg]
 erw [aq]
 erw [jK]
 have hi:d6 st (.rng 0 ((rows.length:Int)-1) 1)=some (dA 0 1 N):=by
  have:=nX (st:=st) (a:=0) (k:=N) (al [N] [] (.le aa (.k 1000)) (.lt (.a (.k 0) aa) (.k 4611686018427387904)) hN)
  rw [Nat.zero_add] at this;rw [show(rows.length:Int)-1=(N:Int) by exact al [rows.length,N] [] (.eq aa (.a ae (.k 1))) (.Eq (.s (.c aa) (.k 1)) (.c ae)) hlen];exact this
 refine(aj (dA 0 1 N) hi (aQ (fun rest S'=>∃i k st' x2 x3 x4 x5 x6 x7,i+k=N/\rest=dA ((i:Nat):Int) 1 k/\S'=⟨[some (.obj h),some (.lst rows),x2,x3,x4,x5,x6,x7],st'⟩/\st'[h]? = some (.inst 254 (wf rows i))/\Kp h st st') ((Ct 0 N st none none none none none none (aH [N] [] (.eq (.a (.k 0) aa) aa)) rfl rfl hc Kp.refl)) ?_ ?_))
 ·intro v;intro rest;intro S';intro y120;refine CI y120 ?_;clear y120;intro i k st' x2 x3 x4 x5 x6 x7 e1 e2 y132 hc' kp;subst y132;refine⟨fun k hk=>by(cases hk),?_⟩
  match k,e1,e2 with
  |k+1,e1,e2=>
  rw [dA] at e2;refine af (List.cons.inj e2) ?_;intro y0 y1;subst y0 y1;refine DP F hm h222 h229 h237 h244 h254 hL hM h N i rows W (al [i,k,N] [] (.eq (.a aa (.a ae (.k 1))) ai) (.lt aa ai) e1) st' hc' _ _ _ _ _ _ _ fun x3 x4 x5 x6 x7 st'' hc'' kp''=>?_;exact Ct (i+1) k st'' _ x3 x4 x5 x6 x7 (al [i,k,N] [] (.eq (.a aa (.a ae (.k 1))) ai) (.eq (.a (.a aa (.k 1)) ae) ai) e1) (by rw [show((i+1:Nat):Int)=(i:Int)+1 by exact aH [i] [] (.Eq (.c (.a aa (.k 1))) (.a (.c aa) (.k 1)))]) rfl hc'' (kp.trans kp'')
 ·intro S';intro y40;refine CI y40 ?_;clear y40;intro i k st' x2 x3 x4 x5 x6 x7 e1 e2 y52 hc' kp;subst y52;refine⟨fun k hk=>by(cases hk),?_⟩;have hk:k=0:=by
   induction k with
   |zero=>rfl
   |succ k=>rw [dA] at e2;cases e2
  subst hk;rw [Nat.add_zero] at e1;subst e1;refine lq (W.row i (bw _)) ?_;intro kd t p v g0 a0 n0 tl0 _ e0;have hkd:=e0 rfl;have k0:∀j,dh rows (i+j)=some (.tup [.str kd,.str t,.int p,v]):=fun j=>by rw [nI hlen,Nat.min_eq_right (by exact aH [i,j] [] (.le aa (.a aa ae)))];exact g0
  have ht:∀st,im st h rows i kd=st:=fun st=>by unfold im;(erw [if_pos hkd];with_reducible rfl)
  have hlast:seqIndex? (-1) rows.length=some i:=by erw [hlen];unfold seqIndex?;simp;omega
  try dsimp only [vD,aB,aq,bH,bI,mF,mO,mN,gh,bK,i6,ay,gO,ax,cR,aD,aC,fw,ar,au,bG]
  refine dQ hc' hm.2.1 (dM rows i).2.1 (h229 _ _ _ _ (lf h i rows kd t (.int p) v rfl hc' (k0 0) ?_))
  erw [ht]
  try dsimp only [aA,ar,au,iQ]
  refine(bj i _ hlast g0 (aI rfl (jb a0) ?_));refine⟨fun uz=>?_,fun h=>absurd h (by decide)⟩;refine dQ hc' hm.2.1 (dM rows i).2.1 (h229 _ _ _ _ (lf h i rows kd t (.int p) v rfl hc' (k0 0) ?_))
  erw [ht]
  try dsimp only [aA,ar,au,iQ]
  refine(bj i _ hlast g0 (aI rfl (jb a0) ?_));refine⟨fun uz=>?_,fun h=>absurd h (by decide)⟩;refine dQ hc' hm.1 (dM rows i).1 (h222 _ _ _ _ (eD h i 5 rows _ (.inl rfl) hc' (k0 5) ?_));try dsimp only [aA,ar,au,iQ]
  refine(bj i _ hlast g0 (aI rfl (jb a0) ?_));exact hQ _ kp
theorem Jv {F0:Fx}(hm:gt F0) (h244:aO F0 244 lv):∀a st k,CL a st k->oh F0 (.meth (.loc 0) ("expect":Str) [.cst (.str lY)]) 57 (some iq) a st k:=by
 intro a;intro st;intro k;intro y120;refine CN y120 ?_;clear y120;intro n i rows kd t p v y128 hc hp hn hk;subst y128;show aF F0 _ _ _ _;try dsimp only [cR,aD,aC,ay,ax,ar,au]
 refine dQ hc hm.2.2.2 (dM rows i).2.2.2.1 (h244 _ _ _ _ (Cu n i rows kd t lY p v rfl (by decide) hc hp ?_))
 (with_reducible refine bx ((show lY=gY by decide) ..) ?_;erw [hn])
 exact⟨rfl,hk⟩
theorem Ju:∀a st k,CM a st k->og 254 251 ("name":Str) lu 57 (some iq) a st k:=by
 intro a;intro st;intro k;intro y120;refine tz y120 ?_;clear y120;intro n i rows kd t p v y128 hc hp hk;subst y128;refine(bv n (wf rows i) rfl hc rfl (lf n i rows kd t p v rfl hc hp ?_));by_cases h:kd=fF
 ·rw [if_pos h] at hk⊢;exact hk
 ·rw [if_neg h] at hk⊢;exact⟨rfl,hk⟩
section
structure LineAll (its:List It) (g run:List Nat) (found:List (Nat×List Nat)) (e:List Nat):Prop where
 line:LineOk its g
 small:its.length<=7
 chars:∀c∈run,c∈gQ
 short:run.length<=6
 munch:Munch run 0 found
 ends:e∈ends
noncomputable def cQ (its:List It) (g run e:List Nat):List Nat:=flat its++g++run++e
noncomputable def i7 (its:List It) (g run:List Nat) (found:List (Nat×List Nat)) (e:List Nat):List V:=cP its g found++fN (cP its g found) (cQ its g run e).length++[hZ (cQ its g run e).length]
noncomputable def lB:List (List Nat×Nat):=[([35],0),([34,97],0),([34,97,10,98,34],0),([34,92,113,34],1),([39,97,98,39],0),([39,39],0),([39,92,34,39],1),([34,92,39,34],1),([48,120],0),([49,95,95,50],0),([49,95],0),([48,56],0),([48,98,49,50],0),([49,97],0),([49,46,53],0),([47,42,32,97],0),([96,97],0),([39,92,52,48,48,39],1),([34,97,92,117,100,56,48,48,34],2),([34,92,120,52,34],1),(List.replicate 101 57,0),([39],0),([48,95,95,55],0),([36],0)]
noncomputable def rG:List Nat:=[34,92,120,102,102,92,117,48,48,102,102,34]
structure Plain:Prop where
 q1:∃n rows a b c,dg n rG 0 []=.ok rows/\rows[0]? = some (.tup [a,b,c,.bytes [255,195,191]])
 q2:∃n rows a b c,dg n (List.replicate 100 57) 0 []=.ok rows/\rows[0]? = some (.tup [a,b,c,.int (10 ^ 100-1)])
 len:∀{its g run found e},LineAll its g run found e->(cQ its g run e).length<=2000
 read:∀{its g run found e},LineAll its g run found e->∃n,dg n (cQ its g run e) 0 []=.ok (i7 its g run found e)
 walk:∀{its g run found e},LineAll its g run found e->∃N,WalkRows (i7 its g run found e) N/\N<=1000
 wrong:∀{its g run found e p},LineAll its g run found e->p∈lB->∃n,dg n (cQ its g run e++[10,32]++p.1) 0 []=.err ((cQ its g run e).length+2+p.2)
theorem qy (c:Nat):∀n:Nat,(List.replicate n [c]).flatten=List.replicate n c
 | 0=>rfl
 |n+1=>by(erw [List.replicate_succ];erw [List.flatten_cons];erw [qy c n]);rfl
theorem Dh:∀p∈lB,p.1.length<=200:=by decide
def CU:bq:=fun vs st Q uz=>∃is:List Int,vs=[.lst (is.map .int)]/\∀st',Q (.bool true) st'
theorem DO (P:Plain) (F:Fx) (hm:gt F) (h200:aO F 200 pb) (h222:aO F 222 eY) (h265:aO F 265 tK) (h279:aO F 279 ii) (h324:aO F 324 tH) (h331:aO F 331 tG) (h345:aO F 345 mW):∀vs st Q X,CU vs st Q X->bJ F 1 [] 6 su vs st Q X:=by
 intro vs;intro st;intro Q;intro X;intro y160;refine ag y160 ?_;clear y160;intro is y162 hQ;subst y162;refine⟨rfl,?_⟩;refine oS P.q1 ?_;intro n1 rows1 a1 b1 c1 hr1 hg1;refine oS P.q2 ?_;intro n2 rows2 a2 b2 c2 hr2 hg2;try dsimp only [su,vC,bV,bU,bD,ck,cj,aV,aU,Nat.reduceAdd,Nat.reduceSub,cC,cg,aq,bt,a9,aB,nd,any_cons,oN,bf,bh,ay,lx,j7,bK,cR,aC,aN,aD,uf,bl,bc]
 try simp only [cM,dK,dj,true_and,fv,and_true]
 have pk:∀{rows:List V} {w:V},rows[0]? = some w->dh rows 0=some w:=fun h=>by unfold dh;erw [Nat.zero_min];exact h
 refine h200 _ _ _ _ (bj rG n1 rfl (by decide) ?_)
 (erw [hr1];erw [dz])
 intro ex1;have hc1:(st++ex1++[Cell.inst 254 (wf rows1 0)])[(st++ex1).length]? = some (.inst 254 (wf rows1 0)):=by simp
 generalize st++ex1++[Cell.inst 254 (wf rows1 0)]=st1 at hc1;refine dQ hc1 hm.1 (dM rows1 0).1 (h222 _ _ _ _ (eD _ 0 0 rows1 _ (.inr ⟨rfl,rfl⟩) hc1 (pk hg1) ?_));try dsimp only [t9,C1]
 try simp only [eZ,bi,dj,cN,bE]
 refine⟨?_,fun h=>absurd trivial h⟩;refine dq (by decide) (by decide) (by decide) ?_
 (erw [show Int.toNat 100=100 from rfl];erw [qy])
 refine h200 _ _ _ _ (bj (List.replicate 100 57) n2 rfl (by decide) ?_)
 (erw [hr2];erw [dz])
 intro ex2;have hc2:(st1++ex2++[Cell.inst 254 (wf rows2 0)])[(st1++ex2).length]? = some (.inst 254 (wf rows2 0)):=by simp
 generalize st1++ex2++[Cell.inst 254 (wf rows2 0)]=st2 at hc2;refine dQ hc2 hm.1 (dM rows2 0).1 (h222 _ _ _ _ (eD _ 0 0 rows2 _ (.inr ⟨rfl,rfl⟩) hc2 (pk hg2) ?_));try dsimp only [t9,C2]
 try simp only [eZ,bi,dj,cN,bE]
 refine aI (by decide) (by decide) ?_;refine⟨?_,fun h=>absurd trivial h⟩;try dsimp only [vB,bk,aJ,aB,aq,aN,aD,aC,ay,ax,ar,bl,aT,aS,au]
 refine h265 _ _ _ _ (aj is rfl (fun x y hx hy hy2=>?_));have hS:Src (st2++[Cell.list [.int x,.int y]]) st2.length:=(bv x y hx hy hy2 (by simp));generalize st2++[Cell.list [.int x,.int y]]=st3 at hS;generalize st2.length=n at hS;try dsimp only [vA,eJ,aV,aU,aB,aq,aN,aD,aC,ax,ay,aA,ar,bl,au]
 refine h324 _ _ _ _ (aQ n rfl hS (fun its g run found e st4 l1 l2 l3 l4 l5 l6 hE=>⟨rfl,?_⟩));have L:LineAll its g run found e:=⟨l1,l2,l3,l4,l5,l6⟩;have hlen:=P.len L;refine an (P.read L) ?_;intro n3 hr3;refine ag (P.walk L) ?_;intro N hW hN;have hwrong:∀p∈lB,_:=fun p hp=>P.wrong L hp;show dk F pO (cw ⟨_,st4⟩ [2,3] [.str (cQ its g run e),.lst (i7 its g run found e)]) _ _;generalize cQ its g run e=text at hlen hr3 hwrong⊢;generalize i7 its g run found e=due at hr3 hW⊢;try dsimp only [pO,cw,aJ,aT,aS,bt,aq,a9,aB,js,ki,aD,aC,ax,aN,ay,bl,aA,ar,au,bc]
 try simp only [cN,eZ]
 refine h200 _ _ _ _ (bj text n3 rfl (by simp only [sizeLine];exact al [text.length] [] (.le aa (.k 2000)) (.le aa (.k 16777216)) hlen) ?_)
 (erw [hr3];erw [dz])
 intro ex4;have hc4:(st4++ex4++[Cell.inst 254 (wf due 0)])[(st4++ex4).length]? = some (.inst 254 (wf due 0)):=by simp
 have hE4:Ext n st3 (st4++ex4++[Cell.inst 254 (wf due 0)]):=hE.app.app;generalize st4++ex4++[Cell.inst 254 (wf due 0)]=st5 at hc4 hE4;refine h345 _ _ _ _ (gm _ N due rfl hW hN hc4 (fun st6 k6=>?_));have hn5:n≠(st4++ex4).length:=by have:=hE.src.lt;simp;exact al [n,st4.length,ex4.length] [] (.lt aa ae) (.not (.eq aa (.a ae ai))) this
 have hn5':n<st5.length:=hE4.src.lt;have hS6:Src st6 n:=by
  refine b0 hE4.src ?_;intro x y h1 h2 h3 h4;exact bv x y h1 h2 h3 (by erw [k6.same n hn5' hn5];exact h4)
 try dsimp only [vz,eJ,aV,aU,aB,aq,aN,aD,aC,cV,bz,bn,bp,bZ,ay,bh,uf,ax,aA,ar,bl,au,fw]
 refine cT ?_
 repeat (refine And.intro (by decide) ?_)
 (erw [show Int.toNat 101=101 from rfl];erw [qy])
 refine h279 _ _ _ _ (bv n _ rfl hS6 (by simp) (fun a st7 ha hE7=>?_));have ha':a∈lB.map fun p=>V.tup [.str p.1,.int p.2]:=ha;refine ag (List.mem_map.mp ha') ?_;intro y0 hp y2;obtain⟨w,off⟩:=y0;subst y2;have hwl:=Dh _ hp;refine an (hwrong _ hp) ?_;intro n8 hr8;dsimp only at hwl hr8;refine⟨rfl,?_⟩;try dsimp only [vy,cw,aJ,aT,aS,bH,bI,gh,bh,ax,ay,aN,aD,aC,cU,aA,ar,bl,au,eH,cA,fM,aV,aU,bG]
 refine aI (by simp only [sizeLine];exact al [text.length] [] (.le aa (.k 2000)) (.le (.a aa (.a (.a (.k 0) (.k 1)) (.k 1))) (.k 16777216)) hlen) (by simp only [sizeLine,cf,List.length_cons,List.length_nil];exact aL [text.length,w.length] [] (.le aa (.k 2000)) (.le ae (.k 200)) (.le (.a (.a aa (.a (.a (.k 0) (.k 1)) (.k 1))) ae) (.k 16777216)) hlen hwl) (h331 _ _ _ _ (ed _ n8 _ rfl (by simp only [sizeLine,cf,List.length_cons,List.length_nil];exact aL [text.length,w.length] [] (.le aa (.k 2000)) (.le ae (.k 200)) (.le (.a (.a aa (.a (.a (.k 0) (.k 1)) (.k 1))) ae) (.k 16777216)) hlen hwl) hr8 (fun ex=>?_)));try dsimp only [jk]
 rw [decide_eq_true (by exact aH [text.length,off] [] (.Eq (.c (.a (.a aa (.k 2)) ae)) (.a (.a (.c aa) (.k 2)) (.c ae))))];exact hQ _
end
def RB (s:List Nat) (a:Nat) (br:Option Nat) (r:Res (Nat×Option Nat)):Prop:=∃n0,∀n,n0<=n->dP n s a br=r
def RR (s:List Nat) (a:Nat) (fs:List V) (r:Res (List V)):Prop:=∃n0,∀n,n0<=n->dg n s a fs=r
def gu (s:List Nat):Prop:=(∀c∈s.head?,c∉cH)/\s.take 2≠[47,47]/\s.take 2≠[47,42]
theorem k7 {s:List Nat}{a:Nat}{br:Option Nat}(h:gu s):RB s a br (.ok (a,br)):=by
 refine⟨1,fun n hn=>?_⟩;obtain⟨n,rfl⟩:∃m,n=m+1:=⟨n-1,by exact aL [n,n-1] [] (.le (.k 1) aa) (.sb ae aa (.k 1)) (.eq aa (.a ae (.k 1))) hn (bg (n) (1))⟩;induction s with
 |nil=>rfl
 |cons c r=>
  unfold dP;rw [if_neg (h.1 c (by simp)),if_neg (by rintro(e | e);exact h.2.1 e;exact h.2.2 e)]
theorem J3 {c:Nat}(hc:c≠10) (s:List Nat):cm [10] (c::s)=(cm [10] s).map (·+1):=by
 conv=>lhs;unfold cm
 rw [if_neg];simp only [List.isPrefixOf,cD,beq_iff_eq,not_and];intro h;exact absurd h.symm hc
theorem fj {c:Nat}{s:List Nat}{a:Nat}{br:Option Nat}{r:Res (Nat×Option Nat)}(hc:c∈[32,9,13]) (h:RB s (a+1) br r):RB (c::s) a br r:=by
 have hb:c∈cH:=by revert hc;revert c;decide
 have hc10:c≠10:=by rintro rfl;revert hc;decide
 refine an h ?_;clear h;intro n0 h;refine⟨n0+1,fun n hn=>?_⟩;obtain⟨n,rfl⟩:∃m,n=m+1:=⟨n-1,by exact aL [n0,n,n-1] [] (.le (.a aa (.k 1)) ae) (.sb ai ae (.k 1)) (.eq ae (.a ai (.k 1))) hn (bg (n) (1))⟩
 conv=>lhs;unfold dP
 (erw [if_pos hb];erw [nB hb];erw [List.drop_succ_cons];erw [List.take_succ_cons];refine bx (J3 hc10 ..) ?_)
 cases s with
 |nil=>
  have:=h n (al [n0,n] [] (.le (.a aa (.k 1)) (.a ae (.k 1))) (.le aa ae) hn)
  simpa [run,cm,f4] using (by cases br<;>exact this)
 |cons d s=>
  by_cases hd:d∈cH
  ·have:=h (n+1) (al [n0,n] [] (.le (.a aa (.k 1)) (.a ae (.k 1))) (.le aa (.a ae (.k 1))) hn)
   conv at this=>lhs;unfold dP
   rw [if_pos hd] at this;(refine aZ (this ..) ?_)
   congr 1
   ·exact aH [a,run cH (d::s)] [] (.eq (.a aa (.a ae (.k 1))) (.a (.a aa (.k 1)) ae))
   ·erw [Option.map_map]
    congr 2
    funext j
    exact aH [a,j] [] (.eq (.a aa (.a ae (.k 1))) (.a (.a aa (.k 1)) ae))
  ·refine bx (nA hd ..) ?_;erw [List.drop_zero];erw [List.take_zero];have:=h n (al [n0,n] [] (.le (.a aa (.k 1)) (.a ae (.k 1))) (.le aa ae) hn);simpa [cm,f4] using (by cases br<;>exact this)
theorem Cr {s:List Nat}{a:Nat}{r:Res (Nat×Option Nat)}(h:RB s (a+1) (some a) r):RB (10::s) a none r:=by
 have hb:(10:Nat)∈cH:=by decide
 refine an h ?_;clear h;intro n0 h;refine⟨n0+1,fun n hn=>?_⟩;obtain⟨n,rfl⟩:∃m,n=m+1:=⟨n-1,by exact aL [n0,n,n-1] [] (.le (.a aa (.k 1)) ae) (.sb ai ae (.k 1)) (.eq ae (.a ai (.k 1))) hn (bg (n) (1))⟩
 conv=>lhs;unfold dP
 (erw [if_pos hb];erw [nB hb];erw [List.drop_succ_cons];erw [List.take_succ_cons])
 have e:f4 none ((cm [10] (10::List.take (run cH s) s)).map fun j=>a+j)=some a:=rfl
 erw [e]
 induction s with
 |nil=>simpa [run] using h n (al [n0,n] [] (.le (.a aa (.k 1)) (.a ae (.k 1))) (.le aa ae) hn)
 |cons d s=>
  by_cases hd:d∈cH
  ·have:=h (n+1) (al [n0,n] [] (.le (.a aa (.k 1)) (.a ae (.k 1))) (.le aa (.a ae (.k 1))) hn)
   conv at this=>lhs;unfold dP
   rw [if_pos hd] at this;(refine aZ (this ..) ?_)
   congr 1
   exact aH [a,run cH (d::s)] [] (.eq (.a aa (.a ae (.k 1))) (.a (.a aa (.k 1)) ae))
  ·refine bx (nA hd ..) ?_;erw [List.drop_zero];simpa using h n (al [n0,n] [] (.le (.a aa (.k 1)) (.a ae (.k 1))) (.le aa ae) hn)
theorem k8 {s:List Nat}{k a:Nat}{br:Option Nat}{r:Res (Nat×Option Nat)}(h2:s.take 2=[47,47]\/s.take 2=[47,42]) (hk:gR s a=.ok k) (hn:cm [10] (s.take k)=none) (h:RB (s.drop k) (a+k) br r):RB s a br r:=by
 refine an h ?_;clear h;intro n0 h;refine⟨n0+1,fun n hn'=>?_⟩;obtain⟨n,rfl⟩:∃m,n=m+1:=⟨n-1,by exact aL [n0,n,n-1] [] (.le (.a aa (.k 1)) ae) (.sb ai ae (.k 1)) (.eq ae (.a ai (.k 1))) hn' (bg (n) (1))⟩;cases s with
 |nil=>(refine av h2 ?_ ?_<;>clear h2<;>intro h2)<;>cases h2
 |cons c s=>
  have hc:c=47:=by(refine av h2 ?_ ?_<;>clear h2<;>intro h2)<;>(rw [List.take_succ_cons] at h2;exact(List.cons.inj h2).1)
  conv=>lhs;unfold dP
  (erw [if_neg (by(refine bx (hc ..) ?_);decide)];erw [if_pos h2];erw [hk])
  dsimp only
  erw [hn]
  have:=h n (al [n0,n] [] (.le (.a aa (.k 1)) (.a ae (.k 1))) (.le aa ae) hn')
  cases br<;>exact this
theorem Nr {s:List Nat}{a e:Nat}{br:Option Nat}(h2:s.take 2=[47,47]\/s.take 2=[47,42]) (hk:gR s a=.err e):RB s a br (.err e):=by
 refine⟨1,fun n hn'=>?_⟩;obtain⟨n,rfl⟩:∃m,n=m+1:=⟨n-1,by exact aL [n,n-1] [] (.le (.k 1) aa) (.sb ae aa (.k 1)) (.eq aa (.a ae (.k 1))) hn' (bg (n) (1))⟩;induction s with
 |nil=>(refine av h2 ?_ ?_<;>clear h2<;>intro h2)<;>cases h2
 |cons c s=>
  have hc:c=47:=by(refine av h2 ?_ ?_<;>clear h2<;>intro h2)<;>(rw [List.take_succ_cons] at h2;exact(List.cons.inj h2).1)
  conv=>lhs;unfold dP
  (erw [if_neg (by(refine bx (hc ..) ?_);decide)];erw [if_pos h2];erw [hk];with_reducible rfl)
theorem k9 {s:List Nat}{a b:Nat}{br:Option Nat}{r:Res (Nat×Option Nat)}(e:a=b) (h:RB s b br r):RB s a br r:=e▸h
theorem mQ {g s:List Nat}{a:Nat}{br:Option Nat}{r:Res (Nat×Option Nat)}(hg:g∈fW++fz++[[32],[32,47,42,32,42,47]]) (h:RB s (a+g.length) br r):RB (g++s) a br r:=by
 suffices H:∀g∈fW++fz++[[32],[32,47,42,32,42,47]],RB s (a+g.length) br r->RB (g++s) a br r from H g hg h
 refine mc (fun h=>fj (by decide) h) ?_;refine mc (fun h=>fj (by decide) (fj (by decide) (k9 (by simp) h))) ?_;refine mc (fun h=>fj (by decide) h) ?_;refine mc (fun h=>fj (by decide) (k8 (k:=10) (.inr rfl) rfl rfl (fj (by decide) (k9 (by simp) h)))) ?_;refine mc (fun h=>fj (by decide) (k8 (k:=4) (.inr rfl) rfl rfl (fj (by decide) (k9 (by simp) h)))) ?_;refine mc (fun h=>fj (by decide) (k8 (k:=10) (.inr rfl) rfl rfl (fj (by decide) (k9 (by simp) h)))) ?_;refine mc (fun h=>h) ?_;refine mc (fun h=>fj (by decide) h) ?_;refine mc (fun h=>k8 (k:=7) (.inr rfl) rfl rfl (k9 (by simp) h)) ?_;refine mc (fun h=>fj (by decide) h) ?_;refine mc (fun h=>fj (by decide) (k8 (k:=5) (.inr rfl) rfl rfl (k9 (by simp) h))) ?_;exact mn
def RW (s:List Nat) (a:Nat) (r:Res (V×Nat)):Prop:=∃n0,∀n,n0<=n->e9 n s a=r
theorem Cm {s s1:List Nat}{a a1 k:Nat}{br:Option Nat}{fs:List V}{w:V}{r:Res (List V)}(hfs:fs.length<=1000000) (hb:RB s a none (.ok (a1,br))) (hd:s.drop (a1-a)=s1) (hne:s1≠[]) (hw:RW s1 a1 (.ok (w,k))) (hk:k<=s1.length) (hi:iF w=true)
  (h:RR (s1.drop k) (a1+k) (fy fs br++[w]) r):RR s a fs r:=by
 refine an hb ?_;clear hb;intro n1 hb;refine an hw ?_;clear hw;intro n2 hw;refine an h ?_;clear h;intro n3 h;refine⟨n1+n2+n3+1,fun n hn=>?_⟩;obtain⟨n,rfl⟩:∃m,n=m+1:=⟨n-1,by exact aL [n1,n2,n3,n,n-1] [] (.le (.a (.a (.a aa ae) ai) (.k 1)) aG) (.sb cb aG (.k 1)) (.eq aG (.a cb (.k 1))) hn (bg (n) (1))⟩
 conv=>lhs;unfold dg
 rw [if_neg (by exact al [fs.length] [] (.le aa (.k 1000000)) (.not (.lt (.k 1000000) aa)) hfs),hb n (by exact al [n1,n2,n3,n] [] (.le (.a (.a (.a aa ae) ai) (.k 1)) (.a aG (.k 1))) (.le aa aG) hn)];dsimp only;rw [hd,if_neg hne,hw n (al [n1,n2,n3,n] [] (.le (.a (.a (.a aa ae) ai) (.k 1)) (.a aG (.k 1))) (.le ae aG) hn)];dsimp only;rw [if_neg (by rintro(h1 | h1);exact aL [k,s1.length] [] (.le aa ae) (.lt ae aa) .F hk h1;rw [hi] at h1;exact tf h1)];exact h n (al [n1,n2,n3,n] [] (.le (.a (.a (.a aa ae) ai) (.k 1)) (.a aG (.k 1))) (.le ai aG) hn)
theorem No {s:List Nat}{a a1:Nat}{br:Option Nat}{fs:List V}(hfs:fs.length<=1000000) (hb:RB s a none (.ok (a1,br))) (hd:s.drop (a1-a)=[]):RR s a fs (.ok (fy fs (f4 br (some a1))++[hZ a1])):=by
 refine an hb ?_;clear hb;intro n1 hb;refine⟨n1+1,fun n hn=>?_⟩;obtain⟨n,rfl⟩:∃m,n=m+1:=⟨n-1,by exact aL [n1,n,n-1] [] (.le (.a aa (.k 1)) ae) (.sb ai ae (.k 1)) (.eq ae (.a ai (.k 1))) hn (bg (n) (1))⟩
 conv=>lhs;unfold dg
 rw [if_neg (by exact al [fs.length] [] (.le aa (.k 1000000)) (.not (.lt (.k 1000000) aa)) hfs),hb n (by exact al [n1,n] [] (.le (.a aa (.k 1)) (.a ae (.k 1))) (.le aa ae) hn)];dsimp only
 (erw [hd];erw [if_pos rfl];with_reducible rfl)
theorem Nn {s s1:List Nat}{a a1 e:Nat}{br:Option Nat}{fs:List V}(hfs:fs.length<=1000000) (hb:RB s a none (.ok (a1,br))) (hd:s.drop (a1-a)=s1) (hne:s1≠[]) (hw:RW s1 a1 (.err e)):RR s a fs (.err e):=by
 refine an hb ?_;clear hb;intro n1 hb;refine an hw ?_;clear hw;intro n2 hw;refine⟨n1+n2+1,fun n hn=>?_⟩;obtain⟨n,rfl⟩:∃m,n=m+1:=⟨n-1,by exact aL [n1,n2,n,n-1] [] (.le (.a (.a aa ae) (.k 1)) ai) (.sb aG ai (.k 1)) (.eq ai (.a aG (.k 1))) hn (bg (n) (1))⟩
 conv=>lhs;unfold dg
 rw [if_neg (by exact al [fs.length] [] (.le aa (.k 1000000)) (.not (.lt (.k 1000000) aa)) hfs),hb n (by exact al [n1,n2,n] [] (.le (.a (.a aa ae) (.k 1)) (.a ai (.k 1))) (.le aa ai) hn)];dsimp only;rw [hd,if_neg hne,hw n (al [n1,n2,n] [] (.le (.a (.a aa ae) (.k 1)) (.a ai (.k 1))) (.le ae ai) hn)]
theorem Np {s:List Nat}{a e:Nat}{fs:List V}(hfs:fs.length<=1000000) (hb:RB s a none (.err e)):RR s a fs (.err e):=by
 refine an hb ?_;clear hb;intro n1 hb;refine⟨n1+1,fun n hn=>?_⟩;obtain⟨n,rfl⟩:∃m,n=m+1:=⟨n-1,by exact aL [n1,n,n-1] [] (.le (.a aa (.k 1)) ae) (.sb ai ae (.k 1)) (.eq ae (.a ai (.k 1))) hn (bg (n) (1))⟩
 conv=>lhs;unfold dg
 rw [if_neg (by exact al [fs.length] [] (.le aa (.k 1000000)) (.not (.lt (.k 1000000) aa)) hfs),hb n (by exact al [n1,n] [] (.le (.a aa (.k 1)) (.a ae (.k 1))) (.le aa ae) hn)]
def eE (k w:List Nat) (v:V) (R:List Nat):Prop:=w≠[]/\gu (w++R)/\∀a,RW (w++R) a (.ok (cY k w a v,w.length))
theorem Cp {g k w R:List Nat}{v:V}{a:Nat}{fs:List V}{r:Res (List V)}(hg:g∈fW++fz++[[32],[32,47,42,32,42,47]]) (hG:eE k w v R) (hfs:fs.length<=1000000) (h:RR R (a+g.length+w.length) (fs++[cY k w (a+g.length) v]) r):RR (g++(w++R)) a fs r:=by
 refine be hG ?_;clear hG;intro h1 h2 h3;refine Cm (s1:=w++R) (br:=none) (a1:=a+g.length) hfs (mQ hg (k7 h2)) (by(erw [Nat.add_sub_cancel_left];erw [List.drop_left];with_reducible rfl)) (by simp [h1]) (h3 _) (by simp) rfl ?_
 erw [List.drop_left]
 exact h
def fg (g:List Nat) (R:List Nat):Prop:=∀c∈R.head?,c∉g
theorem yN {g w R:List Nat}(hw:∀c∈w,c∈g) (hR:fg g R):run g (w++R)=w.length:=by
 induction w with
 |nil=>
  induction R with
  |nil=>rfl
  |cons c r=>exact nA (hR c (by simp))
 |cons c w ih=>
  (erw [List.cons_append];erw [nB (hw c (by simp))];erw [ih (fun c hc=>hw c (by simp [hc]))])
  rfl
theorem iU {c:Nat}{s:List Nat}(h:c∉47::cH):gu (c::s):=by
 simp only [List.mem_cons,not_or] at h;refine aI (fun d hd=>?_) (fun e=>?_) (fun e=>?_)
 ·simp at hd;subst hd;exact h.2
 ·rw [List.take_succ_cons] at e;exact h.1 (List.cons.inj e).1
 ·rw [List.take_succ_cons] at e;exact h.1 (List.cons.inj e).1
theorem zv:∀a∈jD,∀b∈jC,(∀c∈a++b,c∈bX)/\(∃c r,a++b=c::r/\c∈gE)/\dZ.contains (a++b)=false:=by
 have h:∀a∈jD,∀b∈jC,((a++b).all (fun c=>decide (c∈bX))&&(match a++b with | c::r=>decide (c∈gE) | []=>false)&&!dZ.contains (a++b))=true:=by decide
 intro a ha b hb;have:=h a ha b hb;simp only [cD,List.all_eq_true,bi,cN] at this;refine af this ?_;clear this;intro y0 h3;refine af y0 ?_;clear y0;intro h1 h2;refine aI h1 ?_ h3;cases e:a++b with
 |nil=>rw [e] at h2;exact ft h2
 |cons c r=>rw [e] at h2;exact bB c r rfl (by simpa using h2)
theorem zZ:∀w∈dZ,(∀c∈w,c∈bX)/\(∃c r,w=c::r/\c∈gE)/\dZ.contains w=true:=by
 have h:∀w∈dZ,(w.all (fun c=>decide (c∈bX))&&(match w with | c::r=>decide (c∈gE) | []=>false)&&dZ.contains w)=true:=by decide
 intro w hw;have:=h w hw;simp only [cD,List.all_eq_true,bi] at this;refine af this ?_;clear this;intro y0 h3;refine af y0 ?_;clear y0;intro h1 h2;refine aI h1 ?_ h3;cases e:w with
 |nil=>rw [e] at h2;exact ft h2
 |cons c r=>rw [e] at h2;exact bB c r rfl (by simpa using h2)
theorem L9:∀c∈gE,c∉47::cH:=by decide
theorem Ak {k w R:List Nat}(h1:∀c∈w,c∈bX) (h2:∃c r,w=c::r/\c∈gE) (h3:(if dZ.contains w=true then my else fF)=k) (hR:fg bX R):eE k w .none R:=by
 have hr:=yN h1 hR;refine bd h2 ?_;clear h2;intro c r y2 hc;subst y2;refine aI (by simp) (iU (L9 c hc)) (fun a=>⟨0,fun n uz=>?_⟩);rw [List.cons_append] at hr⊢;unfold e9;dsimp only
 (erw [if_pos hc];erw [hr];refine aZ (List.cons_append ..) ?_;erw [List.take_left];erw [h3])
 rfl
theorem JI {a b R:List Nat}(ha:a∈jD) (hb:b∈jC) (hR:fg bX R):eE fF (a++b) .none R:=by
 refine be (zv a ha b hb) ?_;intro h1 h2 h3;exact Ak h1 h2 (by erw [h3];rfl) hR
theorem JJ {w R:List Nat}(hw:w∈dZ) (hR:fg bX R):eE my w .none R:=by
 refine be (zZ w hw) ?_;intro h1 h2 h3;exact Ak h1 h2 (by erw [h3];rfl) hR
section
structure FigsW (base v:Int) (s:List Nat):Prop where
 ne:∃c r,s=c::r/\c≠48/\c≠95/\(base<=10->c∈fX)
 chars:∀c∈s,c∈bX
 last:s.getLast?≠some 95
 nodbl:d8 s=false
 len:s.length<=80
 val:dR base (s.filter (fun b=>decide (b≠95))) 0=some v
theorem rH:∀c∈db,dL (dx c)=dL c/\c∈bX/\dx c∈bX/\c≠95/\dx c≠95/\(c≠48->dx c≠48)/\(dL c<10->c∈fX/\dx c=c):=by decide
theorem kg {c:Nat}(h:c∈db\/c=95):(dx c=95↔c=95)/\dL (dx c)=dL c/\c∈bX/\dx c∈bX:=by
 refine av h ?_ ?_<;>clear h
 ·intro h;refine oV (rH c h) ?_;intro h1 h2 h3 h4 h5 _;exact dq (⟨fun h=>absurd h h5,fun h=>absurd h h4⟩) h1 h2 h3
 ·rintro rfl
  decide
theorem A0:∀{s:List Nat},(∀c∈s,c∈db\/c=95)->d8 (s.map dx)=d8 s
 | [],_=>rfl
 | [_],_=>rfl
 |a::b::r,h=>by
  have ih:=A0 (s:=b::r) fun c hc=>h c (by simp [hc])
  (erw [List.map_cons];erw [List.map_cons])
  rw [List.map_cons] at ih;unfold d8
  erw [ih]
  have e:∀c,c∈a::b::r->(dx c==95)=(c==95):=fun c hc=>by
   rw [Bool.eq_iff_iff,beq_iff_eq,beq_iff_eq];exact(kg (h c hc)).1
  (erw [e a (by simp)];erw [e b (by simp)];with_reducible rfl)
theorem Au {base:Int}:∀{s:List Nat}{v:Int},(∀c∈s,dL (dx c)=dL c)->dR base (s.map dx) v=dR base s v
 | [],_,_=>rfl
 |c::r,v,h=>by
  erw [List.map_cons]
  unfold dR
  (erw [h c (by simp)];erw [Au fun c hc=>h c (by simp [hc])];with_reducible rfl)
theorem AH:∀{s:List Nat},(∀c∈s,c∈db\/c=95)->(s.map dx).filter (fun b=>decide (b≠95))=(s.filter (fun b=>decide (b≠95))).map dx
 | [],_=>rfl
 |c::r,h=>by
  have ih:=AH (s:=r) fun c hc=>h c (by simp [hc]);have e:=(kg (h c (by simp))).1
  (erw [List.map_cons];erw [List.filter_cons];erw [List.filter_cons];erw [ih])
  by_cases hc:c=95
  ·(erw [if_neg (by simpa using e.mpr hc)];erw [if_neg (by simpa using hc)];with_reducible rfl)
  ·rw [if_pos (by simpa using fun h=>hc (e.mp h)),if_pos (by simpa using hc),List.map_cons]
theorem AC {base v:Int}{c:Nat}{r:List Nat}(h:dR base ((c::r).filter (fun b=>decide (b≠95))) 0=some v) (hc:c≠95):dL c<base:=by
 rw [List.filter_cons,if_pos (by simpa using hc)] at h;unfold dR at h;by_cases hb:base<=dL c
 ·rw [if_pos hb] at h;exact ba h
 ·exact al [] [base,dL c] (.not (.Le aw cO)) (.Lt cO aw) hb
theorem Figs.plain {base v:Int}{s:List Nat}(h:Figs base v s):FigsW base v s:=by
 obtain⟨⟨c,r,rfl,h1,h2⟩,hc,hl,hd,hn,hv⟩:=h;have f:=rH c h1;refine⟨(bv c r rfl h2 f.2.2.2.1 (fun hb=>(f.2.2.2.2.2.2 (by have:=AC hv f.2.2.2.1;exact aL [] [base,dL c] (.Le aw (.k 10)) (.Lt cO aw) (.Lt cO (.k 10)) hb this)).1)),fun x hx=>(kg (hc x hx)).2.2.1,hl,hd,hn,hv⟩
theorem Figs.upper {base v:Int}{s:List Nat}(h:Figs base v s):FigsW base v (s.map dx):=by
 obtain⟨⟨c,r,rfl,h1,h2⟩,hc,hl,hd,hn,hv⟩:=h;have f:=rH c h1;refine⟨(bv (dx c) (r.map dx) rfl (f.2.2.2.2.2.1 h2) f.2.2.2.2.1 (fun hb=>?_)),?_,?_,by erw [A0 hc];exact hd,by erw [eQ];exact hn,?_⟩
 ·have:=f.2.2.2.2.2.2 (by have:=AC hv f.2.2.2.1;exact aL [] [base,dL c] (.Le aw (.k 10)) (.Lt cO aw) (.Lt cO (.k 10)) hb this)
  erw [this.2];exact this.1
 ·intro x hx;refine ag (List.mem_map.mp hx) ?_;intro y hy y2;subst y2;exact(kg (hc y hy)).2.2.2
 ·intro e;rw [List.getLast?_map] at e;refine ag (Option.map_eq_some_iff.mp e) ?_;intro y hy e;have hm:=List.mem_of_getLast? hy;have:=(kg (hc y hm)).1.mp e;rw [this] at hy;exact hl hy
 ·(erw [AH hc];erw [Au fun x hx=>(kg (hc x ((List.mem_filter.mp hx).1))).2.1])
  exact hv
theorem An {w figs R:List Nat}{base v:Int}(h1:∀c∈w,c∈bX) (h2:∃c r,w=c::r/\c∈fX) (hp:dW w=(base,figs)) (hb:ja figs=false) (hl:figs.length<=100) (hv:dR base (figs.filter (fun b=>decide (b≠95))) 0=some v) (hR:fg (46::bX) R):eE nW w (.int v) R:=by
 have hr:run bX (w++R)=w.length:=yN h1 fun c hc=>fun h=>hR c hc (by simp [h]);have hpt:ir R=false:=by
  unfold ir;have:R.take 1≠[46]:=by
   induction R with
   |nil=>simp
   |cons c r=>
    have:=hR c (by simp)
    simp only [List.mem_cons,not_or] at this;simpa using this.1
  erw [decide_eq_false this];rfl
 refine bd h2 ?_;clear h2;intro c r y2 hc;subst y2;refine aI (by simp) (iU ((show ∀c∈fX,c∉47::cH by decide) c hc)) (fun a=>⟨0,fun n uz=>?_⟩);rw [List.cons_append] at hr⊢;unfold e9;dsimp only
 (erw [if_neg ((show ∀c∈fX,c∉gE by decide) c hc)];erw [if_pos hc])
 unfold cq;dsimp only
 (erw [hr];refine aZ (List.cons_append ..) ?_;erw [List.take_left];erw [List.drop_left];erw [hp])
 dsimp only;rw [if_neg (by erw [hb];decide),if_neg (by exact al [figs.length] [] (.le aa (.k 100)) (.not (.lt (.k 100) aa)) hl),hv];dsimp only
 (erw [if_neg (by(refine bx (hpt ..) ?_);decide)])
 rfl
theorem FigsW.ok {base v:Int}{s:List Nat}(h:FigsW base v s):ja s=false:=by
 obtain⟨⟨c,r,rfl,h1,h2,_⟩,hc,hl,hd,hn,hv⟩:=h;unfold ja
 (erw [hd];erw [decide_eq_false hl])
 simp [h2]
theorem IF {c:Nat}(h:eO c=48):c=48:=by
 unfold eO at h;split at h<;>omega
theorem zS {x y:Nat}(h:x≠48\/(y≠120/\y≠111/\y≠98)):PB.lookup [x,y]=none:=by
 unfold PB;dsimp only [List.lookup_cons,List.lookup_nil];have e:∀z:Nat,(z=120\/z=111\/z=98)->([x,y]==[48,z])=false:=fun z hz=>by
  rw [beq_eq_false_iff_ne];intro e;simp only [List.cons.injEq,and_true] at e;refine av h ?_ ?_<;>clear h<;>intro h
  ·exact h e.1
  ·(focus (refine av hz ?_ ?_<;>clear hz;rintro rfl;rotate_left;intro y0;(focus (refine av y0 ?_ ?_<;>clear y0;rintro rfl;rotate_left;rintro rfl;rotate_left));rotate_left 2))
   ·exact h.1 e.2
   ·exact h.2.1 e.2
   ·exact h.2.2 e.2
 (erw [e _ (.inl rfl)];erw [e _ (.inr (.inl rfl))];erw [e _ (.inr (.inr rfl))];with_reducible rfl)
theorem IG (x:Nat):PB.lookup [x]=none:=by
 unfold PB;simp [List.lookup_cons]
set_option tactic.hygienic true in
theorem GE {p:List Nat×Int}{v:Int}{s:List Nat}(hp:p∈jW) (h:FigsW p.2 v s):dW (p.1++s)=(p.2,s):=by
 obtain⟨⟨c,r,rfl,h1,h2,h3⟩,hc,hl,hd,hn,hv⟩:=h;simp only [jW,List.mem_cons,List.not_mem_nil,or_false] at hp
 (focus (refine av hp ?_ ?_<;>clear hp;rintro rfl;rotate_left;intro y0;(focus (refine av y0 ?_ ?_<;>clear y0;rintro rfl;rotate_left;intro y1;(focus (refine av y1 ?_ ?_<;>clear y1;rintro rfl;rotate_left;intro y2;(focus (refine av y2 ?_ ?_<;>clear y2;rintro rfl;rotate_left;intro y3;(focus (refine av y3 ?_ ?_<;>clear y3;rintro rfl;rotate_left;intro y4;(focus (refine av y4 ?_ ?_<;>clear y4;rintro rfl;rotate_left;intro y5;(focus (refine av y5 ?_ ?_<;>clear y5;rintro rfl;rotate_left;rintro rfl;rotate_left));rotate_left 2));rotate_left 3));rotate_left 4));rotate_left 5));rotate_left 6));rotate_left 7))
 ·have hl:PB.lookup ((([]++c::r:List Nat).take 2).map eO)=none:=by
   induction r with
   |nil=>exact IG _
   |cons d r=>exact zS (.inl fun e=>h1 (IF e))
  unfold dW
  erw [hl]
  show gy (c::r)=_;unfold gy
  split
  ·rename_i e;exact absurd (List.cons.inj e).1 h1
  ·rfl
 all_goals dsimp only at h3
 ·show(_,if [c]=[95] then _ else _)=_
  erw [if_neg (by simpa using h2)];rfl
 ·show(_,if [c]=[95] then _ else _)=_
  erw [if_neg (by simpa using h2)];rfl
 ·show(_,if [c]=[95] then _ else _)=_
  erw [if_neg (by simpa using h2)];rfl
 ·have hf:=(show ∀c∈fX,eO c≠120/\eO c≠111/\eO c≠98 by decide) c (h3 (by decide));unfold dW;rw [show PB.lookup ((([48]++c::r:List Nat).take 2).map eO)=none from zS (.inr hf)];show(_,if c=95 then _ else _)=_
  (erw [if_neg h2];with_reducible rfl)
 ·show(_,if [c]=[95] then _ else _)=_
  erw [if_neg (by simpa using h2)];rfl
 ·rfl
 ·rfl
theorem BL:∀p∈jW,(∀c∈p.1,c∈bX)/\(p.1=[]->p.2<=10)/\(p.1=[]\/∃r,p.1=48::r):=by
 have h:∀p∈jW,(p.1.all (fun c=>decide (c∈bX))&&(decide (p.1≠[])||decide (p.2<=10))&&(match p.1 with | []=>true | c::_=>decide (c=48)))=true:=by decide
 intro p hp;have:=h p hp;simp only [cD,List.all_eq_true,bi,Bool.or_eq_true] at this;refine af this ?_;clear this;intro y0 h3;refine af y0 ?_;clear y0;intro h1 h2;refine aI h1 (fun e=>h2.resolve_left (fun h=>h e)) ?_;cases e:p.1 with
 |nil=>exact .inl rfl
 |cons c r=>rw [e] at h3;exact .inr ⟨r,by(erw [show c=48 by simpa using h3];with_reducible rfl)⟩
theorem JG {w R:List Nat}{v:Int}(h:tj w v) (hR:fg (46::bX) R):eE nW w (.int v) R:=by
 refine av h ?_ ?_<;>clear h
 ·intro y0;refine af y0 ?_;clear y0;intro y1 y2;subst y1 y2;exact An (base:=10) (figs:=[48]) (by decide) (bB 48 ([]) rfl (by decide)) rfl (by decide) (by decide) (by decide) hR
 ·intro y0;refine ag y0 ?_;clear y0;intro p hp y3;refine ag y3 ?_;clear y3;intro s hF h;have main:∀s',FigsW p.2 v s'->eE nW (p.1++s') (.int v) R:=by
   intro s' hW;refine be (BL p hp) ?_;intro a1 a2 a3;refine An (base:=p.2) (figs:=s') ?_ ?_ (GE hp hW) hW.ok (by have:=hW.len;exact al [s'.length] [] (.le aa (.k 80)) (.le aa (.k 100)) this) hW.val hR
   ·intro c hc;refine av (dI hc) (fun hc=>?_) fun hc=>?_
    ·exact a1 c hc
    ·exact hW.chars c hc
   ·refine av a3 ?_ ?_<;>clear a3
    ·intro e;refine b0 hW.ne ?_;intro c r y2 h1 h2 h3;subst y2;exact bB c r (by erw [e];rfl) (h3 (a2 e))
    ·intro y0;refine an y0 ?_;clear y0;intro r e;exact bB 48 (r++s') (by erw [e];rfl) (by decide)
  refine av h ?_ ?_<;>clear h
  ·rintro rfl;exact main s hF.plain
  ·rintro rfl;exact main _ hF.upper
end
theorem JF {k w R:List Nat}{v:V}(h1:∃r,w=39::r) (h2:∀a,rune (w++R) a=.ok (cY k w a v,w.length)):eE k w v R:=by
 refine an h1 ?_;clear h1;intro r y1;subst y1;refine aI (by simp) (iU (by decide)) (fun a=>⟨0,fun n uz=>?_⟩);have:=h2 a;rw [List.cons_append] at this⊢;unfold e9;dsimp only
 (erw [if_neg (by decide)];erw [if_neg (by decide)];erw [if_neg (by decide)];erw [if_neg (by decide)];erw [if_pos rfl])
 exact this
theorem JD {p:List Nat×Int}{R:List Nat}(hp:p∈km):eE nV p.1 (.int p.2) R:=by
 suffices H:∀p∈km,eE nV p.1 (.int p.2) R from H p hp
 repeat refine mc (JF ⟨_,rfl⟩ fun a=>rfl) ?_
 exact mn
noncomputable def i8 (s:List Nat):List UInt8:=(s.map fun(c:Nat)=>if c=13 then [] else fS (c:Int)).flatten
theorem qB:∀(s:List Nat) (a:Nat) (acc:List UInt8),(∀c∈s,c=13\/et (c:Int)=true)->acc.length+4*s.length<=1000000->gT s a acc=.ok (acc++i8 s)
 | [],a,acc,_,_=>by simp [gT,i8]
 |c::r,a,acc,h,hl=>by
  rw [List.length_cons] at hl;unfold gT;rw [if_neg (by exact al [acc.length,r.length] [] (.le (.a aa (.m 4 (.a ae (.k 1)))) (.k 1000000)) (.not (.lt (.k 1000000) aa)) hl)];by_cases hc:c=13
  ·rw [if_pos hc,qB r (a+1) acc (fun c hc=>h c (by simp [hc])) (al [acc.length,r.length] [] (.le (.a aa (.m 4 (.a ae (.k 1)))) (.k 1000000)) (.le (.a aa (.m 4 ae)) (.k 1000000)) hl)];unfold i8
   (erw [List.map_cons];erw [List.flatten_cons];erw [if_pos hc];with_reducible refine bx (List.nil_append ..) ?_;with_reducible rfl)
  ·have hr:=(h c (by simp)).resolve_left hc;have ho:=lX (c:Int);rw [if_neg hc,if_pos hr,qB r (a+1) _ (fun c hc=>h c (by simp [hc])) (by erw [cf];exact aL [acc.length,r.length,(fS ↑c).length] [] (.le (.a aa (.m 4 (.a ae (.k 1)))) (.k 1000000)) (.le ai (.k 4)) (.le (.a (.a aa ai) (.m 4 ae)) (.k 1000000)) hl ho)];unfold i8
   (erw [List.map_cons];erw [List.flatten_cons];erw [if_neg hc];erw [List.append_assoc];with_reducible rfl)
theorem Ba:∀ds:List (List Nat×List UInt8),(∀d∈ds,i8 d.1=d.2)->i8 (ds.map (·.1)).flatten=(ds.map (·.2)).flatten
 | [],_=>rfl
 |d::r,h=>by
  have ih:=Ba r fun d hd=>h d (by simp [hd])
  (erw [List.map_cons];erw [List.flatten_cons];erw [List.map_cons];erw [List.flatten_cons];refine aZ (ih ..) ?_;refine aZ (h d (by simp) ..) ?_)
  unfold i8
  (erw [List.map_append];erw [List.flatten_append];with_reducible rfl)
theorem yU:∀d∈gS,i8 d.1=d.2/\∀c∈d.1,(c=13\/et (c:Int)=true)/\c≠96:=by decide
theorem AF {c:Nat}:∀{s r:List Nat},(∀x∈s,x≠c)->cm [c] (s++c::r)=some s.length
 | [],r,_=>by simp [cm]
 |x::s,r,h=>by
  have hx:=h x (by simp)
  erw [List.cons_append]
  unfold cm
  (erw [if_neg (by simpa using hx.symm)];with_reducible refine bx (AF fun y hy=>h y (by simp [hy]) ..) ?_)
  rfl
theorem JE {ds:List (List Nat×List UInt8)}{R:List Nat}(hl:ds.length<=4) (h:∀d∈ds,d∈gS):eE kG ([96]++(ds.map (·.1)).flatten++[96]) (.bytes (ds.map (·.2)).flatten) R:=by
 have hlen:=(nU fun d hd=>lH true d (h d hd)).1;have hch:∀(c:Nat),c∈(ds.map (·.1)).flatten->(c=13\/et (c:Int)=true)/\c≠96:=by
  intro c hc;refine ag (List.mem_flatten.mp hc) ?_;intro l hl hc;refine ag (List.mem_map.mp hl) ?_;intro d hd y2;subst y2;exact(yU d (h d hd)).2 c hc
 have hcv:=Ba ds fun d hd=>(yU d (h d hd)).1;generalize (ds.map (·.1)).flatten=X at hlen hch hcv;generalize (ds.map (·.2)).flatten=D at hcv;refine aI (by simp) (iU (by decide)) (fun a=>⟨0,fun n uz=>?_⟩)
 (with_reducible refine bx ((show [96]++X++[96]++R=96::(X++96::R) by simp) ..) ?_)
 unfold e9;dsimp only
 (erw [if_neg (by decide)];erw [if_neg (by decide)];erw [if_neg (by decide)];erw [if_pos rfl])
 unfold nG
 (erw [List.drop_one];erw [List.tail_cons];with_reducible refine bx (AF fun x hx=>(hch x hx).2 ..) ?_)
 dsimp only;rw [List.take_left,qB X (a+1) [] (fun c hc=>(hch c hc).1) (by simp;exact aL [ds.length,X.length] [] (.le aa (.k 4)) (.le ae (.m 10 aa)) (.le (.m 4 ae) (.k 1000000)) hl hlen)];dsimp only
 (erw [hcv];with_reducible refine bx (List.nil_append ..) ?_)
 have e:(96::(X++96::R)).take (X.length+2)=[96]++X++[96]:=by
  (with_reducible refine bx ((show 96::(X++96::R)=([96]++X++[96])++R by simp) ..) ?_)
  (with_reducible refine bx ((show X.length+2=([96]++X++[96]).length by simp) ..) ?_)
  exact List.take_left
 erw [e]
 simp [cY,kG]
def RQ (s:List Nat) (a:Nat) (acc:List UInt8) (r:Res (List UInt8×Nat×Bool)):Prop:=∃n0,∀n,n0<=n->eV n s a acc=r
theorem je {c a:Nat}{r:List Nat}{acc acc':List UInt8}{res:Res (List UInt8×Nat×Bool)}(h1:c≠10/\c≠34/\c≠92/\et (c:Int)=true) (hl:acc.length<=1000000) (e:acc++fS (c:Int)=acc') (h:RQ r (a+1) acc' res):RQ (c::r) a acc res:=by
 refine an h ?_;clear h;intro n0 h;subst e;refine⟨n0+1,fun n hn=>?_⟩;obtain⟨n,rfl⟩:∃m,n=m+1:=⟨n-1,by exact aL [n0,n,n-1] [] (.le (.a aa (.k 1)) ae) (.sb ai ae (.k 1)) (.eq ae (.a ai (.k 1))) hn (bg (n) (1))⟩;unfold eV;rw [if_neg (by exact al [acc.length] [] (.le aa (.k 1000000)) (.not (.lt (.k 1000000) aa)) hl),if_neg h1.1,if_neg h1.2.1,if_neg h1.2.2.1,if_pos h1.2.2.2];exact h n (al [n0,n] [] (.le (.a aa (.k 1)) (.a ae (.k 1))) (.le aa ae) hn)
theorem gL {a k:Nat}{v:Int}{o:Bool}{r:List Nat}{acc acc':List UInt8}{res:Res (List UInt8×Nat×Bool)}(hl:acc.length<=1000000) (he:jL (92::r) 34 a=.ok (v,o,k)) (hv:o=true->0<=v/\v<256)
  (e:acc++(if o=true then [UInt8.ofNat v.toNat] else fS v)=acc') (h:RQ ((92::r).drop k) (a+k) acc' res):RQ (92::r) a acc res:=by
 refine an h ?_;clear h;intro n0 h;subst e;refine⟨n0+1,fun n hn=>?_⟩;obtain⟨n,rfl⟩:∃m,n=m+1:=⟨n-1,by exact aL [n0,n,n-1] [] (.le (.a aa (.k 1)) ae) (.sb ai ae (.k 1)) (.eq ae (.a ai (.k 1))) hn (bg (n) (1))⟩;unfold eV;rw [if_neg (by exact al [acc.length] [] (.le aa (.k 1000000)) (.not (.lt (.k 1000000) aa)) hl),if_neg (by decide),if_neg (by decide),if_pos rfl,he];dsimp only;have:=h n (al [n0,n] [] (.le (.a aa (.k 1)) (.a ae (.k 1))) (.le aa ae) hn);induction o with
 |true=>(erw [if_pos rfl];erw [if_pos (hv rfl)]);exact this
 |false=>erw [if_neg (by decide)];exact this
theorem ey {acc x y:List UInt8}(h:x=y):acc++x=acc++y:=by(erw [h];with_reducible rfl)
theorem Nq {d:List Nat×List UInt8}{a:Nat}{R:List Nat}{acc:List UInt8}{res:Res (List UInt8×Nat×Bool)}(hd:d∈gf) (hl:acc.length<=100000) (h:RQ R (a+d.1.length) (acc++d.2) res):RQ (d.1++R) a acc res:=by
 have hl':acc.length<=1000000:=by exact al [acc.length] [] (.le aa (.k 100000)) (.le aa (.k 1000000)) hl
 suffices H:∀d∈gf,RQ R (a+d.1.length) (acc++d.2) res->RQ (d.1++R) a acc res from H d hd h
 refine mc (fun h=>je (by decide) hl' (ey (by decide)) h) ?_;refine mc (fun h=>je (by decide) hl' (ey (by decide)) h) ?_;refine mc (fun h=>je (by decide) hl' (ey (by decide)) h) ?_;refine mc (fun h=>je (by decide) hl' (ey (by decide)) h) ?_;refine mc (fun h=>je (by decide) hl' (ey (by decide)) h) ?_;refine mc (fun h=>je (by decide) hl' rfl (je (by decide) (by have:=lX ((47:Nat):Int);erw [cf];omega) (by erw [List.append_assoc];exact ey (by decide)) h)) ?_;refine mc (fun h=>gL (v:=10) (o:=false) (k:=2) hl' rfl (by decide) (ey (by decide)) h) ?_;refine mc (fun h=>gL (v:=65) (o:=true) (k:=4) hl' rfl (by decide) (ey (by decide)) h) ?_;refine mc (fun h=>gL (v:=255) (o:=true) (k:=4) hl' rfl (by decide) (ey (by decide)) h) ?_;refine mc (fun h=>gL (v:=255) (o:=true) (k:=4) hl' rfl (by decide) (ey (by decide)) h) ?_;refine mc (fun h=>gL (v:=65) (o:=true) (k:=4) hl' rfl (by decide) (ey (by decide)) h) ?_;refine mc (fun h=>gL (v:=9) (o:=false) (k:=2) hl' rfl (by decide) (ey (by decide)) h) ?_;refine mc (fun h=>gL (v:=34) (o:=false) (k:=2) hl' rfl (by decide) (ey (by decide)) h) ?_;refine mc (fun h=>gL (v:=8364) (o:=false) (k:=6) hl' rfl (by decide) (ey (by decide)) h) ?_;refine mc (fun h=>gL (v:=128512) (o:=false) (k:=10) hl' rfl (by decide) (ey (by decide)) h) ?_;refine mc (fun h=>gL (v:=92) (o:=false) (k:=2) hl' rfl (by decide) (ey (by decide)) h) ?_;refine mc (fun h=>je (by decide) hl' (ey (by decide)) h) ?_;refine mc (fun h=>gL (v:=11) (o:=false) (k:=2) hl' rfl (by decide) (ey (by decide)) h) ?_
 exact mn
theorem Cq:∀(ds:List (List Nat×List UInt8)) {a:Nat}{R:List Nat}{acc:List UInt8}{res:Res (List UInt8×Nat×Bool)},(∀d∈ds,d∈gf)->acc.length+10*ds.length<=100000->RQ R (a+(ds.map (·.1)).flatten.length) (acc++(ds.map (·.2)).flatten) res->RQ ((ds.map (·.1)).flatten++R) a acc res
 | [],a,R,acc,res,_,_,h=>by simpa using h
 |d::r,a,R,acc,res,hd,hl,h=>by
  have hs:=lH false d (hd d (by simp));rw [List.length_cons] at hl
  (erw [List.map_cons];erw [List.flatten_cons];erw [List.append_assoc])
  refine Nq (hd d (by simp)) (al [acc.length,r.length] [] (.le (.a aa (.m 10 (.a ae (.k 1)))) (.k 100000)) (.le aa (.k 100000)) hl) (Cq r (fun d h=>hd d (by simp [h])) (by erw [cf];exact aL [acc.length,r.length,d.fst.length,d.snd.length] [] (.le (.a aa (.m 10 (.a ae (.k 1)))) (.k 100000)) (.and (.le ai (.k 10)) (.le aG (.k 10))) (.le (.a (.a aa aG) (.m 10 ae)) (.k 100000)) hl hs) ?_);rw [List.map_cons,List.flatten_cons,List.map_cons,List.flatten_cons,cf] at h
  (erw [List.append_assoc];erw [Nat.add_assoc])
  exact h
theorem JK {ds:List (List Nat×List UInt8)}{R:List Nat}(hl:ds.length<=4) (h:∀d∈ds,d∈gf):eE kG ([34]++(ds.map (·.1)).flatten++[34]) (.bytes (ds.map (·.2)).flatten) R:=by
 refine aI (by simp) (iU (by decide)) (fun a=>?_);have hq:=Cq ds (a:=a+1) (R:=34::R) (acc:=[]) (res:=.ok ((ds.map (·.2)).flatten,a+1+(ds.map (·.1)).flatten.length,true)) h (by simp;exact al [ds.length] [] (.le aa (.k 4)) (.le (.m 10 aa) (.k 100000)) hl) (by
  refine⟨1,fun n hn=>?_⟩
  obtain⟨n,rfl⟩:∃m,n=m+1:=⟨n-1,by exact aL [n,n-1] [] (.le (.k 1) aa) (.sb ae aa (.k 1)) (.eq aa (.a ae (.k 1))) hn (bg (n) (1))⟩
  have hlen:=(nU fun d hd=>lH false d (h d hd)).2
  unfold eV
  rw [List.nil_append,if_neg (by exact aL [ds.length,(List.map (fun(x:List Nat×List UInt8)=>x.snd) ds).flatten.length] [] (.le aa (.k 4)) (.le ae (.m 10 aa)) (.not (.lt (.k 1000000) ae)) hl hlen),if_neg (by decide),if_pos rfl])
 refine an hq ?_;clear hq;intro n0 hq;refine⟨n0,fun n hn=>?_⟩;have hq:=hq n hn;generalize (ds.map (·.1)).flatten=X at hq⊢;generalize (ds.map (·.2)).flatten=D at hq⊢
 (with_reducible refine bx ((show [34]++X++[34]++R=34::(X++34::R) by simp) ..) ?_)
 unfold e9;dsimp only
 (erw [if_neg (by decide)];erw [if_neg (by decide)];erw [if_pos rfl])
 unfold qC
 (erw [List.drop_one];erw [List.tail_cons];erw [hq])
 dsimp only;rw [show a+1+X.length+1-a=X.length+2 by exact al [a,X.length,a+1+X.length+1-a] [] (.sb ai (.a (.a (.a aa (.k 1)) ae) (.k 1)) aa) (.eq ai (.a ae (.k 2))) (bg (a+1+X.length+1) (a))];have e:(34::(X++34::R)).take (X.length+2)=[34]++X++[34]:=by
  (with_reducible refine bx ((show 34::(X++34::R)=([34]++X++[34])++R by simp) ..) ?_)
  (with_reducible refine bx ((show X.length+2=([34]++X++[34]).length by simp) ..) ?_)
  exact List.take_left
 erw [e]
 simp [cY,kG]
theorem JC {w:List Nat}{d:List UInt8}{R:List Nat}(h:oP w d):eE kG w (.bytes d) R:=by
 refine a8 h ?_;clear h;intro ds h1 y2 h2;subst y2;refine av h2 ?_ ?_<;>clear h2
 ·intro y0;refine af y0 ?_;clear y0;intro h2 y2;subst y2;exact JE h1 h2
 ·intro y0;refine af y0 ?_;clear y0;intro h2 y2;subst y2;exact JK h1 h2
noncomputable def fP:List Nat:=[60,62,94,61,46,38,124,45,43]
theorem DK:∀g∈ct,∀c∈g.drop 1,c∈fP:=by decide
theorem EZ {s R g:List Nat}(hs:s≠[]) (hR:fg fP R) (hg:g∈ct):(s++R).take g.length=g↔g.length<=s.length/\s.take g.length=g:=by
 have hp:0<s.length:=List.length_pos_iff.mpr hs;by_cases hl:g.length<=s.length
 ·erw [List.take_append_of_le_length hl]
  exact⟨fun h=>⟨hl,h⟩,fun h=>h.2⟩
 ·refine⟨fun h=>?_,fun h=>absurd h.1 hl⟩
  exfalso
  have hlt:s.length<g.length:=by exact al [g.length,s.length] [] (.not (.le aa ae)) (.lt ae aa) hl
  have h1:g[s.length]? = R.head?:=by
   conv=>lhs;rw [←h]
   (erw [List.getElem?_take];erw [if_pos hlt];erw [List.getElem?_append_right (bw _)];erw [Nat.sub_self])
   cases R<;>rfl
  rw [eT hlt] at h1;have h2:g[s.length]∈g.drop 1:=by
   have:(g.drop 1)[s.length-1]? = some g[s.length]:=by
    rw [List.getElem?_drop,show 1+(s.length-1)=s.length by exact aL [s.length,s.length-1] [] (.lt (.k 0) aa) (.sb ae aa (.k 1)) (.eq (.a (.k 1) ae) aa) hp (bg (s.length) (1)),eT hlt]
   exact List.mem_of_getElem? this
  exact hR _ (by(refine aZ (h1 ..) ?_);rfl) (DK g hg _ h2)
noncomputable def A3:List (List Nat):=ct.take 4
noncomputable def A2:List (List Nat):=(ct.drop 4).take 21
noncomputable def A1:List (List Nat):=ct.drop 25
theorem EX:ct=A3++A2++A1/\(∀g∈A3,g.length=3)/\(∀g∈A2,g.length=2)/\∀g∈A1,g.length=1:=by decide
theorem on {s:List Nat}{j:Nat}:∀{A:List (List Nat)},(∀g∈A,g.length=j)->A.find? (fun g=>decide (g.length<=s.length/\s.take g.length=g))=if A.contains (s.take j)=true/\j<=s.length then some (s.take j) else none
 | [],_=>by simp
 |g::A,h=>by
  have hg:=h g (by simp)
  (erw [List.find?_cons];erw [on fun g hg=>h g (by simp [hg])];erw [hg];erw [List.contains_cons])
  by_cases hj:j<=s.length
  ·by_cases he:s.take j=g
   ·subst he;simp [hj]
   ·have:(s.take j==g)=false:=beq_eq_false_iff_ne.mpr he
    simp [hj,he,this]
  ·simp [hj]
theorem qK {s:List Nat}{j:Nat}{A B:List (List Nat)}(hA:∀g∈A,g.length=j) (hB:∀g∈B,g.length≠j) (h:∀g,g∈ct↔g∈A\/g∈B):(A.contains (s.take j)=true/\j<=s.length)↔cB s j=true:=by
 (erw [cD];erw [bi])
 constructor
 ·intro y0;refine af y0 ?_;clear y0;intro h1 h2;refine⟨?_,h2⟩;rw [List.contains_iff_mem] at h1⊢;exact(h _).mpr (.inl h1)
 ·intro y0;refine af y0 ?_;clear y0;intro h1 h2;refine⟨?_,h2⟩;rw [List.contains_iff_mem] at h1⊢;refine av ((h _).mp h1) (fun h3=>?_) fun h3=>?_
  ·exact h3
  ·exact absurd (by erw [List.length_take];exact aL [j,s.length,min j s.length] [] (.le aa ae) (.mn ai aa ae) (.eq ai aa) h2 (eg (j) (s.length))) (hB _ h3)
theorem JY {s:List Nat}(h1:cB s 1=true):ct.find? (fun g=>decide (g.length<=s.length/\s.take g.length=g))=some (s.take (bR s)):=by
 refine ig EX ?_;intro e h3 h2 hA1;have mem:∀g,g∈ct↔g∈A3\/g∈A2\/g∈A1:=fun g=>by
  conv=>lhs;rw [e]
  rw [List.mem_append,List.mem_append,or_assoc]
 have k3:=qK (s:=s) (B:=A2++A1) h3 (fun g hg=>by refine av (dI hg) (fun h=>?_) fun h=>?_;erw [h2 g h];decide;erw [hA1 g h];decide) (fun g=>by rw [mem,List.mem_append]);have k2:=qK (s:=s) (B:=A3++A1) h2 (fun g hg=>by refine av (dI hg) (fun h=>?_) fun h=>?_;erw [h3 g h];decide;erw [hA1 g h];decide) (fun g=>by rw [mem,List.mem_append];exact or_left_comm);have k1:=qK (s:=s) (B:=A3++A2) hA1 (fun g hg=>by refine av (dI hg) (fun h=>?_) fun h=>?_;erw [h3 g h];decide;erw [h2 g h];decide) (fun g=>by rw [mem,List.mem_append];exact⟨fun h=>by((focus (refine av h ?_ ?_<;>clear h;intro h;rotate_left;intro y0;(focus (refine av y0 ?_ ?_<;>clear y0;intro h;rotate_left;intro h;rotate_left));rotate_left 2)));exact .inr (.inl h);exact .inr (.inr h);exact .inl h,fun h=>by((focus (refine av h ?_ ?_<;>clear h;intro h;rotate_left;intro y0;(focus (refine av y0 ?_ ?_<;>clear y0;intro h;rotate_left;intro h;rotate_left));rotate_left 2)));exact .inr (.inr h);exact .inl h;exact .inr (.inl h)⟩)
 (erw [e];erw [List.find?_append];erw [List.find?_append];erw [on h3];erw [on h2];erw [on hA1])
 unfold bR;by_cases c3:cB s 3=true
 ·(erw [if_pos (k3.mpr c3)];erw [if_pos c3]);rfl
 ·rw [if_neg (fun h=>c3 (k3.mp h)),if_neg c3];by_cases c2:cB s 2=true
  ·(erw [if_pos (k2.mpr c2)];erw [if_pos c2]);rfl
  ·rw [if_neg (fun h=>c2 (k2.mp h)),if_neg c2,if_pos (k1.mpr h1)];rfl
theorem AD {p q:List Nat->Bool}:∀{A:List (List Nat)},(∀g∈A,p g=q g)->A.find? p=A.find? q
 | [],_=>rfl
 |g::A,h=>by(erw [List.find?_cons];erw [List.find?_cons];erw [h g (by simp)];erw [AD fun g hg=>h g (by simp [hg])];with_reducible rfl)
noncomputable def ju:List Nat:=[60,62,38,46,124,43,45,61,33,58,42,47,37,94,40,41,91,93,123,125,44,59]
theorem u9:∀c∈ju,c∉gE/\c∉fX/\c≠34/\c≠96/\c≠39/\c∉cH:=by decide
theorem u8 {s R:List Nat}{a:Nat}(hs:∃c r,s=c::r/\c∈ju) (h1:cB s 1=true) (hR:fg fP R):RW (s++R) a (.ok (cY dm (s.take (bR s)) a .none,bR s)):=by
 have hne:s≠[]:=by(refine bd hs ?_;clear hs;intro c r y2 _;subst y2);simp
 have hf:=JY h1;have hsz:=nk hne;rw [←AD (p:=fun g=>decide ((s++R).take g.length=g)) fun g hg=>decide_eq_decide.mpr (EZ hne hR hg)] at hf;refine bd hs ?_;clear hs;intro c r y2 hc;subst y2;refine oV (u9 c hc) ?_;intro o1 o2 o3 o4 o5 _;refine⟨0,fun n uz=>?_⟩;rw [List.cons_append] at hf⊢;unfold e9;dsimp only
 (erw [if_neg o1];erw [if_neg o2];erw [if_neg o3];erw [if_neg o4];erw [if_neg o5])
 unfold sign
 erw [hf]
 dsimp only
 (erw [List.length_take];erw [Nat.min_eq_left hsz.2])
 rfl
theorem EY:∀w∈ct,cB w 1=true/\bR w=w.length:=by decide
theorem u7:∀w∈ct,∃c r,w=c::r/\c∈ju:=by
 have h:∀w∈ct,(match w with | c::r=>decide (c∈ju) | []=>false)=true:=by decide
 intro w hw;have:=h w hw;cases e:w with
 |nil=>rw [e] at this;exact ft this
 |cons c r=>rw [e] at this;exact bB c r rfl (by simpa using this)
theorem EV:∀w∈ct,w.take 2≠[47,47]/\w.take 2≠[47,42]/\(w.length=1\/2<=w.length):=by decide
theorem Al {w R:List Nat}(hw:w∈ct) (hR:fg (47::42::fP) R):eE dm w .none R:=by
 refine af (EY w hw) ?_;intro s1 s2;have hh:=u7 w hw;have hR':fg fP R:=fun c hc h=>hR c hc (by simp [h]);refine be (EV w hw) ?_;intro t1 t2 t3;refine aI (by(refine bd hh ?_;clear hh;intro c r y2 _;subst y2);simp) ?_ (fun a=>?_)
 ·have two:∀x,(x=47\/x=42)->w.take 2≠[47,x]->(w++R).take 2≠[47,x]:=by
   intro x hx ht e;refine bd hh ?_;clear hh;intro c r y2 hc;subst y2;induction r with
   |nil=>
    induction R with
    |nil=>cases e
    |cons d R=>
     simp only [List.cons_append,List.nil_append,List.take_succ_cons,List.take_zero,List.cons.injEq,and_true] at e;refine hR d rfl ?_
     erw [e.2]
     ((focus (refine aK hx ?_ ?_<;>clear hx;rintro rfl;rotate_left;rintro rfl)))<;>decide
   |cons d r=>exact ht e
  refine aI (fun c hc=>?_) (two 47 (.inl rfl) t1) (two 42 (.inr rfl) t2);refine bd hh ?_;clear hh;intro d r y2 hd;subst y2;simp at hc;subst hc;exact(u9 _ hd).2.2.2.2.2
 ·have:=u8 (a:=a) hh s1 hR'
  rw [s2,List.take_length] at this;exact this
theorem qo:∀c∈gQ,c∈ju/\c∉47::cH:=by decide
set_option tactic.hygienic true in
theorem Do {k w:List Nat}{v:V}(h:WordT k w v) (hk:k≠dm):∃c r,w=c::r/\c∉47::42::fP:=by
 have n1:∀c∈gE,c∉47::42::fP:=by decide
 have n2:∀c∈fX,c∉47::42::fP:=by decide
 induction h with
 |name ha hb=>(refine be (zv _ ha _ hb) ?_;intro _ y1 _;refine bd y1 ?_;clear y1;intro c r e hc);exact bB c r e (n1 c hc)
 |key hw=>(refine be (zZ _ hw) ?_;intro _ y1 _;refine bd y1 ?_;clear y1;intro c r e hc);exact bB c r e (n1 c hc)
 |int h=>
  refine av h ?_ ?_<;>clear h
  ·intro y0;refine af y0 ?_;clear y0;intro y1 _;subst y1;exact bB 48 ([]) rfl (by decide)
  ·intro y0;refine ag y0 ?_;clear y0;intro p hp y3;refine ag y3 ?_;clear y3;intro s hF h;refine be (BL p hp) ?_;intro a1 a2 a3;have main:∀(n:Int) s',FigsW p.2 n s'->∃c r,p.1++s'=c::r/\c∉47::42::fP:=by
    intro n s' hW;refine av a3 ?_ ?_<;>clear a3
    ·intro e;refine b0 hW.ne ?_;intro c r y2 h1 h2 h3;subst y2;exact bB c r (by erw [e];rfl) (n2 c (h3 (a2 e)))
    ·intro y0;refine an y0 ?_;clear y0;intro r e;exact bB 48 (r++s') (by erw [e];rfl) (by decide)
   refine av h ?_ ?_<;>clear h
   ·rintro rfl;exact main _ s hF.plain
   ·rintro rfl;exact main _ _ hF.upper
 |text h=>
  refine a8 h ?_;clear h;intro ds _ _ h;refine av h ?_ ?_<;>clear h
  ·intro y0;refine af y0 ?_;clear y0;intro _ y2;subst y2;exact bB 96 _ rfl (by decide)
  ·intro y0;refine af y0 ?_;clear y0;intro _ y2;subst y2;exact bB 34 _ rfl (by decide)
 |rune hp=>
  have h:∀p∈km,(match p.1 with | c::r=>decide (c=39) | []=>false)=true:=by decide
  rename_i p
  have:=h p hp
  cases e:p.1 with
  |nil=>rw [e] at this;exact ft this
  |cons c r=>rw [e] at this;exact bB c r rfl (by erw [show c=39 by simpa using this];decide)
 |sign h=>exact absurd rfl hk
theorem pI {k w:List Nat}{v:V}(h:WordT k w v) (hk:k=dm):w∈ct/\v=.none:=by
 induction h with
 |sign h=>exact⟨h,rfl⟩
 |_=>exact absurd hk (by decide)
theorem Am {k w R:List Nat}{v:V}(h:WordT k w v) (hk:k≠dm) (hR:fg (46::bX) R):eE k w v R:=by
 have hR':fg bX R:=fun c hc h=>hR c hc (by simp [h]);induction h with
 |name ha hb=>exact JI ha hb hR'
 |key hw=>exact JJ hw hR'
 |int h=>exact JG h hR
 |text h=>exact JC h
 |rune hp=>exact JD hp
 |sign h=>exact absurd rfl hk
def oi (R:List Nat):Prop:=∀c∈R.head?,c∈cH
theorem Ao {k w R:List Nat}{v:V}(h:WordT k w v) (hR:oi R):eE k w v R:=by
 by_cases hk:k=dm
 ·refine af (pI h hk) ?_;intro h1 y1;subst y1;subst hk;exact Al h1 fun c hc=>(show ∀c∈cH,c∉47::42::fP by decide) c (hR c hc)
 ·exact Am h hk fun c hc=>(show ∀c∈cH,c∉46::bX by decide) c (hR c hc)
theorem JH {x y:It}{R:List Nat}(hx:x.ok) (hy:y.ok) (h:iw x.k x.w y.k y.w=true):eE x.k x.w x.v (y.w++R):=by
 unfold iw at h;rw [cD,cN,kK] at h;refine af h ?_;clear h;intro h1 h2;have h2':46∉y.w.take 1++x.w.take 1:=of_decide_eq_false h2;by_cases hk:x.k=dm
 ·have hyk:y.k≠dm:=fun e=>by rw [hk,e] at h1;simp at h1
  refine af (pI hx hk) ?_;intro s1 s2;refine bd (Do hy hyk) ?_;intro c r e hc
  (erw [hk];erw [s2])
  refine Al s1 ?_
  erw [e]
  intro d hd;simp at hd;subst hd;exact hc
 ·have hyk:y.k=dm:=by
   apply Classical.byContradiction;intro e;rw [decide_eq_false hk,decide_eq_false e] at h1;cases h1
  refine af (pI hy hyk) ?_;intro s1 s2;refine bd (u7 y.w s1) ?_;intro c r e hc;refine Am hx hk ?_;rw [e] at h2'⊢;intro d hd;simp at hd;subst hd;intro hm;refine av (bC hm) ?_ ?_
  ·rintro rfl;exact h2' (by simp)
  ·intro hm;exact(show ∀c∈ju,c∉bX by decide) _ hc hm
noncomputable def gG:List (List Nat):=fW++fz++[[32],[32,47,42,32,42,47]]
theorem At:∀g∈fW,∀R,oi (g++R):=by
 have h:∀g∈fW,(match g with | c::r=>decide (c∈cH) | []=>false)=true:=by decide
 intro g hg R;have:=h g hg;cases e:g with
 |nil=>rw [e] at this;exact ft this
 |cons c r=>
  rw [e] at this;intro d hd;simp at hd;subst hd;simpa using this
theorem Co:∀(its:List It) {a:Nat}{fs:List V}{R:List Nat}{r:Res (List V)},Chain its->(∀x l,its=x::l->x.g∈gG)->(its≠[]->oi R)->fs.length+its.length<=1000000->
  RR R (a+(flat its).length) (fs++cE a its) r->RR (flat its++R) a fs r
 | [],a,fs,R,r,_,_,_,_,h=>by simpa [flat,cE] using h
 | [x],a,fs,R,r,hc,hg,hR,hl,h=>by
  have e:flat [x]++R=x.g++(x.w++R):=by simp [flat]
  erw [e]
  refine Cp (hg x [] rfl) (Ao hc (hR (by simp))) (al [fs.length,[x].length] [] (.le (.a aa ae) (.k 1000000)) (.le aa (.k 1000000)) hl) ?_;simpa [flat,cE,Nat.add_assoc] using h
 |x::y::l,a,fs,R,r,hc,hg,hR,hl,h=>by
  refine be hc ?_;clear hc;intro hx hf hc';have hy:y.ok:=by induction l with
   |nil=>exact hc'
   |cons z l=>exact hc'.1
  have e:flat (x::y::l)++R=x.g++(x.w++(flat (y::l)++R)):=by simp [flat]
  have e2:flat (y::l)++R=y.g++(y.w++(flat l++R)):=by simp [flat]
  erw [e]
  have hG:eE x.k x.w x.v (flat (y::l)++R):=by
   erw [e2]
   refine av hf ?_ ?_<;>clear hf
   ·intro hf;exact Ao hx (At _ hf _)
   ·intro y0;refine af y0 ?_;clear y0;intro hf hn
    (erw [hf];erw [List.nil_append])
    exact JH hx hy hn
  refine Cp (hg x _ rfl) hG (by simp at hl;exact al [fs.length,l.length] [] (.le (.a aa (.a (.a ae (.k 1)) (.k 1))) (.k 1000000)) (.le aa (.k 1000000)) hl) ?_;refine Co (y::l) hc' (fun z m ez=>?_) (fun uz=>hR (by simp)) (by simp at hl⊢;exact al [fs.length,l.length] [] (.le (.a aa (.a (.a ae (.k 1)) (.k 1))) (.k 1000000)) (.le (.a (.a aa (.k 1)) (.a ae (.k 1))) (.k 1000000)) hl) ?_
  ·refine af (List.cons.inj ez) ?_;intro y0 _;subst y0;refine av hf ?_ ?_<;>clear hf
   ·intro hf;unfold gG;simp [hf]
   ·intro y0;refine af y0 ?_;clear y0;intro hf hn
    erw [hf];decide
  ·rw [cE] at h;have e3:(flat (x::y::l)).length=x.g.length+x.w.length+(flat (y::l)).length:=by rw [flat];simp;exact aH [x.g.length,x.w.length,(flat (y::l)).length] [] (.eq (.a aa (.a ae ai)) (.a (.a aa ae) ai))
   rw [e3] at h
   erw [List.append_assoc]
   rw [show a+x.g.length+x.w.length+(flat (y::l)).length=a+(x.g.length+x.w.length+(flat (y::l)).length) by exact aH [a,x.g.length,x.w.length,(flat (y::l)).length] [] (.eq (.a (.a (.a aa ae) ai) aG) (.a aa (.a (.a ae ai) aG)))];exact h
theorem Nm {g s:List Nat}{a:Nat}{fs:List V}{r:Res (List V)}(hg:g∈gG) (hs:gu s) (h:RR s (a+g.length) fs r):RR (g++s) a fs r:=by
 refine an h ?_;clear h;intro n0 h;refine an (mQ (a:=a) (br:=none) hg (k7 hs)) ?_;intro n1 h1;refine an (k7 (a:=a+g.length) (br:=none) hs) ?_;intro n2 h2;refine⟨n0+n1+n2+1,fun n hn=>?_⟩;have h:=h n (al [n0,n1,n2,n] [] (.le (.a (.a (.a aa ae) ai) (.k 1)) aG) (.le aa aG) hn);obtain⟨n,rfl⟩:∃m,n=m+1:=⟨n-1,by exact aL [n0,n1,n2,n,n-1] [] (.le (.a (.a (.a aa ae) ai) (.k 1)) aG) (.sb cb aG (.k 1)) (.eq aG (.a cb (.k 1))) hn (bg (n) (1))⟩;unfold dg at h⊢;rw [h1 n (al [n0,n1,n2,n] [] (.le (.a (.a (.a aa ae) ai) (.k 1)) (.a aG (.k 1))) (.le ae aG) hn)];rw [h2 n (al [n0,n1,n2,n] [] (.le (.a (.a (.a aa ae) ai) (.k 1)) (.a aG (.k 1))) (.le ai aG) hn)] at h;dsimp only at h⊢;rw [Nat.sub_self,List.drop_zero] at h
 (erw [Nat.add_sub_cancel_left];erw [List.drop_left])
 exact h
theorem Nl {s:List Nat}{b:Nat}{found:List (Nat×List Nat)}(h:Munch s b found):∀{base:Nat}{fs:List V}{R:List Nat}{r:Res (List V)},(∀c∈s,c∈gQ)->fg fP R->fs.length+s.length<=1000000->
  RR R (base+b+s.length) (fs++found.map (lI base)) r->RR (s++R) (base+b) fs r:=by
 induction h with
 |nil=>intro base fs R r _ _ _ h;simpa using h
 | @cons s b f hne hm ih=>
  intro base fs R r hc hR hl h;have hsz:=nk hne;have hh:∃c r,s=c::r/\c∈ju:=by
   induction s with
   |nil=>exact absurd rfl hne
   |cons c r=>exact bB c r rfl ((qo c (hc c (by simp))).1)
  have hst:gu (s++R):=by
   induction s with
   |nil=>exact absurd rfl hne
   |cons c r=>exact iU (qo c (hc c (by simp))).2
  refine Cm (s1:=s++R) (a1:=base+b) (br:=none) (al [fs.length,s.length] [] (.le (.a aa ae) (.k 1000000)) (.le aa (.k 1000000)) hl) (k7 hst) (by(erw [Nat.sub_self];erw [List.drop_zero];with_reducible rfl)) (by simp [hne]) (u8 hh (qO hne hc) hR) (by erw [cf];exact al [bR s,s.length,R.length] [] (.and (.le (.k 1) aa) (.le aa ae)) (.le aa (.a ae ai)) hsz) rfl ?_
  erw [List.drop_append_of_le_length hsz.2]
  have:=@ih base (fy fs none++[cY dm (s.take (bR s)) (base+b) .none]) R r (fun c h=>hc c (List.mem_of_mem_drop h)) hR (by show(fs++[_]).length+_<=_;(erw [cf];erw [dJ]);simp;exact bQ [fs.length,s.length,bR s,s.length-bR s] [] (.le (.a aa ae) (.k 1000000)) (.and (.le (.k 1) ai) (.le ai ae)) (.sb aG ae ai) (.le (.a (.a aa (.k 1)) aG) (.k 1000000)) hl hsz (bg (s.length) (bR s))) (by
   rw [List.map_cons] at h
   rw [dJ,show base+(b+bR s)+(s.length-bR s)=base+b+s.length by exact aL [bR s,s.length,base,b,s.length-bR s] [] (.and (.le (.k 1) aa) (.le aa ae)) (.sb cb ae aa) (.eq (.a (.a ai (.a aG aa)) cb) (.a (.a ai aG) ae)) hsz (bg (s.length) (bR s))]
   erw [List.append_assoc]
   exact h)
  rw [←Nat.add_assoc] at this;exact this
theorem ti {G e x:List Nat}{p:Nat}{res:Res (Nat×Option Nat)}(hG:G∈gG) (he:e∈ends) (hx:x=[]\/∃y,x=10::y) (h:RB x (p+G.length+e.length) none res):RB (G++(e++x)) p none res:=by
 refine mQ hG ?_;refine(mc (fun h=>?_) (mc (fun h=>mQ (g:=[32]) (by decide) h) (mc (fun h=>?_) (mc (fun h=>mQ (g:=[32,47,42,32,42,47]) (by decide) h) mn))):∀e∈ends,RB x (p+G.length+e.length) none res->RB (e++x) (p+G.length) none res) e he h
 ·exact h
 ·refine k8 (k:=2) (.inl rfl) ?_ rfl h;refine av hx ?_ ?_
  ·rintro rfl;rfl
  ·rintro⟨y,rfl⟩;rfl
theorem E8 (rows:List V) (b:Nat):fy rows (some b)=rows++fN rows b:=by
 delta fy fN
 cases rows.getLast? with
 |none=>simp
 |some l=>
  dsimp only
  split<;>simp
theorem Cn {its:List It}{g run:List Nat}{found:List (Nat×List Nat)}{e x:List Nat}{r:Res (List V)}(L:LineAll its g run found e) (hx:x=[]\/∃y,x=10::y)
  (h:∀G,G∈gG->∀p,p+G.length=(flat its++g++run).length->RR (G++(e++x)) p (cP its g found) r):RR (cQ its g run e++x) 0 [] r:=by
 obtain⟨⟨hch,hhd,hgap⟩,hsm,hcs,hrl,hmu,he⟩:=L;have hg:g∈gG:=by
  unfold gG
  ((focus (refine aK hgap ?_ ?_<;>clear hgap;intro y0;refine af y0 ?_;clear y0;intro _ h;rotate_left;intro y0;refine af y0 ?_;clear y0;intro _ h)))<;>simp [h]
 have hb:its≠[]->∀R,oi (g++R):=fun hne R=>by
  refine av hgap ?_ ?_<;>clear hgap
  ·intro y0;refine af y0 ?_;clear y0;intro h _;exact absurd h hne
  ·intro y0;refine af y0 ?_;clear y0;intro _ h;exact At g h R
 have hhd':∀y l,its=y::l->y.g∈gG:=fun y l e=>by
  have:=hhd y l e
  unfold gG;simp [this]
 have e0:cQ its g run e++x=flat its++(g++(run++(e++x))):=by unfold cQ;simp
 erw [e0]
 refine Co its hch hhd' (fun hne=>hb hne _) (by simp;exact al [its.length] [] (.le aa (.k 7)) (.le aa (.k 1000000)) hsm) ?_
 (erw [Nat.zero_add];with_reducible refine bx (List.nil_append ..) ?_)
 by_cases hr:run=[]
 ·subst hr;have hf:found=[]:=by cases hmu with
   |nil=>rfl
   |cons hne _=>exact absurd rfl hne
  subst hf
  (with_reducible refine bx (List.nil_append ..) ?_)
  have:=h g hg (flat its).length (by simp)
  unfold cP at this;rw [List.map_nil,cz] at this;exact this
 ·have hst:gu (run++(e++x)):=by
   induction run with
   |nil=>exact absurd rfl hr
   |cons c r=>exact iU (qo c (hcs c (by simp))).2
  refine Nm hg hst ?_;have hR:fg fP (e++x):=by
   refine(mc ?_ (mc ?_ (mc ?_ (mc ?_ mn))):∀e∈ends,fg fP (e++x)) e he
   ·refine av hx ?_ ?_
    ·rintro rfl;intro c hc;cases hc
    ·rintro⟨y,rfl⟩;intro c hc;cases hc;decide
   ·intro c hc;cases hc;decide
   ·intro c hc;cases hc;decide
   ·intro c hc;cases hc;decide
  have:=Nl hmu (base:=(flat its++g).length) (fs:=cE 0 its) (R:=e++x) (r:=r) hcs hR (by erw [jN];exact aL [its.length,run.length] [] (.le aa (.k 7)) (.le ae (.k 6)) (.le (.a aa ae) (.k 1000000)) hsm hrl) (by
   have:=h [] (by decide) ((flat its++g).length+0+run.length) (by simp;exact aH [(flat its).length,g.length,run.length] [] (.eq (.a (.a aa ae) ai) (.a aa (.a ae ai))))
   rw [List.nil_append] at this
   exact this)
  rw [Nat.add_zero,cf] at this;exact this
theorem qp {its:List It}{g run:List Nat}{found:List (Nat×List Nat)}{e:List Nat}(L:LineAll its g run found e):(cP its g found).length<=13:=by
 have h1:=zJ L.munch;have h2:=L.short;have h3:=L.small
 (erw [cf];erw [jN];erw [eQ])
 exact bQ [found.length,run.length,its.length] [] (.le aa ae) (.le ae (.k 6)) (.le ai (.k 7)) (.le (.a ai aa) (.k 13)) h1 h2 h3
theorem Gx {its:List It}{g run:List Nat}{found:List (Nat×List Nat)}{e:List Nat}(L:LineAll its g run found e):∃n,dg n (cQ its g run e) 0 []=.ok (i7 its g run found e):=by
 have hl:=qp L;have:RR (cQ its g run e++[]) 0 [] (.ok (i7 its g run found e)):=by
  have main:∀G,G∈gG->∀p,p+G.length=(flat its++g++run).length->RR (G++(e++[])) p (cP its g found) (.ok (i7 its g run found e)):=by
   intro G hG p hp;have hq:p+G.length+e.length=(cQ its g run e).length:=by unfold cQ;(erw [cf];erw [hp];with_reducible rfl)
   have:=No (fs:=cP its g found) (al [(cP its g found).length] [] (.le aa (.k 13)) (.le aa (.k 1000000)) hl) (ti (p:=p) (x:=[]) hG L.ends (.inl rfl) (k7 (a:=p+G.length+e.length) (aI (fun c hc=>(by cases hc)) (by decide) (by decide)))) (by
    rw [List.drop_eq_nil_iff];simp;exact al [G.length,e.length,p,p+G.length+e.length-p] [] (.sb aG (.a (.a ai aa) ae) ai) (.le (.a aa ae) aG) (bg (p+G.length+e.length) (p)))
   rw [show f4 none (some (p+G.length+e.length))=some (p+G.length+e.length) from rfl,E8,hq] at this;exact this
  exact Cn L (.inl rfl) main
 rw [cz] at this;refine an this ?_;clear this;intro n h;exact⟨n,h n (bw _)⟩
def tY (w:List Nat) (off:Nat):Prop:=w≠[]/\gu w/\∀a,RW w a (.err (a+off))
theorem GB {its:List It}{g run:List Nat}{found:List (Nat×List Nat)}{e w:List Nat}{off:Nat}(L:LineAll its g run found e) (hB:tY w off\/(w=[47,42,32,97]/\off=0)):∃n,dg n (cQ its g run e++[10,32]++w) 0 []=.err ((cQ its g run e).length+2+off):=by
 have hl:=qp L;have:RR (cQ its g run e++(10::32::w)) 0 [] (.err ((cQ its g run e).length+2+off)):=by
  have main:∀G,G∈gG->∀p,p+G.length=(flat its++g++run).length->RR (G++(e++(10::32::w))) p (cP its g found) (.err ((cQ its g run e).length+2+off)):=by
   intro G hG p hp;have hq:p+G.length+e.length=(cQ its g run e).length:=by unfold cQ;(erw [cf];erw [hp];with_reducible rfl)
   (refine aZ (hq ..) ?_);refine av hB ?_ ?_<;>clear hB
   ·intro y0;refine be y0 ?_;clear y0;intro h1 h2 h3;refine Nn (fs:=cP its g found) (al [(cP its g found).length] [] (.le aa (.k 13)) (.le aa (.k 1000000)) hl) (ti (p:=p) hG L.ends (.inr ⟨_,rfl⟩) (Cr (fj (by decide) (k7 h2)))) ?_ h1 (h3 _);rw [show p+G.length+e.length+1+1-p=(G++(e++[10,32])).length by simp;exact al [p,G.length,e.length,p+G.length+e.length+1+1-p] [] (.sb aG (.a (.a (.a (.a aa ae) ai) (.k 1)) (.k 1)) aa) (.eq aG (.a ae (.a ai (.k 2)))) (bg (p+G.length+e.length+1+1) (p))]
    (with_reducible refine bx ((show G++(e++(10::32::w))=(G++(e++[10,32]))++w by simp) ..) ?_)
    exact List.drop_left
   ·intro y0;refine af y0 ?_;clear y0;intro y1 y2;subst y1 y2;refine Np (fs:=cP its g found) (al [(cP its g found).length] [] (.le aa (.k 13)) (.le aa (.k 1000000)) hl) (ti (p:=p) hG L.ends (.inr ⟨_,rfl⟩) (Cr (fj (by decide) (Nr (.inr rfl) rfl))))
  exact Cn L (.inr ⟨_,rfl⟩) main
 refine an this ?_;clear this;intro n h;refine⟨n,?_⟩
 erw [List.append_assoc]
 exact h n (bw _)
theorem mJ {w:List Nat}{off:Nat}(h1:∃c r,w=c::r/\c∉47::cH) (h2:∀n a,e9 (n+10) w a=.err (a+off)):tY w off:=by
 refine bd h1 ?_;clear h1;intro c r y2 hc;subst y2;refine aI (by simp) (iU hc) (fun a=>⟨10,fun n hn=>?_⟩);obtain⟨m,rfl⟩:∃m,n=m+10:=⟨n-10,by exact aL [n,n-10] [] (.le (.k 10) aa) (.sb ae aa (.k 10)) (.eq aa (.a ae (.k 10))) hn (bg (n) (10))⟩;exact h2 m a
theorem Gv (n a:Nat):e9 (n+10) [49,46,53] a=.err (a+0):=by
 have hp:ir [46,53]=true:=by
  show(decide (([46]:List Nat)=[46])&&gF fX [53]&&decide (([53]:List Nat)≠[]))=true
  erw [kK];decide
 show(if ir [46,53]=true then Res.err a else _)=_
 erw [if_pos hp];rfl
theorem Di:∀p∈lB,tY p.1 p.2\/(p.1=[47,42,32,97]/\p.2=0):=by
 iterate 14 refine mc (.inl (mJ (bB _ _ rfl (by decide)) fun n a=>rfl)) ?_
 refine mc (.inl (mJ (bB _ _ rfl (by decide)) Gv)) (mc (.inr ⟨rfl,rfl⟩) ?_)
 iterate 4 refine mc (.inl (mJ (bB _ _ rfl (by decide)) fun n a=>rfl)) ?_
 refine mc (.inl (mJ (bB 57 (List.replicate 100 57) rfl (by decide)) fun n a=>rfl)) ?_
 iterate 3 refine mc (.inl (mJ (bB _ _ rfl (by decide)) fun n a=>rfl)) ?_
 exact mn
theorem Gz:∃n rows a b c,dg n rG 0 []=.ok rows/\rows[0]? = some (.tup [a,b,c,.bytes [255,195,191]]):=
 (lk 20 _ _ _ _ rfl rfl)
theorem Gy:∃n rows a b c,dg n (List.replicate 100 57) 0 []=.ok rows/\rows[0]? = some (.tup [a,b,c,.int (10 ^ 100-1)]):=
 (lk 20 _ _ _ _ rfl rfl)
def kZ (r:V):Prop:=∃k w p v,r=cY k w p v/\gJ v=true/\fT k w gY=false/\w.length<=1000/\k≠i5
theorem nR {k w:List Nat}(h:w≠gY):fT k w gY=false:=by
 unfold fT;(erw [decide_eq_false h];erw [Bool.and_false];with_reducible rfl)
theorem nS {k w:List Nat}(h:e8.contains k=false):fT k w gY=false:=by
 unfold fT;(erw [h];erw [Bool.false_and];with_reducible rfl)
theorem Dn {k w:List Nat}{v:V}(p:Nat) (h:WordT k w v):kZ (cY k w p v):=by
 refine CA k w p v rfl ?_ ?_ (by have:=pv h;exact al [w.length] [] (.le aa (.k 90)) (.le aa (.k 1000)) this) ?_
 ·cases h<;>rfl
 ·induction h with
  |name ha hb=>exact nR ((show ∀a∈jD,∀b∈jC,a++b≠gY by decide) _ ha _ hb)
  |key hw=>exact nR ((show ∀a∈dZ,a≠gY by decide) _ hw)
  |int h=>exact nS (by decide)
  |text h=>exact nS (by decide)
  |rune h=>exact nS (by decide)
  |sign hw=>exact nR ((show ∀a∈ct,a≠gY by decide) _ hw)
 ·cases h<;>decide
theorem r6:∀{its:List It},Chain its->∀x∈its,x.ok
 | [],_,x,h=>by cases h
 | [y],h,x,hx=>by erw [List.mem_singleton.mp hx];exact h
 |y::z::l,h,x,hx=>by
  refine av (bC hx) ?_ ?_
  ·rintro rfl;exact h.1
  ·intro hx;exact r6 h.2.2 x hx
theorem AU:∀{its:List It}{a:Nat},(∀x∈its,x.ok)->∀r∈cE a its,kZ r
 | [],_,_,r,h=>by cases h
 |x::l,a,h,r,hr=>by
  rw [cE] at hr;refine av (bC hr) ?_ ?_
  ·rintro rfl;exact Dn _ (h x (by simp))
  ·intro hr;exact AU (fun y hy=>h y (by simp [hy])) r hr
theorem EW (s:List Nat):bR s<=3:=by unfold bR;split;exact aH [] [] (.le (.k 3) (.k 3));split<;>omega
theorem Ip {s:List Nat}{b:Nat}{found:List (Nat×List Nat)}(h:Munch s b found):∀p∈found,p.2.length<=3:=by
 induction h with
 |nil=>intro p hp;cases hp
 | @cons s b f hne hm ih=>
  intro p hp;refine av (bC hp) ?_ ?_
  ·rintro rfl
   erw [List.length_take];have:=EW s;exact aL [bR s,s.length,min (bR s) s.length] [] (.le aa (.k 3)) (.mn ai aa ae) (.le ai (.k 3)) this (eg (bR s) (s.length))
  ·intro hp;exact ih p hp
theorem va {w:List Nat}(p:Nat) (h:w.length<=3):kZ (cY dm w p .none):=
 (CA dm w p .none rfl rfl (nR (by rintro rfl;revert h;decide)) (al [w.length] [] (.le aa (.k 3)) (.le aa (.k 1000)) h) (by decide))
theorem Ge {its:List It}{g run:List Nat}{found:List (Nat×List Nat)}{e:List Nat}(L:LineAll its g run found e):∀r∈cP its g found,kZ r:=by
 intro r hr;refine av (dI hr) (fun hr=>?_) fun hr=>?_
 ·exact AU (r6 L.line.chain) r hr
 ·refine ag (List.mem_map.mp hr) ?_;intro p hp y2;subst y2;exact va _ (Ip L.munch p hp)
theorem DL (rows:List V) (p:Nat):(∀r∈fN rows p,kZ r)/\(fN rows p).length<=1:=by
 unfold fN
 split
 ·split
  ·exact⟨fun r hr=>by erw [List.mem_singleton.mp hr];exact va (w:=[59]) p (by decide),by simp⟩
  ·exact⟨fun r hr=>absurd hr (by simp),by simp⟩
 ·exact⟨fun r hr=>absurd hr (by simp),by simp⟩
theorem Ds {rows:List V}{p:Nat}(h:∀r∈rows,kZ r):WalkRows (rows++[hZ p]) rows.length:=by
 refine⟨by simp,fun i hi=>?_⟩;by_cases hl:i<rows.length
 ·refine j0 (h rows[i] (List.getElem_mem hl)) ?_;intro k w q v e h1 h2 h3 h4;refine mR k w q v ?_ h1 h2 h3 (fun uz=>h4) (fun h=>by omega)
  (erw [dT hl];erw [eT hl];erw [e]);rfl
 ·have:i=rows.length:=by exact aL [i,rows.length] [] (.le aa ae) (.not (.lt aa ae)) (.eq aa ae) hi hl
  subst this;exact mR i5 ([]) p .none (by simp [hZ,i5]) rfl (nS (by decide)) (by decide) (fun h=>absurd h (aH [rows.length] [] (.not (.lt aa aa)))) (fun uz=>rfl)
theorem Gw {its:List It}{g run:List Nat}{found:List (Nat×List Nat)}{e:List Nat}(L:LineAll its g run found e):∃N,WalkRows (i7 its g run found e) N/\N<=1000:=by
 refine af (DL (cP its g found) (cQ its g run e).length) ?_;intro t1 t2;have hl:=qp L;refine aj _ (Ds fun r hr=>?_) ?_
 ·refine av (dI hr) (fun hr=>?_) fun hr=>?_
  ·exact Ge L r hr
  ·exact t1 r hr
 ·erw [cf];exact aL [(fN (cP its g found) (cQ its g run e).length).length,(cP its g found).length] [] (.le aa (.k 1)) (.le ae (.k 13)) (.le (.a ae aa) (.k 1000)) t2 hl
theorem AA:∀{its:List It},(∀x∈its,x.ok/\x.g.length<=20)->(flat its).length<=110*its.length
 | [],_=>by simp [flat]
 |x::l,h=>by
  have ih:=AA (its:=l) fun y hy=>h y (by simp [hy]);refine af (h x (by simp)) ?_;intro h1 h2;have h3:=pv h1;rw [flat,cf,cf,List.length_cons];exact bQ [(flat l).length,l.length,x.g.length,x.w.length] [] (.le aa (.m 110 ae)) (.le ai (.k 20)) (.le aG (.k 90)) (.le (.a (.a ai aG) aa) (.m 110 (.a ae (.k 1)))) ih h2 h3
theorem As:∀{its:List It},Chain its->(∀x l,its=x::l->x.g.length<=20)->∀x∈its,x.g.length<=20
 | [],_,_,x,h=>by cases h
 | [y],_,h,x,hx=>by erw [List.mem_singleton.mp hx];exact h y [] rfl
 |y::z::l,hc,h,x,hx=>by
  refine av (bC hx) ?_ ?_
  ·rintro rfl;exact h _ _ rfl
  ·intro hx;refine As hc.2.2 (fun u m e=>?_) x hx;refine af (List.cons.inj e) ?_;intro y0 _;subst y0;refine av hc.2.1 ?_ ?_
   ·intro h;exact hV.1 _ h
   ·intro y0;refine af y0 ?_;clear y0;intro h _
    erw [h];simp
theorem GA {its:List It}{g run:List Nat}{found:List (Nat×List Nat)}{e:List Nat}(L:LineAll its g run found e):(cQ its g run e).length<=2000:=by
 have h1:=As L.line.chain fun x l e=>hV.2.1 _ (L.line.head x l e);have h2:=AA fun x hx=>⟨r6 L.line.chain x hx,h1 x hx⟩;have h3:=L.small;have h4:=L.short;have h5:=hV.2.2 e L.ends;have h6:g.length<=20:=by
  refine av L.line.gap ?_ ?_
  ·intro y0;refine af y0 ?_;clear y0;intro _ h;exact hV.2.1 g h
  ·intro y0;refine af y0 ?_;clear y0;intro _ h;exact hV.1 g h
 unfold cQ;simp only [cf];exact IJ [(flat its).length,its.length,run.length,e.length,g.length] [] (.le aa (.m 110 ae)) (.le ae (.k 7)) (.le ai (.k 6)) (.le aG (.k 20)) (.le cb (.k 20)) (.le (.a (.a (.a aa cb) ai) aG) (.k 2000)) h2 h3 h4 h5 h6
theorem plain:Plain:=⟨Gz,Gy,GA,Gx,Gw,fun L hp=>GB L (Di _ hp)⟩
section
noncomputable def zf (K:Frag) (p:Addr):Obj:=(K.lookup p).getD {cls:=.none,data:=.plain}
noncomputable def AJ (K:Frag) (p:Addr):Option FuncData:=match (zf K p).data with
 | .func fd=>some fd
 |_=>none
noncomputable def mE (K:Frag) (p:Addr):FuncData:=(AJ K p).getD {name :="",qualname :="",params:=⟨[],[],none,[],[],none,[]⟩,body:=.stmts [],scope:=default,globals:=0,closure:=[],defaults:=.none,kwdefaults:=.none,doc:=.none,pyModule:=.none,annotations:=none,code:=.none,closureTuple:=.none,builtins:=0}
noncomputable def uX:FuncBody->List Stmt
 | .stmts b=>b
 |_=>[]
noncomputable def Bn (K:Frag) (p:Addr):List Stmt:=uX (mE K p).body
noncomputable def I8:FuncBody->Bool
 | .stmts _=>true
 |_=>false
noncomputable def rJ (fd:FuncData) (nm:List Str):Bool:=!fd.scope.isCoroutine&&!fd.scope.isGenerator&&decide (fd.scope.kind=.function)&&I8 fd.body&&fd.closure.isEmpty&&(fd.globals==mainGlobals)&&(fd.builtins==builtinsNs)&&decide nm.Nodup&&
 nm.all fun x=>decide (fd.scope.names.lookup x=some .local )||decide (fd.scope.names.lookup x=some .cell)
theorem rI {fd:FuncData}{nm:List Str}(h:rJ fd nm=true):FdOk fd nm (uX fd.body):=by
 unfold rJ at h;simp only [cD,cN,bi,beq_iff_eq,List.isEmpty_iff,List.all_eq_true,Bool.or_eq_true] at h;refine af h ?_;clear h;intro y0 h9;refine af y0 ?_;clear y0;intro y20 h8;refine af y20 ?_;clear y20;intro y40 h7;refine af y40 ?_;clear y40;intro y60 h6;refine af y60 ?_;clear y60;intro y80 h5;refine af y80 ?_;clear y80;intro y100 h4;refine af y100 ?_;clear y100;intro y120 h3;refine af y120 ?_;clear y120;intro h1 h2;refine⟨h1,h2,h3,?_,h5,h6,h7,h8,h9⟩;cases e:fd.body with
 |stmts b=>rfl
 |_=>rw [e] at h4;cases h4
noncomputable def JQ (d:Data):Option {fd:FuncData // d=.func fd}:=match d with
 | .func fd=>some ⟨fd,rfl⟩
 |_=>none
noncomputable def JT (K:Frag) (p:Addr) (nm:List Str) (code:Value) (qual:Str):Option Unit:=(K.lookup p).bind fun o=>(JQ o.data).bind fun f=>gd (f.1.code==code&&(f.1.qualname==qual&&(codeIn K code qual&&rJ f.1 nm))) (some ())
theorem bW {G:Gd}{K:Frag}(hK:G.K=K) {p:Addr}{k:Nat}{dfl:List V}{nm:List Str}{N:Nat}{hb:Option (Int×Int)}{code:Value}{qual:Str}{ms:List MS}(h:JT K p nm code qual=some ())
  (hc:gi (oA N ⟨K,(mE K p).scope,nm,code,qual ++ ".<locals>.",hb⟩) (Bn K p)=some ms)
  (hbd:∀(s:Shared) (us:List Value),K.In s.heap->us.length=k->∃us',BindsTo s (mE K p) ⟨us,[]⟩ (nm.zip us')/\∀ws vs,Reps ws s.heap vs us->Reps ws s.heap (vs++dfl) us')
  (hl:k+dfl.length<=nm.length):FnAt G p k dfl nm N hb code qual ms:=by
 subst hK;refine ag (gl h) ?_;intro y0 hk h;obtain⟨c,d,dt,sl⟩:=y0;refine ag (gl h) ?_;intro y0 _ h;obtain⟨fd,e0⟩:=y0;cases e0;refine af (dF h) ?_;intro h _;have h1:=eq_of_beq (bb h).1;have h2:=eq_of_beq (bb (bb h).2).1;have e:mE G.K p=fd:=by
  delta mE AJ zf
  erw [hk];rfl
 unfold Bn at hc;rw [e] at hc hbd;exact⟨(tw _ fd _ hk rfl h1 h2 (by(erw [h1];erw [h2]);exact(bb (bb (bb h).2).2).1) (rI (bb (bb (bb h).2).2).2) (by(erw [h1];erw [h2]);exact hc) hbd),hl⟩
theorem dY {us:List Value}{n:Nat}(h:us.length=n+1):∃u r,us=u::r/\r.length=n:=by
 induction us with
 |nil=>cases h
 |cons u r=>exact bB u r rfl (Nat.succ.inj h)
theorem eu {K:Frag}{fd:FuncData}{nm:List Str}(h:∀u1,bindArgs fd ⟨[u1],[]⟩=pure (nm.zip [u1])):∀(s:Shared) (us:List Value),K.In s.heap->us.length=1->∃us',BindsTo s fd ⟨us,[]⟩ (nm.zip us')/\∀ws vs,Reps ws s.heap vs us->Reps ws s.heap (vs++[]) us':=by
 intro s us X hl;refine bd (dY hl) ?_;intro u1 r1 y2 e1;subst y2;obtain rfl:=List.eq_nil_of_length_eq_zero e1;exact aj _ (BindsTo.of_eq (h u1)) (fun ws vs r=>by erw [cz];exact r)
theorem fi {K:Frag}{fd:FuncData}{nm:List Str}(h:∀u1 u2,bindArgs fd ⟨[u1,u2],[]⟩=pure (nm.zip [u1,u2])):∀(s:Shared) (us:List Value),K.In s.heap->us.length=2->∃us',BindsTo s fd ⟨us,[]⟩ (nm.zip us')/\∀ws vs,Reps ws s.heap vs us->Reps ws s.heap (vs++[]) us':=by
 intro s us X hl;refine bd (dY hl) ?_;intro u1 r1 y2 e1;subst y2;refine bd (dY e1) ?_;intro u2 r2 y2 e2;subst y2;obtain rfl:=List.eq_nil_of_length_eq_zero e2;exact aj _ (BindsTo.of_eq (h u1 u2)) (fun ws vs r=>by erw [cz];exact r)
theorem Bp {K:Frag}{fd:FuncData}{nm:List Str}(h:∀u1 u2 u3,bindArgs fd ⟨[u1,u2,u3],[]⟩=pure (nm.zip [u1,u2,u3])):∀(s:Shared) (us:List Value),K.In s.heap->us.length=3->∃us',BindsTo s fd ⟨us,[]⟩ (nm.zip us')/\∀ws vs,Reps ws s.heap vs us->Reps ws s.heap (vs++[]) us':=by
 intro s us X hl;refine bd (dY hl) ?_;intro u1 r1 y2 e1;subst y2;refine bd (dY e1) ?_;intro u2 r2 y2 e2;subst y2;refine bd (dY e2) ?_;intro u3 r3 y2 e3;subst y2;obtain rfl:=List.eq_nil_of_length_eq_zero e3;exact aj _ (BindsTo.of_eq (h u1 u2 u3)) (fun ws vs r=>by erw [cz];exact r)
theorem LN {K:Frag}{fd:FuncData}{nm:List Str}(h:∀u1 u2 u3 u4 u5,bindArgs fd ⟨[u1,u2,u3,u4,u5],[]⟩=pure (nm.zip [u1,u2,u3,u4,u5])):∀(s:Shared) (us:List Value),K.In s.heap->us.length=5->∃us',BindsTo s fd ⟨us,[]⟩ (nm.zip us')/\∀ws vs,Reps ws s.heap vs us->Reps ws s.heap (vs++[]) us':=by
 intro s us X hl;refine bd (dY hl) ?_;intro u1 r1 y2 e1;subst y2;refine bd (dY e1) ?_;intro u2 r2 y2 e2;subst y2;refine bd (dY e2) ?_;intro u3 r3 y2 e3;subst y2;refine bd (dY e3) ?_;intro u4 r4 y2 e4;subst y2;refine bd (dY e4) ?_;intro u5 r5 y2 e5;subst y2;obtain rfl:=List.eq_nil_of_length_eq_zero e5;exact aj _ (BindsTo.of_eq (h u1 u2 u3 u4 u5)) (fun ws vs r=>by erw [cz];exact r)
theorem yP {ws:Wd}{h:Heap}{vs:List V}{us:List Value}{t:Tok}(r:Reps ws h vs us):Reps ws h (vs++[.int 0]) (us++[.int 0 t]):=r.append (.one (by simp only [Rep];exact⟨_,rfl⟩))
theorem LM {K:Frag}{fd:FuncData}{nm:List Str}{t:Tok}(h:∀S u1,peek K S (bindArgs fd ⟨[u1],[]⟩)=some (nm.zip [u1,.int 0 t])):∀(s:Shared) (us:List Value),K.In s.heap->us.length=1->∃us',BindsTo s fd ⟨us,[]⟩ (nm.zip us')/\∀ws vs,Reps ws s.heap vs us->Reps ws s.heap (vs++[.int 0]) us':=by
 intro s us X hl;refine bd (dY hl) ?_;intro u1 r1 y2 e1;subst y2;obtain rfl:=List.eq_nil_of_length_eq_zero e1;exact aj _ (kp_binds X fun S=>h S u1) (fun ws vs r=>yP r)
theorem LL {K:Frag}{fd:FuncData}{nm:List Str}{t:Tok}(h:∀S u1 u2,peek K S (bindArgs fd ⟨[u1,u2],[]⟩)=some (nm.zip [u1,u2,.int 0 t])):∀(s:Shared) (us:List Value),K.In s.heap->us.length=2->∃us',BindsTo s fd ⟨us,[]⟩ (nm.zip us')/\∀ws vs,Reps ws s.heap vs us->Reps ws s.heap (vs++[.int 0]) us':=by
 intro s us X hl;refine bd (dY hl) ?_;intro u1 r1 y2 e1;subst y2;refine bd (dY e1) ?_;intro u2 r2 y2 e2;subst y2;obtain rfl:=List.eq_nil_of_length_eq_zero e2;exact aj _ (kp_binds X fun S=>h S u1 u2) (fun ws vs r=>yP r)
theorem LK {K:Frag}{fd:FuncData}{nm:List Str}(h:∀S u1 u2,peek K S (bindArgs fd ⟨[u1,u2],[]⟩)=some (nm.zip [u1,u2])):∀(s:Shared) (us:List Value),K.In s.heap->us.length=2->∃us',BindsTo s fd ⟨us,[]⟩ (nm.zip us')/\∀ws vs,Reps ws s.heap vs us->Reps ws s.heap (vs++[]) us':=by
 intro s us X hl;refine bd (dY hl) ?_;intro u1 r1 y2 e1;subst y2;refine bd (dY e1) ?_;intro u2 r2 y2 e2;subst y2;obtain rfl:=List.eq_nil_of_length_eq_zero e2;exact aj _ (kp_binds X fun S=>h S u1 u2) (fun ws vs r=>by erw [cz];exact r)
theorem LJ {K:Frag}{fd:FuncData}{nm:List Str}(h:∀S u1 u2 u3,peek K S (bindArgs fd ⟨[u1,u2,u3],[]⟩)=some (nm.zip [u1,u2,u3])):∀(s:Shared) (us:List Value),K.In s.heap->us.length=3->∃us',BindsTo s fd ⟨us,[]⟩ (nm.zip us')/\∀ws vs,Reps ws s.heap vs us->Reps ws s.heap (vs++[]) us':=by
 intro s us X hl;refine bd (dY hl) ?_;intro u1 r1 y2 e1;subst y2;refine bd (dY e1) ?_;intro u2 r2 y2 e2;subst y2;refine bd (dY e2) ?_;intro u3 r3 y2 e3;subst y2;obtain rfl:=List.eq_nil_of_length_eq_zero e3;exact aj _ (kp_binds X fun S=>h S u1 u2 u3) (fun ws vs r=>by erw [cz];exact r)
noncomputable def pB (d:Addr):Option (List (List Nat×Int)):=if d=79 then some PB else if d=80 then some jd else if d=81 then some ic else none
noncomputable def AI:List Str:=[("rows":Str),("at":Str),("expr_reader":Str),("body_reader":Str)]
noncomputable def iT (C:Addr) (x:Str):Bool:=(C==254)&&AI.contains x
noncomputable def zL:List (Str×Addr):=[(("peek":Str),222),(("take":Str),229),(("looks":Str),237),(("expect":Str),244)]
noncomputable def iS (C:Addr) (x:Str):Option Addr:=if C=254 then zL.lookup x else none
noncomputable def lE (C:Addr):Bool:=(C==45)||(C==57)
abbrev Tb:=List (Addr×bq)
noncomputable def fD (z:Bool) (T:Tb):Fx where
 fn:=fun p vs st Q X=>∃P,(p,P)∈T/\P vs st Q X
 dict:=pB
 meth:=iS
 heardL:=fun uz uz uz=>False
 heardM:=fun uz uz uz=>False
 z:=z
 field:=iT
 exc:=lE
 lo:=0
structure Floor (G:Gd):Prop where
 exc:∀C,lE C=true->ty G C/\ExcIs G.K C/\keepIn G.K (.ref C)=true
 dict:lr G pB
 field:∀C x,iT C x=true->ll G.K C x=true
 meth:∀C x f,iS C x=some f->oQ G.K C x f=true
def Stage (G:Gd) (z:Bool) (d:Nat) (T:Tb):Prop:=∀p P,(p,P)∈T->FnCode G z d p P/\keepIn G.K (.ref p)=true
section
variable {G:Gd}{z:Bool}{d:Nat}{T:Tb}
theorem Stage.fx (B:Floor G) (S:Stage G z d T) (hd:2<=d):FxOk G z d (fD z T) where
 zz:=rfl
 deep:=hd
 lo:=Nat.zero_le _
 exc:=B.exc
 dict:=B.dict
 field:=B.field
 meth:=B.meth
 fn:=fun p vs st Q X h=>by(refine ag h ?_;clear h;intro P hm hP);exact aj P ((S p P hm).1.ok) hP
 keeps:=fun p vs st Q X h=>by(refine ag h ?_;clear h;intro P hm hP);exact(S p P hm).2
theorem Stage.cons {p:Addr}{P:bq}(S:Stage G z d T) (h:FnCode G z (d+1) p P) (k:keepIn G.K (.ref p)=true):Stage G z (d+1) ((p,P)::T):=by
 intro q R hm;refine av (bC hm) (fun e=>?_) fun hm=>?_
 ·cases e;exact⟨h,k⟩
 ·exact⟨(S q R hm).1.mono (Nat.le_succ _),(S q R hm).2⟩
theorem Stage.code (B:Floor G) (S:Stage G z d T) (hd:2<=d) {p:Addr}{k:Nat}{dfl:List V}{nm:List Str}{N:Nat}{code:Value}{qual:Str}{ms:List MS}{C:bq}{n:Nat}(A:FnAt G p k dfl nm N none code qual ms) (hn:nm.length=n) (h:∀vs st Q X,C vs st Q X->bJ (fD z T) k dfl n ms vs st Q X):FnCode G z (d+1) p C:=by
 subst hn;exact(Ax A (fun sc=>HOk.off rfl) (S.fx B hd)).imp h
theorem Stage.add (B:Floor G) (S:Stage G z d T) (hd:2<=d) {p:Addr}{k:Nat}{dfl:List V}{nm:List Str}{N:Nat}{code:Value}{qual:Str}{ms:List MS}{C:bq}{n:Nat}(A:FnAt G p k dfl nm N none code qual ms) (keep:keepIn G.K (.ref p)=true) (hn:nm.length=n) (h:∀vs st Q X,C vs st Q X->bJ (fD z T) k dfl n ms vs st Q X):Stage G z (d+1) ((p,C)::T):=
 S.cons (S.code B hd A hn h) keep
theorem Stage.weak (S:Stage G false d T):Stage G true d T:=fun p P h=>⟨(S p P h).1.weak,(S p P h).2⟩
theorem FnCode.or {p:Addr}{P1 P2:bq}(h1:FnCode G z d p P1) (h2:FnCode G z d p P2):FnCode G z d p (fun vs st Q X=>P1 vs st Q X\/P2 vs st Q X):=by
 intro frs ws st A s vs us Q X R am hA ht ra hP hq hx;refine av hP ?_ ?_<;>clear hP<;>intro h
 ·exact h1 frs ws st A s vs us Q X R am hA ht ra h hq hx
 ·exact h2 frs ws st A s vs us Q X R am hA ht ra h hq hx
theorem Stage.has {p:Addr}{C:bq}(h:(p,C)∈T):aO (fD z T) p C:=fun vs st Q X hP=>(aj C h hP)
theorem Stage.hat (i:Nat) {p:Addr}{C:bq}(h:T[i]? = some (p,C)):aO (fD z T) p C:=Stage.has (List.mem_of_getElem? h)
end
end
section
set_option maxRecDepth 1000000
noncomputable def pp:Program:=PySem.Challenge.pw_on0028_01
noncomputable def J6:Stmt->List (Arguments×List Stmt×Scope)
 | .FunctionDef _ a b _ _ _ sc _ _ _=>[(a,b,sc)]
 |_=>[]
noncomputable def La:Stmt->List Stmt
 | .ClassDef _ _ _ b _ _ _ _ _ _ _=>b
 |s=>[s]
noncomputable def fds:List (Arguments×List Stmt×Scope):=(pp.main.body.flatMap La).flatMap J6
noncomputable def rK (i:Nat):Arguments×List Stmt×Scope:=fds.getD i (⟨[],[],none,[],[],none,[]⟩,[],default)
noncomputable def ol (i:Nat) (n q:Str) (dfl py code:Value):FuncData:={name:=n,qualname:=q,params:=(rK i).1,body:=.stmts (rK i).2.1,scope:=(rK i).2.2,globals:=3,closure:=[],defaults:=dfl,kwdefaults:=.none,doc:=.none,pyModule:=py,annotations:=none,code:=code,closureTuple:=.none,builtins:=0}
noncomputable def en (P:Params) (x:Str) (t:Tok) (v:Value):DictEntry:={hash:=PyData.keyHash P x,key:=.str x t,val:=v}
noncomputable def ob (cls:Value) (data:Data) (slots:Array (Option Value):=#[]):Obj:={cls:=cls,dict:=none,data:=data,slots:=slots}
noncomputable def tu (l:Array Value):Obj:=ob (.type "tuple") (.seq l)
noncomputable def co (n q:Str) (t:Nat) (l k:Int) (a b c d e:Value) (x:Int) (u:Nat):Obj:=ob (.type "code") (.fields #[.str n t,.str q (t+1),.str "/claim/cut.py" (t+2),.int l 0,.int k 0,.int 0 0,.int 0 0,.int 3 0,a,.bool true,.int 181 0,b,.none,c,d,e,.int x 0,.int l 0,.str "/claim/cut.py" u])
noncomputable def fo (i:Nat) (n q:Str) (dfl py code:Value):Obj:=ob (.type "function") (.func (ol i n q dfl py code))
noncomputable def KK (P:Params):Frag:=[
 (2,ob .none (.dict #[en P "type.__subclasses__.Exception.0" 217 (.int 32 0),en P "type.__subclasses__.Exception.n" 218 (.int 1 0)] 2)),
 (3,ob (.type "dict") (.dict #[en P "__name__" 165 (.str "law_on0028_01" 681),en P "__doc__" 166 .none,en P "__package__" 167 .none,en P "__loader__" 168 (.builtin "__main__.__loader__#opaque"),en P "__spec__" 169 .none,en P "__annotations__" 170 (.ref 6),en P "__builtins__" 171 (.ref 4),en P "__file__" 173 (.str "/claim/cut.py" 172),en P "__cached__" 174 .none,en P "ChanError" 220 (.ref 32),en P "WordFault" 236 (.ref 45),en P "GrammarFault" 252 (.ref 57),en P "WRONG_RUNE" 256 (.int 65533 255),en P "LAST_RUNE" 258 (.int 1114111 257),en P "FIRST_HALF" 260 (.int 55296 259),en P "LAST_HALF" 262 (.int 57343 261),en P "LONG_HEADS" 272 (.ref 63),en P "is_right_rune" 279 (.ref 70),en P "octets_of_rune" 285 (.ref 75),en P "KEYWORDS" 313 (.ref 76),en P "ALL_SIGNS" 361 (.ref 77),en P "ENDING_WORDS" 371 (.ref 78),en P "SMALL_LETTERS" 373 (.str "abcdefghijklmnopqrstuvwxyz" 372),en P "GREAT_LETTERS" 375 (.str "ABCDEFGHIJKLMNOPQRSTUVWXYZ" 374),en P "FIGURE_SIGNS" 377 (.str "0123456789" 376),en P "NAME_BEGINS" 381 (.str "abcdefghijklmnopqrstuvwxyzABCDEFGHIJKLMNOPQRSTUVWXYZ_" 380),en P "NAME_SIGNS" 383 (.str "abcdefghijklmnopqrstuvwxyzABCDEFGHIJKLMNOPQRSTUVWXYZ_0123456789" 382),en P "BLANK_SIGNS" 385 (.str " \t\x0d\n" 384),en P "MOST_FIGURES" 387 (.int 100 386),en P "PREFIX_BASES" 397 (.ref 79),en P "SHORT_ESCAPES" 422 (.ref 80),en P "LONG_ESCAPES" 432 (.ref 81),en P "run_behind" 441 (.ref 88),en P "remark_behind" 450 (.ref 95),en P "blanks_behind" 461 (.ref 102),en P "figure_worth" 469 (.ref 109),en P "number_parts" 477 (.ref 116),en P "read_number" 490 (.ref 123),en P "figures_read" 504 (.ref 130),en P "read_escape" 516 (.ref 137),en P "plain_rune" 525 (.ref 144),en P "read_quoted" 537 (.ref 151),en P "read_raw" 548 (.ref 158),en P "read_rune" 559 (.ref 165),en P "read_sign" 568 (.ref 172),en P "read_word" 579 (.ref 179),en P "ends_line" 586 (.ref 186),en P "word_rows" 597 (.ref 193),en P "read_words" 604 (.ref 200),en P "Words" 680 (.ref 254),en P "_law_signs" 684 (.str "<<= >>= &^= ... && || <- ++ -- == != <= >= := += -= *= /= %= &= |= ^= << >> &^ + - * / % & | ^ < > = ! ( ) [ ] { } , ; . :" 683),en P "_law_language" 686 (.str "break case chan const continue default defer else fallthrough for func go goto if imp\x6frt interface map package range return select struct switch type var" 685),en P "_law_pool" 697 (.ref 265),en P "_law_take" 706 (.ref 272),en P "_law_one" 714 (.ref 279),en P "_law_number" 726 (.ref 286),en P "_law_text" 732 (.ref 291),en P "_law_word" 740 (.ref 298),en P "_law_gap" 747 (.ref 305),en P "_law_run" 753 (.ref 310),en P "_law_is_ending" 760 (.ref 317),en P "_law_row" 778 (.ref 324),en P "_law_fault" 786 (.ref 331),en P "_law_heard" 794 (.ref 338),en P "_law_walk_right" 809 (.ref 345),en P "law" 821 (.ref 352)] 66)),
 (15,tu #[.type "Exception"]),
 (22,tu #[.int 0 201]),
 (23,tu #[]),
 (25,tu #[.str "self" 205,.str "message" 206,.str "spot" 207]),
 (26,tu #[]),
 (28,co "__init__" "ChanError.__init__" 202 4 3 (.ref 23) (.ref 24) (.ref 25) (.ref 26) (.ref 27) 208 209),
 (29,fo 0 "__init__" "ChanError.__init__" (.ref 22) (.str "chancore.errors" 187) (.ref 28)),
 (30,tu #[.str "message" 211,.str "spot" 212]),
 (31,ob (.type "dict") (.dict #[en P "__module__" 196 (.str "chancore.errors" 187),en P "__firstlineno__" 200 (.int 2 199),en P "__init__" 210 (.ref 29),en P "__static_attributes__" 213 (.ref 30),en P "__weakref__" 215 (.ref 33),en P "__doc__" 216 .none] 3)),
 (32,ob (.type "type") (slots:=#[some (.ref 15),none,some (.str "ChanError" 189),some (.str "ChanError" 197),some (.builtin "Exception.__new__"),some (.bool true)]) (.cls {name :="ChanError",bases:=[.type "Exception"],mro:=[.ref 32,.type "Exception",.type "BaseException",.type "object"],ns:=31,qualname :="ChanError",subclasses:=[.ref 45,.ref 57]})),
 (33,ob (.type "getset_descriptor") (.fields #[.str "__weakref__" 214,.ref 32,.builtin "ExceptionGroup.__weakref__",.none])),
 (36,tu #[.ref 32]),
 (43,tu #[]),
 (44,ob (.type "dict") (.dict #[en P "__module__" 228 (.str "chancore.errors" 187),en P "__firstlineno__" 232 (.int 8 231),en P "__static_attributes__" 233 (.ref 43),en P "__doc__" 234 .none] 2)),
 (45,ob (.type "type") (slots:=#[some (.ref 36),none,some (.str "WordFault" 221),some (.str "WordFault" 229),some (.builtin "Exception.__new__"),some (.bool true)]) (.cls {name :="WordFault",bases:=[.ref 32],mro:=[.ref 45,.ref 32,.type "Exception",.type "BaseException",.type "object"],ns:=44,qualname :="WordFault"})),
 (48,tu #[.ref 32]),
 (55,tu #[]),
 (56,ob (.type "dict") (.dict #[en P "__module__" 244 (.str "chancore.errors" 187),en P "__firstlineno__" 248 (.int 10 247),en P "__static_attributes__" 249 (.ref 55),en P "__doc__" 250 .none] 2)),
 (57,ob (.type "type") (slots:=#[some (.ref 48),none,some (.str "GrammarFault" 237),some (.str "GrammarFault" 245),some (.builtin "Exception.__new__"),some (.bool true)]) (.cls {name :="GrammarFault",bases:=[.ref 32],mro:=[.ref 57,.ref 32,.type "Exception",.type "BaseException",.type "object"],ns:=56,qualname :="GrammarFault"})),
 (60,tu #[.int 192 263,.int 223 264,.int 128 265]),
 (61,tu #[.int 224 266,.int 239 267,.int 2048 268]),
 (62,tu #[.int 240 269,.int 247 270,.int 65536 271]),
 (63,tu #[.ref 60,.ref 61,.ref 62]),
 (64,tu #[]),
 (66,tu #[.str "rune" 276]),
 (67,tu #[]),
 (69,co "is_right_rune" "is_right_rune" 273 18 1 (.ref 64) (.ref 65) (.ref 66) (.ref 67) (.ref 68) 277 278),
 (70,fo 1 "is_right_rune" "is_right_rune" .none (.str "chancore.texts" 253) (.ref 69)),
 (71,tu #[]),
 (74,co "octets_of_rune" "octets_of_rune" 280 20 1 (.ref 71) (.ref 72) .none .none (.ref 73) 283 284),
 (75,fo 2 "octets_of_rune" "octets_of_rune" .none (.str "chancore.texts" 253) (.ref 74)),
 (76,tu #[.str "break" 288,.str "case" 289,.str "chan" 290,.str "const" 291,.str "continue" 292,.str "default" 293,.str "defer" 294,.str "else" 295,.str "fallthrough" 296,.str "for" 297,.str "func" 298,.str "go" 299,.str "goto" 300,.str "if" 301,.str "imp\x6frt" 302,.str "interface" 303,.str "map" 304,.str "package" 305,.str "range" 306,.str "return" 307,.str "select" 308,.str "struct" 309,.str "switch" 310,.str "type" 311,.str "var" 312]),
 (77,tu #[.str "<<=" 314,.str ">>=" 315,.str "&^=" 316,.str "..." 317,.str "&&" 318,.str "||" 319,.str "<-" 320,.str "++" 321,.str "--" 322,.str "==" 323,.str "!=" 324,.str "<=" 325,.str ">=" 326,.str ":=" 327,.str "+=" 328,.str "-=" 329,.str "*=" 330,.str "/=" 331,.str "%=" 332,.str "&=" 333,.str "|=" 334,.str "^=" 335,.str "<<" 336,.str ">>" 337,.str "&^" 338,.str "+" 339,.str "-" 340,.str "*" 341,.str "/" 342,.str "%" 343,.str "&" 344,.str "|" 345,.str "^" 346,.str "<" 347,.str ">" 348,.str "=" 349,.str "!" 350,.str "(" 351,.str ")" 352,.str "[" 353,.str "]" 354,.str "{" 355,.str "}" 356,.str "," 357,.str ";" 358,.str "." 359,.str ":" 360]),
 (78,tu #[.str "break" 362,.str "continue" 363,.str "fallthrough" 364,.str "return" 365,.str "++" 366,.str "--" 367,.str ")" 368,.str "]" 369,.str "}" 370]),
 (79,ob (.type "dict") (.dict #[en P "0x" 388 (.int 16 389),en P "0o" 390 (.int 8 391),en P "0b" 392 (.int 2 393)] 3)),
 (80,ob (.type "dict") (.dict #[en P "a" 398 (.int 7 399),en P "b" 400 (.int 8 401),en P "f" 402 (.int 12 403),en P "n" 404 (.int 10 405),en P "r" 406 (.int 13 407),en P "t" 408 (.int 9 409),en P "v" 410 (.int 11 411),en P "\\" 412 (.int 92 413)] 8)),
 (81,ob (.type "dict") (.dict #[en P "x" 423 (.int 2 424),en P "u" 425 (.int 4 426),en P "U" 427 (.int 8 428)] 3)),
 (82,tu #[]),
 (84,tu #[.str "text" 436,.str "at" 437,.str "signs" 438]),
 (85,tu #[]),
 (87,co "run_behind" "run_behind" 433 42 3 (.ref 82) (.ref 83) (.ref 84) (.ref 85) (.ref 86) 439 440),
 (88,fo 3 "run_behind" "run_behind" .none (.str "chancore.words" 286) (.ref 87)),
 (89,tu #[]),
 (91,tu #[.str "text" 445,.str "at" 446,.str "end" 447]),
 (92,tu #[]),
 (94,co "remark_behind" "remark_behind" 442 46 2 (.ref 89) (.ref 90) (.ref 91) (.ref 92) (.ref 93) 448 449),
 (95,fo 4 "remark_behind" "remark_behind" .none (.str "chancore.words" 286) (.ref 94)),
 (96,tu #[]),
 (98,tu #[.str "text" 454,.str "at" 455,.str "broken" 456,.str "begin" 457,.str "end" 458]),
 (99,tu #[]),
 (101,co "blanks_behind" "blanks_behind" 451 54 2 (.ref 96) (.ref 97) (.ref 98) (.ref 99) (.ref 100) 459 460),
 (102,fo 5 "blanks_behind" "blanks_behind" .none (.str "chancore.words" 286) (.ref 101)),
 (103,tu #[]),
 (105,tu #[.str "sign" 465,.str "place" 466]),
 (106,tu #[]),
 (108,co "figure_worth" "figure_worth" 462 68 1 (.ref 103) (.ref 104) (.ref 105) (.ref 106) (.ref 107) 467 468),
 (109,fo 6 "figure_worth" "figure_worth" .none (.str "chancore.words" 286) (.ref 108)),
 (110,tu #[]),
 (112,tu #[.str "word" 473,.str "base" 474]),
 (113,tu #[]),
 (115,co "number_parts" "number_parts" 470 71 1 (.ref 110) (.ref 111) (.ref 112) (.ref 113) (.ref 114) 475 476),
 (116,fo 7 "number_parts" "number_parts" .none (.str "chancore.words" 286) (.ref 115)),
 (117,tu #[]),
 (119,tu #[.str "text" 481,.str "begin" 482,.str "end" 483,.str "base" 484,.str "figures" 485,.str "value" 486,.str "sign" 487]),
 (120,tu #[]),
 (122,co "read_number" "read_number" 478 78 2 (.ref 117) (.ref 118) (.ref 119) (.ref 120) (.ref 121) 488 489),
 (123,fo 8 "read_number" "read_number" .none (.str "chancore.words" 286) (.ref 122)),
 (124,tu #[]),
 (126,tu #[.str "text" 494,.str "at" 495,.str "many" 496,.str "base" 497,.str "spot" 498,.str "figures" 499,.str "value" 500,.str "sign" 501]),
 (127,tu #[]),
 (129,co "figures_read" "figures_read" 491 93 5 (.ref 124) (.ref 125) (.ref 126) (.ref 127) (.ref 128) 502 503),
 (130,fo 9 "figures_read" "figures_read" .none (.str "chancore.words" 286) (.ref 129)),
 (131,tu #[]),
 (133,tu #[.str "text" 508,.str "at" 509,.str "quote" 510,.str "sign" 511,.str "many" 512,.str "value" 513]),
 (134,tu #[]),
 (136,co "read_escape" "read_escape" 505 103 3 (.ref 131) (.ref 132) (.ref 133) (.ref 134) (.ref 135) 514 515),
 (137,fo 10 "read_escape" "read_escape" .none (.str "chancore.words" 286) (.ref 136)),
 (138,tu #[]),
 (140,tu #[.str "text" 520,.str "at" 521,.str "value" 522]),
 (141,tu #[]),
 (143,co "plain_rune" "plain_rune" 517 119 2 (.ref 138) (.ref 139) (.ref 140) (.ref 141) (.ref 142) 523 524),
 (144,fo 11 "plain_rune" "plain_rune" .none (.str "chancore.words" 286) (.ref 143)),
 (145,tu #[]),
 (147,tu #[.str "text" 529,.str "begin" 530,.str "found" 531,.str "at" 532,.str "value" 533,.str "is_octet" 534]),
 (148,tu #[]),
 (150,co "read_quoted" "read_quoted" 526 124 2 (.ref 145) (.ref 146) (.ref 147) (.ref 148) (.ref 149) 535 536),
 (151,fo 12 "read_quoted" "read_quoted" .none (.str "chancore.words" 286) (.ref 150)),
 (152,tu #[]),
 (154,tu #[.str "text" 541,.str "begin" 542,.str "end" 543,.str "found" 544,.str "at" 545]),
 (155,tu #[]),
 (157,co "read_raw" "read_raw" 538 136 2 (.ref 152) (.ref 153) (.ref 154) (.ref 155) (.ref 156) 546 547),
 (158,fo 13 "read_raw" "read_raw" .none (.str "chancore.words" 286) (.ref 157)),
 (159,tu #[]),
 (161,tu #[.str "text" 552,.str "begin" 553,.str "at" 554,.str "value" 555,.str "is_octet" 556]),
 (162,tu #[]),
 (164,co "read_rune" "read_rune" 549 145 2 (.ref 159) (.ref 160) (.ref 161) (.ref 162) (.ref 163) 557 558),
 (165,fo 14 "read_rune" "read_rune" .none (.str "chancore.words" 286) (.ref 164)),
 (166,tu #[]),
 (168,tu #[.str "text" 563,.str "at" 564,.str "sign" 565]),
 (169,tu #[]),
 (171,co "read_sign" "read_sign" 560 156 2 (.ref 166) (.ref 167) (.ref 168) (.ref 169) (.ref 170) 566 567),
 (172,fo 15 "read_sign" "read_sign" .none (.str "chancore.words" 286) (.ref 171)),
 (173,tu #[]),
 (175,tu #[.str "text" 572,.str "at" 573,.str "sign" 574,.str "end" 575,.str "kind" 576]),
 (176,tu #[]),
 (178,co "read_word" "read_word" 569 161 2 (.ref 173) (.ref 174) (.ref 175) (.ref 176) (.ref 177) 577 578),
 (179,fo 16 "read_word" "read_word" .none (.str "chancore.words" 286) (.ref 178)),
 (180,tu #[]),
 (182,tu #[.str "word" 583]),
 (183,tu #[]),
 (185,co "ends_line" "ends_line" 580 174 1 (.ref 180) (.ref 181) (.ref 182) (.ref 183) (.ref 184) 584 585),
 (186,fo 17 "ends_line" "ends_line" .none (.str "chancore.words" 286) (.ref 185)),
 (187,tu #[]),
 (189,tu #[.str "text" 590,.str "found" 591,.str "at" 592,.str "broken" 593,.str "word" 594]),
 (190,tu #[]),
 (192,co "word_rows" "word_rows" 587 176 1 (.ref 187) (.ref 188) (.ref 189) (.ref 190) (.ref 191) 595 596),
 (193,fo 18 "word_rows" "word_rows" .none (.str "chancore.words" 286) (.ref 192)),
 (194,tu #[]),
 (196,tu #[.str "text" 601]),
 (197,tu #[]),
 (199,co "read_words" "read_words" 598 189 1 (.ref 194) (.ref 195) (.ref 196) (.ref 197) (.ref 198) 602 603),
 (200,fo 19 "read_words" "read_words" .none (.str "chancore.words" 286) (.ref 199)),
 (208,tu #[]),
 (210,tu #[.str "self" 620,.str "rows" 621]),
 (211,tu #[]),
 (213,co "__init__" "Words.__init__" 617 193 2 (.ref 208) (.ref 209) (.ref 210) (.ref 211) (.ref 212) 622 623),
 (214,fo 20 "__init__" "Words.__init__" .none (.str "chancore.words" 286) (.ref 213)),
 (215,tu #[.int 0 625]),
 (216,tu #[]),
 (218,tu #[.str "self" 629,.str "ahead" 630]),
 (219,tu #[]),
 (221,co "peek" "Words.peek" 626 199 2 (.ref 216) (.ref 217) (.ref 218) (.ref 219) (.ref 220) 631 632),
 (222,fo 21 "peek" "Words.peek" (.ref 215) (.str "chancore.words" 286) (.ref 221)),
 (223,tu #[]),
 (225,tu #[.str "self" 637,.str "word" 638]),
 (226,tu #[]),
 (228,co "take" "Words.take" 634 202 1 (.ref 223) (.ref 224) (.ref 225) (.ref 226) (.ref 227) 639 640),
 (229,fo 22 "take" "Words.take" .none (.str "chancore.words" 286) (.ref 228)),
 (230,tu #[.int 0 642]),
 (231,tu #[]),
 (233,tu #[.str "self" 646,.str "text" 647,.str "ahead" 648,.str "word" 649]),
 (234,tu #[]),
 (236,co "looks" "Words.looks" 643 208 3 (.ref 231) (.ref 232) (.ref 233) (.ref 234) (.ref 235) 650 651),
 (237,fo 23 "looks" "Words.looks" (.ref 230) (.str "chancore.words" 286) (.ref 236)),
 (238,tu #[]),
 (240,tu #[.str "self" 656,.str "text" 657]),
 (241,tu #[]),
 (243,co "expect" "Words.expect" 653 212 2 (.ref 238) (.ref 239) (.ref 240) (.ref 241) (.ref 242) 658 659),
 (244,fo 24 "expect" "Words.expect" .none (.str "chancore.words" 286) (.ref 243)),
 (245,tu #[]),
 (247,tu #[.str "self" 664,.str "word" 665]),
 (248,tu #[]),
 (250,co "name" "Words.name" 661 217 1 (.ref 245) (.ref 246) (.ref 247) (.ref 248) (.ref 249) 666 667),
 (251,fo 25 "name" "Words.name" .none (.str "chancore.words" 286) (.ref 250)),
 (252,tu #[.str "at" 669,.str "body_reader" 670,.str "expr_reader" 671,.str "rows" 672]),
 (253,ob (.type "dict") (.dict #[en P "__module__" 612 (.str "chancore.words" 286),en P "__firstlineno__" 616 (.int 191 615),en P "__init__" 624 (.ref 214),en P "peek" 633 (.ref 222),en P "take" 641 (.ref 229),en P "looks" 652 (.ref 237),en P "expect" 660 (.ref 244),en P "name" 668 (.ref 251),en P "__static_attributes__" 673 (.ref 252),en P "__dict__" 675 (.ref 255),en P "__weakref__" 677 (.ref 256),en P "__doc__" 678 .none] 4)),
 (254,ob (.type "type") (slots:=#[none,none,some (.str "Words" 605),some (.str "Words" 613),some (.builtin "object.__new__"),some (.bool true)]) (.cls {name :="Words",bases:=[.type "object"],mro:=[.ref 254,.type "object"],ns:=253,qualname :="Words"})),
 (255,ob (.type "getset_descriptor") (.fields #[.str "__dict__" 674,.ref 254,.builtin "function.__dict__",.builtin "function.__dict__#set"])),
 (256,ob (.type "getset_descriptor") (.fields #[.str "__weakref__" 676,.ref 254,.builtin "ExceptionGroup.__weakref__",.none])),
 (259,tu #[]),
 (261,tu #[.str "script" 690,.str "k" 691,.str "cell" 692,.str "big" 693,.str "blend" 694]),
 (262,tu #[]),
 (264,co "_law_pool" "_law_pool" 687 226 2 (.ref 259) (.ref 260) (.ref 261) (.ref 262) (.ref 263) 695 696),
 (265,fo 26 "_law_pool" "_law_pool" .none (.str "law_on0028_01" 681) (.ref 264)),
 (266,tu #[]),
 (268,tu #[.str "source" 701,.str "top" 702,.str "figure" 703]),
 (269,tu #[]),
 (271,co "_law_take" "_law_take" 698 231 2 (.ref 266) (.ref 267) (.ref 268) (.ref 269) (.ref 270) 704 705),
 (272,fo 27 "_law_take" "_law_take" .none (.str "law_on0028_01" 681) (.ref 271)),
 (273,tu #[]),
 (275,tu #[.str "source" 710,.str "things" 711]),
 (276,tu #[]),
 (278,co "_law_one" "_law_one" 707 238 2 (.ref 273) (.ref 274) (.ref 275) (.ref 276) (.ref 277) 712 713),
 (279,fo 28 "_law_one" "_law_one" .none (.str "law_on0028_01" 681) (.ref 278)),
 (280,tu #[]),
 (282,tu #[.str "source" 718,.str "ahead" 719,.str "base" 720,.str "number" 721,.str "figures" 722,.str "left" 723]),
 (283,tu #[]),
 (285,co "_law_number" "_law_number" 715 240 1 (.ref 280) (.ref 281) (.ref 282) (.ref 283) (.ref 284) 724 725),
 (286,fo 29 "_law_number" "_law_number" .none (.str "law_on0028_01" 681) (.ref 285)),
 (287,tu #[]),
 (290,co "_law_text" "_law_text" 727 250 1 (.ref 287) (.ref 288) .none .none (.ref 289) 730 731),
 (291,fo 30 "_law_text" "_law_text" .none (.str "law_on0028_01" 681) (.ref 290)),
 (292,tu #[]),
 (294,tu #[.str "source" 736,.str "way" 737]),
 (295,tu #[]),
 (297,co "_law_word" "_law_word" 733 261 1 (.ref 292) (.ref 293) (.ref 294) (.ref 295) (.ref 296) 738 739),
 (298,fo 31 "_law_word" "_law_word" .none (.str "law_on0028_01" 681) (.ref 297)),
 (299,tu #[]),
 (301,tu #[.str "source" 744]),
 (302,tu #[]),
 (304,co "_law_gap" "_law_gap" 741 274 1 (.ref 299) (.ref 300) (.ref 301) (.ref 302) (.ref 303) 745 746),
 (305,fo 32 "_law_gap" "_law_gap" .none (.str "law_on0028_01" 681) (.ref 304)),
 (306,tu #[]),
 (309,co "_law_run" "_law_run" 748 276 1 (.ref 306) (.ref 307) .none .none (.ref 308) 751 752),
 (310,fo 33 "_law_run" "_law_run" .none (.str "law_on0028_01" 681) (.ref 309)),
 (311,tu #[]),
 (313,tu #[.str "word" 757]),
 (314,tu #[]),
 (316,co "_law_is_ending" "_law_is_ending" 754 284 1 (.ref 311) (.ref 312) (.ref 313) (.ref 314) (.ref 315) 758 759),
 (317,fo 34 "_law_is_ending" "_law_is_ending" .none (.str "law_on0028_01" 681) (.ref 316)),
 (318,tu #[]),
 (320,tu #[.str "source" 764,.str "text" 765,.str "due" 766,.str "turn" 767,.str "kind" 768,.str "told" 769,.str "value" 770,.str "is_near" 771,.str "run" 772,.str "some" 773,.str "at" 774,.str "tail" 775]),
 (321,tu #[]),
 (323,co "_law_row" "_law_row" 761 288 1 (.ref 318) (.ref 319) (.ref 320) (.ref 321) (.ref 322) 776 777),
 (324,fo 35 "_law_row" "_law_row" .none (.str "law_on0028_01" 681) (.ref 323)),
 (325,tu #[]),
 (327,tu #[.str "text" 782,.str "e" 783]),
 (328,tu #[]),
 (330,co "_law_fault" "_law_fault" 779 305 1 (.ref 325) (.ref 326) (.ref 327) (.ref 328) (.ref 329) 784 785),
 (331,fo 36 "_law_fault" "_law_fault" .none (.str "law_on0028_01" 681) (.ref 330)),
 (332,tu #[]),
 (334,tu #[.str "call" 790,.str "e" 791]),
 (335,tu #[]),
 (337,co "_law_heard" "_law_heard" 787 311 1 (.ref 332) (.ref 333) (.ref 334) (.ref 335) (.ref 336) 792 793),
 (338,fo 37 "_law_heard" "_law_heard" .none (.str "law_on0028_01" 681) (.ref 337)),
 (339,tu #[]),
 (341,tu #[.str "here" 798,.str "due" 799,.str "at" 800,.str "word" 801,.str "ahead" 802,.str "is_told" 803,.str "alone" 804,.str "told" 805]),
 (342,tu #[.str "here" 806]),
 (344,co "_law_walk_right" "_law_walk_right" 795 316 2 (.ref 339) (.ref 340) (.ref 341) (.ref 342) (.ref 343) 807 808),
 (345,fo 38 "_law_walk_right" "_law_walk_right" .none (.str "law_on0028_01" 681) (.ref 344)),
 (346,tu #[]),
 (348,tu #[.str "script" 813,.str "source" 814,.str "text" 815,.str "due" 816,.str "wrong" 817,.str "off" 818]),
 (349,tu #[]),
 (351,co "law" "law" 810 333 1 (.ref 346) (.ref 347) (.ref 348) (.ref 349) (.ref 350) 819 820),
 (352,ob (.type "function") (.func (ol 39 "law" "law" .none (.str "law_on0028_01" 681) (.ref 351))))]
end
section
set_option maxRecDepth 1000000
noncomputable def Jb:Stmt->Bool
 | .FunctionDef n ..=>n==("law":Str)
 |_=>false
noncomputable def qq:Program:={pp with main:={pp.main with body:=pp.main.body.filter Jb}}
noncomputable def loose:List Str:=(pp.main.scope.names.map (·.1)).filter (fun x=>!(x==("law":Str)))
noncomputable def IW:List Addr:=(KK {strHash:=fun uz=>0,shareClass:=id,mergeTok:=id,idOf:=fun uz=>0,idOfShared:=fun uz uz=>0,followText:=fun uz=>false,idOfImm:=fun uz=>0}).map (·.1)
noncomputable def KH:Hook:=kmHook KK IW (fun uz=>rfl) [340]
noncomputable def nC:String :="special-get-raises"
def la (w:World):Prop:=(openEnds treeTable pp w 5412).map (fun s=>(openSeen qq loose (importedModules pp.main.body) (fun uz=>true) true s,KH.obs s))=some (openGood qq loose,KH.val w)
theorem IP (w:World):la (w.withFollow nC false):=by
 unfold la openEnds topFrom;rw [PySem.W.Fast.te14082659384304107361]
 kernel_rfl
theorem IO (w:World):la (w.withFollow nC true):=by
 unfold la openEnds topFrom;rw [PySem.W.Fast.te14082659384304107361]
 kernel_rfl
theorem IM (w:World) (b:Bool):la (w.withFollow nC b):=by
 cases b with
 |false=>exact IP w
 |true=>exact IO w
theorem IQ (w:World):la w:=by
 have h:=IM w (w.params.followText nC);rw [World.withFollow_self] at h;exact h
theorem left:LeftO pp qq loose (fun uz=>true) KH.obs KH.val 5412:=IQ
noncomputable def mt:DefRec×List (Str×Expr):=(defOf qq ("law":Str)).get (by kernel_rfl)
theorem IS:defOf qq ("law":Str)=some mt:=(Option.some_get _).symm
theorem hd (walk:BN qq loose (fun uz uz=>True) KH.says PySem.Challenge.rw_on0028_01.row.toRowW mt.1 mt.2):PySem.Challenge.rw_on0028_01.Holds:=by
 refine holds_law (by decide +kernel) fun said=>?_;exact Jm (r:=PySem.Challenge.rw_on0028_01.row) (q:=qq) (loose:=loose) (Xt:=fun uz=>true) (XP:=fun uz uz=>True) (Yf:=KH.obs) (Ya:=KH.val) (YP:=KH.says) (d:=mt.1) (kwd:=mt.2) (N:=5412) left KH.of KH.keeps (fun uz uz=>trivial) (fun uz uz uz uz uz=>trivial)
  IS (by kernel_rfl) (by kernel_rfl) (fun uz uz=>recFacts_nil rfl) rfl said (by decide +kernel) ⟨rfl,rfl,rfl,rfl,rfl,by decide +kernel⟩ ⟨[.list []],by decide +kernel,by decide +kernel⟩ walk
end
section
variable {G:Gd}{P:Params}(hK:G.K=KK P)
include hK
theorem MB:FnAt G 70 1 [] He 60 none (.ref 69) ("is_right_rune":Str) sr:=bW hK (by kernel_rfl) (by kernel_rfl) (eu fun u1=>by kernel_rfl) (by decide)
theorem MA:FnAt G 75 1 [] Hd 60 none (.ref 74) ("octets_of_rune":Str) sq:=bW hK (by kernel_rfl) (by kernel_rfl) (eu fun u1=>by kernel_rfl) (by decide)
theorem Mz:FnAt G 88 3 [] Hc 60 none (.ref 87) ("run_behind":Str) so:=bW hK (by kernel_rfl) (by kernel_rfl) (Bp fun u1 u2 u3=>by kernel_rfl) (by decide)
theorem My:FnAt G 95 2 [] Hb 60 none (.ref 94) ("remark_behind":Str) sm:=bW hK (by kernel_rfl) (by kernel_rfl) (fi fun u1 u2=>by kernel_rfl) (by decide)
theorem Nc:FnAt G 102 2 [] HL 60 none (.ref 101) ("blanks_behind":Str) sY:=bW hK (by kernel_rfl) (by kernel_rfl) (fi fun u1 u2=>by kernel_rfl) (by decide)
theorem Nb:FnAt G 109 1 [] HK 60 none (.ref 108) ("figure_worth":Str) sX:=bW hK (by kernel_rfl) (by kernel_rfl) (eu fun u1=>by kernel_rfl) (by decide)
theorem Na:FnAt G 116 1 [] HJ 60 none (.ref 115) ("number_parts":Str) sW:=bW hK (by kernel_rfl) (by kernel_rfl) (eu fun u1=>by kernel_rfl) (by decide)
theorem M9:FnAt G 123 2 [] HI 60 none (.ref 122) ("read_number":Str) sV:=bW hK (by kernel_rfl) (by kernel_rfl) (fi fun u1 u2=>by kernel_rfl) (by decide)
theorem M8:FnAt G 130 5 [] HH 60 none (.ref 129) ("figures_read":Str) sU:=bW hK (by kernel_rfl) (by kernel_rfl) (LN fun u1 u2 u3 u4 u5=>by kernel_rfl) (by decide)
theorem M7:FnAt G 137 3 [] HG 60 none (.ref 136) ("read_escape":Str) sT:=bW hK (by kernel_rfl) (by kernel_rfl) (Bp fun u1 u2 u3=>by kernel_rfl) (by decide)
theorem M6:FnAt G 144 2 [] HF 60 none (.ref 143) ("plain_rune":Str) sS:=bW hK (by kernel_rfl) (by kernel_rfl) (fi fun u1 u2=>by kernel_rfl) (by decide)
theorem M5:FnAt G 151 2 [] HE 60 none (.ref 150) ("read_quoted":Str) sR:=bW hK (by kernel_rfl) (by kernel_rfl) (fi fun u1 u2=>by kernel_rfl) (by decide)
theorem M4:FnAt G 158 2 [] HD 60 none (.ref 157) ("read_raw":Str) sQ:=bW hK (by kernel_rfl) (by kernel_rfl) (fi fun u1 u2=>by kernel_rfl) (by decide)
theorem M3:FnAt G 165 2 [] HC 60 none (.ref 164) ("read_rune":Str) sP:=bW hK (by kernel_rfl) (by kernel_rfl) (fi fun u1 u2=>by kernel_rfl) (by decide)
theorem M2:FnAt G 172 2 [] HB 60 none (.ref 171) ("read_sign":Str) sO:=bW hK (by kernel_rfl) (by kernel_rfl) (fi fun u1 u2=>by kernel_rfl) (by decide)
theorem M1:FnAt G 179 2 [] Hz 60 none (.ref 178) ("read_word":Str) sN:=bW hK (by kernel_rfl) (by kernel_rfl) (fi fun u1 u2=>by kernel_rfl) (by decide)
theorem M0:FnAt G 186 1 [] Hy 60 none (.ref 185) ("ends_line":Str) sM:=bW hK (by kernel_rfl) (by kernel_rfl) (eu fun u1=>by kernel_rfl) (by decide)
theorem MZ:FnAt G 193 1 [] Hx 60 none (.ref 192) ("word_rows":Str) sL:=bW hK (by kernel_rfl) (by kernel_rfl) (eu fun u1=>by kernel_rfl) (by decide)
theorem MY:FnAt G 200 1 [] Hw 60 none (.ref 199) ("read_words":Str) sK:=bW hK (by kernel_rfl) (by kernel_rfl) (eu fun u1=>by kernel_rfl) (by decide)
theorem MX:FnAt G 214 2 [] Hv 60 none (.ref 213) ("Words.__init__":Str) sJ:=bW hK (by kernel_rfl) (by kernel_rfl) (fi fun u1 u2=>by kernel_rfl) (by decide)
theorem MU:FnAt G 229 1 [] Hu 60 none (.ref 228) ("Words.take":Str) sI:=bW hK (by kernel_rfl) (by kernel_rfl) (eu fun u1=>by kernel_rfl) (by decide)
theorem MQ:FnAt G 244 2 [] Ht 60 none (.ref 243) ("Words.expect":Str) sH:=bW hK (by kernel_rfl) (by kernel_rfl) (fi fun u1 u2=>by kernel_rfl) (by decide)
theorem BF:FnAt G 251 1 [] Hs 60 none (.ref 250) ("Words.name":Str) sG:=bW hK (by kernel_rfl) (by kernel_rfl) (eu fun u1=>by kernel_rfl) (by decide)
theorem MP:FnAt G 265 2 [] Hr 60 none (.ref 264) ("_law_pool":Str) oH:=bW hK (by kernel_rfl) (by kernel_rfl) (fi fun u1 u2=>by kernel_rfl) (by decide)
theorem MO:FnAt G 272 2 [] Hq 60 none (.ref 271) ("_law_take":Str) sF:=bW hK (by kernel_rfl) (by kernel_rfl) (fi fun u1 u2=>by kernel_rfl) (by decide)
theorem MN:FnAt G 279 2 [] Hp 60 none (.ref 278) ("_law_one":Str) sE:=bW hK (by kernel_rfl) (by kernel_rfl) (fi fun u1 u2=>by kernel_rfl) (by decide)
theorem MM:FnAt G 286 1 [] Ho 60 none (.ref 285) ("_law_number":Str) sD:=bW hK (by kernel_rfl) (by kernel_rfl) (eu fun u1=>by kernel_rfl) (by decide)
theorem ML:FnAt G 291 1 [] Hn 60 none (.ref 290) ("_law_text":Str) sC:=bW hK (by kernel_rfl) (by kernel_rfl) (eu fun u1=>by kernel_rfl) (by decide)
theorem MK:FnAt G 298 1 [] Hm 60 none (.ref 297) ("_law_word":Str) sB:=bW hK (by kernel_rfl) (by kernel_rfl) (eu fun u1=>by kernel_rfl) (by decide)
theorem MJ:FnAt G 305 1 [] Hl 60 none (.ref 304) ("_law_gap":Str) sA:=bW hK (by kernel_rfl) (by kernel_rfl) (eu fun u1=>by kernel_rfl) (by decide)
theorem MI:FnAt G 310 1 [] Hk 60 none (.ref 309) ("_law_run":Str) sz:=bW hK (by kernel_rfl) (by kernel_rfl) (eu fun u1=>by kernel_rfl) (by decide)
theorem MH:FnAt G 317 1 [] Hj 60 none (.ref 316) ("_law_is_ending":Str) sy:=bW hK (by kernel_rfl) (by kernel_rfl) (eu fun u1=>by kernel_rfl) (by decide)
theorem MG:FnAt G 324 1 [] Hi 60 none (.ref 323) ("_law_row":Str) sx:=bW hK (by kernel_rfl) (by kernel_rfl) (eu fun u1=>by kernel_rfl) (by decide)
theorem MF:FnAt G 331 1 [] Hh 60 none (.ref 330) ("_law_fault":Str) sw:=bW hK (by kernel_rfl) (by kernel_rfl) (eu fun u1=>by kernel_rfl) (by decide)
theorem MD:FnAt G 345 2 [] Hg 60 (some (322,94)) (.ref 344) ("_law_walk_right":Str) sv:=bW hK (by kernel_rfl) (by kernel_rfl) (fi fun u1 u2=>by kernel_rfl) (by decide)
theorem MC:FnAt G 352 1 [] Hf 60 none (.ref 351) ("law":Str) su:=bW hK (by kernel_rfl) (by kernel_rfl) (eu fun u1=>by kernel_rfl) (by decide)
theorem MW:FnAt G 222 2 [] zq 60 none (.ref 221) ("Words.peek":Str) kX:=bW hK (by kernel_rfl) (by kernel_rfl) (LK fun S u1 u2=>by kernel_rfl) (by decide)
theorem MV:FnAt G 222 1 [.int 0] zq 60 none (.ref 221) ("Words.peek":Str) kX:=bW hK (by kernel_rfl) (by kernel_rfl) (LM (t:=625) fun S u1=>by kernel_rfl) (by decide)
theorem MT:FnAt G 237 3 [] zp 60 none (.ref 236) ("Words.looks":Str) kW:=bW hK (by kernel_rfl) (by kernel_rfl) (LJ fun S u1 u2 u3=>by kernel_rfl) (by decide)
theorem MR:FnAt G 237 2 [.int 0] zp 60 none (.ref 236) ("Words.looks":Str) kW:=bW hK (by kernel_rfl) (by kernel_rfl) (LL (t:=642) fun S u1 u2=>by kernel_rfl) (by decide)
end
theorem Kn (P:Params):ExcIs (KK P) 45:=⟨⟨_,_,_,_,_,_,_,_,_,_,_,_,_,_,_,_,rfl,by kernel_rfl,by kernel_rfl,by kernel_rfl⟩,by kernel_rfl,by kernel_rfl,by kernel_rfl,by kernel_rfl,by kernel_rfl,by kernel_rfl,by kernel_rfl,by kernel_rfl,by kernel_rfl,by kernel_rfl,by kernel_rfl,by kernel_rfl,by kernel_rfl,by kernel_rfl⟩
theorem Km (P:Params):ExcIs (KK P) 57:=⟨⟨_,_,_,_,_,_,_,_,_,_,_,_,_,_,_,_,rfl,by kernel_rfl,by kernel_rfl,by kernel_rfl⟩,by kernel_rfl,by kernel_rfl,by kernel_rfl,by kernel_rfl,by kernel_rfl,by kernel_rfl,by kernel_rfl,by kernel_rfl,by kernel_rfl,by kernel_rfl,by kernel_rfl,by kernel_rfl,by kernel_rfl,by kernel_rfl⟩
noncomputable def J8:FuncData:=ol 0 "__init__" "ChanError.__init__" (.ref 22) (.str "chancore.errors" 187) (.ref 28)
theorem Jf {G:Gd}{P:Params}(hK:G.K=KK P):Init29 G:=by
 refine⟨_,J8,by erw [hK];rfl,rfl,by erw [hK];kernel_rfl,"self","message","spot",_,_,_,_,_,_,_,_,_,_,_,_,_,_,rI (by kernel_rfl),by kernel_rfl,by kernel_rfl,by kernel_rfl,by kernel_rfl,by kernel_rfl,by kernel_rfl,by kernel_rfl,by kernel_rfl,by erw [hK];kernel_rfl,fun s u1 u2 u3 X=>kp_binds X fun S=>?_⟩
 erw [hK];kernel_rfl
noncomputable def J7:FuncData:=ol 37 "_law_heard" "_law_heard" .none (.str "law_on0028_01" 681) (.ref 337)
theorem Jr {G:Gd}{P:Params}(hK:G.K=KK P) (hb:G.base.BuiltinsAt G.mg G.tab):HeardAt G 57 (some iq):=by
 refine⟨(HeardFn.mk _ J7 ("call") ("e") ("GrammarFault") _ _ _ _ _ _ _ _ (by erw [hK];rfl) rfl (by erw [hK];kernel_rfl) (rI (by kernel_rfl)) (by erw [hK];kernel_rfl) (by erw [hK];kernel_rfl) (by kernel_rfl) (by kernel_rfl) (by kernel_rfl) (by kernel_rfl) (fun s u X=>BindsTo.of_eq (by kernel_rfl))),by erw [hK];kernel_rfl,by erw [hK];kernel_rfl,hb⟩
theorem DF {C:Addr}{x:Str}(h:iT C x=true):C=254/\(x=("rows":Str)\/x=("at":Str)\/x=("expr_reader":Str)\/x=("body_reader":Str)):=by
 unfold iT AI at h;simp only [cD,beq_iff_eq,List.contains_iff_mem,List.mem_cons,List.not_mem_nil,or_false] at h;exact h
set_option tactic.hygienic true in
theorem DE {C f:Addr}{x:Str}(h:iS C x=some f):C=254/\((x=("peek":Str)/\f=222)\/(x=("take":Str)/\f=229)\/(x=("looks":Str)/\f=237)\/(x=("expect":Str)/\f=244)):=by
 unfold iS at h
 split at h
 ·rename_i hC
  refine⟨hC,?_⟩;unfold zL at h;simp only [List.lookup_cons,List.lookup_nil] at h
  split at h
  ·rename_i e;cases h;exact .inl ⟨beq_iff_eq.mp e,rfl⟩
  split at h
  ·rename_i e;cases h;exact .inr (.inl ⟨beq_iff_eq.mp e,rfl⟩)
  split at h
  ·rename_i e;cases h;exact .inr (.inr (.inl ⟨beq_iff_eq.mp e,rfl⟩))
  split at h
  ·rename_i e;cases h;exact .inr (.inr (.inr ⟨beq_iff_eq.mp e,rfl⟩))
  ·exact ba h
 ·exact ba h
noncomputable def qr (t:List (List Nat×Int)):List (Str×PyData):=t.map fun p=>(S_ p.1,PyData.int p.2)
set_option tactic.hygienic true in
theorem JV {G:Gd}{P:Params}(hK:G.K=KK P) (hP:G.w.params=P):Floor G:=by
 have X:=G.X;have I9:=Jf hK;refine⟨?_,?_,?_,?_⟩
 ·intro C hC;unfold lE at hC;simp only [Bool.or_eq_true,beq_iff_eq] at hC;refine av hC ?_ ?_<;>clear hC
  ·rintro rfl;have Y:ExcIs G.K 45:=hK▸Kn P;exact aI (AN I9 Y) Y (by erw [hK];kernel_rfl)
  ·rintro rfl;have Y:ExcIs G.K 57:=hK▸Km P;exact aI (AN I9 Y) Y (by erw [hK];kernel_rfl)
 ·intro d t ht;rw [hK] at X;unfold pB at ht
  split at ht
  ·rename_i e;cases ht;subst e
   exact kt_tab_in (D:=qr PB) G.prog G.w X (by kernel_rfl) (by decide) (by(refine aZ (hP ..) ?_);kernel_rfl)
  split at ht
  ·rename_i e;cases ht;subst e
   exact kt_tab_in (D:=qr jd) G.prog G.w X (by kernel_rfl) (by decide) (by(refine aZ (hP ..) ?_);kernel_rfl)
  split at ht
  ·rename_i e;cases ht;subst e
   exact kt_tab_in (D:=qr ic) G.prog G.w X (by kernel_rfl) (by decide) (by(refine aZ (hP ..) ?_);kernel_rfl)
  ·exact ba ht
 ·intro C x h;refine af (DF h) ?_;intro e h2;clear h;subst e
  erw [hK]
  (focus (refine av h2 ?_ ?_<;>clear h2;rintro rfl;rotate_left;intro y0;(focus (refine av y0 ?_ ?_<;>clear y0;rintro rfl;rotate_left;intro y1;(focus (refine av y1 ?_ ?_<;>clear y1;rintro rfl;rotate_left;rintro rfl;rotate_left));rotate_left 2));rotate_left 3))
  ·kernel_rfl
  ·kernel_rfl
  ·kernel_rfl
  ·kernel_rfl
 ·intro C x f h;refine af (DE h) ?_;intro e h2;clear h;subst e
  erw [hK]
  (focus (refine av h2 ?_ ?_<;>clear h2;intro y0;refine af y0 ?_;clear y0;intro y1 y2;subst y1 y2;rotate_left;intro y0;(focus (refine av y0 ?_ ?_<;>clear y0;intro y1;refine af y1 ?_;clear y1;intro y2 y3;subst y2 y3;rotate_left;intro y1;(focus (refine av y1 ?_ ?_<;>clear y1;intro y2;refine af y2 ?_;clear y2;intro y3 y4;subst y3 y4;rotate_left;intro y2;refine af y2 ?_;clear y2;intro y3 y4;subst y3 y4;rotate_left));rotate_left 2));rotate_left 3))
  ·kernel_rfl
  ·kernel_rfl
  ·kernel_rfl
  ·kernel_rfl
theorem lD {z:Bool}{T:Tb}:jq (fD z T):=(by decide:iT 254 ("rows":Str)=true/\iT 254 ("at":Str)=true/\iT 254 ("expr_reader":Str)=true/\iT 254 ("body_reader":Str)=true)
theorem iR {z:Bool}{T:Tb}:gt (fD z T):=(by decide:iS 254 ("peek":Str)=some 222/\iS 254 ("take":Str)=some 229/\iS 254 ("looks":Str)=some 237/\iS 254 ("expect":Str)=some 244)
theorem gP {z:Bool}{T:Tb}:(fD z T).exc 45=true:=(by decide:lE 45=true)
theorem uu {z:Bool}{T:Tb}:(fD z T).exc 57=true:=(by decide:lE 57=true)
theorem KM {z:Bool}{T:Tb}:(fD z T).dict 79=some PB:=rfl
theorem KL {z:Bool}{T:Tb}:(fD z T).dict 80=some jd:=rfl
theorem KJ {z:Bool}{T:Tb}:(fD z T).dict 81=some ic:=rfl
noncomputable def uA (T:Tb) (d:Nat):Fx:={fD false T with heardL:=oh (fD false T) (.meth (.loc 0) ("expect":Str) [.cst (.str lY)]) 57 (some iq),heardM:=og 254 251 ("name":Str) lu 57 (some iq),lo:=d+2}
section
variable {G:Gd}{P:Params}(hK:G.K=KK P) (B:Floor G)
include hK B
theorem Stage.walk {d:Nat}{T:Tb}(S:Stage G false d T) (hd:2<=d) (HA:HeardAt G 57 (some iq)) (hC:G.tabC=344) (hL:G.tabL=322) (hT:G.tabK=94) (hQ:G.tabQ=("_law_walk_right":Str) ++ ".<locals>."++ "<lambda>")
  (m222:(222,eY)∈T) (m229:(229,lw)∈T) (m237:(237,ij)∈T) (m244:(244,lv)∈T) (m251:(251,lu)∈T) (m254:(254,ls)∈T):Stage G false (d+3) ((345,mW)::T):=by
 have hF0:=S.fx B hd;have hF:FxOk G false (d+2) (uA T d):=by
  refine⟨rfl,by omega,bw _,B.exc,B.dict,B.field,B.meth,fun p vs st Q X h=>?_,fun p vs st Q X h=>?_⟩
  ·(refine ag h ?_;clear h;intro R hm hR);exact aj R (((S p R hm).1.mono (by omega)).ok) hR
  ·(refine ag h ?_;clear h;intro R hm hR);exact(S p R hm).2
 have code:FnCode G false (d+2+1) 345 mW:=by
  refine(Ax (MD hK) (fun sc=>?_) hF).imp ?_
  ·exact Jn HA (B.exc 57 (by decide)).2.1 hF0 (S 251 lu m251).1 rfl rfl rfl (by erw [hK];kernel_rfl) (by
    refine cu ((BF hK).at_) ?_;intro o fd body h1 h2 _
    exact bB o fd h1 h2) rfl (by(erw [hC];with_reducible rfl)) hQ (by(erw [hL];erw [hT];with_reducible rfl))
  ·exact DQ (uA T d) (iR (z:=false) (T:=T)) (Stage.has (z:=false) m222) (Stage.has (z:=false) m229) (Stage.has (z:=false) m237) (Stage.has (z:=false) m244) (Stage.has (z:=false) m254) (Jv iR (Stage.has m244)) Ju
 intro q R hm;refine av (bC hm) (fun e=>?_) fun hm=>?_
 ·cases e;exact⟨code,by erw [hK];kernel_rfl⟩
 ·exact⟨(S q R hm).1.mono (by omega),(S q R hm).2⟩
end
noncomputable abbrev T0:Tb:=[]
noncomputable abbrev T1:Tb:=(70,mV)::T0
noncomputable abbrev T2:Tb:=(75,oX)::T1
noncomputable abbrev T3:Tb:=(88,mU)::T2
noncomputable abbrev T4:Tb:=(95,tF)::T3
noncomputable abbrev T5:Tb:=(102,tV)::T4
noncomputable abbrev T6:Tb:=(109,pe)::T5
noncomputable abbrev T7:Tb:=(116,tU)::T6
noncomputable abbrev T8:Tb:=(123,tT)::T7
noncomputable abbrev T9:Tb:=(130,tS)::T8
noncomputable abbrev Cg:Tb:=(144,mY)::T9
noncomputable abbrev Cf:Tb:=(137,pd)::Cg
noncomputable abbrev Ce:Tb:=(165,tP)::Cf
noncomputable abbrev Cd:Tb:=(172,tO)::Ce
noncomputable abbrev Cb:Tb:=(186,tM)::Cd
noncomputable abbrev Ca:Tb:=(214,o9)::Cb
noncomputable abbrev B9:Tb:=(254,ls)::Ca
noncomputable abbrev B8:Tb:=(222,eY)::B9
noncomputable abbrev B7:Tb:=(229,lw)::B8
noncomputable abbrev B6:Tb:=(237,ij)::B7
noncomputable abbrev B5:Tb:=(244,lv)::B6
noncomputable abbrev B4:Tb:=(251,lu)::B5
noncomputable abbrev B3:Tb:=(265,tK)::B4
noncomputable abbrev B2:Tb:=(272,iM)::B3
noncomputable abbrev B0:Tb:=(279,ii)::B2
noncomputable abbrev BZ:Tb:=(286,tJ)::B0
noncomputable abbrev BY:Tb:=(291,tI)::BZ
noncomputable abbrev BX:Tb:=(298,o8)::BY
noncomputable abbrev BW:Tb:=(305,mX)::BX
noncomputable abbrev BV:Tb:=(310,oZ)::BW
noncomputable abbrev BU:Tb:=(317,oY)::BV
noncomputable abbrev BT:Tb:=(324,tH)::BU
noncomputable abbrev td:Tb:=(345,mW)::BT
noncomputable abbrev BS:Tb:=(151,tR)::td
noncomputable abbrev BR:Tb:=(158,tQ)::BS
noncomputable abbrev BQ:Tb:=(179,tN)::BR
noncomputable abbrev BP:Tb:=(193,tL)::BQ
noncomputable abbrev BO:Tb:=(200,pb)::BP
noncomputable abbrev T38:Tb:=(331,tG)::BO
theorem ES:∀vs st Q X,eY vs st Q X->(vs.length=2/\eY vs st Q X)\/(vs.length=1/\eY vs st Q X):=by
 intro vs st Q X h;refine oS (id h) ?_;intro n k j rows w hv h1;refine av hv ?_ ?_<;>clear hv
 ·rintro rfl;exact .inl ⟨rfl,h⟩
 ·intro y0;refine af y0 ?_;clear y0;intro y1 y2;subst y1 y2;exact .inr ⟨rfl,h⟩
theorem ER:∀vs st Q X,ij vs st Q X->(vs.length=3/\ij vs st Q X)\/(vs.length=2/\ij vs st Q X):=by
 intro vs st Q X h
 (obtain⟨n,k,j,rows,kd,t,tx,p,v,hv,h1⟩:=id h)
 refine av hv ?_ ?_<;>clear hv
 ·rintro rfl;exact .inl ⟨rfl,h⟩
 ·intro y0;refine af y0 ?_;clear y0;intro y1 y2;subst y1 y2;exact .inr ⟨rfl,h⟩
section
variable {G:Gd}{P:Params}(hK:G.K=KK P) (B:Floor G)
include hK B
theorem s0:Stage G false 2 T0:=fun p R h=>absurd h List.not_mem_nil
theorem s1:Stage G false 3 T1:=Stage.add B (s0 hK B) (by decide) (MB hK) (by erw [hK];kernel_rfl) rfl (t70 _)
theorem s2:Stage G false 4 T2:=Stage.add B (s1 hK B) (by decide) (MA hK) (by erw [hK];kernel_rfl) rfl (t75 _ rfl (Stage.hat 0 rfl))
theorem s3:Stage G false 5 T3:=Stage.add B (s2 hK B) (by decide) (Mz hK) (by erw [hK];kernel_rfl) rfl (t88 _)
theorem s4:Stage G false 6 T4:=Stage.add B (s3 hK B) (by decide) (My hK) (by erw [hK];kernel_rfl) rfl (t95 _ gP)
theorem s5:Stage G false 7 T5:=Stage.add B (s4 hK B) (by decide) (Nc hK) (by erw [hK];kernel_rfl) rfl (Ev _ (Stage.hat 1 rfl) (Stage.hat 0 rfl))
theorem s6:Stage G false 8 T6:=Stage.add B (s5 hK B) (by decide) (Nb hK) (by erw [hK];kernel_rfl) rfl (Eu _)
theorem s7:Stage G false 9 T7:=Stage.add B (s6 hK B) (by decide) (Na hK) (by erw [hK];kernel_rfl) rfl (Et _ KM)
theorem s8:Stage G false 10 T8:=Stage.add B (s7 hK B) (by decide) (M9 hK) (by erw [hK];kernel_rfl) rfl (Es _ gP (Stage.hat 4 rfl) (Stage.hat 1 rfl) (Stage.hat 0 rfl))
theorem s9:Stage G false 11 T9:=Stage.add B (s8 hK B) (by decide) (M8 hK) (by erw [hK];kernel_rfl) rfl (Er _ gP (Stage.hat 2 rfl))
theorem s10:Stage G false 12 Cg:=Stage.add B (s9 hK B) (by decide) (M6 hK) (by erw [hK];kernel_rfl) rfl (Eo _ gP (Stage.hat 8 rfl))
theorem s11:Stage G false 13 Cf:=Stage.add B (s10 hK B) (by decide) (M7 hK) (by erw [hK];kernel_rfl) rfl (Ep _ gP KL KJ (Stage.hat 9 rfl) (Stage.hat 1 rfl))
theorem s12:Stage G false 14 Ce:=Stage.add B (s11 hK B) (by decide) (M3 hK) (by erw [hK];kernel_rfl) rfl (Ek _ gP (Stage.hat 0 rfl) (Stage.hat 1 rfl))
theorem s13:Stage G false 15 Cd:=Stage.add B (s12 hK B) (by decide) (M2 hK) (by erw [hK];kernel_rfl) rfl (Ej _ gP)
theorem s14:Stage G false 16 Cb:=Stage.add B (s13 hK B) (by decide) (M0 hK) (by erw [hK];kernel_rfl) rfl (Eh _)
theorem xJ:Stage G false 17 Ca:=Stage.add B (s14 hK B) (by decide) (MX hK) (by erw [hK];kernel_rfl) rfl (Ee _ lD)
theorem qf:Stage G false 18 B9:=Stage.cons (xJ hK B) ((K9 (Cl:=254) (fI:=214) (by erw [hK];kernel_rfl) (by erw [hK];kernel_rfl) (by erw [hK];kernel_rfl) ((xJ hK B) 214 o9 (.head _)).1).imp D6) (by erw [hK];kernel_rfl)
theorem s17:Stage G false 19 B8:=Stage.cons (qf hK B) ((FnCode.or (Stage.code B (qf hK B) (by decide) (MW hK) rfl (Ec _ lD)) (Stage.code B (qf hK B) (by decide) (MV hK) rfl (Ed _ lD))).imp ES) (by erw [hK];kernel_rfl)
theorem qc:Stage G false 20 B7:=Stage.add B (s17 hK B) (by decide) (MU hK) (by erw [hK];kernel_rfl) rfl (Eb _ lD iR (Stage.hat 0 rfl))
theorem s19:Stage G false 21 B6:=Stage.cons (qc hK B) ((FnCode.or (Stage.code B (qc hK B) (by decide) (MT hK) rfl (D9 _ iR (Stage.hat 1 rfl))) (Stage.code B (qc hK B) (by decide) (MR hK) rfl (Ea _ iR (Stage.hat 1 rfl)))).imp ER) (by erw [hK];kernel_rfl)
theorem s20:Stage G false 22 B5:=Stage.add B (s19 hK B) (by decide) (MQ hK) (by erw [hK];kernel_rfl) rfl (D8 _ uu iR (Stage.hat 2 rfl) (Stage.hat 1 rfl) (Stage.hat 0 rfl))
theorem s21:Stage G false 23 B4:=Stage.add B (s20 hK B) (by decide) (BF hK) (by erw [hK];kernel_rfl) rfl (D7 _ uu lD iR (Stage.hat 3 rfl))
theorem s22:Stage G false 24 B3:=Stage.add B (s21 hK B) (by decide) (MP hK) (by erw [hK];kernel_rfl) rfl (D5 _)
theorem s23:Stage G false 25 B2:=Stage.add B (s22 hK B) (by decide) (MO hK) (by erw [hK];kernel_rfl) rfl (D3 _)
theorem s24:Stage G false 26 B0:=Stage.add B (s23 hK B) (by decide) (MN hK) (by erw [hK];kernel_rfl) rfl (D2 _ (Stage.hat 0 rfl))
theorem s25:Stage G false 27 BZ:=Stage.add B (s24 hK B) (by decide) (MM hK) (by erw [hK];kernel_rfl) rfl (D1 _ (Stage.hat 1 rfl) (Stage.hat 0 rfl))
theorem s26:Stage G false 28 BY:=Stage.add B (s25 hK B) (by decide) (ML hK) (by erw [hK];kernel_rfl) rfl (DZ _ rfl (Stage.hat 2 rfl) (Stage.hat 1 rfl))
theorem s27:Stage G false 29 BX:=Stage.add B (s26 hK B) (by decide) (MK hK) (by erw [hK];kernel_rfl) rfl (DY _ (Stage.hat 3 rfl) (Stage.hat 2 rfl) (Stage.hat 1 rfl) (Stage.hat 0 rfl))
theorem s28:Stage G false 30 BW:=Stage.add B (s27 hK B) (by decide) (MJ hK) (by erw [hK];kernel_rfl) rfl (DX _ (Stage.hat 3 rfl))
theorem s29:Stage G false 31 BV:=Stage.add B (s28 hK B) (by decide) (MI hK) (by erw [hK];kernel_rfl) rfl (DW _ rfl (Stage.hat 5 rfl) (Stage.hat 4 rfl))
theorem s30:Stage G false 32 BU:=Stage.add B (s29 hK B) (by decide) (MH hK) (by erw [hK];kernel_rfl) rfl (DV _)
theorem s31:Stage G false 33 BT:=Stage.add B (s30 hK B) (by decide) (MG hK) (by erw [hK];kernel_rfl) rfl (DU _ (Stage.hat 7 rfl) (Stage.hat 6 rfl) (Stage.hat 3 rfl) (Stage.hat 2 rfl) (Stage.hat 1 rfl) (Stage.hat 0 rfl))
variable (HA:HeardAt G 57 (some iq)) (hC:G.tabC=344) (hL:G.tabL=322) (hT:G.tabK=94) (hQ:G.tabQ=("_law_walk_right":Str) ++ ".<locals>."++ "<lambda>")
include HA hC hL hT hQ
theorem s32:Stage G false 36 td:=Stage.walk hK B (s31 hK B) (by decide) HA hC hL hT hQ (.tail _ (.tail _ (.tail _ (.tail _ (.tail _ (.tail _ (.tail _ (.tail _ (.tail _ (.tail _ (.tail _ (.tail _ (.tail _ (.tail _ (.head _))))))))))))))) (.tail _ (.tail _ (.tail _ (.tail _ (.tail _ (.tail _ (.tail _ (.tail _ (.tail _ (.tail _ (.tail _ (.tail _ (.tail _ (.head _)))))))))))))) (.tail _ (.tail _ (.tail _ (.tail _ (.tail _ (.tail _ (.tail _ (.tail _ (.tail _ (.tail _ (.tail _ (.tail _ (.head _))))))))))))) (.tail _ (.tail _ (.tail _ (.tail _ (.tail _ (.tail _ (.tail _ (.tail _ (.tail _ (.tail _ (.tail _ (.head _)))))))))))) (.tail _ (.tail _ (.tail _ (.tail _ (.tail _ (.tail _ (.tail _ (.tail _ (.tail _ (.tail _ (.head _))))))))))) (.tail _ (.tail _ (.tail _ (.tail _ (.tail _ (.tail _ (.tail _ (.tail _ (.tail _ (.tail _ (.tail _ (.tail _ (.tail _ (.tail _ (.tail _ (.head _))))))))))))))))
theorem FV:Stage G true 36 td:=(s32 hK B HA hC hL hT hQ).weak
theorem s33:Stage G true 37 BS:=Stage.add B (FV hK B HA hC hL hT hQ) (by decide) (M5 hK) (by erw [hK];kernel_rfl) rfl (En _ rfl gP (Stage.hat 30 rfl) (Stage.hat 21 rfl) (Stage.hat 22 rfl))
theorem s34:Stage G true 38 BR:=Stage.add B (s33 hK B HA hC hL hT hQ) (by decide) (M4 hK) (by erw [hK];kernel_rfl) rfl (El _ rfl gP (Stage.hat 31 rfl) (Stage.hat 23 rfl))
theorem s35:Stage G true 39 BQ:=Stage.add B (s34 hK B HA hC hL hT hQ) (by decide) (M1 hK) (by erw [hK];kernel_rfl) rfl (Ei _ (Stage.hat 31 rfl) (Stage.hat 26 rfl) (Stage.hat 1 rfl) (Stage.hat 0 rfl) (Stage.hat 22 rfl) (Stage.hat 21 rfl))
theorem s36:Stage G true 40 BP:=Stage.add B (s35 hK B HA hC hL hT hQ) (by decide) (MZ hK) (by erw [hK];kernel_rfl) rfl (Eg _ (Stage.hat 30 rfl) (Stage.hat 0 rfl) (Stage.hat 21 rfl))
theorem s37:Stage G true 41 BO:=Stage.add B (s36 hK B HA hC hL hT hQ) (by decide) (MY hK) (by erw [hK];kernel_rfl) rfl (Ef _ (Stage.hat 0 rfl) (Stage.hat 20 rfl))
theorem s38:Stage G true 42 T38:=Stage.add B (s37 hK B HA hC hL hT hQ) (by decide) (MF hK) (by erw [hK];kernel_rfl) rfl (DR _ gP (Stage.hat 0 rfl))
theorem IR:FnCode G true 43 352 CU:=Stage.code B (s38 hK B HA hC hL hT hQ) (by decide) (MC hK) rfl (DO plain _ iR (Stage.hat 1 rfl) (Stage.hat 21 rfl) (Stage.hat 16 rfl) (Stage.hat 14 rfl) (Stage.hat 7 rfl) (Stage.hat 0 rfl) (Stage.hat 6 rfl))
end
theorem JL {h₁:Heap}{tabs:List (Addr×Addr)}(hT:TabsAt tabs h₁) (x:h₁.NoSeer):(ghostOf h₁ tabs).NoSeer where
 statics:=let ⟨mc,a,b⟩:=x.statics;(aj mc (ghost_ns hT a) b)
 mods:=let ⟨mm,a,b⟩:=x.mods;(aj mm (ghost_ns hT a) b)
 imp:=let ⟨mb,a,b⟩:=x.imp;(aj mb (ghost_ns hT a) b)
 main:=let ⟨mg,bm,ob,a,b,c,d,e⟩:=x.main;(gm mg bm ob (ghost_ns hT a) b (ghost_get hT c (fun q=>by rw [q] at d;cases d)) d e)
theorem lF {P:Params}{h:Heap}(X:(KK P).In h) (h340:h.get? 340=some (tabObj #[])):TabsAt [(344,340)] h:=fun q hq=>by
 erw [List.mem_singleton.mp hq]
 exact⟨codeHd_of_K X (by kernel_rfl),h340⟩
noncomputable def IV:Str:=("_law_walk_right":Str) ++ ".<locals>."++ "<lambda>"
noncomputable def Ar {p:Program}{loose:List Str}{mean:ExcName->Option Value}{mg mb:Str->Option Value}(prog:Program) (w:World) (h:Heap) (T:Top p loose mean mg mb h) (hi:importsNone p=true) (X:(KK w.params).In h) (h340:h.get? 340=some (tabObj #[])) (ht:prog.given.tree=none):Gd where
 prog:=prog
 w:=w
 K:=KK w.params
 base:=ghostOf h [(344,340)]
 p:=topProg
 loose:=loose++(recsOf p).map (·.name)++(litsOf p).map (·.1)++(clssOf p loose).map (·.name)
 mg:=mg
 mb:=mb
 tab:=340
 tabC:=344
 tabL:=322
 tabK:=94
 tabQ:=IV
 X:=ghost_K (lF X h340) X (by kernel_rfl)
 T:=topRead_of (ghost_top (lF X h340) T)
 tabFree:=hideAll_none [340] (List.mem_singleton.mpr rfl)
 tabHd:=(ghost_code (lF X h340)).1
 seer:=JL (lF X h340) (T.seer hi)
 tree:=ht
theorem Dt {p:Program}{loose:List Str}{mean:ExcName->Option Value}{mg mb:Str->Option Value}{prog:Program}{w:World}{s₁:Shared}(T:Top p loose mean mg mb s₁.heap) (hi:importsNone p=true) (X:(KK w.params).In s₁.heap) (h340:s₁.heap.get? 340=some (tabObj #[])) (ht:prog.given.tree=none)
  {a:Addr} (ha:mg ("law":Str)=some (.ref a)) (hup:0<s₁.toks) {vals:List Value} {is:List Int} (hr:Reps [] s₁.heap [.lst (is.map .int)] vals) {Qm Em:VP}
  (hQ:∀s',OldK s₁.heap s'.heap->s'.os=s₁.os->s'.gens=s₁.gens->Qm (.bool true) s'):ah true (model prog w) callerA (PySem.call (.ref a) vals) Qm Em s₁:=by
 have hT:=lF X h340;have e352:a=352:=by
  have:=mg_of (n:=("law":Str)) (v:=.ref 352) X T.g (by kernel_rfl)
  rw [ha] at this;cases this;rfl
 subst e352;have am:Amb (Ar prog w s₁.heap T hi X h340 ht) [] [] [] s₁.heap:=by
  refine⟨fun b o e=>of_hideAll [340] e,fun e he=>absurd he List.not_mem_nil,(aj (#[]) h340 (.inl rfl)),by simp [tr],rfl,fun n q c e1 e2=>by(cases e1),fun b hb=>by(simp [tr] at hb),List.Pairwise.nil⟩
 have hbat:(ghostOf s₁.heap [(344,340)]).BuiltinsAt mg 340:=by
  refine CR T.bmain ?_;intro bm ob b1 b2 b3 b4 b5 b6;have g3:=ghost_get hT b3 (fun q=>by rw [q] at b4;cases b4);refine⟨bm,ob,b1,b2,fun q=>?_,fun q=>?_,g3,b4,b5,b6⟩
  ·refine cu T.g ?_;intro o es ep e hdt _;rw [q,e] at b3;cases b3;rw [hdt] at b6;cases b6
  ·rw [q,h340] at b3;cases b3;cases b4
 have hK:(Ar prog w s₁.heap T hi X h340 ht).K=KK w.params:=rfl;have code:=IR hK (JV hK rfl) (Jr hK hbat) rfl rfl rfl rfl;refine iA (code [] [] [] callerA s₁ [.lst (is.map .int)] vals (fun a uz=>a=.bool true) (fun uz uz=>False) _ am ⟨rfl,rfl,rfl,by decide,by decide⟩ hup hr (aj is rfl (fun uz=>rfl)) (fun ws' st' s' a r ao rr hq=>?_) fun ws' st' s' x e ao hxo h=>h.elim);subst hq;have er:r=.bool true:=by simpa only [Rep] using rr
 subst er;have keep:∀b o,b≠340->s₁.heap.get? b=some o->s'.heap.get? b=some o:=fun b o hb e=>ao.step.keep b o e (fun q=>by
  refine av (bC q) (fun q=>?_) fun q=>?_
  ·exact hb q
  ·simp [tr] at q) (fun q=>by simp [d7] at q)
 refine ag ao.amb.tab ?_;intro ps hps _;refine hQ s' ⟨fun b o e=>?_,fun b o e=>?_⟩ ao.os ao.gens
 ·by_cases hb:b=340
  ·subst hb;rw [h340] at e;cases e;exact .inr (.inl (aI (((hT (344,340) (.head _)).1.tab h340).isCodeTable) rfl (bB (#[]) ps rfl (by erw [Array.empty_append];exact hps))))
  ·exact .inl (keep b o hb e)
 ·by_cases hb:b=340
  ·subst hb;exact⟨_,hps⟩
  ·exact⟨o,keep b o hb e⟩
theorem Ac {R:WRecords}{P:Params}{h:Heap}:∀{xs:List WData}{vs:List Value},WShape.hasItems R xs .int=true->WellAll P h vs xs->∃is:List Int,Reps [] h (is.map .int) vs/\is.length=xs.length
 | [],vs,hi,hw=>by cases hw;exact aj ([]) .nil rfl
 |x::xs,vs,hi,hw=>by
  cases hw with
  |cons h1 h2=>
   simp only [WShape.hasItems,cD] at hi;refine an (hasW_int hi.1) ?_;intro i y1;subst y1;refine ag (Ac hi.2 h2) ?_;intro is r hl;cases h1 with
   |int i t=>exact aj (i::is) (.cons (by simp only [Rep];exact⟨t,rfl⟩) r) (by simp [hl])
theorem J5:lm PySem.Challenge.rw_on0028_01.row.prog:=by
 intro s s' h;unfold fenceModules? at h;rw [show importedModules PySem.Challenge.rw_on0028_01.row.prog.main.body=[] by kernel_rfl,show(PySem.Challenge.rw_on0028_01.row.prog.main.body.any namesNumpy)=false by kernel_rfl] at h;have e:some s=some s':=h;cases e;exact bw _
theorem Gu {xs:List WData}(h:PySem.Challenge.rw_on0028_01.row.toRowW.pre.holds [] {args:=[.list xs]}=true):xs.length<=63:=by
 have hp:PySem.Challenge.rw_on0028_01.row.toRowW.pre=.and (.not (.lt (.lit (.int 63)) (.len (.arg 0)))) (.lit (.bool true)):=rfl;rw [hp] at h;unfold WTm.holds at h;dsimp only [WTm.value,List.getElem?_cons_zero] at h;by_cases hl:xs.length<=63
 ·exact hl
 ·exfalso
  have e:less? (.int 63) (.int (xs.length:Int))=some true:=by
   show some (decide ((63:Int)<(xs.length:Int)))=some true
   (erw [decide_eq_true (by omega)];with_reducible rfl)
  rw [e] at h
  revert h
  decide
theorem law_holds:PySem.Challenge.rw_on0028_01.Holds:=by
 refine hd ?_;intro w s₀ s₁ mg mb G Y a o pm cd doc dV kV h1 h2 h3 h4 h5 hg args vals as hpre hlay hrd hwell hlow hup;refine af (pre_splitW hpre) ?_;intro hs hq;refine aY (hasAllW_cons (e:=.list .int) (es:=[]) hs) ?_;intro x r y2 hx hr;subst y2;have hr0:=hasAllW_nil hr;subst hr0;refine ag (hasW_list hx) ?_;intro xs y1 hi;subst y1;have hlen:=Gu hq;have X:=km_in_of Y;have h340:=km_tabs_of Y 340 (by decide);cases hwell with
 |cons w1 w2=>
  cases w2
  cases w1 with
  |list hget hall=>
   refine ag (Ac hi hall) ?_;intro is hreps hisl;refine Dt G.T (by kernel_rfl) X h340 rfl h5 (hup J5) (is:=is) (.one ?_) fun s' ho hos hgens=>?_
   ·exact⟨by erw [eQ];simp only [sizeLine];omega,_,_,rfl,by simp [tr],(aQ _ hget rfl ⟨_,rfl⟩),hreps⟩
   ·refine dq (.inl (gm (.bool true) (.bool true) ([]) rfl (fun cls=>rfl) (.bool true) (by kernel_rfl) (fun uz=>⟨.nil,fun a ha=>by cases ha⟩))) ho hos (AllBare.of_eq (hgens.trans hg))
end Mine.Tactic
theorem PySem.Challenge.cw_on0028_01_holds : PySem.Challenge.rw_on0028_01.Holds :=
 Mine.Tactic.law_holds
