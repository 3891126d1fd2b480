import PyProof.Rows.All
import Wide.All
import OpenK.AllK
import Wide.FinOn
import Lean
import PySem.Challenge.RW_tg0041_01
set_option Elab.async false
set_option maxRecDepth 100000
set_option linter.unusedVariables false
set_option linter.all false
set_option genSizeOf false
set_option genInjectivity false
set_option genCtorIdx false
set_option bootstrap.genMatcherCode false
set_option backward.match.sparseCases false
set_option tactic.hygienic false
local macro_rules | `(tactic| rfl') => `(tactic| kernel_rfl)
set_option hygiene false
local macro_rules | `(#[$n:num, $c,*]) => `(om $n [$c,*] (by kernel_rfl))
set_option hygiene true
noncomputable section
section
namespace Mine
theorem absN {α:Type} {x:α} {P:Prop} (h:none=some x):P:=nomatch h
theorem absM {α:Type} {x:α} {P:Prop} (h:some x=none):P:=nomatch h
theorem absB {P:Prop} (h:false=true):P:=nomatch h
theorem absC {P:Prop} (h:true=false):P:=nomatch h
theorem absD {x y:PySem.Data} {P:Prop} (h:x=y) (k:Nat.beq x.ctorIdx y.ctorIdx=false):P:=by
 rw [h,Nat.beq_refl] at k; cases k
section
variable {α β:Type} {o:Option α} {x y:α} {b:β} {P:Prop}
theorem zy {f:α->Option β} (h:o.bind f=some b) (k:∀ x,o=some x->f x=some b->P):P:=by
 induction o using Option.casesOn with
 | none=>exact absN h
 | some x=>exact k x rfl h
theorem mapS {f:α->β} (h:o.map f=some b) (k:∀ x,o=some x->f x=b->P):P:=by
 induction o using Option.casesOn with
 | none=>exact absN h
 | some x=>exact k x rfl (Option.some.inj h)
theorem mapH {f:α->β} {M:β->Prop} (h:o.map f=some b) (w:M b) (k:∀ x,o=some x->M (f x)->P):P:=mapS h fun x e q=>k x e (q ▸ w)
theorem zjP {M:α->Prop} (h:some x=some y) (w:M y) (k:M x->P):P:=k (Option.some.inj h ▸ w)
theorem ifS {p:Prop} [Decidable p] (h:(if p then o else none)=some x) (k:p->o=some x->P):P:=by
 by_cases q:p
 ·rw [if_pos q] at h; exact k q h
 ·rw [if_neg q] at h; exact absN h
end
theorem oAA{P Q R:Prop}{G:Prop}(h:P/\Q/\R)(k:P->Q->R->G):G:=by obtain ⟨x1,x2,x3⟩:=h;exact k x1 x2 x3
theorem oAE{Aa:Type}{P:Prop}{Q:Aa->Prop}{G:Prop}(h:P/\∃a,Q a)(k:P->∀a,Q a->G):G:=by obtain ⟨x1,a,x2⟩:=h;exact k x1 a x2
theorem oEA{Aa:Type}{P Q:Aa->Prop}{G:Prop}(h:∃a,P a/\Q a)(k:∀a,P a->Q a->G):G:=by obtain ⟨a,x1,x2⟩:=h;exact k a x1 x2
theorem oEE{Aa Ab:Type}{P:Aa->Ab->Prop}{G:Prop}(h:∃a b,P a b)(k:∀a b,P a b->G):G:=by obtain ⟨a,b,x1⟩:=h;exact k a b x1
theorem oAAA{P Q R S:Prop}{G:Prop}(h:P/\Q/\R/\S)(k:P->Q->R->S->G):G:=by obtain ⟨x1,x2,x3,x4⟩:=h;exact k x1 x2 x3 x4
theorem oAAE{Aa:Type}{P Q:Prop}{R:Aa->Prop}{G:Prop}(h:P/\Q/\∃a,R a)(k:P->Q->∀a,R a->G):G:=by obtain ⟨x1,x2,a,x3⟩:=h;exact k x1 x2 a x3
theorem oAEA{Aa:Type}{P:Prop}{Q R:Aa->Prop}{G:Prop}(h:P/\∃a,Q a/\R a)(k:P->∀a,Q a->R a->G):G:=by obtain ⟨x1,a,x2,x3⟩:=h;exact k x1 a x2 x3
theorem oEAA{Aa:Type}{P Q R:Aa->Prop}{G:Prop}(h:∃a,P a/\Q a/\R a)(k:∀a,P a->Q a->R a->G):G:=by obtain ⟨a,x1,x2,x3⟩:=h;exact k a x1 x2 x3
theorem oEEA{Aa Ab:Type}{P Q:Aa->Ab->Prop}{G:Prop}(h:∃a b,P a b/\Q a b)(k:∀a b,P a b->Q a b->G):G:=by obtain ⟨a,b,x1,x2⟩:=h;exact k a b x1 x2
theorem zbK{P Q R S T:Prop}{G:Prop}(h:P/\Q/\R/\S/\T)(k:P->Q->R->S->T->G):G:=by obtain ⟨x1,h⟩:=h;exact oAAA h (k x1)
theorem zdw{Aa:Type}{P Q R S:Aa->Prop}{G:Prop}(h:∃a,P a/\Q a/\R a/\S a)(k:∀a,P a->Q a->R a->S a->G):G:=by obtain ⟨a,h⟩:=h;exact oAAA h (k a)
theorem zgW{Aa Ab:Type}{P Q:Aa->Prop}{R:Aa->Ab->Prop}{G:Prop}(h:∃a,P a/\Q a/\∃b,R a b)(k:∀a,P a->Q a->∀b,R a b->G):G:=by obtain ⟨a,h⟩:=h;exact oAAE h (k a)
theorem oEAEA{Aa Ab:Type}{P:Aa->Prop}{Q R:Aa->Ab->Prop}{G:Prop}(h:∃a,P a/\∃b,Q a b/\R a b)(k:∀a,P a->∀b,Q a b->R a b->G):G:=by obtain ⟨a,h⟩:=h;exact oAEA h (k a)
theorem zd{Aa Ab:Type}{P Q R:Aa->Ab->Prop}{G:Prop}(h:∃a b,P a b/\Q a b/\R a b)(k:∀a b,P a b->Q a b->R a b->G):G:=by obtain ⟨a,h⟩:=h;exact oEAA h (k a)
theorem zgK{Aa Ab Ac:Type}{P Q:Aa->Ab->Ac->Prop}{G:Prop}(h:∃a b c,P a b c/\Q a b c)(k:∀a b c,P a b c->Q a b c->G):G:=by obtain ⟨a,h⟩:=h;exact oEEA h (k a)
theorem zlh{Aa:Type}{P Q R S:Prop}{T:Aa->Prop}{G:Prop}(h:P/\Q/\R/\S/\∃a,T a)(k:P->Q->R->S->∀a,T a->G):G:=by obtain ⟨x1,x2,h⟩:=h;exact oAAE h (k x1 x2)
theorem zh3{Aa Ab:Type}{P Q:Prop}{R S:Aa->Ab->Prop}{G:Prop}(h:P/\Q/\∃a b,R a b/\S a b)(k:P->Q->∀a b,R a b->S a b->G):G:=by obtain ⟨x1,x2,h⟩:=h;exact oEEA h (k x1 x2)
theorem ziy{Aa:Type}{P:Prop}{Q R S T:Aa->Prop}{G:Prop}(h:P/\∃a,Q a/\R a/\S a/\T a)(k:P->∀a,Q a->R a->S a->T a->G):G:=by obtain ⟨x1,h⟩:=h;exact zdw h (k x1)
theorem zlf{Aa Ab:Type}{P:Prop}{Q:Aa->Prop}{R S:Aa->Ab->Prop}{G:Prop}(h:P/\∃a,Q a/\∃b,R a b/\S a b)(k:P->∀a,Q a->∀b,R a b->S a b->G):G:=by obtain ⟨x1,h⟩:=h;exact oEAEA h (k x1)
theorem oAEEAA{Aa Ab:Type}{P:Prop}{Q R S:Aa->Ab->Prop}{G:Prop}(h:P/\∃a b,Q a b/\R a b/\S a b)(k:P->∀a b,Q a b->R a b->S a b->G):G:=by obtain ⟨x1,h⟩:=h;exact zd h (k x1)
theorem zcZ{Aa:Type}{P Q R S T:Aa->Prop}{G:Prop}(h:∃a,P a/\Q a/\R a/\S a/\T a)(k:∀a,P a->Q a->R a->S a->T a->G):G:=by obtain ⟨a,h⟩:=h;exact zbK h (k a)
theorem zll{Aa Ab:Type}{P Q R:Aa->Prop}{S:Aa->Ab->Prop}{G:Prop}(h:∃a,P a/\Q a/\R a/\∃b,S a b)(k:∀a,P a->Q a->R a->∀b,S a b->G):G:=by obtain ⟨a,x1,h⟩:=h;exact oAAE h (k a x1)
theorem zu{Aa Ab:Type}{P Q R S:Aa->Ab->Prop}{G:Prop}(h:∃a b,P a b/\Q a b/\R a b/\S a b)(k:∀a b,P a b->Q a b->R a b->S a b->G):G:=by obtain ⟨a,h⟩:=h;exact zdw h (k a)
theorem zaP{Aa Ab Ac:Type}{P Q R:Aa->Ab->Ac->Prop}{G:Prop}(h:∃a b c,P a b c/\Q a b c/\R a b c)(k:∀a b c,P a b c->Q a b c->R a b c->G):G:=by obtain ⟨a,h⟩:=h;exact zd h (k a)
theorem zK{Aa Ab:Type}{P Q R:Prop}{S T:Aa->Ab->Prop}{G:Prop}(h:P/\Q/\R/\∃a b,S a b/\T a b)(k:P->Q->R->∀a b,S a b->T a b->G):G:=by obtain ⟨x1,h⟩:=h;exact zh3 h (k x1)
theorem zfm{Aa Ab:Type}{P:Prop}{Q R:Aa->Prop}{S T:Aa->Ab->Prop}{G:Prop}(h:P/\∃a,Q a/\R a/\∃b,S a b/\T a b)(k:P->∀a,Q a->R a->∀b,S a b->T a b->G):G:=by obtain ⟨x1,a,x2,h⟩:=h;exact oAEA h (k x1 a x2)
theorem zfp{Aa Ab:Type}{P Q R S T:Aa->Ab->Prop}{G:Prop}(h:∃a b,P a b/\Q a b/\R a b/\S a b/\T a b)(k:∀a b,P a b->Q a b->R a b->S a b->T a b->G):G:=by obtain ⟨a,h⟩:=h;exact zcZ h (k a)
theorem zB{Aa Ab Ac:Type}{P Q R S:Aa->Ab->Ac->Prop}{G:Prop}(h:∃a b c,P a b c/\Q a b c/\R a b c/\S a b c)(k:∀a b c,P a b c->Q a b c->R a b c->S a b c->G):G:=by obtain ⟨a,h⟩:=h;exact zu h (k a)
theorem zv{Aa Ab:Type}{P Q R S T U:Aa->Ab->Prop}{G:Prop}(h:∃a b,P a b/\Q a b/\R a b/\S a b/\T a b/\U a b)(k:∀a b,P a b->Q a b->R a b->S a b->T a b->U a b->G):G:=by obtain ⟨a,b,x1,h⟩:=h;exact zbK h (k a b x1)
theorem zam{Aa Ab Ac:Type}{P Q R S T:Aa->Ab->Ac->Prop}{G:Prop}(h:∃a b c,P a b c/\Q a b c/\R a b c/\S a b c/\T a b c)(k:∀a b c,P a b c->Q a b c->R a b c->S a b c->T a b c->G):G:=by obtain ⟨a,h⟩:=h;exact zfp h (k a)
theorem zbt{Aa Ab Ac Ad:Type}{P Q R S:Aa->Ab->Ac->Ad->Prop}{G:Prop}(h:∃a b c d,P a b c d/\Q a b c d/\R a b c d/\S a b c d)(k:∀a b c d,P a b c d->Q a b c d->R a b c d->S a b c d->G):G:=by obtain ⟨a,h⟩:=h;exact zB h (k a)
theorem zcp{Aa Ab Ac:Type}{P:Prop}{Q R S:Aa->Prop}{T U:Aa->Ab->Ac->Prop}{G:Prop}(h:P/\∃a,Q a/\R a/\S a/\∃b c,T a b c/\U a b c)(k:P->∀a,Q a->R a->S a->∀b c,T a b c->U a b c->G):G:=by obtain ⟨x1,a,h⟩:=h;exact zK h (k x1 a)
theorem zeX{Aa Ab:Type}{P Q R S T U V:Aa->Ab->Prop}{G:Prop}(h:∃a b,P a b/\Q a b/\R a b/\S a b/\T a b/\U a b/\V a b)(k:∀a b,P a b->Q a b->R a b->S a b->T a b->U a b->V a b->G):G:=by obtain ⟨a,b,x1,x2,h⟩:=h;exact zbK h (k a b x1 x2)
theorem zcD{Aa Ab Ac Ad:Type}{P Q R S T:Aa->Ab->Ac->Ad->Prop}{G:Prop}(h:∃a b c d,P a b c d/\Q a b c d/\R a b c d/\S a b c d/\T a b c d)(k:∀a b c d,P a b c d->Q a b c d->R a b c d->S a b c d->T a b c d->G):G:=by obtain ⟨a,h⟩:=h;exact zam h (k a)
theorem zac{Aa Ab Ac Ad Ae:Type}{P Q R S:Aa->Ab->Ac->Ad->Ae->Prop}{G:Prop}(h:∃a b c d e,P a b c d e/\Q a b c d e/\R a b c d e/\S a b c d e)(k:∀a b c d e,P a b c d e->Q a b c d e->R a b c d e->S a b c d e->G):G:=by obtain ⟨a,h⟩:=h;exact zbt h (k a)
theorem zeT{Aa Ab Ac Ad Ae Af:Type}{P Q R:Aa->Ab->Ac->Ad->Ae->Af->Prop}{G:Prop}(h:∃a b c d e f,P a b c d e f/\Q a b c d e f/\R a b c d e f)(k:∀a b c d e f,P a b c d e f->Q a b c d e f->R a b c d e f->G):G:=by obtain ⟨a,b,c,h⟩:=h;exact zaP h (k a b c)
theorem zg5{P Q R S T U V W X Y:Prop}{G:Prop}(h:P/\Q/\R/\S/\T/\U/\V/\W/\X/\Y)(k:P->Q->R->S->T->U->V->W->X->Y->G):G:=by obtain ⟨x1,x2,x3,x4,x5,h⟩:=h;exact zbK h (k x1 x2 x3 x4 x5)
theorem zhg{Aa Ab Ac:Type}{P Q R S T:Aa->Ab->Prop}{U V:Aa->Ab->Ac->Prop}{G:Prop}(h:∃a b,P a b/\Q a b/\R a b/\S a b/\T a b/\∃c,U a b c/\V a b c)(k:∀a b,P a b->Q a b->R a b->S a b->T a b->∀c,U a b c->V a b c->G):G:=by obtain ⟨a,b,x1,x2,x3,x4,h⟩:=h;exact oAEA h (k a b x1 x2 x3 x4)
theorem za4{Aa Ab Ac:Type}{P Q R S T U V:Aa->Ab->Ac->Prop}{G:Prop}(h:∃a b c,P a b c/\Q a b c/\R a b c/\S a b c/\T a b c/\U a b c/\V a b c)(k:∀a b c,P a b c->Q a b c->R a b c->S a b c->T a b c->U a b c->V a b c->G):G:=by obtain ⟨a,h⟩:=h;exact zeX h (k a)
theorem zfV{Aa Ab Ac Ad Ae Af Ag:Type}{P Q R S:Aa->Ab->Ac->Ad->Ae->Af->Ag->Prop}{G:Prop}(h:∃a b c d e f g,P a b c d e f g/\Q a b c d e f g/\R a b c d e f g/\S a b c d e f g)(k:∀a b c d e f g,P a b c d e f g->Q a b c d e f g->R a b c d e f g->S a b c d e f g->G):G:=by obtain ⟨a,b,h⟩:=h;exact zac h (k a b)
theorem zab{Aa Ab Ac:Type}{P Q R S T U V W X:Aa->Ab->Ac->Prop}{G:Prop}(h:∃a b c,P a b c/\Q a b c/\R a b c/\S a b c/\T a b c/\U a b c/\V a b c/\W a b c/\X a b c)(k:∀a b c,P a b c->Q a b c->R a b c->S a b c->T a b c->U a b c->V a b c->W a b c->X a b c->G):G:=by obtain ⟨a,b,c,x1,x2,x3,x4,h⟩:=h;exact zbK h (k a b c x1 x2 x3 x4)
theorem zap{Aa Ab Ac Ad:Type}{P Q R S T U V W:Aa->Ab->Ac->Ad->Prop}{G:Prop}(h:∃a b c d,P a b c d/\Q a b c d/\R a b c d/\S a b c d/\T a b c d/\U a b c d/\V a b c d/\W a b c d)(k:∀a b c d,P a b c d->Q a b c d->R a b c d->S a b c d->T a b c d->U a b c d->V a b c d->W a b c d->G):G:=by obtain ⟨a,b,c,d,x1,x2,x3,h⟩:=h;exact zbK h (k a b c d x1 x2 x3)
theorem zeO{Aa Ab Ac Ad Ae Af Ag:Type}{P Q R S T:Aa->Ab->Ac->Ad->Ae->Af->Ag->Prop}{G:Prop}(h:∃a b c d e f g,P a b c d e f g/\Q a b c d e f g/\R a b c d e f g/\S a b c d e f g/\T a b c d e f g)(k:∀a b c d e f g,P a b c d e f g->Q a b c d e f g->R a b c d e f g->S a b c d e f g->T a b c d e f g->G):G:=by obtain ⟨a,b,c,h⟩:=h;exact zcD h (k a b c)
theorem zeK{Aa Ab Ac Ad Ae Af Ag Ah Ai:Type}{P Q R:Aa->Ab->Ac->Ad->Ae->Af->Ag->Ah->Ai->Prop}{G:Prop}(h:∃a b c d e f g h i,P a b c d e f g h i/\Q a b c d e f g h i/\R a b c d e f g h i)(k:∀a b c d e f g h i,P a b c d e f g h i->Q a b c d e f g h i->R a b c d e f g h i->G):G:=by obtain ⟨a,b,c,h⟩:=h;exact zeT h (k a b c)
theorem zeM{Aa Ab Ac Ad Ae Af Ag Ah Ai Aj:Type}{P Q:Aa->Ab->Ac->Ad->Ae->Af->Ag->Ah->Ai->Aj->Prop}{G:Prop}(h:∃a b c d e f g h i j,P a b c d e f g h i j/\Q a b c d e f g h i j)(k:∀a b c d e f g h i j,P a b c d e f g h i j->Q a b c d e f g h i j->G):G:=by obtain ⟨a,b,c,d,e,f,g,h⟩:=h;exact zgK h (k a b c d e f g)
theorem zaG{Aa Ab Ac Ad Ae Af Ag:Type}{P Q R S T U:Aa->Ab->Ac->Ad->Ae->Af->Ag->Prop}{G:Prop}(h:∃a b c d e f g,P a b c d e f g/\Q a b c d e f g/\R a b c d e f g/\S a b c d e f g/\T a b c d e f g/\U a b c d e f g)(k:∀a b c d e f g,P a b c d e f g->Q a b c d e f g->R a b c d e f g->S a b c d e f g->T a b c d e f g->U a b c d e f g->G):G:=by obtain ⟨a,b,c,d,e,h⟩:=h;exact zv h (k a b c d e)
theorem zbb{Aa Ab Ac:Type}{P Q R S T U V W X Y Z:Aa->Ab->Ac->Prop}{G:Prop}(h:∃a b c,P a b c/\Q a b c/\R a b c/\S a b c/\T a b c/\U a b c/\V a b c/\W a b c/\X a b c/\Y a b c/\Z a b c)(k:∀a b c,P a b c->Q a b c->R a b c->S a b c->T a b c->U a b c->V a b c->W a b c->X a b c->Y a b c->Z a b c->G):G:=by obtain ⟨a,b,c,x1,h⟩:=h;exact zg5 h (k a b c x1)
theorem zcL{Aa Ab Ac Ad Ae Af Ag:Type}{P Q R S T U V:Aa->Ab->Ac->Ad->Ae->Af->Ag->Prop}{G:Prop}(h:∃a b c d e f g,P a b c d e f g/\Q a b c d e f g/\R a b c d e f g/\S a b c d e f g/\T a b c d e f g/\U a b c d e f g/\V a b c d e f g)(k:∀a b c d e f g,P a b c d e f g->Q a b c d e f g->R a b c d e f g->S a b c d e f g->T a b c d e f g->U a b c d e f g->V a b c d e f g->G):G:=by obtain ⟨a,b,c,d,h⟩:=h;exact za4 h (k a b c d)
theorem zT{Aa Ab Ac Ad Ae Af Ag Ah Ai:Type}{P Q R S T U V W:Aa->Ab->Ac->Ad->Ae->Af->Ag->Ah->Ai->Prop}{G:Prop}(h:∃a b c d e f g h i,P a b c d e f g h i/\Q a b c d e f g h i/\R a b c d e f g h i/\S a b c d e f g h i/\T a b c d e f g h i/\U a b c d e f g h i/\V a b c d e f g h i/\W a b c d e f g h i)(k:∀a b c d e f g h i,P a b c d e f g h i->Q a b c d e f g h i->R a b c d e f g h i->S a b c d e f g h i->T a b c d e f g h i->U a b c d e f g h i->V a b c d e f g h i->W a b c d e f g h i->G):G:=by obtain ⟨a,b,c,d,e,h⟩:=h;exact zap h (k a b c d e)
theorem ziO{Aa:Type}{P Q R S T U:Aa->Prop}{G:Prop}(h:∃a,P a/\Q a/\R a/\S a/\T a/\U a)(k:∀a,P a->Q a->R a->S a->T a->U a->G):G:=by obtain ⟨a,x1,h⟩:=h;exact zbK h (k a x1)
theorem zd7{Aa Ab Ac:Type}{P Q R S T U:Aa->Ab->Ac->Prop}{G:Prop}(h:∃a b c,P a b c/\Q a b c/\R a b c/\S a b c/\T a b c/\U a b c)(k:∀a b c,P a b c->Q a b c->R a b c->S a b c->T a b c->U a b c->G):G:=by obtain ⟨a,h⟩:=h;exact zv h (k a)
theorem zg8{Aa Ab:Type}{P Q:Aa->Prop}{R S T U V W:Aa->Ab->Prop}{G:Prop}(h:∃a,P a/\Q a/\∃b,R a b/\S a b/\T a b/\U a b/\V a b/\W a b)(k:∀a,P a->Q a->∀b,R a b->S a b->T a b->U a b->V a b->W a b->G):G:=by obtain ⟨a,x1,x2,h⟩:=h;exact ziO h (k a x1 x2)
theorem mAE{Aa:Type}{P:Prop}{Q:Aa->Prop}(x1:P)(a:Aa)(x2:Q a):P/\∃a,Q a:=⟨x1,a,x2⟩
theorem mEA{Aa:Type}{P Q:Aa->Prop}(a:Aa)(x1:P a)(x2:Q a):∃a,P a/\Q a:=⟨a,x1,x2⟩
theorem mEE{Aa Ab:Type}{P:Aa->Ab->Prop}(a:Aa)(b:Ab)(x1:P a b):∃a b,P a b:=⟨a,b,x1⟩
theorem mAAE{Aa:Type}{P Q:Prop}{R:Aa->Prop}(x1:P)(x2:Q)(a:Aa)(x3:R a):P/\Q/\∃a,R a:=⟨x1,x2,a,x3⟩
theorem mAEA{Aa:Type}{P:Prop}{Q R:Aa->Prop}(x1:P)(a:Aa)(x2:Q a)(x3:R a):P/\∃a,Q a/\R a:=⟨x1,a,x2,x3⟩
theorem mEAA{Aa:Type}{P Q R:Aa->Prop}(a:Aa)(x1:P a)(x2:Q a)(x3:R a):∃a,P a/\Q a/\R a:=⟨a,x1,x2,x3⟩
theorem mEEA{Aa Ab:Type}{P Q:Aa->Ab->Prop}(a:Aa)(b:Ab)(x1:P a b)(x2:Q a b):∃a b,P a b/\Q a b:=⟨a,b,x1,x2⟩
theorem mEEE{Aa Ab Ac:Type}{P:Aa->Ab->Ac->Prop}(a:Aa)(b:Ab)(c:Ac)(x1:P a b c):∃a b c,P a b c:=⟨a,b,c,x1⟩
theorem zhv{Aa:Type}{P Q R:Prop}{S:Aa->Prop}(x1:P)(x2:Q)(x3:R)(a:Aa)(x4:S a):P/\Q/\R/\∃a,S a:=⟨x1,mAAE x2 x3 a x4⟩
theorem zgL{Aa:Type}{P Q R S:Aa->Prop}(a:Aa)(x1:P a)(x2:Q a)(x3:R a)(x4:S a):∃a,P a/\Q a/\R a/\S a:=⟨a,x1,x2,x3,x4⟩
theorem zfg{Aa Ab:Type}{P Q:Aa->Prop}{R:Aa->Ab->Prop}(a:Aa)(x1:P a)(x2:Q a)(b:Ab)(x3:R a b):∃a,P a/\Q a/\∃b,R a b:=⟨a,mAAE x1 x2 b x3⟩
theorem zn{Aa Ab:Type}{P Q R:Aa->Ab->Prop}(a:Aa)(b:Ab)(x1:P a b)(x2:Q a b)(x3:R a b):∃a b,P a b/\Q a b/\R a b:=⟨a,mEAA b x1 x2 x3⟩
theorem zhL{Aa Ab Ac:Type}{P Q:Aa->Ab->Ac->Prop}(a:Aa)(b:Ab)(c:Ac)(x1:P a b c)(x2:Q a b c):∃a b c,P a b c/\Q a b c:=⟨a,mEEA b c x1 x2⟩
theorem mEEEE{Aa Ab Ac Ad:Type}{P:Aa->Ab->Ac->Ad->Prop}(a:Aa)(b:Ab)(c:Ac)(d:Ad)(x1:P a b c d):∃a b c d,P a b c d:=⟨a,mEEE b c d x1⟩
theorem zd6{Aa Ab:Type}{P Q:Prop}{R S:Aa->Ab->Prop}(x1:P)(x2:Q)(a:Aa)(b:Ab)(x3:R a b)(x4:S a b):P/\Q/\∃a b,R a b/\S a b:=⟨x1,x2,mEEA a b x3 x4⟩
theorem zgn{Aa Ab:Type}{P:Prop}{Q:Aa->Prop}{R S:Aa->Ab->Prop}(x1:P)(a:Aa)(x2:Q a)(b:Ab)(x3:R a b)(x4:S a b):P/\∃a,Q a/\∃b,R a b/\S a b:=⟨x1,a,mAEA x2 b x3 x4⟩
theorem zeC{Aa Ab:Type}{P:Prop}{Q R S:Aa->Ab->Prop}(x1:P)(a:Aa)(b:Ab)(x2:Q a b)(x3:R a b)(x4:S a b):P/\∃a b,Q a b/\R a b/\S a b:=⟨x1,zn a b x2 x3 x4⟩
theorem zcv{Aa:Type}{P Q R S T:Aa->Prop}(a:Aa)(x1:P a)(x2:Q a)(x3:R a)(x4:S a)(x5:T a):∃a,P a/\Q a/\R a/\S a/\T a:=⟨a,x1,x2,x3,x4,x5⟩
theorem zbX{Aa Ab:Type}{P Q R:Aa->Prop}{S:Aa->Ab->Prop}(a:Aa)(x1:P a)(x2:Q a)(x3:R a)(b:Ab)(x4:S a b):∃a,P a/\Q a/\R a/\∃b,S a b:=⟨a,zhv x1 x2 x3 b x4⟩
theorem zc2{Aa Ab:Type}{P:Aa->Prop}{Q R S:Aa->Ab->Prop}(a:Aa)(x1:P a)(b:Ab)(x2:Q a b)(x3:R a b)(x4:S a b):∃a,P a/\∃b,Q a b/\R a b/\S a b:=⟨a,x1,mEAA b x2 x3 x4⟩
theorem zx{Aa Ab:Type}{P Q R S:Aa->Ab->Prop}(a:Aa)(b:Ab)(x1:P a b)(x2:Q a b)(x3:R a b)(x4:S a b):∃a b,P a b/\Q a b/\R a b/\S a b:=⟨a,zgL b x1 x2 x3 x4⟩
theorem zhG{Aa Ab Ac:Type}{P Q R:Aa->Ab->Ac->Prop}(a:Aa)(b:Ab)(c:Ac)(x1:P a b c)(x2:Q a b c)(x3:R a b c):∃a b c,P a b c/\Q a b c/\R a b c:=⟨a,zn b c x1 x2 x3⟩
theorem mAAAAEA{Aa:Type}{P Q R S:Prop}{T U:Aa->Prop}(x1:P)(x2:Q)(x3:R)(x4:S)(a:Aa)(x5:T a)(x6:U a):P/\Q/\R/\S/\∃a,T a/\U a:=⟨x1,x2,x3,mAEA x4 a x5 x6⟩
theorem zdG{Aa Ab:Type}{P Q R:Prop}{S T:Aa->Ab->Prop}(x1:P)(x2:Q)(x3:R)(a:Aa)(b:Ab)(x4:S a b)(x5:T a b):P/\Q/\R/\∃a b,S a b/\T a b:=⟨x1,zd6 x2 x3 a b x4 x5⟩
theorem zhz{Aa Ab:Type}{P:Aa->Prop}{Q R S T:Aa->Ab->Prop}(a:Aa)(x1:P a)(b:Ab)(x2:Q a b)(x3:R a b)(x4:S a b)(x5:T a b):∃a,P a/\∃b,Q a b/\R a b/\S a b/\T a b:=⟨a,x1,zgL b x2 x3 x4 x5⟩
theorem zmD{Aa Ab Ac:Type}{P:Aa->Prop}{Q R S:Aa->Ab->Ac->Prop}(a:Aa)(x1:P a)(b:Ab)(c:Ac)(x2:Q a b c)(x3:R a b c)(x4:S a b c):∃a,P a/\∃b c,Q a b c/\R a b c/\S a b c:=⟨a,zeC x1 b c x2 x3 x4⟩
theorem zdp{Aa Ab:Type}{P Q R S T:Aa->Ab->Prop}(a:Aa)(b:Ab)(x1:P a b)(x2:Q a b)(x3:R a b)(x4:S a b)(x5:T a b):∃a b,P a b/\Q a b/\R a b/\S a b/\T a b:=⟨a,zcv b x1 x2 x3 x4 x5⟩
theorem zS{Aa Ab Ac:Type}{P Q R S:Aa->Ab->Ac->Prop}(a:Aa)(b:Ab)(c:Ac)(x1:P a b c)(x2:Q a b c)(x3:R a b c)(x4:S a b c):∃a b c,P a b c/\Q a b c/\R a b c/\S a b c:=⟨a,zx b c x1 x2 x3 x4⟩
theorem zdM{Aa Ab:Type}{P:Aa->Prop}{Q R S T U:Aa->Ab->Prop}(a:Aa)(x1:P a)(b:Ab)(x2:Q a b)(x3:R a b)(x4:S a b)(x5:T a b)(x6:U a b):∃a,P a/\∃b,Q a b/\R a b/\S a b/\T a b/\U a b:=⟨a,x1,zcv b x2 x3 x4 x5 x6⟩
theorem zY{Aa Ab:Type}{P Q R S T U:Aa->Ab->Prop}(a:Aa)(b:Ab)(x1:P a b)(x2:Q a b)(x3:R a b)(x4:S a b)(x5:T a b)(x6:U a b):∃a b,P a b/\Q a b/\R a b/\S a b/\T a b/\U a b:=⟨a,b,x1,x2,x3,x4,x5,x6⟩
theorem za7{Aa Ab Ac:Type}{P Q R S T:Aa->Ab->Ac->Prop}(a:Aa)(b:Ab)(c:Ac)(x1:P a b c)(x2:Q a b c)(x3:R a b c)(x4:S a b c)(x5:T a b c):∃a b c,P a b c/\Q a b c/\R a b c/\S a b c/\T a b c:=⟨a,zdp b c x1 x2 x3 x4 x5⟩
theorem zgs{Aa Ab Ac Ad:Type}{P Q R S:Aa->Ab->Ac->Ad->Prop}(a:Aa)(b:Ab)(c:Ac)(d:Ad)(x1:P a b c d)(x2:Q a b c d)(x3:R a b c d)(x4:S a b c d):∃a b c d,P a b c d/\Q a b c d/\R a b c d/\S a b c d:=⟨a,zS b c d x1 x2 x3 x4⟩
theorem zhB{Aa Ab:Type}{P:Prop}{Q R S T U V:Aa->Ab->Prop}(x1:P)(a:Aa)(b:Ab)(x2:Q a b)(x3:R a b)(x4:S a b)(x5:T a b)(x6:U a b)(x7:V a b):P/\∃a b,Q a b/\R a b/\S a b/\T a b/\U a b/\V a b:=⟨x1,zY a b x2 x3 x4 x5 x6 x7⟩
theorem zeU{Aa Ab:Type}{P:Aa->Prop}{Q R S T U V:Aa->Ab->Prop}(a:Aa)(x1:P a)(b:Ab)(x2:Q a b)(x3:R a b)(x4:S a b)(x5:T a b)(x6:U a b)(x7:V a b):∃a,P a/\∃b,Q a b/\R a b/\S a b/\T a b/\U a b/\V a b:=⟨a,x1,b,x2,x3,x4,x5,x6,x7⟩
theorem zeF{Aa Ab Ac:Type}{P:Aa->Prop}{Q:Aa->Ab->Prop}{R S T U:Aa->Ab->Ac->Prop}(a:Aa)(x1:P a)(b:Ab)(x2:Q a b)(c:Ac)(x3:R a b c)(x4:S a b c)(x5:T a b c)(x6:U a b c):∃a,P a/\∃b,Q a b/\∃c,R a b c/\S a b c/\T a b c/\U a b c:=⟨a,x1,zhz b x2 c x3 x4 x5 x6⟩
theorem zit{Aa Ab Ac:Type}{P:Aa->Prop}{Q R S T U:Aa->Ab->Ac->Prop}(a:Aa)(x1:P a)(b:Ab)(c:Ac)(x2:Q a b c)(x3:R a b c)(x4:S a b c)(x5:T a b c)(x6:U a b c):∃a,P a/\∃b c,Q a b c/\R a b c/\S a b c/\T a b c/\U a b c:=⟨a,x1,zdp b c x2 x3 x4 x5 x6⟩
theorem zaU{Aa Ab Ac:Type}{P Q R S T U:Aa->Ab->Ac->Prop}(a:Aa)(b:Ab)(c:Ac)(x1:P a b c)(x2:Q a b c)(x3:R a b c)(x4:S a b c)(x5:T a b c)(x6:U a b c):∃a b c,P a b c/\Q a b c/\R a b c/\S a b c/\T a b c/\U a b c:=⟨a,zY b c x1 x2 x3 x4 x5 x6⟩
theorem zij{Aa Ab Ac Ad:Type}{P Q R S T:Aa->Ab->Ac->Ad->Prop}(a:Aa)(b:Ab)(c:Ac)(d:Ad)(x1:P a b c d)(x2:Q a b c d)(x3:R a b c d)(x4:S a b c d)(x5:T a b c d):∃a b c d,P a b c d/\Q a b c d/\R a b c d/\S a b c d/\T a b c d:=⟨a,za7 b c d x1 x2 x3 x4 x5⟩
theorem zau{Aa Ab Ac Ad Ae:Type}{P Q R S:Aa->Ab->Ac->Ad->Ae->Prop}(a:Aa)(b:Ab)(c:Ac)(d:Ad)(e:Ae)(x1:P a b c d e)(x2:Q a b c d e)(x3:R a b c d e)(x4:S a b c d e):∃a b c d e,P a b c d e/\Q a b c d e/\R a b c d e/\S a b c d e:=⟨a,zgs b c d e x1 x2 x3 x4⟩
theorem zeb{Aa Ab Ac Ad Ae Af Ag:Type}{P Q:Aa->Ab->Ac->Ad->Ae->Af->Ag->Prop}(a:Aa)(b:Ab)(c:Ac)(d:Ad)(e:Ae)(f:Af)(g:Ag)(x1:P a b c d e f g)(x2:Q a b c d e f g):∃a b c d e f g,P a b c d e f g/\Q a b c d e f g:=⟨a,b,c,d,zhL e f g x1 x2⟩
theorem zdf{Aa Ab:Type}{P:Aa->Prop}{Q R S T U V W:Aa->Ab->Prop}(a:Aa)(x1:P a)(b:Ab)(x2:Q a b)(x3:R a b)(x4:S a b)(x5:T a b)(x6:U a b)(x7:V a b)(x8:W a b):∃a,P a/\∃b,Q a b/\R a b/\S a b/\T a b/\U a b/\V a b/\W a b:=⟨a,x1,b,x2,x3,x4,x5,x6,x7,x8⟩
theorem za2{Aa Ab Ac:Type}{P Q R S T U V:Aa->Ab->Ac->Prop}(a:Aa)(b:Ab)(c:Ac)(x1:P a b c)(x2:Q a b c)(x3:R a b c)(x4:S a b c)(x5:T a b c)(x6:U a b c)(x7:V a b c):∃a b c,P a b c/\Q a b c/\R a b c/\S a b c/\T a b c/\U a b c/\V a b c:=⟨a,b,c,x1,x2,x3,x4,x5,x6,x7⟩
theorem zck{Aa Ab Ac Ad:Type}{P:Aa->Prop}{Q R S T U V:Aa->Ab->Ac->Ad->Prop}(a:Aa)(x1:P a)(b:Ab)(c:Ac)(d:Ad)(x2:Q a b c d)(x3:R a b c d)(x4:S a b c d)(x5:T a b c d)(x6:U a b c d)(x7:V a b c d):∃a,P a/\∃b c d,Q a b c d/\R a b c d/\S a b c d/\T a b c d/\U a b c d/\V a b c d:=⟨a,x1,zaU b c d x2 x3 x4 x5 x6 x7⟩
theorem zaf{Aa Ab Ac:Type}{P Q R S T U V W X:Aa->Ab->Ac->Prop}(a:Aa)(b:Ab)(c:Ac)(x1:P a b c)(x2:Q a b c)(x3:R a b c)(x4:S a b c)(x5:T a b c)(x6:U a b c)(x7:V a b c)(x8:W a b c)(x9:X a b c):∃a b c,P a b c/\Q a b c/\R a b c/\S a b c/\T a b c/\U a b c/\V a b c/\W a b c/\X a b c:=⟨a,b,c,x1,x2,x3,x4,x5,x6,x7,x8,x9⟩
theorem zaa{Aa Ab Ac Ad:Type}{P Q R S T U V W:Aa->Ab->Ac->Ad->Prop}(a:Aa)(b:Ab)(c:Ac)(d:Ad)(x1:P a b c d)(x2:Q a b c d)(x3:R a b c d)(x4:S a b c d)(x5:T a b c d)(x6:U a b c d)(x7:V a b c d)(x8:W a b c d):∃a b c d,P a b c d/\Q a b c d/\R a b c d/\S a b c d/\T a b c d/\U a b c d/\V a b c d/\W a b c d:=⟨a,b,c,d,x1,x2,x3,x4,x5,x6,x7,x8⟩
theorem zeW{Aa Ab Ac Ad Ae Af Ag Ah Ai Aj:Type}{P Q:Aa->Ab->Ac->Ad->Ae->Af->Ag->Ah->Ai->Aj->Prop}(a:Aa)(b:Ab)(c:Ac)(d:Ad)(e:Ae)(f:Af)(g:Ag)(h:Ah)(i:Ai)(j:Aj)(x1:P a b c d e f g h i j)(x2:Q a b c d e f g h i j):∃a b c d e f g h i j,P a b c d e f g h i j/\Q a b c d e f g h i j:=⟨a,b,c,zeb d e f g h i j x1 x2⟩
theorem zkf{Aa Ab Ac Ad:Type}{P:Prop}{Q:Aa->Prop}{R S T U V W X:Aa->Ab->Ac->Ad->Prop}(x1:P)(a:Aa)(x2:Q a)(b:Ab)(c:Ac)(d:Ad)(x3:R a b c d)(x4:S a b c d)(x5:T a b c d)(x6:U a b c d)(x7:V a b c d)(x8:W a b c d)(x9:X a b c d):P/\∃a,Q a/\∃b c d,R a b c d/\S a b c d/\T a b c d/\U a b c d/\V a b c d/\W a b c d/\X a b c d:=⟨x1,a,x2,za2 b c d x3 x4 x5 x6 x7 x8 x9⟩
theorem zaB{Aa Ab Ac Ad Ae Af Ag:Type}{P Q R S T U:Aa->Ab->Ac->Ad->Ae->Af->Ag->Prop}(a:Aa)(b:Ab)(c:Ac)(d:Ad)(e:Ae)(f:Af)(g:Ag)(x1:P a b c d e f g)(x2:Q a b c d e f g)(x3:R a b c d e f g)(x4:S a b c d e f g)(x5:T a b c d e f g)(x6:U a b c d e f g):∃a b c d e f g,P a b c d e f g/\Q a b c d e f g/\R a b c d e f g/\S a b c d e f g/\T a b c d e f g/\U a b c d e f g:=⟨a,b,c,d,zaU e f g x1 x2 x3 x4 x5 x6⟩
theorem zZ{Aa Ab Ac:Type}{P Q R S T U V W X Y Z:Aa->Ab->Ac->Prop}(a:Aa)(b:Ab)(c:Ac)(x1:P a b c)(x2:Q a b c)(x3:R a b c)(x4:S a b c)(x5:T a b c)(x6:U a b c)(x7:V a b c)(x8:W a b c)(x9:X a b c)(x10:Y a b c)(x11:Z a b c):∃a b c,P a b c/\Q a b c/\R a b c/\S a b c/\T a b c/\U a b c/\V a b c/\W a b c/\X a b c/\Y a b c/\Z a b c:=⟨a,b,c,x1,x2,x3,x4,x5,x6,x7,x8,x9,x10,x11⟩
theorem zcQ{Aa Ab Ac Ad Ae Af Ag:Type}{P Q R S T U V:Aa->Ab->Ac->Ad->Ae->Af->Ag->Prop}(a:Aa)(b:Ab)(c:Ac)(d:Ad)(e:Ae)(f:Af)(g:Ag)(x1:P a b c d e f g)(x2:Q a b c d e f g)(x3:R a b c d e f g)(x4:S a b c d e f g)(x5:T a b c d e f g)(x6:U a b c d e f g)(x7:V a b c d e f g):∃a b c d e f g,P a b c d e f g/\Q a b c d e f g/\R a b c d e f g/\S a b c d e f g/\T a b c d e f g/\U a b c d e f g/\V a b c d e f g:=⟨a,b,c,d,za2 e f g x1 x2 x3 x4 x5 x6 x7⟩
theorem ziY{Aa Ab:Type}{P:Aa->Prop}{Q R S T U V W X Y Z P1 P2:Aa->Ab->Prop}(a:Aa)(x1:P a)(b:Ab)(x2:Q a b)(x3:R a b)(x4:S a b)(x5:T a b)(x6:U a b)(x7:V a b)(x8:W a b)(x9:X a b)(x10:Y a b)(x11:Z a b)(x12:P1 a b)(x13:P2 a b):∃a,P a/\∃b,Q a b/\R a b/\S a b/\T a b/\U a b/\V a b/\W a b/\X a b/\Y a b/\Z a b/\P1 a b/\P2 a b:=⟨a,x1,b,x2,x3,x4,x5,x6,x7,x8,x9,x10,x11,x12,x13⟩
theorem zaw{Aa Ab Ac Ad Ae Af Ag Ah Ai:Type}{P Q R S T U V W:Aa->Ab->Ac->Ad->Ae->Af->Ag->Ah->Ai->Prop}(a:Aa)(b:Ab)(c:Ac)(d:Ad)(e:Ae)(f:Af)(g:Ag)(h:Ah)(i:Ai)(x1:P a b c d e f g h i)(x2:Q a b c d e f g h i)(x3:R a b c d e f g h i)(x4:S a b c d e f g h i)(x5:T a b c d e f g h i)(x6:U a b c d e f g h i)(x7:V a b c d e f g h i)(x8:W a b c d e f g h i):∃a b c d e f g h i,P a b c d e f g h i/\Q a b c d e f g h i/\R a b c d e f g h i/\S a b c d e f g h i/\T a b c d e f g h i/\U a b c d e f g h i/\V a b c d e f g h i/\W a b c d e f g h i:=⟨a,b,c,d,e,zaa f g h i x1 x2 x3 x4 x5 x6 x7 x8⟩
theorem zes{Aa Ab Ac Ad Ae:Type}{P:Aa->Ab->Prop}{Q R S T U V:Aa->Ab->Ac->Ad->Ae->Prop}(a:Aa)(b:Ab)(x1:P a b)(c:Ac)(d:Ad)(e:Ae)(x2:Q a b c d e)(x3:R a b c d e)(x4:S a b c d e)(x5:T a b c d e)(x6:U a b c d e)(x7:V a b c d e):∃a b,P a b/\∃c d e,Q a b c d e/\R a b c d e/\S a b c d e/\T a b c d e/\U a b c d e/\V a b c d e:=⟨a,zck b x1 c d e x2 x3 x4 x5 x6 x7⟩
theorem zlF{Aa:Type}{P Q R S T U:Aa->Prop}(a:Aa)(x1:P a)(x2:Q a)(x3:R a)(x4:S a)(x5:T a)(x6:U a):∃a,P a/\Q a/\R a/\S a/\T a/\U a:=⟨a,x1,x2,x3,x4,x5,x6⟩
theorem zhm{Aa Ab:Type}{P Q:Aa->Prop}{R S T U V:Aa->Ab->Prop}(a:Aa)(x1:P a)(x2:Q a)(b:Ab)(x3:R a b)(x4:S a b)(x5:T a b)(x6:U a b)(x7:V a b):∃a,P a/\Q a/\∃b,R a b/\S a b/\T a b/\U a b/\V a b:=⟨a,x1,x2,zcv b x3 x4 x5 x6 x7⟩
end Mine
end
section
open PySem PySem.W PyProof.Rows
namespace Mine
mutual
inductive Cls | preader | treader | ltable | pwriter | lreader | lwriter
inductive At | most | counts | symbols | root | sizes | lesser | more | lengths | codes | data | stop | position | made | held | heldBits
end
noncomputable def Cls.ctorIdx (x:Cls):Nat:=@Cls.casesOn (fun _=>Nat) x 0 1 2 3 4 5
noncomputable def At.ctorIdx (x:At):Nat:=@At.casesOn (fun _=>Nat) x 0 1 2 3 4 5 6 7 8 9 10 11 12 13 14
noncomputable def At.all:List At:=[.most,.counts,.symbols,.root,.sizes,.lesser,.more,.lengths,.codes,.data,.stop,.position,.made,.held,.heldBits]
theorem ze3 (a:At):At.all[a.ctorIdx]?=some a:=by induction a using At.casesOn <;> rfl
theorem At.of {a b:At} (h:a.ctorIdx=b.ctorIdx):a=b:=Option.some.inj (((ze3 a).symm.trans (congrArg (fun i=>At.all[i]?) h)).trans (ze3 b))
noncomputable def atDec:DecidableEq At:=fun a b=>if h:a.ctorIdx=b.ctorIdx then isTrue (At.of h) else isFalse fun e=>h (congrArg At.ctorIdx e)
noncomputable def At.str:At->Str
 | .most=>"most" | .counts=>"counts" | .symbols=>"symbols" | .root=>"root" | .sizes=>"sizes" | .lesser=>"lesser" | .more=>"more"
 | .lengths=>"lengths" | .codes=>"codes" | .data=>"data" | .stop=>"stop" | .position=>"position" | .made=>"made" | .held=>"held" | .heldBits=>"held_bits"
inductive V where
 | none | bool (b:Bool) | int (i:Int) | str (s:List Nat) | bytes (b:List UInt8)
 | ref (a:Addr) | tup (vs:List V) | lst (vs:List V) | inst (c:Cls) (a dx:Addr)
noncomputable def V.ctorIdx (x:V):Nat:=@V.casesOn (fun _=>Nat) x 0 (fun _=>1) (fun _=>2) (fun _=>3) (fun _=>4) (fun _=>5) (fun _=>6) (fun _=>7) (fun _ _ _=>8)
inductive AObj where
 | list (xs:List V) | dict (kvs:List (Int×V)) | fields (fs:List (At×V)) | barr (b:List UInt8)
noncomputable def AObj.ctorIdx (x:AObj):Nat:=@AObj.casesOn (fun _=>Nat) x (fun _=>0) (fun _=>1) (fun _=>2) (fun _=>3)
noncomputable abbrev AH:=Addr->Option AObj
noncomputable def AH.set (H:AH) (a:Addr) (o:AObj):AH:=fun b=>if b=a then some o else H b
def AH.D (H:AH):Addr->Prop:=fun a=>H a≠Option.none
theorem absO {x y:AObj} {P:Prop} (h:x=y) (k:Nat.beq x.ctorIdx y.ctorIdx=false):P:=by
 rw [h,Nat.beq_refl] at k; cases k
theorem za (H:AH) (a:Addr) (o:AObj):H.set a o a=some o:=if_pos rfl
theorem zf (H:AH) {a b:Addr} (o:AObj) (h:b≠a):H.set a o b=H b:=if_neg h
section
variable (clsA:Cls->Addr) (D:Addr->Prop) (h:Heap)
mutual
noncomputable def Abs:V->Value->Prop
 | .none,v=>v=.none
 | .bool b,v=>v=.bool b
 | .int i,v=>∃ t,v=.int i t
 | .str s,v=>∃ t,v=.str ⟨s.toArray⟩ t
 | .bytes b,v=>∃ t,v=.bytes b.toArray t
 | .ref a,v=>v=.ref a
 | .tup vs,v=>∃ a items,v=.ref a/\¬ D a/\h.IsTuple a (List.toArray items)/\AbsL vs items
 | .lst vs,v=>∃ a items,v=.ref a∧¬ D a∧(∃ o,h.get? a=some o∧o.cls=.type "list"∧o.dict=Option.none∧∃ n,o.data=.seq (List.toArray items) n)∧AbsL vs items
 | .inst c a dx,v=>v=.ref a/\¬ D a/\∃ sl,h.get? a=some ⟨.ref (clsA c),some dx,.plain,sl⟩
noncomputable def AbsL:List V->List Value->Prop
 | [],xs=>xs=[]
 | v::vs,xs=>∃ y ys,xs=y::ys/\Abs v y/\AbsL vs ys
end
end
def ValObj (o:Obj):Prop:=(∃ xs n,o.data=.seq xs n)∨o.data=.plain
def KeepV (D:Addr->Prop) (h:Heap) (D':Addr->Prop) (h':Heap):Prop:=∀ b o,h.get? b=some o->¬ D b->ValObj o->(∃ sl,h'.get? b=some { o with slots:=sl })/\¬ D' b
section
variable {clsA:Cls->Addr}
mutual
theorem Abs.keeps {D D':Addr->Prop} {h h':Heap} (k:KeepV D h D' h'):∀ (v:V) (x:Value),Abs clsA D h v x->Abs clsA D' h' v x
 | .none,x,e=>e
 | .bool b,x,e=>e
 | .int i,x,e=>e
 | .str i,x,e=>e
 | .bytes i,x,e=>e
 | .ref i,x,e=>e
 | .tup vs,x,e=>by
  refine zu e fun a items yC hD yE hl=>?_; obtain rfl:=yC; obtain ⟨o,ho,hc,hd⟩:=yE
  obtain ⟨⟨sl,q1⟩,q2⟩:=k a o ho hD (.inl ⟨_,hd⟩)
  exact zx a items rfl q2 ((mEAA _ q1 hc hd)) (AbsL.keeps k vs items hl)
 | .lst vs,x,e=>by
  refine zu e fun a items yC hD yE hl=>?_; obtain rfl:=yC; refine zdw yE fun o ho hc hn hd=>?_
  obtain ⟨⟨sl,q1⟩,q2⟩:=k a o ho hD (.inl ⟨_,hd⟩)
  exact zx a items rfl q2 ((zgL _ q1 hc hn hd)) (AbsL.keeps k vs items hl)
 | .inst c a dx,x,e=>by
  refine oAAE e fun yA hD sl ho=>?_; obtain rfl:=yA
  obtain ⟨⟨sl',q1⟩,q2⟩:=k a _ ho hD (.inr rfl)
  exact mAAE rfl q2 sl' q1
theorem AbsL.keeps {D D':Addr->Prop} {h h':Heap} (k:KeepV D h D' h'):∀ (vs:List V) (xs:List Value),AbsL clsA D h vs xs->AbsL clsA D' h' vs xs
 | [],xs,e=>e
 | v::vs,xs,e=>by
  refine zd e fun y ys yC h1 h2=>?_; obtain rfl:=yC
  exact zn y ys rfl (Abs.keeps k v y h1) (AbsL.keeps k vs ys h2)
end
theorem AbsL.length {D:Addr->Prop} {h:Heap} {vs:List V} {xs:List Value} (e:AbsL clsA D h vs xs):xs.length=vs.length:=by
 induction vs using List.rec generalizing xs with
 | nil=>exact congrArg List.length (show xs=[] from e)
 | cons v vs ih =>
  refine zd e fun y ys yC _ h2=>?_; obtain rfl:=yC
  exact congrArg Nat.succ (ih h2)
theorem AbsL.get {D:Addr->Prop} {h:Heap} {vs:List V} {xs:List Value} (e:AbsL clsA D h vs xs) {i:Nat} {v:V} (q:vs[i]?=some v):∃ x,xs[i]?=some x/\Abs clsA D h v x:=by
 induction vs using List.rec generalizing xs i with
 | nil=>cases q
 | cons u vs ih =>
  refine zd e fun y ys yC h1 h2=>?_; obtain rfl:=yC
  induction i using Nat.casesOn with
  | zero=>exact ⟨y,rfl,Option.some.inj q ▸ h1⟩
  | succ i=>exact ih h2 (i:=i) q
theorem AbsL.nil {D:Addr->Prop} {h:Heap}:AbsL clsA D h [] []:=rfl
theorem AbsL.cons {D:Addr->Prop} {h:Heap} {v:V} {x:Value} {vs:List V} {xs:List Value} (a:Abs clsA D h v x) (b:AbsL clsA D h vs xs):AbsL clsA D h (v::vs) (x::xs):=zn x xs rfl a b
theorem AbsL.append {D:Addr->Prop} {h:Heap} {vs:List V} {xs:List Value} {ws:List V} {ys:List Value} (e:AbsL clsA D h vs xs) (f:AbsL clsA D h ws ys):AbsL clsA D h (vs++ws) (xs++ys):=by
 induction vs using List.rec generalizing xs with
 | nil=>obtain rfl:xs=[]:=e; exact f
 | cons u vs ih =>
  refine zd e fun y zs yC h1 h2=>?_; obtain rfl:=yC
  exact AbsL.cons h1 (ih h2)
theorem AbsL.take {D:Addr->Prop} {h:Heap} {vs:List V} {xs:List Value} (e:AbsL clsA D h vs xs) (n:Nat):AbsL clsA D h (vs.take n) (xs.take n):=by
 induction vs using List.rec generalizing xs n with
 | nil=>obtain rfl:xs=[]:=e; rw [List.take_nil,List.take_nil]; exact AbsL.nil
 | cons u vs ih =>
  refine zd e fun y ys yC h1 h2=>?_; obtain rfl:=yC
  induction n using Nat.casesOn with
  | zero=>exact AbsL.nil
  | succ n=>exact AbsL.cons h1 (ih h2 n)
theorem AbsL.drop {D:Addr->Prop} {h:Heap} {vs:List V} {xs:List Value} (e:AbsL clsA D h vs xs) (n:Nat):AbsL clsA D h (vs.drop n) (xs.drop n):=by
 induction vs using List.rec generalizing xs n with
 | nil=>obtain rfl:xs=[]:=e; rw [List.drop_nil,List.drop_nil]; exact AbsL.nil
 | cons u vs ih =>
  refine zd e fun y ys yC h1 h2=>?_; obtain rfl:=yC
  induction n using Nat.casesOn with
  | zero=>exact AbsL.cons h1 h2
  | succ n=>exact ih h2 n
theorem AbsL.set {D:Addr->Prop} {h:Heap} {vs:List V} {xs:List Value} (e:AbsL clsA D h vs xs) (n:Nat) {v:V} {x:Value} (q:Abs clsA D h v x):AbsL clsA D h (vs.set n v) (xs.set n x):=by
 induction vs using List.rec generalizing xs n with
 | nil=>obtain rfl:xs=[]:=e; exact AbsL.nil
 | cons u vs ih =>
  refine zd e fun y ys yC h1 h2=>?_; obtain rfl:=yC
  induction n using Nat.casesOn with
  | zero=>exact AbsL.cons q h2
  | succ n=>exact AbsL.cons h1 (ih h2 n)
theorem AbsL.ints {D:Addr->Prop} {h:Heap} {ns:List Int} {xs:List Value} (e:AbsL clsA D h (ns.map V.int) xs):IntsAre xs ns:=by
 induction ns using List.rec generalizing xs with
 | nil=>obtain rfl:xs=[]:=e; exact .nil
 | cons n ns ih =>
  refine zd e fun y ys yC h1 h2=>?_; obtain rfl:=yC
  obtain ⟨t,rfl⟩:=h1
  exact .cons n t (ih h2)
theorem zb2 {D:Addr->Prop} {h:Heap} {ns:List Int} {xs:List Value} (e:IntsAre xs ns):AbsL clsA D h (ns.map V.int) xs:=by
 induction e using IntsAre.rec with
 | nil=>exact AbsL.nil
 | cons n t r ih=>exact AbsL.cons ⟨t,rfl⟩ ih
end
section
variable (prog:Program) (w:World) (clsA:Cls->Addr)
noncomputable def AbsKV (D:Addr->Prop) (h:Heap):List (Int×V)->List (Int×Value)->Prop
 | [],xs=>xs=[]
 | (k,v)::r,xs=>∃ y ys,xs=(k,y)::ys/\Abs clsA D h v y/\AbsKV D h r ys
noncomputable def AbsF (D:Addr->Prop) (h:Heap):List (At×V)->List DictEntry->Prop
 | [],xs=>xs=[]
 | (k,v)::r,xs=>∃ y ys,xs=y::ys/\(∃ t,y.key=.str k.str t)/\Abs clsA D h v y.val/\AbsF D h r ys
def DictN (o:Obj) (ps:List (Int×Value)):Prop:=∃ es,o.ExactDict/\o.data=.dict es es.size/\KeysOf (intKind prog w) es/\Pairs (intKind prog w) es.toList ps/\(ps.map (·.1)).Nodup
noncomputable def RepO (D:Addr->Prop) (h:Heap):AObj->Obj->Prop
 | .list xs,o=>o.cls=.type "list"∧o.dict=Option.none∧∃ items n,o.data=.seq (List.toArray items) n∧AbsL clsA D h xs items
 | .dict kvs,o=>o.dict=Option.none/\∃ ps,DictN prog w o ps/\AbsKV clsA D h kvs ps
 | .fields fs,o=>∃ es n,o=dictOf es n/\AbsF clsA D h fs es
 | .barr b,o=>o.cls=.type "bytearray"∧o.dict=Option.none∧o.data=.bytearray b.toArray 0
end
structure ClsOK (K:Frag) (C:Addr):Prop where
 ga:findIn K (.ref C) "__getattribute__"=some (some (.builtin "object.__getattribute__"))
 sa:findIn K (.ref C) "__setattr__"=some (some (.builtin "object.__setattr__"))
 hk:findIn K (.ref C) "__getattr__"=some none
 cd:∃ cd,clsIn K C=some cd/\cd.hasDict=true
 over:plainOver K C=true
 no:∀ nm:At,findIn K (.ref C) nm.str=some none
structure Wd where
 prog:Program
 w:World
 K:Frag
 clsA:Cls->Addr
 cut:Addr
 base:Heap
 priv:Addr->Prop
 low:sysModules < base.objs.size
 cok:∀ c,ClsOK K (clsA c)
 kin:K.In base
noncomputable abbrev Wd.M (W:Wd):Model:=model W.prog W.w
def Wd.D (W:Wd) (H:AH):Addr->Prop:=fun a=>H a≠none∨W.priv a
noncomputable def frA (frs:List Env):List Addr:=frs.filterMap (·.frame)
def KeepH (H:AH) (h:Heap) (H':AH) (h':Heap):Prop:=∀ b o,h.get? b=some o->H b=none->(∃ sl,h'.get? b=some { o with slots:=sl })/\H' b=none
theorem zch {W:Wd} {H:AH} {b:Addr} (n:H b=none) (p:¬ W.priv b):¬ W.D H b:=fun q=>q.elim (fun q=>q n) p
theorem zaq {W:Wd} {H:AH} {b:Addr} (n:¬ W.D H b):H b=none/\¬ W.priv b:=by
 refine ⟨?_,fun p=>n (.inr p)⟩
 cases q:H b with | none=>rfl | some o=>exact absurd (.inl (by rw [q]; simp)) n
theorem KeepH.v {W:Wd} {H H':AH} {h h':Heap} (k:KeepH H h H' h'):KeepV (W.D H) h (W.D H') h':=fun b o e n _=>by
 obtain ⟨n1,n2⟩:=zaq n
 obtain ⟨a,b⟩:=k b o e n1
 exact ⟨a,zch b n2⟩
section
variable {prog:Program} {w:World} {clsA:Cls->Addr}
theorem AbsKV.keeps {D D':Addr->Prop} {h h':Heap} (k:KeepV D h D' h') (vs:List (Int×V)) (xs) (e:AbsKV clsA D h vs xs):AbsKV clsA D' h' vs xs:=by
 induction vs using List.rec generalizing xs with
 | nil=>exact e
 | cons p vs ih =>
  refine zd e fun y ys yC h1 h2=>?_
  exact zn y ys yC (Abs.keeps k _ y h1) (ih ys h2)
theorem AbsF.keeps {D D':Addr->Prop} {h h':Heap} (k:KeepV D h D' h') (vs:List (At×V)) (xs) (e:AbsF clsA D h vs xs):AbsF clsA D' h' vs xs:=by
 induction vs using List.rec generalizing xs with
 | nil=>exact e
 | cons p vs ih =>
  refine zu e fun y ys yC h0 h1 h2=>?_
  exact zx y ys yC h0 (Abs.keeps k _ _ h1) (ih ys h2)
theorem RepO.keeps {D D':Addr->Prop} {h h':Heap} (k:KeepV D h D' h'):∀ (ao:AObj) (o:Obj),RepO prog w clsA D h ao o->RepO prog w clsA D' h' ao o
 | .list xs,o,⟨h1,h2,items,n,h3,h4⟩=>(zd6 h1 h2 items n h3 (AbsL.keeps k _ _ h4))
 | .dict kvs,o,⟨h1,ps,h2,h3⟩=>(mAEA h1 ps h2 (AbsKV.keeps k _ _ h3))
 | .fields fs,o,⟨es,n,h1,h2⟩=>(mEEA es n h1 (AbsF.keeps k _ _ h2))
 | .barr b,o,h1=>h1
end
noncomputable def Rp (W:Wd) (H:AH) (h:Heap):Prop :=
 W.base.StaysIn h/\∀ a o,H a=some o->W.base.objs.size<=a/\∃ ob,h.get? a=some ob/\RepO W.prog W.w W.clsA (W.D H) h o ob
structure Gd (W:Wd) (frs:List Env) (H:AH) (h:Heap):Prop where
 rp:Rp W H h
 apart:∀ L∈frA frs,H L=none
 ff:h.FunFrames W.base frs
 pv:∀ a,W.priv a->H a=none/\∃ o,h.get? a=some o
 fp:∀ L∈frA frs,W.priv L
structure Rm (lev:Nat) (A:Around) (frs:List Env):Prop where
 depth:A.depth+8*lev+20 < recursionLimit
 units:A.units+64*lev+200 < cLine
 quiet:A.handled=none
 frames:A.frames=some frs
structure Ext (fr own:List Addr) (H:AH) (h:Heap) (H':AH) (h':Heap):Prop where
 keep:∀ b o,h.get? b=some o->H b=none->b∉own->b∉fr->h'.get? b=some o
 slots:∀ b o,h.get? b=some o->H b=none->b∈fr->b∉own->∃ sl,h'.get? b=some { o with slots:=sl }
 new:∀ b o,h.get? b=some o->H b=none->H' b=none
 there:∀ b o,h.get? b=some o->H b=none->∃ o',h'.get? b=some o'
theorem Ext.refl (fr own:List Addr) (H:AH) (h:Heap):Ext fr own H h H h :=
 ⟨fun _ _ e _ _ _=>e,fun _ o e _ _ _=>⟨o.slots,e⟩,fun _ _ _ e=>e,fun _ o e _=>⟨o,e⟩⟩
theorem Ext.trans {fr own:List Addr} {HC HD HE:AH} {hF hG hO:Heap} (x:Ext fr own HC hF HD hG) (y:Ext fr own HD hG HE hO):Ext fr own HC hF HE hO where
 keep b o e n m f:=y.keep b o (x.keep b o e n m f) (x.new b o e n) m f
 slots b o e n f m:=by
  obtain ⟨sl,q⟩:=x.slots b o e n f m
  obtain ⟨sl',q'⟩:=y.slots b _ q (x.new b o e n) f m
  exact ⟨sl',q'⟩
 new b o e n:=let ⟨o',q⟩:=x.there b o e n; y.new b o' q (x.new b o e n)
 there b o e n:=let ⟨o',q⟩:=x.there b o e n; y.there b o' q (x.new b o e n)
theorem Ext.own {fr own own':List Addr} {H H':AH} {h h':Heap} (x:Ext fr own H h H' h') (k:∀ b o,h.get? b=some o->H b=none->b∈own->b∈own'):Ext fr own' H h H' h' where
 keep b o e n m f:=x.keep b o e n (fun q=>m (k b o e n q)) f
 slots b o e n f m:=x.slots b o e n f (fun q=>m (k b o e n q))
 new:=x.new
 there:=x.there
theorem Ext.toKeep {fr:List Addr} {H H':AH} {h h':Heap} (x:Ext fr [] H h H' h'):KeepH H h H' h':=fun b o e n'=>by
 refine ⟨?_,x.new b o e n'⟩
 by_cases f:b∈fr
 ·exact x.slots b o e n' f (fun q=>nomatch q)
 ·exact ⟨o.slots,x.keep b o e n' (fun q=>nomatch q) f⟩
theorem Ext.of_keeps {fr own:List Addr} {H:AH} {h h':Heap} (k:∀ b o,h.get? b=some o->h'.get? b=some o):Ext fr own H h H h' :=
 ⟨fun b o e _ _ _=>k b o e,fun b o e _ _ _=>⟨o.slots,k b o e⟩,fun _ _ _ e=>e,fun b o e _=>⟨o,k b o e⟩⟩
theorem Rp.keeps {W:Wd} {H:AH} {h h':Heap} (G:Rp W H h) (k:∀ b o,h.get? b=some o->h'.get? b=some o):Rp W H h' :=
 ⟨fun b o e=>k b o (G.1 b o e),fun a o e=>oAEA (G.2 a o e) fun g1 ob g2 g3=>(mAEA g1 ob (k _ _ g2) (RepO.keeps (fun b o e n _=>⟨⟨o.slots,k b o e⟩,n⟩) o ob g3))⟩
theorem Gd.keeps {W:Wd} {frs:List Env} {H:AH} {h h':Heap} (G:Gd W frs H h) (k:∀ b o,h.get? b=some o->h'.get? b=some o):Gd W frs H h' :=
 ⟨G.rp.keeps k,G.apart,Heap.FunFrames.of_keeps (fun b o e _=>(mEA o (k b o e) rfl)) G.ff,fun a p=>oAE (G.pv a p) fun n o e=>(mAE n o (k a o e)),G.fp⟩
theorem Gd.base_none {W:Wd} {frs:List Env} {H:AH} {h:Heap} (G:Gd W frs H h) {b:Addr} {o:Obj} (e:W.base.get? b=some o):H b=none:=by
 cases q:H b with
 | none=>rfl
 | some x=>exact absurd (Heap.lt_size e) (Nat.not_lt.mpr (G.rp.2 b x q).1)
theorem zjp {W:Wd} {frs:List Env} {h:Heap} (ff:h.FunFrames W.base frs) {b:Addr} (hb:b∈frA frs):W.base.get? b=none:=(ff.mem hb).1
def RPost {α β:Type} (W:Wd) (frs:List Env) (H:AH) (s:Shared) (R:(Addr->Prop)->Heap->β->α->Prop) (Q:β->AH->Prop):α->Shared->Prop:=fun x s' =>
 ∃ v H',R (W.D H') s'.heap v x/\Gd W frs H' s'.heap/\Ext (frA frs) [] H s.heap H' s'.heap/\s'.os=s.os/\s'.gens=s.gens/\Q v H'
noncomputable abbrev EPost (W:Wd) (frs:List Env) (H:AH) (s:Shared) (Q:V->AH->Prop):Value->Shared->Prop:=RPost W frs H s (Abs W.clsA) Q
def Untr (e:Addr) (cls a0:Value) (h:Heap):Prop:=∃ oe vs,h.get? e=some oe/\oe.cls=cls/\oe.data=.fields vs/\vs[1]?=some .none/\vs[0]?=some a0
noncomputable def FlyU (base:Heap) (l:List Env) (e:Addr) (cls a0:Value) (h:Heap):Prop :=
 base.StaysIn h/\base.get? e=none/\h.FunFrames base l/\(h.TracedW base e cls a0∨Untr e cls a0 h)
structure XAt (W:Wd) (frs:List Env) (own:List Addr) (H:AH) (s:Shared) (H':AH) (e:Value) (s':Shared):Prop where
 fly:∃ ea a0 b',e=.ref ea/\FlyU b' frs ea (.ref W.cut) a0 s'.heap/\Rp W H' b' /\
  (∀ b o,s.heap.get? b=some o->H b=none->b∉own->b∉frA frs->b'.get? b=some o)
 apart:∀ L∈frA frs,H' L=none
 slots:∀ b o,s.heap.get? b=some o->H b=none->b∈frA frs->b∉own->∃ sl,s'.heap.get? b=some { o with slots:=sl }
 new:∀ b o,s.heap.get? b=some o->H b=none->H' b=none
 there:∀ b o,s.heap.get? b=some o->H b=none->∃ o',s'.heap.get? b=some o'
 os:s'.os=s.os
 gens:s'.gens=s.gens
def XPost (W:Wd) (frs:List Env) (H:AH) (s:Shared) (X:AH->Prop):Value->Shared->Prop:=fun e s' =>
 ∃ H',XAt W frs [] H s H' e s'/\X H'
theorem XAt.ext {W:Wd} {frs:List Env} {own:List Addr} {H:AH} {s:Shared} {H':AH} {e:Value} {s':Shared} (x:XAt W frs own H s H' e s'):Ext (frA frs) own H s.heap H' s'.heap :=
 zB x.fly fun _ _ _ _ f _ k =>
 ⟨fun b o q n m g=>f.1 b o (k b o q n m g),x.slots,x.new,x.there⟩
theorem XAt.gd {W:Wd} {frs:List Env} {own:List Addr} {H:AH} {s:Shared} {H':AH} {e:Value} {s':Shared} (G:Gd W frs H s.heap) (x:XAt W frs own H s H' e s'):Gd W frs H' s'.heap:=by
 refine zB x.fly fun ea a0 b' he f r k=>?_
 refine ⟨r.keeps f.1,x.apart,?_,(fun a p=>oAE (G.pv a p) fun n o e=>⟨x.new a o e n,x.there a o e n⟩),G.fp⟩
 have g:=f.2.2.1
 clear x k he f G
 generalize s'.heap=h at g ⊢
 clear s'
 induction frs with
 | nil=>trivial
 | cons env l ih =>
  refine oAA g fun hk yB hr=>?_; obtain ⟨L,o,hf,hn,ho,hd⟩:=yB
  refine ⟨hk,(zx L o hf ?_ ho hd),ih hr⟩
  cases q:W.base.get? L with
  | none=>rfl
  | some o'=>rw [r.1 L o' q] at hn; exact absM hn
theorem XAt.trans {W:Wd} {frs:List Env} {own:List Addr} {H HC:AH} {s s₁:Shared} {H':AH} {e:Value} {s':Shared} (x:Ext (frA frs) own H s.heap HC s₁.heap) (ho:s₁.os=s.os) (hg:s₁.gens=s.gens)
  (y:XAt W frs own HC s₁ H' e s'):XAt W frs own H s H' e s':=by
 refine zB y.fly fun ea a0 b' he f r k=>?_
 have t:=x.trans y.ext
 exact ⟨(zS ea a0 b' he f r (fun b o q n m g=>k b o (x.keep b o q n m g) (x.new b o q n) m g)),y.apart,t.slots,t.new,t.there,y.os.trans ho,y.gens.trans hg⟩
theorem XAt.own {W:Wd} {frs:List Env} {own own':List Addr} {H H':AH} {s s':Shared} {e:Value} (x:XAt W frs own H s H' e s') (j:∀ b o,s.heap.get? b=some o->H b=none->b∈own->b∈own'):XAt W frs own' H s H' e s':=by
 refine zB x.fly fun ea a0 b' he f r k=>?_
 exact ⟨(zS ea a0 b' he f r (fun b o q n m g=>k b o q n (fun z=>m (j b o q n z)) g)),x.apart,fun b o q n g m=>x.slots b o q n g fun z=>m (j b o q n z),x.new,x.there,x.os,x.gens⟩
theorem RPost.of {α β:Type} {W:Wd} {frs:List Env} {H HC:AH} {s s₁:Shared} {R:(Addr->Prop)->Heap->β->α->Prop} {Q:β->AH->Prop} {x:α} {s':Shared} (e:Ext (frA frs) [] H s.heap HC s₁.heap) (ho:s₁.os=s.os) (hg:s₁.gens=s.gens)
  (y:RPost W frs HC s₁ R Q x s'):RPost W frs H s R Q x s' :=
 zv y fun v H' a b c d f g=>(zY v H' a b (e.trans c) (d.trans ho) (f.trans hg) g)
theorem XPost.of {W:Wd} {frs:List Env} {H HC:AH} {s s₁:Shared} {X:AH->Prop} {x:Value} {s':Shared} (e:Ext (frA frs) [] H s.heap HC s₁.heap) (ho:s₁.os=s.os) (hg:s₁.gens=s.gens)
  (y:XPost W frs HC s₁ X x s'):XPost W frs H s X x s' :=
 oEA y fun H' a b=>(mEA H' (a.trans e ho hg) b)
structure Step (W:Wd) (frs:List Env) (H:AH) (s:Shared) (H':AH) (s':Shared):Prop where
 gd:Gd W frs H' s'.heap
 ext:Ext (frA frs) [] H s.heap H' s'.heap
 os:s'.os=s.os
 gens:s'.gens=s.gens
theorem Step.trans {W:Wd} {frs:List Env} {H HC HD:AH} {s s₁ sC:Shared} (x:Step W frs H s HC s₁) (y:Step W frs HC s₁ HD sC):Step W frs H s HD sC :=
 ⟨y.gd,x.ext.trans y.ext,y.os.trans x.os,y.gens.trans x.gens⟩
theorem Step.of_keeps {W:Wd} {frs:List Env} {H:AH} {s s':Shared} (g:Gd W frs H s.heap) (k:∀ b o,s.heap.get? b=some o->s'.heap.get? b=some o) (ho:s'.os=s.os) (hg:s'.gens=s.gens):Step W frs H s H s' :=
 ⟨g.keeps k,.of_keeps k,ho,hg⟩
section
variable {W:Wd} {frs:List Env} {H HC:AH} {s s₁:Shared} {A:Around} {α β γ δ:Type} {X:AH->Prop}
theorem endR {R:(Addr->Prop)->Heap->β->α->Prop} {Q:β->AH->Prop} {x:α} {v:β} (st:Step W frs H s HC s₁) (r:R (W.D HC) s₁.heap v x) (q:Q v HC):RPost W frs H s R Q x s₁ :=
 (zY v HC r st.gd st.ext st.os st.gens q)
end
theorem Step.abs {W:Wd} {frs:List Env} {H H':AH} {s s':Shared} (st:Step W frs H s H' s') {v:V} {x:Value} (a:Abs W.clsA (W.D H) s.heap v x):Abs W.clsA (W.D H') s'.heap v x:=Abs.keeps st.ext.toKeep.v v x a
theorem Step.absL {W:Wd} {frs:List Env} {H H':AH} {s s':Shared} (st:Step W frs H s H' s') {v:List V} {x:List Value} (a:AbsL W.clsA (W.D H) s.heap v x):AbsL W.clsA (W.D H') s'.heap v x:=AbsL.keeps st.ext.toKeep.v v x a
mutual
inductive Fn
 | countsByLength | roomOf | checkLengths | greatestLength | firstCodes | canonical | turned | byLength
 | mkPReader | mkTReader | mkLTable | mkPWriter | mkLReader | mkLWriter
 | needCount | needValue | endOf | gathered
 | lawJar | lawPick | lawLengths | lawOctet | lawCodes | lawRead | lawSaid | lawMany | lawWritten | lawTorn | law
 | prRead | trEnter | trRead | ltRead | pwCost | pwWrite
 | lrLeft | lrPeek | lrSkip | lrBits | lrBit | lwBits | lwCode | lwSize | lwDone
inductive MK | user | list | barr | dict | lst | str
end
mutual
inductive BFn | len | max | min | sorted | sum | list | bytes | bytearray | isInt | isBool
inductive MName | append | insert | index | get | join | bit | bits | peek | skip | left | read | enter | cost | write | code | size | done
end
noncomputable def Fn.ctorIdx (x:Fn):Nat:=@Fn.casesOn (fun _=>Nat) x 0 1 2 3 4 5 6 7 8 9 10 11 12 13 14 15 16 17 18 19 20 21 22 23 24 25 26 27 28 29 30 31 32 33 34 35 36 37 38 39 40 41 42 43
noncomputable def BFn.ctorIdx (x:BFn):Nat:=@BFn.casesOn (fun _=>Nat) x 0 1 2 3 4 5 6 7 8 9
noncomputable def MName.ctorIdx (x:MName):Nat:=@MName.casesOn (fun _=>Nat) x 0 1 2 3 4 5 6 7 8 9 10 11 12 13 14 15 16
noncomputable def MName.str:MName->Str
 | .append=>"append" | .insert=>"insert" | .index=>"index" | .get=>"get" | .join=>"join" | .bit=>"bit" | .bits=>"bits" | .peek=>"peek" | .skip=>"skip"
 | .left=>"left" | .read=>"read" | .enter=>"enter" | .cost=>"cost" | .write=>"write" | .code=>"code" | .size=>"size" | .done=>"done"
noncomputable def userFn:Cls->MName->Option Fn
 | .preader,.read=>some .prRead
 | .treader,.read=>some .trRead
 | .treader,.enter=>some .trEnter
 | .ltable,.read=>some .ltRead
 | .pwriter,.cost=>some .pwCost
 | .pwriter,.write=>some .pwWrite
 | .lreader,.left=>some .lrLeft
 | .lreader,.peek=>some .lrPeek
 | .lreader,.skip=>some .lrSkip
 | .lreader,.bits=>some .lrBits
 | .lreader,.bit=>some .lrBit
 | .lwriter,.bits=>some .lwBits
 | .lwriter,.code=>some .lwCode
 | .lwriter,.size=>some .lwSize
 | .lwriter,.done=>some .lwDone
 | _,_=>none
inductive Lit | none | bool (b:Bool) | int (i:Int) | str (s:List Nat)
noncomputable def Lit.ctorIdx (x:Lit):Nat:=@Lit.casesOn (fun _=>Nat) x 0 (fun _=>1) (fun _=>2) (fun _=>3)
inductive Tgt | var (i:Nat) | tup (is:List Nat)
noncomputable def Tgt.ctorIdx (x:Tgt):Nat:=@Tgt.casesOn (fun _=>Nat) x (fun _=>0) (fun _=>1)
mutual
inductive CE where
 | lit (l:Lit)
 | var (i:Nat)
 | bin (op:Operator) (a b:CE)
 | rep (x n:CE)
 | neg (a:CE)
 | not (a:CE)
 | boolop (isAnd:Bool) (es:List CE)
 | cmp (a:CE) (ops:List CmpOp) (es:List CE)
 | ite (t a b:CE)
 | flist (es:List CE)
 | mlist (es:List CE)
 | tup (es:List CE)
 | dict0
 | call (f:Fn) (args:List CE)
 | bcall (f:BFn) (args:List CE)
 | meth (o:CE) (nm:MName) (args:List CE)
 | attr (o:CE) (n:At)
 | sub (o i:CE)
 | slice (o lo hi:CE)
 | comp1 (elt:CE) (t:Tgt) (src:Src) (conds:List CE) (caps:List (Option Nat))
 | comp2 (elt:CE) (t:Tgt) (src:Src) (t':Tgt) (src':Src) (caps:List (Option Nat))
inductive Src where
 | seq (e:CE)
 | range (es:List CE)
 | enum (e:CE)
 | zip (a b:CE)
end
noncomputable def CE.ctorIdx (x:CE):Nat:=@CE.casesOn (fun _=>Nat) x (fun _=>0) (fun _=>1) (fun _ _ _=>2) (fun _ _=>3) (fun _=>4) (fun _=>5) (fun _ _=>6) (fun _ _ _=>7) (fun _ _ _=>8) (fun _=>9) (fun _=>10) (fun _=>11) 12 (fun _ _=>13) (fun _ _=>14) (fun _ _ _=>15) (fun _ _=>16) (fun _ _=>17) (fun _ _ _=>18) (fun _ _ _ _ _=>19) (fun _ _ _ _ _ _=>20)
noncomputable def Src.ctorIdx (x:Src):Nat:=@Src.casesOn (fun _=>Nat) x (fun _=>0) (fun _=>1) (fun _=>2) (fun _ _=>3)
inductive Dst | var (i:Nat) | tup (is:List Nat) | attr (o:CE) (n:At) | sub (o i:CE)
noncomputable def Dst.ctorIdx (x:Dst):Nat:=@Dst.casesOn (fun _=>Nat) x (fun _=>0) (fun _=>1) (fun _ _=>2) (fun _ _=>3)
inductive CS where
 | assign (d:Dst) (e:CE)
 | aug (d:Dst) (op:Operator) (e:CE)
 | expr (e:CE)
 | ret (e:CE)
 | retNone
 | ifs (t:CE) (a b:List CS)
 | whiles (t:CE) (body:List CS)
 | fors (t:Tgt) (src:Src) (body:List CS)
 | raiseCut
 | stuck
 | tryCut (body:List CS) (xs:List Nat)
noncomputable def CS.ctorIdx (x:CS):Nat:=@CS.casesOn (fun _=>Nat) x (fun _ _=>0) (fun _ _ _=>1) (fun _=>2) (fun _=>3) 4 (fun _ _ _=>5) (fun _ _=>6) (fun _ _ _=>7) 8 9 (fun _ _=>10)
noncomputable abbrev Spec:=List V->AH->(V->AH->Prop)->(AH->Prop)->Prop
noncomputable abbrev Specs:=Fn->Spec
noncomputable abbrev Loc:=List (Option V)
noncomputable def lget (m:Loc) (i:Nat):Option V:=(m[i]?).getD none
noncomputable abbrev iv (n:Nat):V:=.int (Int.ofNat n)
noncomputable abbrev il (ls:List Nat):List V:=ls.map iv
noncomputable def listOf (H:AH):V->Option (List V)
 | .lst xs=>some xs
 | .ref a=>match H a with
  | some (.list xs)=>some xs
  | _=>none
 | _=>none
noncomputable def dget (kvs:List (Int×V)) (k:Int):Option V:=kvs.lookup k
noncomputable def dput (kvs:List (Int×V)) (k:Int) (v:V):List (Int×V):=match kvs with
 | []=>[(k,v)]
 | (j,u)::r=>if j=k then (j,v)::r else (j,u)::dput r k v
noncomputable def fget (fs:List (At×V)) (n:At):Option V:=match fs with
 | []=>none
 | (j,u)::r=>letI:=atDec; if j=n then some u else fget r n
noncomputable def fput (fs:List (At×V)) (n:At) (v:V):List (At×V):=match fs with
 | []=>[(n,v)]
 | (j,u)::r=>letI:=atDec; if j=n then (j,v)::r else (j,u)::fput r n v
noncomputable def big:Nat:=1000000
def IntsOf (H:AH) (v:V) (ns:List Int):Prop:=listOf H v=some (ns.map V.int)
noncomputable def tupV (p:Int×Int):V:=.tup [.int p.1,.int p.2]
noncomputable def maxI (x:Int) (xs:List Int):Int:=xs.foldl (fun a b=>if b > a then b else a) x
noncomputable def minI (x:Int) (xs:List Int):Int:=xs.foldl (fun a b=>if b < a then b else a) x
noncomputable def ltP (a b:Int×Int):Bool:=a.1 < b.1 || (a.1 == b.1&&a.2 < b.2)
def wpFresh (H:AH) (Q:V->AH->Prop) (o:AObj):Prop:=∀ a,H a=none->Q (.ref a) (H.set a o)
section
variable (H:AH) (Q:V->AH->Prop) (QB:Bool->AH->Prop)
inductive WBin:Operator->V->V->Prop
 | add {x y:Int} (q:Q (.int (x+y)) H):WBin .Add (.int x) (.int y)
 | adds {x y:List Nat} (h:x.length+y.length<=big) (q:Q (.str (x++y)) H):WBin .Add (.str x) (.str y)
 | addb {x y:List UInt8} (h:x.length+y.length<=big) (q:Q (.bytes (x++y)) H):WBin .Add (.bytes x) (.bytes y)
 | addl {x y:List V} (h:x.length+y.length<=big) (q:Q (.lst (x++y)) H):WBin .Add (.lst x) (.lst y)
 | sub {x y:Int} (q:Q (.int (x - y)) H):WBin .Sub (.int x) (.int y)
 | mul {x y:Int} (h:x.natAbs < 2 ^ 62∨y.natAbs < 2 ^ 62) (q:Q (.int (x*y)) H):WBin .Mult (.int x) (.int y)
 | mod {x y:Int} (h:0 < y) (q:Q (.int (x % y)) H):WBin .Mod (.int x) (.int y)
 | div {x y:Nat} (h:0 < y) (h2:y < 2 ^ 62) (q:Q (iv (x / y)) H):WBin .FloorDiv (iv x) (iv y)
 | pow {x y:Nat} (h:y<=10000) (h2:x<=1024) (q:Q (iv (x ^ y)) H):WBin .Pow (iv x) (iv y)
 | shl {x y:Nat} (h:y<=10000) (h2:x < 2 ^ 62) (q:Q (iv (x*2 ^ y)) H):WBin .LShift (iv x) (iv y)
 | shr {x y:Nat} (q:Q (iv (x / 2 ^ y)) H):WBin .RShift (iv x) (iv y)
 | and {x y:Nat} (q:Q (iv (x &&& y)) H):WBin .BitAnd (iv x) (iv y)
 | or {x y:Nat} (q:Q (iv (x ||| y)) H):WBin .BitOr (iv x) (iv y)
 | xor {x y:Nat} (q:Q (iv (x ^^^ y)) H):WBin .BitXor (iv x) (iv y)
inductive WAug:Operator->V->V->Prop
 | add {x y:Int} (q:Q (.int (x+y)) H):WAug .Add (.int x) (.int y)
 | sub {x y:Int} (q:Q (.int (x - y)) H):WAug .Sub (.int x) (.int y)
 | shr {x y:Nat} (q:Q (iv (x / 2 ^ y)) H):WAug .RShift (iv x) (iv y)
 | or {x y:Nat} (q:Q (iv (x ||| y)) H):WAug .BitOr (iv x) (iv y)
inductive WRep:V->V->Prop
 | mk {v:V} {k:Nat} (h:k<=big) (q:wpFresh H Q (.list (List.replicate k v))):WRep v (iv k)
inductive WNeg:V->Prop
 | mk {i:Int} (q:Q (.int (-i)) H):WNeg (.int i)
inductive EqR:V->V->Bool->Prop
 | int {x y:Int}:EqR (.int x) (.int y) (decide (x=y))
 | str {x y:List Nat}:EqR (.str x) (.str y) (decide (x=y))
 | bytes {x y:List UInt8}:EqR (.bytes x) (.bytes y) (decide (x=y))
 | ints {a b:V} {xs ys:List Int} (h1:IntsOf H a xs) (h2:IntsOf H b ys):EqR a b (decide (xs=ys))
 | two {a1 a2 b1 b2:V} {x1 x2 y1 y2:List Int} (h1:IntsOf H a1 x1) (h2:IntsOf H a2 x2) (h3:IntsOf H b1 y1) (h4:IntsOf H b2 y2):EqR (.tup [a1,a2]) (.tup [b1,b2]) (decide (x1=y1)&&decide (x2=y2))
inductive InR:V->V->Bool->Prop
 | ints {k:Int} {b:V} {ns:List Int} (h:IntsOf H b ns):InR (.int k) b (decide (k∈ns))
 | dict {k:Int} {a:Addr} {kvs:List (Int×V)} (h:H a=some (.dict kvs)):InR (.int k) (.ref a) (dget kvs k).isSome
inductive WCmp:CmpOp->V->V->Prop
 | lt {x y:Int} (q:QB (decide (x < y)) H):WCmp .Lt (.int x) (.int y)
 | le {x y:Int} (q:QB (decide (x<=y)) H):WCmp .LtE (.int x) (.int y)
 | gt {x y:Int} (q:QB (decide (x > y)) H):WCmp .Gt (.int x) (.int y)
 | ge {x y:Int} (q:QB (decide (x ≥ y)) H):WCmp .GtE (.int x) (.int y)
 | eq {a b:V} {r:Bool} (e:EqR H a b r) (q:QB r H):WCmp .Eq a b
 | ne {a b:V} {r:Bool} (e:EqR H a b r) (q:QB (!r) H):WCmp .NotEq a b
 | isin {a b:V} {r:Bool} (e:InR H a b r) (q:QB r H):WCmp .In a b
 | notin {a b:V} {r:Bool} (e:InR H a b r) (q:QB (!r) H):WCmp .NotIn a b
 | isnn (q:QB true H):WCmp .Is .none .none
 | isin' {i:Int} (q:QB false H):WCmp .Is (.int i) .none
inductive WTru:V->Prop
 | mk {b:Bool} (q:QB b H):WTru (.bool b)
inductive WSub:V->V->Prop
 | lst {xs:List V} {k:Nat} {v:V} (h:xs[k]?=some v) (hk:k < 2 ^ 62) (q:Q v H):WSub (.lst xs) (iv k)
 | list {a:Addr} {xs:List V} {k:Nat} {v:V} (h:H a=some (.list xs)) (e:xs[k]?=some v) (hk:k < 2 ^ 62) (q:Q v H):WSub (.ref a) (iv k)
 | dict {a:Addr} {kvs:List (Int×V)} {k:Int} {v:V} (h:H a=some (.dict kvs)) (e:dget kvs k=some v) (q:Q v H):WSub (.ref a) (.int k)
 | str {s:List Nat} {k c:Nat} (h:s[k]?=some c) (hs:s.length<=big) (q:Q (.str [c]) H):WSub (.str s) (iv k)
 | bytes {s:List UInt8} {k:Nat} {c:UInt8} (h:s[k]?=some c) (hs:s.length<=big) (q:Q (iv c.toNat) H):WSub (.bytes s) (iv k)
inductive WSlice:V->V->V->Prop
 | lstFrom {xs:List V} {k:Nat} (h:xs.length<=big) (q:Q (.lst (xs.drop k)) H):WSlice (.lst xs) (iv k) .none
 | lstTo {xs:List V} {k:Nat} (h:xs.length<=big) (q:Q (.lst (xs.take k)) H):WSlice (.lst xs) .none (iv k)
 | strFrom {xs:List Nat} {k:Nat} (h:xs.length<=big) (q:Q (.str (xs.drop k)) H):WSlice (.str xs) (iv k) .none
 | strTo {xs:List Nat} {k:Nat} (h:xs.length<=big) (q:Q (.str (xs.take k)) H):WSlice (.str xs) .none (iv k)
inductive WAttr:V->At->Prop
 | mk {c:Cls} {a dx:Addr} {fs:List (At×V)} {n:At} {v:V} (h:H dx=some (.fields fs)) (e:fget fs n=some v) (q:Q v H):WAttr (.inst c a dx) n
inductive WPutA (x:V) (k:AH->Prop):V->At->Prop
 | mk {c:Cls} {a dx:Addr} {fs:List (At×V)} {n:At} (h:H dx=some (.fields fs)) (hl:fs.length<=100) (q:k (H.set dx (.fields (fput fs n x)))):WPutA x k (.inst c a dx) n
inductive WPutS (x:V) (k:AH->Prop):V->V->Prop
 | list {a:Addr} {xs:List V} {i:Nat} (h:H a=some (.list xs)) (hi:i < xs.length) (hl:xs.length<=big) (q:k (H.set a (.list (xs.set i x)))):WPutS x k (.ref a) (iv i)
 | dict {a:Addr} {kvs:List (Int×V)} {i:Int} (h:H a=some (.dict kvs)) (hl:kvs.length<=big) (q:k (H.set a (.dict (dput kvs i x)))):WPutS x k (.ref a) (.int i)
inductive WBcall:BFn->List V->Prop
 | lenStr {s:List Nat} (h:s.length<=big) (q:Q (iv s.length) H):WBcall .len [.str s]
 | lenBytes {s:List UInt8} (h:s.length<=big) (q:Q (iv s.length) H):WBcall .len [.bytes s]
 | lenList {v:V} {xs:List V} (h:listOf H v=some xs) (hl:xs.length<=big) (q:Q (iv xs.length) H):WBcall .len [v]
 | lenBarr {a:Addr} {b:List UInt8} (h:H a=some (.barr b)) (hl:b.length<=big) (q:Q (iv b.length) H):WBcall .len [.ref a]
 | max2 {x y:Int} (q:Q (.int (if y > x then y else x)) H):WBcall .max [.int x,.int y]
 | min2 {x y:Int} (q:Q (.int (if y < x then y else x)) H):WBcall .min [.int x,.int y]
 | max {v:V} {x:Int} {xs:List Int} (h:IntsOf H v (x::xs)) (q:Q (.int (maxI x xs)) H):WBcall .max [v]
 | min {v:V} {x:Int} {xs:List Int} (h:IntsOf H v (x::xs)) (q:Q (.int (minI x xs)) H):WBcall .min [v]
 | sum {v:V} {xs:List Int} (h:IntsOf H v xs) (q:Q (.int xs.sum) H):WBcall .sum [v]
 | list {v:V} {xs:List V} (h:listOf H v=some xs) (hl:xs.length<=big) (q:Q (.lst xs) H):WBcall .list [v]
 | bytesB {b:List UInt8} (q:Q (.bytes b) H):WBcall .bytes [.bytes b]
 | bytesL {ns:List Int} (hl:ns.length<=big) (h:∀ n∈ns,0<=n/\n < 256) (q:Q (.bytes (ns.map fun n=>UInt8.ofNat n.toNat)) H):WBcall .bytes [.lst (ns.map V.int)]
 | bytesA {a:Addr} {b:List UInt8} (h:H a=some (.barr b)) (hl:b.length<=big) (q:Q (.bytes b) H):WBcall .bytes [.ref a]
 | bytearray (q:wpFresh H Q (.barr [])):WBcall .bytearray []
 | sortP {ps:List (Int×Int)} (h2:2<=ps.length) (h64:ps.length < 64) (hn:ps.Nodup) (q:∀ qs:List (Int×Int),qs.Perm ps->qs.Pairwise (fun a b=>ltP a b=true)->Q (.lst (qs.map tupV)) H):WBcall .sorted [.lst (ps.map tupV)]
 | sortD {a:Addr} {kvs:List (Int×V)} (h:H a=some (.dict kvs)) (h64:kvs.length < 64) (q:∀ ks:List Int,ks.Perm (kvs.map (·.1))->Q (.lst (ks.map .int)) H):WBcall .sorted [.ref a]
 | isInt {i:Int} (q:Q (.bool true) H):WBcall .isInt [.int i]
 | isBool {i:Int} (q:Q (.bool false) H):WBcall .isBool [.int i]
noncomputable def MK.ctorIdx (x:MK):Nat:=@MK.casesOn (fun _=>Nat) x 0 1 2 3 4 5
inductive MOk:V->MName->MK->Prop
 | user {c:Cls} {a dx:Addr} {nm:MName} {f:Fn} {fs:List (At×V)} (h:userFn c nm=some f) (hf:H dx=some (.fields fs)):MOk (.inst c a dx) nm .user
 | append {a:Addr} {xs:List V} (h:H a=some (.list xs)):MOk (.ref a) .append .list
 | insert {a:Addr} {xs:List V} (h:H a=some (.list xs)):MOk (.ref a) .insert .list
 | index {a:Addr} {xs:List V} (h:H a=some (.list xs)):MOk (.ref a) .index .list
 | push {a:Addr} {b:List UInt8} (h:H a=some (.barr b)):MOk (.ref a) .append .barr
 | get {a:Addr} {kvs:List (Int×V)} (h:H a=some (.dict kvs)):MOk (.ref a) .get .dict
 | lst {xs:List V}:MOk (.lst xs) .index .lst
 | join:MOk (.str []) .join .str
inductive WMeth (S:Specs) (X:AH->Prop):MK->V->MName->List V->Prop
 | user {c:Cls} {a dx:Addr} {nm:MName} {f:Fn} {args:List V} (h:userFn c nm=some f) (q:S f (.inst c a dx::args) H Q X):WMeth S X .user (.inst c a dx) nm args
 | append {a:Addr} {xs:List V} {v:V} (h:H a=some (.list xs)) (hl:xs.length<=big) (q:Q .none (H.set a (.list (xs++[v])))):WMeth S X .list (.ref a) .append [v]
 | insert {a:Addr} {xs:List V} {i:Nat} {v:V} (h:H a=some (.list xs)) (hi:i < 2 ^ 62) (hl:xs.length<=big) (q:Q .none (H.set a (.list (xs.take i++v::xs.drop i)))):WMeth S X .list (.ref a) .insert [iv i,v]
 | index {a:Addr} {ns:List Int} {k:Int} (h:H a=some (.list (ns.map V.int))) (hl:ns.length<=big) (hk:k∈ns) (q:Q (.int (ns.idxOf k)) H):WMeth S X .list (.ref a) .index [.int k]
 | indexL {ns:List Int} {k:Int} (hl:ns.length<=big) (hk:k∈ns) (q:Q (.int (ns.idxOf k)) H):WMeth S X .lst (.lst (ns.map V.int)) .index [.int k]
 | push {a:Addr} {bs:List UInt8} {n:Nat} (h:H a=some (.barr bs)) (hn:n < 256) (hl:bs.length<=big) (q:Q .none (H.set a (.barr (bs++[UInt8.ofNat n])))):WMeth S X .barr (.ref a) .append [iv n]
 | get {a:Addr} {kvs:List (Int×V)} {k:Int} {d:V} (h:H a=some (.dict kvs)) (q:Q ((dget kvs k).getD d) H):WMeth S X .dict (.ref a) .get [.int k,d]
 | join {ss:List (List Nat)} (h1:ss.length<=big) (h2:ss.flatten.length<=big) (q:Q (.str ss.flatten) H):WMeth S X .str (.str []) .join [.lst (ss.map V.str)]
end
noncomputable def setAll:Loc->List Nat->List V->Option Loc
 | m,[],[]=>some m
 | m,i::is,v::vs=>setAll (m.set i (some v)) is vs
 | _,_,_=>none
inductive WTgt (m:Loc) (k:Loc->Prop):Tgt->V->Prop
 | var {i:Nat} {x:V} (q:k (m.set i (some x))):WTgt m k (.var i) x
 | tup {is:List Nat} {vs:List V} {m':Loc} (h:setAll m is vs=some m') (q:k m'):WTgt m k (.tup is) (.tup vs)
noncomputable def capsOf (m:Loc) (caps:List (Option Nat)):Loc:=caps.map fun c=>match c with
 | some i=>lget m i
 | none=>none
def Sub (H' H:AH):Prop:=∀ a o,H' a=some o->H a=some o
noncomputable def rangeI (a b c:Int):List Int:=(List.range (if c=0 then 0 else ((b - a+c - 1) / c).toNat)).map fun (i:Nat)=>a+(i:Int)*c
section
variable (H:AH) (K:List V->(AH->Prop)->AH->Prop)
inductive WSeq:V->Prop
 | lst {xs:List V} (q:K xs (fun _=>True) H):WSeq (.lst xs)
 | bytes {b:List UInt8} (q:K (il (b.map (·.toNat))) (fun _=>True) H):WSeq (.bytes b)
 | list {a:Addr} {xs:List V} (h:H a=some (.list xs)) (q:K xs (fun H'=>H' a=some (.list xs)) H):WSeq (.ref a)
 | dict {a:Addr} {kvs:List (Int×V)} (h:H a=some (.dict kvs)) (q:K (kvs.map fun p=>.int p.1) (fun H'=>H' a=some (.dict kvs)) H):WSeq (.ref a)
inductive WRange:List V->Prop
 | one {n:Nat} (h:n < 2 ^ 62) (q:K (il (List.range n)) (fun _=>True) H):WRange [iv n]
 | two {a b:Nat} (ha:a < 2 ^ 62) (hb:b < 2 ^ 62) (q:K (il (List.range' a (b - a))) (fun _=>True) H):WRange [iv a,iv b]
 | three {a b c:Nat} (ha:a < 2 ^ 62) (hb:b < 2 ^ 62) (h0:0 < c) (hc:c < 2 ^ 62) (q:K (il (List.range' a ((b+c - 1 - a) / c) c)) (fun _=>True) H):WRange [iv a,iv b,iv c]
inductive WEnum:V->Prop
 | lst {xs:List V} (hl:xs.length<=big) (q:K (xs.zipIdx.map fun p=>.tup [iv p.2,p.1]) (fun _=>True) H):WEnum (.lst xs)
 | bytes {b:List UInt8} (hl:b.length<=big) (q:K (b.zipIdx.map fun p=>.tup [iv p.2,iv p.1.toNat]) (fun _=>True) H):WEnum (.bytes b)
inductive WZip:V->V->Prop
 | mk {xs ys:List V} (q:K ((xs.zip ys).map fun p=>.tup [p.1,p.2]) (fun _=>True) H):WZip (.lst xs) (.lst ys)
end
structure Gath (t:Tgt) (items:List V) (guard:AH->Prop) (m:Loc) (w:Loc->AH->List V->(List V->AH->Prop)->Prop) (lim:Nat) (acc0:List V) (K:List V->AH->Prop) (H:AH):Prop where
 len:items.length<=lim
 ex:∃ I:Nat->List V->AH->Prop,I 0 acc0 H /\
  (∀ i x acc HD,items[i]?=some x->I i acc HD->guard HD/\WTgt m (fun mD=>w mD HD acc fun acc' HF=>∃ HG,Sub HG HF/\I (i+1) acc' HG) t x)/\∀ acc HD,I items.length acc HD->guard HD/\K acc HD
section
variable (S:Specs)
mutual
noncomputable def wpE (X:AH->Prop):CE->Loc->AH->(V->AH->Prop)->Prop
 | .lit l,m,H,Q=>(match l with
  | .none=>Q .none H
  | .bool b=>Q (.bool b) H
  | .int i=>Q (.int i) H
  | .str s=>Q (.str s) H)
 | .var i,m,H,Q=>(match lget m i with
  | some v=>Q v H
  | none=>False)
 | .bin op a b,m,H,Q=>wpE X a m H fun x H=>wpE X b m H fun y H=>WBin H Q op x y
 | .rep x n,m,H,Q=>wpE X x m H fun v H=>wpE X n m H fun k H=>WRep H Q v k
 | .neg a,m,H,Q=>wpE X a m H fun x H=>WNeg H Q x
 | .not a,m,H,Q=>False
 | .boolop isAnd es,m,H,Q=>wpBool X isAnd es m H Q
 | .cmp a ops es,m,H,Q=>wpE X a m H fun x H=>wpChain X x ops es m H fun b H=>Q (.bool b) H
 | .ite t a b,m,H,Q=>wpT X t m H fun c H=>(c=true->wpE X a m H Q)/\(c=false->wpE X b m H Q)
 | .flist es,m,H,Q=>wpEs X es m H fun vs H=>Q (.lst vs) H
 | .mlist es,m,H,Q=>wpEs X es m H fun vs H=>wpFresh H Q (.list vs)
 | .tup es,m,H,Q=>wpEs X es m H fun vs H=>Q (.tup vs) H
 | .dict0,m,H,Q=>wpFresh H Q (.dict [])
 | .call f args,m,H,Q=>wpEs X args m H fun vs H=>S f vs H Q X
 | .bcall f args,m,H,Q=>wpEs X args m H fun vs H=>WBcall H Q f vs
 | .meth o nm args,m,H,Q=>wpE X o m H fun v H=>∃ k,MOk H v nm k/\wpEs X args m H fun vs H'=>WMeth H' Q S X k v nm vs
 | .attr o n,m,H,Q=>wpE X o m H fun v H=>WAttr H Q v n
 | .sub o i,m,H,Q=>wpE X o m H fun v H=>wpE X i m H fun k H=>WSub H Q v k
 | .slice o lo hi,m,H,Q=>wpE X o m H fun v H=>wpE X lo m H fun l H=>wpE X hi m H fun u H=>WSlice H Q v l u
 | .comp1 elt t src conds caps,m,H,Q=>wpSrc X src m H fun items guard HC=>Gath t items guard (capsOf m caps) (fun mD HD acc K=>wpConds (fun _=>False) conds mD HD fun b HE=>(b=true->wpE (fun _=>False) elt mD HE fun v HF=>K (acc++[v]) HF)/\(b=false->K acc HE)) big [] (fun acc H=>Q (.lst acc) H) HC
 | .comp2 elt t src t' src' caps,m,H,Q=>wpSrc X src m H fun items guard HC=>Gath t items guard (capsOf m caps) (fun mD HD acc K=>wpSrc (fun _=>False) src' mD HD fun items' guard' HE =>
   Gath t' items' guard' mD (fun mF HF acc' K'=>wpE (fun _=>False) elt mF HF fun v HH=>K' (acc'++[v]) HH) 1000 acc K HE) 1000 [] (fun acc H=>Q (.lst acc) H) HC
noncomputable def wpEs (X:AH->Prop):List CE->Loc->AH->(List V->AH->Prop)->Prop
 | [],m,H,Q=>Q [] H
 | e::r,m,H,Q=>wpE X e m H fun v H=>wpEs X r m H fun vs H=>Q (v::vs) H
noncomputable def wpBool (X:AH->Prop) (isAnd:Bool):List CE->Loc->AH->(V->AH->Prop)->Prop
 | [],m,H,Q=>False
 | [e],m,H,Q=>wpE X e m H Q
 | e::r,m,H,Q=>wpE X e m H fun v H=>WTru H (fun b H=>(b=isAnd->wpBool X isAnd r m H Q)/\(b≠isAnd->Q (.bool b) H)) v
noncomputable def wpChain (X:AH->Prop):V->List CmpOp->List CE->Loc->AH->(Bool->AH->Prop)->Prop
 | x,[op],[e],m,H,Q=>wpE X e m H fun y H=>WCmp H Q op x y
 | x,op::op'::ops,e::e'::r,m,H,Q=>wpE X e m H fun y H=>WCmp H (fun b H=>(b=true->wpChain X y (op'::ops) (e'::r) m H Q)/\(b=false->Q false H)) op x y
 | _,_,_,m,H,Q=>False
noncomputable def wpT (X:AH->Prop):CE->Loc->AH->(Bool->AH->Prop)->Prop
 | .not a,m,H,Q=>wpT X a m H fun b H=>Q (!b) H
 | .boolop isAnd es,m,H,Q=>wpTs X isAnd es m H Q
 | .ite t a b,m,H,Q=>wpT X t m H fun c H=>(c=true->wpT X a m H Q)/\(c=false->wpT X b m H Q)
 | .cmp a ops es,m,H,Q=>wpE X a m H fun x H=>wpChain X x ops es m H Q
 | .var i,m,H,Q=>(match lget m i with
  | some v=>WTru H Q v
  | none=>False)
 | .call f args,m,H,Q=>wpEs X args m H fun vs H=>S f vs H (fun v H=>WTru H Q v) X
 | .bcall f args,m,H,Q=>wpEs X args m H fun vs H=>WBcall H (fun v H=>WTru H Q v) f vs
 | .sub o i,m,H,Q=>wpE X o m H fun v H=>wpE X i m H fun k H=>WSub H (fun v H=>WTru H Q v) v k
 | _,m,H,Q=>False
noncomputable def wpTs (X:AH->Prop) (isAnd:Bool):List CE->Loc->AH->(Bool->AH->Prop)->Prop
 | [],m,H,Q=>Q isAnd H
 | e::r,m,H,Q=>wpT X e m H fun b H=>(b=isAnd->wpTs X isAnd r m H Q)/\(b≠isAnd->Q (!isAnd) H)
noncomputable def wpConds (X:AH->Prop):List CE->Loc->AH->(Bool->AH->Prop)->Prop
 | [],m,H,Q=>Q true H
 | [e],m,H,Q=>wpT X e m H Q
 | _::_,m,H,Q=>False
noncomputable def wpSrc (X:AH->Prop):Src->Loc->AH->(List V->(AH->Prop)->AH->Prop)->Prop
 | .seq e,m,H,Q=>wpE X e m H fun v H=>WSeq H Q v
 | .range es,m,H,Q=>wpEs X es m H fun vs H=>WRange H Q vs
 | .enum e,m,H,Q=>wpE X e m H fun v H=>WEnum H Q v
 | .zip a b,m,H,Q=>wpE X a m H fun v H=>wpE X b m H fun u H=>WZip H Q v u
end
end
section
variable (S:Specs)
def wpDst (X:Loc->AH->Prop) (d:Dst) (x:V) (m:Loc) (H:AH) (k:Loc->AH->Prop):Prop:=match d with
 | .var i=>k (m.set i (some x)) H
 | .tup is=>WTgt m (fun m=>k m H) (.tup is) x
 | .attr o n=>wpE S (X m) o m H fun v H=>WPutA H x (k m) v n
 | .sub o i=>wpE S (X m) o m H fun v H=>wpE S (X m) i m H fun j H=>WPutS H x (k m) v j
def Wk (I:Loc->AH->Prop):Loc->AH->Prop:=fun m H=>∃ H',Sub H' H/\I m H'
structure Turns (t:Tgt) (items:List V) (guard:AH->Prop) (w:Loc->AH->(Loc->AH->Prop)->Prop) (N:Loc->AH->Prop) (m:Loc) (H:AH):Prop where
 len:items.length<=big
 ex:∃ I:Nat->Loc->AH->Prop,I 0 m H/\(∀ i x mC HD,items[i]?=some x->I i mC HD->guard HD/\WTgt mC (fun mD=>w mD HD (Wk (I (i+1)))) t x)/\∀ mC HD,I items.length mC HD->guard HD/\N mC HD
structure Whiles (tw:Loc->AH->(Bool->AH->Prop)->Prop) (w:Loc->AH->(Loc->AH->Prop)->Prop) (N:Loc->AH->Prop) (m:Loc) (H:AH):Prop where
 ex:∃ I:Nat->Loc->AH->Prop,(∃ n,I n m H)/\∀ n mC HD,I n mC HD->tw mC HD fun c HE=>(c=true->w mC HE fun mE HF=>∃ n',n' < n/\Wk (I n') mE HF)/\(c=false->N mC HE)
def Caught (xs:List Nat) (R:V->AH->Prop):Loc->AH->Prop:=fun m H=>match xs.mapM (fun i=>lget m i) with
 | some vs=>R (.tup vs) H
 | none=>False
mutual
noncomputable def wpS (X:Loc->AH->Prop):CS->Loc->AH->(Loc->AH->Prop)->(V->AH->Prop)->Prop
 | .assign d e,m,H,N,R=>wpE S (X m) e m H fun v H=>wpDst S X d v m H N
 | .aug (.var i) op e,m,H,N,R=>(match lget m i with
  | some u=>wpE S (X m) e m H fun v H=>WAug H (fun r H=>N (m.set i (some r)) H) op u v
  | none=>False)
 | .aug (.attr o n) op e,m,H,N,R=>wpE S (X m) o m H fun v H=>WAttr H (fun u H=>wpE S (X m) e m H fun y H=>WAug H (fun r H=>WPutA H r (N m) v n) op u y) v n
 | .aug (.sub o i) op e,m,H,N,R=>wpE S (X m) o m H fun v H=>wpE S (X m) i m H fun j H=>WSub H (fun u H=>wpE S (X m) e m H fun y H=>WAug H (fun r H=>WPutS H r (N m) v j) op u y) v j
 | .aug (.tup _) op e,m,H,N,R=>False
 | .expr e,m,H,N,R=>wpE S (X m) e m H fun v H=>N m H
 | .ret e,m,H,N,R=>wpE S (X m) e m H R
 | .retNone,m,H,N,R=>R .none H
 | .ifs t a b,m,H,N,R=>wpT S (X m) t m H fun c H=>(c=true->wpSs X a m H N R)/\(c=false->wpSs X b m H N R)
 | .whiles t body,m,H,N,R=>Whiles (fun m H K=>wpT S (fun _=>False) t m H K) (fun m H K=>wpSs (fun _ _=>False) body m H K R) N m H
 | .fors t src body,m,H,N,R=>wpSrc S (X m) src m H fun items guard HC=>Turns t items guard (fun m H K=>wpSs X body m H K R) N m HC
 | .raiseCut,m,H,N,R=>X m H
 | .stuck,m,H,N,R=>False
 | .tryCut body xs,m,H,N,R=>wpSs (Caught xs R) body m H N R
noncomputable def wpSs (X:Loc->AH->Prop):List CS->Loc->AH->(Loc->AH->Prop)->(V->AH->Prop)->Prop
 | [],m,H,N,R=>N m H
 | c::r,m,H,N,R=>wpS X c m H (fun m H=>wpSs X r m H N R) R
end
def wpBody (body:List CS) (m:Loc) (H:AH) (Q:V->AH->Prop) (X:AH->Prop):Prop:=wpSs S (fun _ H=>X H) body m H (fun _ H=>Q .none H) Q
end
structure Sc where
 names:List Str
 scope:Scope
inductive G | fn (f:Fn) | blt (b:BFn) | num (i:Int)
noncomputable def G.ctorIdx (x:G):Nat:=@G.casesOn (fun _=>Nat) x (fun _=>0) (fun _=>1) (fun _=>2)
noncomputable def globals:List (Str×G):=[(Str.ofString "counts_by_length",G.fn .countsByLength),(Str.ofString "room_of",G.fn .roomOf),(Str.ofString "check_lengths",G.fn .checkLengths),(Str.ofString "greatest_length",G.fn .greatestLength),
 (Str.ofString "first_codes",G.fn .firstCodes),(Str.ofString "canonical",G.fn .canonical),(Str.ofString "turned",G.fn .turned),(Str.ofString "by_length",G.fn .byLength),(Str.ofString "PrefixReader",G.fn .mkPReader),(Str.ofString "TableReader",G.fn .mkTReader),(Str.ofString "LesserTable",G.fn .mkLTable),
 (Str.ofString "PrefixWriter",G.fn .mkPWriter),(Str.ofString "LowReader",G.fn .mkLReader),(Str.ofString "LowWriter",G.fn .mkLWriter),(Str.ofString "need_count",G.fn .needCount),(Str.ofString "need_value",G.fn .needValue),(Str.ofString "end_of",G.fn .endOf),(Str.ofString "gathered",G.fn .gathered),
 (Str.ofString "_law_jar",G.fn .lawJar),(Str.ofString "_law_pick",G.fn .lawPick),(Str.ofString "_law_lengths",G.fn .lawLengths),(Str.ofString "_law_octet",G.fn .lawOctet),(Str.ofString "_law_codes",G.fn .lawCodes),(Str.ofString "_law_read",G.fn .lawRead),(Str.ofString "_law_said_right",G.fn .lawSaid),
 (Str.ofString "_law_many_right",G.fn .lawMany),(Str.ofString "_law_written_right",G.fn .lawWritten),(Str.ofString "_law_torn_right",G.fn .lawTorn),(Str.ofString "len",G.blt .len),(Str.ofString "max",G.blt .max),(Str.ofString "min",G.blt .min),(Str.ofString "sorted",G.blt .sorted),(Str.ofString "sum",G.blt .sum),(Str.ofString "list",G.blt .list),
 (Str.ofString "bytes",G.blt .bytes),(Str.ofString "bytearray",G.blt .bytearray),(Str.ofString "MOST_BITS",G.num 16)]
noncomputable def ats:List (Str×At):=[(Str.ofString "most",At.most),(Str.ofString "counts",At.counts),(Str.ofString "symbols",At.symbols),(Str.ofString "root",At.root),(Str.ofString "sizes",At.sizes),(Str.ofString "lesser",At.lesser),(Str.ofString "more",At.more),(Str.ofString "lengths",At.lengths),(Str.ofString "codes",At.codes),(Str.ofString "data",At.data),(Str.ofString "stop",At.stop),
 (Str.ofString "position",At.position),(Str.ofString "made",At.made),(Str.ofString "held",At.held),(Str.ofString "held_bits",At.heldBits)]
noncomputable def mnames:List (Str×MName):=[(Str.ofString "append",MName.append),(Str.ofString "insert",MName.insert),(Str.ofString "index",MName.index),(Str.ofString "get",MName.get),(Str.ofString "join",MName.join),(Str.ofString "bit",MName.bit),(Str.ofString "bits",MName.bits),(Str.ofString "peek",MName.peek),(Str.ofString "skip",MName.skip),(Str.ofString "left",MName.left),(Str.ofString "read",MName.read),(Str.ofString "enter",MName.enter),
 (Str.ofString "cost",MName.cost),(Str.ofString "write",MName.write),(Str.ofString "code",MName.code),(Str.ofString "size",MName.size),(Str.ofString "done",MName.done)]
noncomputable def Sc.var (sc:Sc) (x:Str):Option Nat:=match sc.scope.names.lookup x with
 | some .local | some .cell | some .free=>sc.names.findIdx? (· == x)
 | _=>none
noncomputable def Sc.glob (sc:Sc) (x:Str):Option G:=match sc.scope.names.lookup x with
 | some .globalImplicit=>globals.lookup x
 | _=>none
noncomputable def ownNames (scope:Scope):List Str:=(scope.names.filter fun p=>(p.2 == .local || p.2 == .cell || p.2 == .free)&&p.1 != (".0" : Str)).map (·.1)
noncomputable def Sc.inner (sc:Sc) (scope:Scope):Sc:={ names:=ownNames scope,scope:={ scope with names:=scope.names.map fun p=>if p.2 == .free&&sc.scope.names.lookup p.1 == some .cell then (p.1,.cell) else p } }
noncomputable def Sc.caps (sc:Sc) (scope:Scope):List (Option Nat):=(ownNames scope).map fun x=>if scope.names.lookup x == some .free then sc.names.findIdx? (· == x) else none
noncomputable def Sc.fitsComp (sc:Sc) (scope:Scope):Bool:=scope.kind == .function&&scope.names.all (fun p=>p.2 != .cell)&&scope.names.all (fun p=>p.2 == .local->scope.names.lookup p.1 == some .local) &&
 scope.names.all (fun p=>p.2 == .free→sc.scope.names.lookup p.1 == some .cell&&scope.names.lookup p.1 == some .free)&&scope.names.all (fun p=>p.1 != ("__classdict__" : Str))&&decide (ownNames scope).Nodup
noncomputable def mapO {α β:Type} (f:α->Option β):List α->Option (List β)
 | []=>some []
 | a::r=>do return (<- f a)::(<- mapO f r)
noncomputable def Sc.lvar (sc:Sc) (x:Str):Option Nat:=if sc.scope.names.lookup x == some .local then sc.var x else none
noncomputable def nmOf:Expr->Option Str
 | .Name x _=>some x
 | _=>none
noncomputable def isNm (x:Str) (e:Expr):Bool:=match nmOf e with
 | some y=>x == y
 | none=>false
noncomputable def Sc.tgt (sc:Sc):Expr->Option Tgt
 | .Name x _=>(sc.lvar x).map .var
 | .Tuple es _ _=>(mapO (fun e=>(nmOf e).bind sc.lvar) es).map .tup
 | _=>none
noncomputable def plainArg (e:Expr):Bool:=!(Nat.beq e.ctorIdx 22)
noncomputable def okList (es:List Expr):Bool:=es.all plainArg&&decide (es.length<=100)
noncomputable def notCall (e:Expr):Bool:=!(Nat.beq e.ctorIdx 16)
noncomputable def notSet (e:Expr):Bool:=!(Nat.beq e.ctorIdx 7)
noncomputable def Sc.isGlob (sc:Sc) (x y:Str):Bool:=x == y&&sc.scope.names.lookup x == some .globalImplicit
noncomputable def callOf:Expr->Option (Expr×List Expr×List Keyword)
 | .Call f args kws _=>some (f,args,kws)
 | _=>none
noncomputable def strC:Const->Option Str
 | .str s=>some s
 | _=>none
noncomputable def conOf:Expr->Option Const
 | .Constant c _ _=>some c
 | _=>none
noncomputable def tupOf:Expr->Option (List Expr)
 | .Tuple es _ _=>some es
 | _=>none
noncomputable def retOf:Stmt->Option Expr
 | .Return v _=>v
 | _=>none
noncomputable def one {α:Type}:List α->Option α
 | [a]=>some a
 | _=>none
theorem zbS {e:Expr} {x:Str}:nmOf e=some x->∃ p,e=.Name x p:=by
 induction e using Expr.casesOn with
 | Name y p=>exact fun h=>⟨p,congrArg (fun z=>Expr.Name z p) (Option.some.inj h)⟩
 | _=>exact absN
theorem zhN {e:Expr} {r:Expr×List Expr×List Keyword}:callOf e=some r->∃ p,e=.Call r.1 r.2.1 r.2.2 p:=by
 induction e using Expr.casesOn with
 | Call f a k p=>exact fun h=>⟨p,by rw [<- Option.some.inj h]⟩
 | _=>exact absN
theorem zjr {e:Expr} {c:Const}:conOf e=some c->∃ k p,e=.Constant c k p:=by
 induction e using Expr.casesOn with
 | Constant c k p=>exact fun h=>⟨k,p,by rw [<- Option.some.inj h]⟩
 | _=>exact absN
theorem zim {c:Const} {s:Str}:strC c=some s->c=.str s:=by
 induction c using Const.casesOn with
 | str s=>exact fun h=>congrArg Const.str (Option.some.inj h)
 | _=>exact absN
theorem zjQ {e:Expr} {es:List Expr}:tupOf e=some es->∃ k p,e=.Tuple es k p:=by
 induction e using Expr.casesOn with
 | Tuple es k p=>exact fun h=>⟨k,p,by rw [<- Option.some.inj h]⟩
 | _=>exact absN
theorem zj6 {st:Stmt} {v:Expr}:retOf st=some v->∃ p,st=.Return (some v) p:=by
 induction st using Stmt.casesOn with
 | Return v p=>exact fun h=>⟨p,congrArg (fun z=>Stmt.Return z p) h⟩
 | _=>exact absN
theorem zcb {α:Type} {l:List α} {a:α} (h:one l=some a):l=[a]:=by
 induction l using List.casesOn with
 | nil=>exact absN h
 | cons b r =>
  induction r using List.casesOn with
  | nil=>rw [show b=a from Option.some.inj h]
  | cons=>exact absN h
noncomputable def both {α:Type}:List α->Option (α×α)
 | [a,b]=>some (a,b)
 | _=>none
theorem zh7 {α:Type} {l:List α} {a:α×α} (h:both l=some a):l=[a.1,a.2]:=by
 induction l using List.casesOn with
 | nil=>exact absN h
 | cons x r =>
  induction r using List.casesOn with
  | nil=>exact absN h
  | cons y r =>
   induction r using List.casesOn with
   | nil=>rw [show a=(x,y) from (Option.some.inj h).symm]
   | cons=>exact absN h
noncomputable def nmCall (e:Expr):Option (Str×List Expr):=(callOf e).bind fun r=>(nmOf r.1).bind fun x=>if r.2.2.isEmpty then some (x,r.2.1) else none
theorem zcy {e:Expr} {x:Str} {args:List Expr} (h:nmCall e=some (x,args)):∃ p q,e=.Call (.Name x p) args [] q:=by
 obtain ⟨r,e1,h⟩:=Option.bind_eq_some_iff.mp h
 obtain ⟨y,e2,h⟩:=Option.bind_eq_some_iff.mp h
 obtain ⟨q,z1⟩:=zhN e1
 obtain ⟨p,z2⟩:=zbS e2
 split at h
 ·rename_i z3
  have z4:=Option.some.inj h
  rw [z2,List.isEmpty_iff.mp z3,show y=x from congrArg Prod.fst z4,show r.2.1=args from congrArg Prod.snd z4] at z1
  exact ⟨p,q,z1⟩
 ·exact absN h
noncomputable def Sc.srcCall (sc:Sc) (f:Expr->Option CE) (e:Expr) (x:Str) (args:List Expr):Option Src :=
 if sc.isGlob x "range" then (if args.all plainArg then (mapO f args).map .range else none)
 else if sc.isGlob x "enumerate" then (one args).bind fun a=>if plainArg a then (f a).map .enum else none
 else if sc.isGlob x "zip" then (both args).bind fun r=>if plainArg r.1&&plainArg r.2 then do return .zip (← f r.1) (← f r.2) else none
 else (f e).map .seq
noncomputable def Sc.srcBy (sc:Sc) (f:Expr->Option CE) (e:Expr):Option Src:=match nmCall e with
 | some r=>sc.srcCall f e r.1 r.2
 | none=>if notSet e then (f e).map .seq else none
noncomputable def Tgt.idx:Tgt->List Nat
 | .var i=>[i]
 | .tup is=>is
noncomputable def Tgt.apart (t t':Tgt):Bool:=t'.idx.all fun i=>!(t.idx.contains i)
noncomputable def Src.okT:Src->Tgt->Bool
 | .enum _,.var _=>false
 | .zip _ _,.var _=>false
 | _,_=>true
noncomputable def constCE:Const->Option CE
 | .none=>some (.lit .none)
 | .bool b=>some (.lit (.bool b))
 | .int i=>some (.lit (.int i))
 | .str s=>some (.lit (.str s.cps.toList))
 | _=>none
noncomputable def Sc.nameCE (sc:Sc) (x:Str):Option CE:=if x == ("__debug__" : Str) then none else (match sc.var x with
 | some i=>some (.var i)
 | none=>(match sc.glob x with
  | some (.num i)=>some (.lit (.int i))
  | _=>none))
noncomputable def isMult:Operator->Bool
 | .Mult=>true
 | _=>false
noncomputable def soleOf:Expr->Option Expr
 | .List es _=>(match es with
  | [x]=>if plainArg x then some x else none
  | _=>none)
 | _=>none
noncomputable def binCE (f:Expr->Option CE) (l:Expr) (op:Operator) (r:Expr):Option CE:=match (if isMult op then soleOf l else none) with
 | some x=>do return .rep (<- f x) (<- f r)
 | none=>do return .bin op (<- f l) (<- f r)
noncomputable def unCE (f:Expr->Option CE) (x:Expr):UnaryOp->Option CE
 | .Not=>(f x).map .not
 | .USub=>(f x).map .neg
 | _=>none
noncomputable def Sc.isCE (sc:Sc) (f:Expr->Option CE) (e t:Expr):Option CE:=match nmOf t with
 | some t=>if sc.isGlob t "int" then (f e).map fun c=>.bcall .isInt [c] else if sc.isGlob t "bool" then (f e).map fun c=>.bcall .isBool [c] else none
 | none=>none
noncomputable def Sc.funCE (sc:Sc) (f:Expr->Option CE) (x:Str) (args:List Expr):Option CE:=if args.all plainArg then (match sc.glob x with
 | some (.fn g)=>(mapO f args).map (.call g)
 | some (.blt b)=>(mapO f args).map (.bcall b)
 | _=>if sc.isGlob x "isinstance" then (match args with
   | [e,t]=>sc.isCE f e t
   | _=>none)
  else none)
 else none
noncomputable def methCE (f:Expr->Option CE) (o:Expr) (nm:Str) (apos:Pos) (args:List Expr) (pos:Pos):Option CE:=if apos.endLine == pos.line&&args.length < 29&&notCall o&&args.all plainArg then do return .meth (<- f o) (<- mnames.lookup nm) (<- mapO f args) else none
noncomputable def Sc.callCE (sc:Sc) (f:Expr->Option CE) (fn:Expr) (args:List Expr) (kws:List Keyword) (pos:Pos):Option CE:=match kws with
 | []=>(match fn with
  | .Name x _=>sc.funCE f x args
  | .Attribute o nm apos=>methCE f o nm apos args pos
  | _=>none)
 | _=>none
noncomputable def sliceCE (f:Expr->Option CE) (o:Expr) (lo hi st:Option Expr):Option CE:=match st with
 | some _=>none
 | none=>(match lo with
  | none=>(match hi with
   | some hi=>do return .slice (<- f o) (.lit .none) (<- f hi)
   | none=>none)
  | some lo=>(match hi with
   | some _=>none
   | none=>do return .slice (<- f o) (<- f lo) (.lit .none)))
noncomputable def subCE (f:Expr->Option CE) (o i:Expr):Option CE:=match i with
 | .Slice lo hi st _=>sliceCE f o lo hi st
 | i=>do return .sub (<- f o) (<- f i)
noncomputable def Sc.comp1CE (sc:Sc) (f:Sc->Expr->Option CE) (elt:Expr) (g:Comprehension) (scope:Scope):Option CE:=if g.is_async=0 then do
  let tg <- (sc.inner scope).tgt g.target
  let sr <- sc.srcBy (f sc) g.iter
  let c <- f (sc.inner scope) elt
  let cs <- mapO (f (sc.inner scope)) g.ifs
  if sr.okT tg then return .comp1 c tg sr cs (sc.caps scope) else none
 else none
noncomputable def Sc.comp2CE (sc:Sc) (f:Sc->Expr->Option CE) (elt:Expr) (g g':Comprehension) (scope:Scope):Option CE:=if g.is_async=0/\g'.is_async=0/\g.ifs.isEmpty=true/\g'.ifs.isEmpty=true then do
  let tg <- (sc.inner scope).tgt g.target
  let sr <- sc.srcBy (f sc) g.iter
  let c <- f (sc.inner scope) elt
  let tg' <- (sc.inner scope).tgt g'.target
  let sr' <- (sc.inner scope).srcBy (f (sc.inner scope)) g'.iter
  if sr.okT tg&&sr'.okT tg'&&tg.apart tg' then return .comp2 c tg sr tg' sr' (sc.caps scope) else none
 else none
noncomputable def Sc.compCE (sc:Sc) (f:Sc->Expr->Option CE) (elt:Expr) (gens:List Comprehension) (scope:Scope):Option CE:=if sc.fitsComp scope then (match gens with
 | [g]=>sc.comp1CE f elt g scope
 | [g,g']=>sc.comp2CE f elt g g' scope
 | _=>none) else none
noncomputable def Sc.ce:Nat->Sc->Expr->Option CE
 | 0,_,_=>none
 | n+1,sc,e=>match e with
  | .Constant c _ _=>constCE c
  | .Name x _=>sc.nameCE x
  | .BoolOp op es _=>(mapO (sc.ce n) es).map (.boolop (op == .And))
  | .BinOp l op r _=>binCE (sc.ce n) l op r
  | .UnaryOp op x _=>unCE (sc.ce n) x op
  | .IfExp t b o _=>do return .ite (<- sc.ce n t) (<- sc.ce n b) (<- sc.ce n o)
  | .List es _=>if okList es then (mapO (sc.ce n) es).map .flist else none
  | .Tuple es _ _=>if okList es then (mapO (sc.ce n) es).map .tup else none
  | .Dict ks vs _=>if ks.isEmpty&&vs.isEmpty then some .dict0 else none
  | .Compare l ops cs _=>if cs.all notSet then do return .cmp (<- sc.ce n l) ops (<- mapO (sc.ce n) cs) else none
  | .Call f args kws pos=>sc.callCE (sc.ce n) f args kws pos
  | .Attribute o nm _=>if notCall o then do return .attr (<- sc.ce n o) (<- ats.lookup nm) else none
  | .Subscript o i _=>subCE (sc.ce n) o i
  | .ListComp elt gens scope _=>sc.compCE (fun sc=>sc.ce n) elt gens scope
  | _=>none
noncomputable def Sc.svar (sc:Sc) (x:Str):Option Nat:=match sc.scope.names.lookup x with
 | some .local | some .cell=>sc.names.findIdx? (· == x)
 | _=>none
noncomputable def Sc.rhs (n:Nat) (sc:Sc) (e:Expr):Option CE:=match e with
 | .List es _=>if okList es then (mapO (sc.ce n) es).map .mlist else none
 | .Tuple es _ _=>if okList es then (mapO (fun e=>match e with
  | .List fs _=>if okList fs then (mapO (sc.ce n) fs).map .mlist else none
  | e=>sc.ce n e) es).map .tup else none
 | e=>sc.ce n e
noncomputable def notSlice (e:Expr):Bool:=!(Nat.beq e.ctorIdx 26)
noncomputable def Sc.dst (n:Nat) (sc:Sc) (e:Expr):Option Dst:=match e with
 | .Name x _=>(sc.svar x).map .var
 | .Tuple es _ _=>(mapO (fun e=>(nmOf e).bind sc.svar) es).map .tup
 | .Attribute o nm _=>do return .attr (<- sc.ce n o) (<- ats.lookup nm)
 | .Subscript o i _=>if notSlice i then do return .sub (<- sc.ce n o) (<- sc.ce n i) else none
 | _=>none
inductive DstI (n:Nat) (sc:Sc):Expr->Dst->Prop
 | var {x:Str} {p:Pos} {i:Nat} (h:sc.svar x=some i):DstI n sc (.Name x p) (.var i)
 | tup {es:List Expr} {k:Nat} {p:Pos} {is:List Nat} (h:mapO (fun e=>(nmOf e).bind sc.svar) es=some is):DstI n sc (.Tuple es k p) (.tup is)
 | attr {o:Expr} {nm:Str} {p:Pos} {co:CE} {nm':At} (h1:sc.ce n o=some co) (h2:ats.lookup nm=some nm'):DstI n sc (.Attribute o nm p) (.attr co nm')
 | sub {o i:Expr} {p:Pos} {co ci:CE} (h0:notSlice i=true) (h1:sc.ce n o=some co) (h2:sc.ce n i=some ci):DstI n sc (.Subscript o i p) (.sub co ci)
theorem zdE {α β:Type} {a:Option α} {f:α->β} {b:β} (h:a.map f=some b):∃ x,a=some x/\f x=b:=Option.map_eq_some_iff.mp h
theorem ze9 {n:Nat} {sc:Sc} {e:Expr} {d:Dst}:sc.dst n e=some d->DstI n sc e d:=by
 induction e using Expr.casesOn with
 | Name x p=>exact fun h=>have ⟨_,h1,h2⟩:=zdE (a:=sc.svar x) (f:=Dst.var) h; h2 ▸ .var h1
 | Tuple es k p=>exact fun h=>have ⟨_,h1,h2⟩:=zdE (a:=mapO (fun e=>(nmOf e).bind sc.svar) es) (f:=Dst.tup) h; h2 ▸ .tup h1
 | Attribute o nm p =>
  intro h
  obtain ⟨co,h1,h⟩:=Option.bind_eq_some_iff.mp (show ((sc.ce n o).bind fun x=>(ats.lookup nm).bind fun y=>some (Dst.attr x y))=some d from h)
  obtain ⟨nm',h2,h⟩:=Option.bind_eq_some_iff.mp h
  exact Option.some.inj h ▸ .attr h1 h2
 | Subscript o i p =>
  intro h
  have h:(if notSlice i=true then ((sc.ce n o).bind fun x=>(sc.ce n i).bind fun y=>some (Dst.sub x y)) else none)=some d:=h
  cases q:notSlice i with
  | false=>rw [q] at h; exact absN h
  | true =>
   rw [q,if_pos rfl] at h
   obtain ⟨co,h1,h⟩:=Option.bind_eq_some_iff.mp h
   obtain ⟨ci,h2,h⟩:=Option.bind_eq_some_iff.mp h
   exact Option.some.inj h ▸ .sub q h1 h2
 | _=>exact absN
theorem zfU {sc:Sc} {x:Str} {i:Nat}:sc.var x=some i->sc.names.findIdx? (· == x)=some i:=by
 unfold Sc.var
 generalize sc.scope.names.lookup x=o
 induction o using Option.casesOn with
 | none=>exact absN
 | some k=>induction k using NameKind.casesOn <;> first | exact id | exact absN
theorem zdF {sc:Sc} {x:Str} {i:Nat}:sc.svar x=some i->sc.var x=some i/\(sc.scope.names.lookup x=some .local∨sc.scope.names.lookup x=some .cell):=by
 unfold Sc.svar Sc.var
 generalize sc.scope.names.lookup x=o
 induction o using Option.casesOn with
 | none=>exact absN
 | some k=>induction k using NameKind.casesOn <;> first | exact absN | exact fun h=>⟨h,.inl rfl⟩ | exact fun h=>⟨h,.inr rfl⟩
inductive TgtI (sc:Sc):Expr->Tgt->Prop
 | var {x:Str} {p:Pos} {i:Nat} (h:sc.lvar x=some i):TgtI sc (.Name x p) (.var i)
 | tup {es:List Expr} {k:Nat} {p:Pos} {is:List Nat} (h:mapO (fun e=>(nmOf e).bind sc.lvar) es=some is):TgtI sc (.Tuple es k p) (.tup is)
theorem zfd {sc:Sc} {e:Expr} {d:Tgt}:sc.tgt e=some d->TgtI sc e d:=by
 induction e using Expr.casesOn with
 | Name x p=>exact fun h=>have ⟨_,h1,h2⟩:=zdE (a:=sc.lvar x) (f:=Tgt.var) h; h2 ▸ .var h1
 | Tuple es k p=>exact fun h=>have ⟨_,h1,h2⟩:=zdE (a:=mapO (fun e=>(nmOf e).bind sc.lvar) es) (f:=Tgt.tup) h; h2 ▸ .tup h1
 | _=>exact absN
noncomputable def swapOk (t v:Expr):Bool:=match t,v with
 | .Tuple _ _ _,.Tuple vs _ _=>!(vs.all (constantsAlone 8)) || vs.all (foldedForSure 8)
 | _,_=>true
noncomputable def isListComp (e:Expr):Bool:=Nat.ble 8 e.ctorIdx&&Nat.ble e.ctorIdx 10
noncomputable def Sc.hvar (sc:Sc) (x:Str):Option Nat:=if x == ("__debug__" : Str) then none else sc.var x
noncomputable def Sc.hdl1 (sc:Sc):ExceptHandler->Option (List Nat)
 | .ExceptHandler t nm b _=>if nm.isNone then (t.bind nmOf).bind fun x=>((one b).bind retOf).bind fun v=>(tupOf v).bind fun es=>if sc.isGlob x "CutShort"&&decide (es.length≤100) then mapO (fun e=>(nmOf e).bind sc.hvar) es else none else none
noncomputable def Sc.hdl (sc:Sc) (l:List ExceptHandler):Option (List Nat):=(one l).bind sc.hdl1
theorem zjk {sc:Sc} {l:List ExceptHandler} {xs:List Nat} (h:sc.hdl l=some xs):∃ x p1 es k p2 p3 p4,l=[.ExceptHandler (some (.Name x p1)) none [.Return (some (.Tuple es k p2)) p3] p4]∧(sc.isGlob x "CutShort"&&decide (es.length≤100))=true∧mapO (fun e=>(nmOf e).bind sc.hvar) es=some xs:=by
 obtain ⟨h0,e1,h⟩:=Option.bind_eq_some_iff.mp h
 obtain rfl:=zcb e1
 obtain ⟨t,nm,b,p4⟩:=h0
 induction nm using Option.casesOn with
 | some _=>exact absN h
 | none =>
  obtain ⟨x,e2,h1⟩:=Option.bind_eq_some_iff.mp (show ((t.bind nmOf).bind _)=some xs from h)
  obtain ⟨v,e3,h2⟩:=Option.bind_eq_some_iff.mp h1
  obtain ⟨es,e4,h3⟩:=Option.bind_eq_some_iff.mp h2
  clear h h1 h2 e1
  obtain ⟨tn,e5,e6⟩:=Option.bind_eq_some_iff.mp e2
  obtain ⟨st,e7,e8⟩:=Option.bind_eq_some_iff.mp e3
  obtain ⟨p1,z1⟩:=zbS e6
  obtain ⟨p3,z3⟩:=zj6 e8
  obtain ⟨k,p2,z4⟩:=zjQ e4
  refine ⟨x,p1,es,k,p2,p3,p4,?_,?_⟩
  ·rw [e5,zcb e7,z1,z3,z4]
  ·cases q:(sc.isGlob x "CutShort"&&decide (es.length≤100)) with
   | true=>rw [q] at h3; exact ⟨rfl,h3⟩
   | false=>rw [q] at h3; exact absN h3
noncomputable def Sc.asgCS (n:Nat) (sc:Sc) (ts:List Expr) (v:Expr):Option CS:=match ts with
 | [t]=>if swapOk t v then do return .assign (<- sc.dst n t) (<- sc.rhs n v) else none
 | _=>none
noncomputable def augOk:Expr->Bool
 | .Tuple ..=>false
 | .Subscript _ i _=>notSlice i
 | _=>true
noncomputable def textArg (l:List Expr):Bool:=(((one l).bind conOf).bind strC).isSome
noncomputable def Sc.cutCall (sc:Sc) (e:Expr):Bool:=match nmCall e with
 | some r=>sc.isGlob r.1 "CutShort"&&textArg r.2
 | none=>false
noncomputable def Sc.isCut (sc:Sc):Option Expr->Option Expr->Bool
 | some e,none=>sc.cutCall e
 | _,_=>false
noncomputable def Sc.cs:Nat->Sc->Stmt->Option CS
 | 0,_,_=>none
 | n+1,sc,st=>match st with
  | .Assign ts v _=>sc.asgCS n ts v
  | .AugAssign t op v _=>if augOk t then do return .aug (<- sc.dst n t) op (<- sc.ce n v) else none
  | .Expr v _=>if isListComp v then none else (sc.ce n v).map .expr
  | .Return v _=>(match v with
   | some v=>(sc.rhs n v).map .ret
   | none=>some .retNone)
  | .If t b o _=>do return .ifs (<- sc.ce n t) (<- mapO (sc.cs n) b) (<- mapO (sc.cs n) o)
  | .While t b e _=>if e.isEmpty then do return .whiles (<- sc.ce n t) (<- mapO (sc.cs n) b) else none
  | .For t it b e _=>if e.isEmpty then do
    let tg <- sc.tgt t
    let sr <- sc.srcBy (sc.ce n) it
    let cb <- mapO (sc.cs n) b
    if sr.okT tg then return .fors tg sr cb else none
   else none
  | .Raise e c _=>some (if sc.isCut e c then .raiseCut else .stuck)
  | .Try b hs e f _=>if e.isEmpty&&f.isEmpty then do return .tryCut (<- mapO (sc.cs n) b) (<- sc.hdl hs) else none
  | _=>none
noncomputable def scOf (fd:FuncData):Sc:={ names:=ownNames fd.scope,scope:=fd.scope }
mutual
inductive FrzV (H H':AH):V->V->Prop
 | same (v:V):FrzV H H' v v
 | lst {a:Addr} {vs vs':List V} (h:H a=some (.list vs)) (h':H' a=none) (r:FrzL H H' vs vs'):FrzV H H' (.ref a) (.lst vs')
 | tup {vs vs':List V} (r:FrzL H H' vs vs'):FrzV H H' (.tup vs) (.tup vs')
inductive FrzL (H H':AH):List V->List V->Prop
 | nil:FrzL H H' [] []
 | cons {v v':V} {vs vs':List V} (h:FrzV H H' v v') (r:FrzL H H' vs vs'):FrzL H H' (v::vs) (v'::vs')
end
theorem FrzL.same {H H':AH}:∀ vs,FrzL H H' vs vs
 | []=>.nil
 | v::vs=>.cons (.same v) (FrzL.same vs)
def Back (Q:V->AH->Prop) (v:V) (H:AH):Prop:=∃ v' H',Sub H' H/\FrzV H H' v v'/\Q v' H'
end Mine
end
section
variable {W:Mine.Wd} {frs:List PySem.Env} {H HC HD H' H0 H1:Mine.AH} {s s₁:PySem.Shared} {A:PySem.Around} {X:Mine.AH->Prop} {Q RK R:Mine.V->Mine.AH->Prop} {E:PySem.Value->PySem.Shared->Prop} {h hp:PySem.Heap} {g:Array PySem.GenState} {d:PySem.Drawn} {t lev n p k r l mo r0 i at':Nat} {os:PySem.OsState} {nm q:PySem.Str} {C a b dy dx sy sz ar dz j f rl:PySem.Addr} {N XS NK:Mine.Loc->Mine.AH->Prop} {bs bmB:List PySem.Value} {sn:List PySem.Str} {ab:Bool} {col:Option Bool} {dd:Option PySem.Addr} {k0 k1 k2 k3 k5:Option PySem.Value} {B newId:String} {env:PySem.Env} {S:Mine.Specs} {sc:Mine.Sc} {m:Mine.Loc} {QB:Bool->Mine.AH->Prop} {ls fs es bl done:List Nat} {ps:List PySem.Addr} {tg:Mine.Tgt} {scope:PySem.Scope} {oc:List UInt8} {v3 v4 v5 v6 v2 v7 v8 v0 v1 v9:Option Mine.V} {L:List Mine.V} {kvs:List (Int × Mine.V)} {r1:Mine.V}
section
namespace Mine
inductive Tm | n (k:Nat) | v (i:Nat) | add (a b:Tm) | mulL (k:Nat) (a:Tm) | mulR (a:Tm) (k:Nat)
noncomputable def Tm.ctorIdx (x:Tm):Nat:=@Tm.casesOn (fun _=>Nat) x (fun _=>0) (fun _=>1) (fun _ _=>2) (fun _ _=>3) (fun _ _=>4)
inductive Fm | ff | le (a b:Tm) | lt (a b:Tm) | eq (a b:Tm) | and (p q:Fm) | or (p q:Fm) | not (p:Fm)
noncomputable def Fm.ctorIdx (x:Fm):Nat:=@Fm.casesOn (fun _=>Nat) x 0 (fun _ _=>1) (fun _ _=>2) (fun _ _=>3) (fun _ _=>4) (fun _ _=>5) (fun _=>6)
noncomputable abbrev nthN:List Nat->Nat->Nat
 | [],_=>0
 | x::_,0=>x
 | _::l,i+1=>nthN l i
noncomputable abbrev Tm.den (c:List Nat):Tm->Nat
 | .n k=>k
 | .v i=>nthN c i
 | .add a b=>a.den c+b.den c
 | .mulL k a=>k*a.den c
 | .mulR a k=>a.den c*k
noncomputable abbrev Fm.den (c:List Nat):Fm->Prop
 | .ff=>False
 | .le a b=>a.den c<=b.den c
 | .lt a b=>a.den c < b.den c
 | .eq a b=>a.den c=b.den c
 | .and p q=>p.den c/\q.den c
 | .or p q=>p.den c∨q.den c
 | .not p=>¬ p.den c
noncomputable abbrev Cn:=Int×List Int
noncomputable def ev:List Int->List Int->Int
 | [],_=>0
 | a::as,xs=>a*xs.headD 0+ev as xs.tail
noncomputable def addL:List Int->List Int->List Int
 | [],bs=>bs
 | a::as,bs=>match bs with
  | []=>a::as
  | b::bs=>(a+b)::addL as bs
noncomputable def smul (k:Int) (as:List Int):List Int:=as.map (k*·)
theorem add4 (a b c d:Int):a+b+(c+d)=a+c+(b+d):=(Int.add_assoc ..).trans ((congrArg (a+·) (Int.add_left_comm ..)).trans (Int.add_assoc ..).symm)
theorem ev_add (as bs xs):ev (addL as bs) xs=ev as xs+ev bs xs:=by
 induction as using List.rec generalizing bs xs with
 | nil=>exact (Int.zero_add _).symm
 | cons a as ih =>
  induction bs using List.casesOn with
  | nil=>exact (Int.add_zero _).symm
  | cons b bs=>exact (congr (congrArg HAdd.hAdd (Int.add_mul ..)) (ih ..)).trans (add4 ..)
theorem ziD (k:Int) (as xs):ev (smul k as) xs=k*ev as xs:=by
 induction as using List.rec generalizing xs with
 | nil=>exact (Int.mul_zero _).symm
 | cons a as ih=>exact (congr (congrArg HAdd.hAdd (Int.mul_assoc ..)) (ih ..)).trans (Int.mul_add ..).symm
theorem zmG (as xs):ev as xs=as.headD 0*xs.headD 0+ev as.tail xs.tail:=by
 induction as using List.casesOn with
 | nil=>exact ((Int.add_zero _).trans (Int.zero_mul _)).symm
 | cons a as=>rfl
noncomputable def val (xs:List Int) (c:Cn):Int:=c.1+ev c.2 xs
noncomputable def addC (p q:Cn):Cn:=(p.1+q.1,addL p.2 q.2)
noncomputable def mulC (k:Int) (p:Cn):Cn:=(k*p.1,smul k p.2)
noncomputable def drop (p:Cn):Cn:=(p.1,p.2.tail)
theorem zdR (xs p q):val xs (addC p q)=val xs p+val xs q:=(congrArg (_+·) (ev_add ..)).trans (add4 ..)
theorem zce (xs k p):val xs (mulC k p)=k*val xs p:=(congrArg (_+·) (ziD ..)).trans (Int.mul_add ..).symm
theorem zdT (xs p):val xs p=val xs.tail (drop p)+p.2.headD 0*xs.headD 0:=(congrArg (_+·) (zmG ..)).trans ((Int.add_left_comm ..).trans (Int.add_comm ..))
noncomputable def gcdL (as:List Int):Nat:=as.foldl (fun g a=>g.gcd a.natAbs) 0
noncomputable def tight (c:Cn):Cn:=if 1 < gcdL c.2/\smul (gcdL c.2) (c.2.map (· / (gcdL c.2:Int)))=c.2 then (c.1 / (gcdL c.2:Int),c.2.map (· / (gcdL c.2:Int))) else c
theorem zgk {xs:List Int} {c:Cn} (h:0<=val xs c):0<=val xs (tight c) :=
 iteInduction (motive:=fun d=>0<=val xs d) (fun e =>
  have p:0 < ((gcdL c.2:Nat):Int):=Int.natCast_pos.mpr (Nat.lt_of_succ_lt e.1)
  show 0<=c.1 / (gcdL c.2:Int)+_ from Int.add_mul_ediv_left c.1 _ (Int.ne_of_gt p) ▸ Int.ediv_nonneg (show 0<=c.1+(gcdL c.2:Int)*_ from ziD _ _ xs ▸ e.2.symm ▸ h) (Int.le_of_lt p)) fun _=>h
noncomputable def comb (p q:Cn):Cn:=tight (addC (mulC (-q.2.headD 0) (drop p)) (mulC (p.2.headD 0) (drop q)))
theorem zkw (a b x:Int) : -b*(a*x)+a*(b*x)=0:=by rw [<- Int.mul_assoc,<- Int.mul_assoc,<- Int.add_mul,Int.neg_mul,Int.mul_comm b a,Int.add_left_neg,Int.zero_mul]
theorem zjI {a b x u v:Int} : -b*(u+a*x)+a*(v+b*x)=-b*u+a*v :=
 (congr (congrArg HAdd.hAdd (Int.mul_add ..)) (Int.mul_add ..)).trans ((add4 ..).trans ((congrArg (_+·) (zkw ..)).trans (Int.add_zero _)))
theorem zls {xs:List Int} {p q:Cn} (hp:0<=val xs p) (hq:0<=val xs q) (pa:0 < p.2.headD 0) (qb:q.2.headD 0 < 0):0<=val xs.tail (comb p q) :=
 zgk (by
  rw [zdR,zce,zce,<- zjI,<- zdT,<- zdT]
  exact Int.add_nonneg (Int.mul_nonneg (Int.le_of_lt (Int.neg_pos_of_neg qb)) hp) (Int.mul_nonneg (Int.le_of_lt pa) hq))
def AllC (xs:List Int) (cs:List Cn):Prop:=∀ c∈cs,0<=val xs c
theorem zaj {xs:List Int} {a:Cn} {l:List Cn} (h:0<=val xs a) (k:AllC xs l):AllC xs (a::l):=fun x hx=>(List.mem_cons.mp hx).elim (fun e=>e ▸ h) (k x)
noncomputable def elim (cs:List Cn):List Cn:=cs.foldr (fun p r=>if p.2.headD 0=0 then drop p::r else if 0 < p.2.headD 0 then cs.foldr (fun q r=>if q.2.headD 0 < 0 then comb p q::r else r) r else r) []
theorem zmx {xs:List Int} {cs:List Cn} (h:AllC xs cs):AllC xs.tail (elim cs) :=
 List.foldrRecOn (motive:=AllC xs.tail) cs _ (fun _ h=>nomatch h) fun r hr p hp =>
  iteInduction (motive:=AllC xs.tail) (fun e=>zaj (le_of_le_of_eq (h p hp) ((zdT xs p).trans ((congrArg (fun a=>_+a*_) e).trans ((congrArg (_+·) (Int.zero_mul _)).trans (Int.add_zero _))))) hr) fun _ =>
  iteInduction (motive:=AllC xs.tail) (fun pa=>List.foldrRecOn (motive:=AllC xs.tail) cs _ hr fun r hr q hq =>
   iteInduction (motive:=AllC xs.tail) (fun qb=>zaj (zls (h p hp) (h q hq) pa qb) hr) fun _=>hr) fun _=>hr
noncomputable def fm:Nat->List Cn->Bool
 | 0,cs=>cs.any fun c=>decide (c.1 < 0)&&c.2.isEmpty
 | n+1,cs=>fm n (elim cs)
theorem fm_ok {n:Nat} {xs:List Int} {cs:List Cn} (h:AllC xs cs) (k:fm n cs=true):False:=by
 induction n using Nat.rec generalizing xs cs with
 | zero =>
  exact (List.any_eq_true.mp k).elim fun c k=>(Bool.and_eq_true_iff.mp k.2).elim fun k1 k2=>absurd (h c k.1) (by
   show ¬ 0<=c.1+ev c.2 xs
   rw [List.isEmpty_iff.mp k2]
   exact Int.not_le.mpr ((Int.add_zero c.1).symm ▸ of_decide_eq_true k1))
 | succ n ih=>exact ih (zmx h) k
noncomputable def unit:Nat->List Int
 | 0=>[1]
 | i+1=>0::unit i
noncomputable def lin:Tm->Cn
 | .n k=>(k,[])
 | .v i=>(0,unit i)
 | .add a b=>addC (lin a) (lin b)
 | .mulL k a | .mulR a k=>mulC k (lin a)
noncomputable def ints' (c:List Nat):List Int:=c.map Int.ofNat
theorem ziM (i:Nat) (c:List Nat):0+ev (unit i) (ints' c)=Int.ofNat (nthN c i):=(Int.zero_add _).trans (by
 induction i using Nat.rec generalizing c with
 | zero =>
  show 1*_+(0:Int)=_
  induction c using List.casesOn with
  | nil=>rfl
  | cons x c=>exact (Int.add_zero _).trans (Int.one_mul _)
 | succ i ih =>
  show 0*_+ev (unit i) _=_
  rw [Int.zero_mul,Int.zero_add]
  induction c using List.casesOn with
  | nil=>exact ih []
  | cons x c=>exact ih c)
theorem zk6 (c:List Nat) (t:Tm):val (ints' c) (lin t)=Int.ofNat (t.den c):=by
 induction t using Tm.rec with
 | n k=>exact Int.add_zero _
 | v i=>exact ziM ..
 | add a b ha hb=>exact (zdR ..).trans (congr (congrArg HAdd.hAdd ha) hb)
 | mulL k a h=>exact (zce ..).trans (congrArg (_*·) h)
 | mulR a k h=>exact (zce ..).trans ((congrArg (_*·) h).trans (Int.mul_comm ..))
noncomputable def dif (a b:Tm) (k:Nat):Cn:=tight (addC (lin b) (mulC (-1) (addC (lin a) (k,[]))))
theorem zb1 {c:List Nat} {a b:Tm} {k:Nat} (h:a.den c+k<=b.den c):0<=val (ints' c) (dif a b k):=zgk (by
 rw [zdR,zce,zdR,zk6,zk6,Int.neg_one_mul]
 exact Int.sub_nonneg_of_le (Int.ofNat_le.mpr h))
noncomputable def ref:Fm->Bool->(List Cn->Bool)->List Cn->Bool
 | .ff,s,k,cs=>s || k cs
 | .le a b,s,k,cs=>bif s then k (dif a b 0::cs) else k (dif b a 1::cs)
 | .lt a b,s,k,cs=>bif s then k (dif a b 1::cs) else k (dif b a 0::cs)
 | .eq a b,s,k,cs=>bif s then k (dif a b 0::dif b a 0::cs) else k (dif a b 1::cs)&&k (dif b a 1::cs)
 | .and p q,s,k,cs=>bif s then ref p s (ref q s k) cs else ref p s k cs&&ref q s k cs
 | .or p q,s,k,cs=>bif s then ref p s k cs&&ref q s k cs else ref p s (ref q s k) cs
 | .not p,s,k,cs=>ref p (!s) k cs
noncomputable abbrev sd (c:List Nat) (p:Fm) (s:Bool):Prop:=Bool.casesOn s (¬ p.den c) (p.den c)
theorem zkX {c:List Nat} {p:Fm} {s:Bool} {k:List Cn->Bool} {cs:List Cn} (hp:sd c p s) (h:AllC (ints' c) cs) (e:ref p s k cs=true) (K:∀ {cs},AllC (ints' c) cs->k cs=true->False):False:=by
 induction p using Fm.rec generalizing s k cs with
 | ff=>induction s using Bool.casesOn with
  | false=>exact K h e
  | true=>exact hp
 | le a b=>induction s using Bool.casesOn with
  | false=>exact K (zaj (zb1 (Nat.lt_of_not_le hp)) h) e
  | true=>exact K (zaj (zb1 hp) h) e
 | lt a b=>induction s using Bool.casesOn with
  | false=>exact K (zaj (zb1 (Nat.le_of_not_lt hp)) h) e
  | true=>exact K (zaj (zb1 hp) h) e
 | eq a b=>induction s using Bool.casesOn with
  | false=>exact (Bool.and_eq_true_iff.mp e).elim fun e1 e2=>(Nat.lt_or_gt_of_ne hp).elim (fun z=>K (zaj (zb1 z) h) e1) fun z=>K (zaj (zb1 z) h) e2
  | true=>exact K (zaj (zb1 (Nat.le_of_eq hp)) (zaj (zb1 (Nat.le_of_eq (Eq.symm hp))) h)) e
 | and p q ip iq=>induction s using Bool.casesOn with
  | false=>exact (Bool.and_eq_true_iff.mp e).elim fun e1 e2=>hp ⟨Classical.byContradiction fun z=>ip (s:=false) z h e1 K,Classical.byContradiction fun z=>iq (s:=false) z h e2 K⟩
  | true=>exact ip (s:=true) (And.left hp) h e fun h e=>iq (s:=true) (And.right hp) h e K
 | or p q ip iq=>induction s using Bool.casesOn with
  | false=>exact ip (s:=false) (fun z=>hp (.inl z)) h e fun h e=>iq (s:=false) (fun z=>hp (.inr z)) h e K
  | true=>exact (Bool.and_eq_true_iff.mp e).elim fun e1 e2=>Or.elim hp (fun z=>ip (s:=true) z h e1 K) fun z=>iq (s:=true) z h e2 K
 | not p ip=>induction s using Bool.casesOn with
  | false=>exact hp fun z=>ip (s:=true) z h e K
  | true=>exact ip (s:=false) hp h e K
noncomputable def nn:Nat->List Cn
 | 0=>[]
 | n+1=>(0,unit n)::nn n
theorem nn_ok (c:List Nat) (n):AllC (ints' c) (nn n):=by
 induction n using Nat.rec with
 | zero=>exact fun _ h=>nomatch h
 | succ n ih=>exact zaj (le_of_le_of_eq (Int.natCast_nonneg _) (ziM n c).symm) ih
noncomputable abbrev rdN:Nat->Nat->Nat×Nat
 | 0,m=>(0,m)
 | f+1,m=>if m % 16 < 8 then (m % 16,m / 16) else (m % 16 - 8+8*(rdN f (m / 16)).1,(rdN f (m / 16)).2)
noncomputable abbrev rdT:Nat->Nat->Tm×Nat
 | 0,m=>(.n 0,m)
 | f+1,m=>match m % 16 with
  | 0=>match rdN f (m / 16) with
   | (k,m)=>(.n k,m)
  | 1=>match rdT f (m / 16) with
   | (a,m)=>match rdT f m with
    | (b,m)=>(.add a b,m)
  | 2=>match rdN f (m / 16) with
   | (k,m)=>match rdT f m with
    | (a,m)=>(.mulL k a,m)
  | 3=>match rdN f (m / 16) with
   | (k,m)=>match rdT f m with
    | (a,m)=>(.mulR a k,m)
  | k=>(.v (k - 4),m / 16)
noncomputable abbrev two {α β:Type} (r:Nat->α×Nat) (g:α->α->β) (m:Nat):β×Nat:=match r m with
 | (a,m)=>match r m with
  | (b,m)=>(g a b,m)
noncomputable abbrev rdF:Nat->Nat->Fm×Nat
 | 0,m=>(.ff,m)
 | f+1,m=>match m % 16 with
  | 0=>(.ff,m / 16)
  | 1=>two (rdT f) .le (m / 16)
  | 2=>two (rdT f) .lt (m / 16)
  | 3=>two (rdT f) .eq (m / 16)
  | 4=>two (rdF f) .and (m / 16)
  | 5=>two (rdF f) .or (m / 16)
  | _=>match rdF f (m / 16) with
   | (p,m)=>(.not p,m)
noncomputable abbrev rdL:Nat->Nat->List Fm
 | 0,_=>[]
 | f+1,m=>if m=0 then [] else match rdF 30 (m / 16) with
  | (p,m)=>p::rdL f m
noncomputable abbrev Says (c:List Nat):List Fm->Prop
 | []=>False
 | [g]=>g.den c
 | h::l=>h.den c->Says c l
noncomputable def signs (n:Nat):List Fm->List Cn->Bool
 | [],cs=>fm n cs
 | p::l,cs=>match l with
  | []=>ref p false (fm n) cs
  | q::l=>ref p true (signs n (q::l)) cs
theorem zmK {c:List Nat} {n:Nat} {l:List Fm} {cs:List Cn} (h:AllC (ints' c) cs) (e:signs n l cs=true):Says c l:=by
 induction l using List.rec generalizing cs with
 | nil=>exact fm_ok h e
 | cons p l ih =>
  induction l using List.casesOn with
  | nil=>exact Classical.byContradiction fun z=>zkX (s:=false) z h e fm_ok
  | cons q l=>exact fun hp=>Classical.byContradiction fun z=>zkX (s:=true) hp h e fun h e=>z (ih h e)
noncomputable def chk (N n:Nat):Bool:=signs n (rdL 20 N) (nn n)
theorem om (N:Nat) (c:List Nat) (k:chk N c.length=true):Says c (rdL 20 N):=zmK (nn_ok c _) k
theorem subO (a b:Nat):(a - b+b=a/\b<=a)∨(a < b/\a - b=0):=(Nat.lt_or_ge a b).elim (fun h=>.inr ⟨h,Nat.sub_eq_zero_of_le (Nat.le_of_lt h)⟩) fun h=>.inl ⟨Nat.sub_add_cancel h,h⟩
theorem minO (a b:Nat):(a<=b/\min a b=a)∨(b < a/\min a b=b):=(Nat.lt_or_ge b a).elim (fun h=>.inr ⟨h,Nat.min_eq_right (Nat.le_of_lt h)⟩) fun h=>.inl ⟨h,Nat.min_eq_left h⟩
theorem divO (a k:Nat):k*(a / k)+a % k=a/\(k=0∨a % k < k):=⟨Nat.div_add_mod a k,(Nat.eq_zero_or_pos k).imp id (Nat.mod_lt a)⟩
end Mine
end
section
open PySem PySem.W PyProof.Rows PySem.Calls
namespace Mine
noncomputable abbrev BR:(Addr->Prop)->Heap->Bool->Bool->Prop:=fun _ _ v x=>x=v
noncomputable abbrev BV:(Addr->Prop)->Heap->Bool->Value->Prop:=fun _ _ b v=>v=.bool b
noncomputable abbrev UR:(Addr->Prop)->Heap->Unit->Unit->Prop:=fun _ _ _ _=>True
section
theorem zg {D:Addr->Prop} {h:Heap} {i:Int} {x:Value} (a:Abs W.clsA D h (.int i) x):∃ t,x=.int i t:=a
theorem zbd {D:Addr->Prop} {h:Heap} {i:List Nat} {x:Value} (a:Abs W.clsA D h (.str i) x):∃ t,x=.str ⟨i.toArray⟩ t:=a
theorem zX {D:Addr->Prop} {h:Heap} {i:List UInt8} {x:Value} (a:Abs W.clsA D h (.bytes i) x):∃ t,x=.bytes i.toArray t:=a
theorem zfE {D:Addr->Prop} {h:Heap} {i:Bool} {x:Value} (a:Abs W.clsA D h (.bool i) x):x=.bool i:=a
theorem zcB {D:Addr->Prop} {h:Heap} {x:Value} (a:Abs W.clsA D h .none x):x=.none:=a
theorem zI {D:Addr->Prop} {h:Heap} {b:Addr} {x:Value} (a:Abs W.clsA D h (.ref b) x):x=.ref b:=a
theorem zbc {D:Addr→Prop} {h:Heap} {vs:List V} {x:Value} (a:Abs W.clsA D h (.lst vs) x):∃ a items,x=.ref a∧¬ D a∧(∃ o,h.get? a=some o∧o.cls=.type "list"∧o.dict=Option.none∧∃ n,o.data=.seq (List.toArray items) n)∧AbsL W.clsA D h vs items:=a
theorem zc3 {D:Addr->Prop} {h:Heap} {vs:List V} {x:Value} (a:Abs W.clsA D h (.tup vs) x):∃ a items,x=.ref a/\¬ D a/\h.IsTuple a (List.toArray items)/\AbsL W.clsA D h vs items:=a
theorem zhA {D:Addr->Prop} {h:Heap} {c:Cls} {a dx:Addr} {x:Value} (e:Abs W.clsA D h (.inst c a dx) x):x=.ref a/\¬ D a/\∃ sl,h.get? a=some ⟨.ref (W.clsA c),some dx,.plain,sl⟩:=e
theorem zh {D:Addr->Prop} {h:Heap} (i:Int) (t:Tok):Abs W.clsA D h (.int i) (.int i t):=⟨t,rfl⟩
theorem zaz {D:Addr->Prop} {h:Heap} (i:Bool):Abs W.clsA D h (.bool i) (.bool i):=rfl
theorem zO {D:Addr->Prop} {h:Heap}:Abs W.clsA D h .none .none:=rfl
theorem zcc {D:Addr->Prop} {h:Heap} (a:Addr):Abs W.clsA D h (.ref a) (.ref a):=rfl
theorem zbD {D:Addr->Prop} {h:Heap} (i:List Nat) (t:Tok):Abs W.clsA D h (.str i) (.str ⟨i.toArray⟩ t):=⟨t,rfl⟩
theorem za8 {D:Addr->Prop} {h:Heap} (i:List UInt8) (t:Tok):Abs W.clsA D h (.bytes i) (.bytes i.toArray t):=⟨t,rfl⟩
theorem endT {α β:Type} {R:(Addr->Prop)->Heap->β->α->Prop} {Q:β->AH->Prop} (G:Gd W frs H s.heap) {x:α} {v:β} (tk:Nat) (r:R (W.D H) s.heap v x) (q:Q v H):RPost W frs H s R Q x { s with toks:=tk } :=
 (zY v H r G (.refl _ _ _ _) rfl rfl q)
theorem end0 {α β:Type} {R:(Addr->Prop)->Heap->β->α->Prop} {Q:β->AH->Prop} (G:Gd W frs H s.heap) {x:α} {v:β} (r:R (W.D H) s.heap v x) (q:Q v H):RPost W frs H s R Q x s :=
 (zY v H r G (.refl _ _ _ _) rfl rfl q)
theorem zbF {x:Int} {n:Nat} (h:x.natAbs < 2 ^ n):Builtin.Int.intBits x<=n:=by
 unfold Builtin.Int.intBits
 split
 ·exact #[0x40011,_] 
 ·rename_i h0
  have:x.natAbs≠0:=by simpa using h0
  have:=(Nat.log2_lt this).mpr h
  exact #[0x51041115421,_,_] this
theorem zf7 {x y:Int} (h:y.natAbs < 2 ^ 62):¬ Builtin.divisionGoesByPylong x y=true:=by
 intro q
 unfold Builtin.divisionGoesByPylong at q
 simp only [Bool.and_eq_true,decide_eq_true_eq] at q
 have q1:=q.1
 split at q1
 ·exact om 0x1004dc021 [] (by rfl') q1
 ·rename_i h0
  have h0':y.natAbs≠0:=by simpa using h0
  have:=(Nat.log2_lt h0').mpr h
  exact #[0x13e062003e0355643e213417e052110414dc021,_,_,_] q1 this (divO _ _)
theorem mulOk {x y:Int} (h:x.natAbs < 2 ^ 62∨y.natAbs < 2 ^ 62):IntMulOk x y:=by
 unfold IntMulOk
 intro q
 obtain ⟨q,_⟩:=(Bool.and_eq_true_iff).mp q
 obtain ⟨q1,q2⟩:=(Bool.and_eq_true_iff).mp q
 have q1:=of_decide_eq_true q1
 have q2:=of_decide_eq_true q2
 have e:shortFactorBits=64:=rfl
 rcases h with h | h
 ·have:=zbF h; exact #[0x17e051118804315421,_,_] q1 e this
 ·have:=zbF h; exact #[0x17e051118804315421,_,_] q2 e this
theorem zem {x y:Int} (hx:0<=x) (hy:0<=y):Builtin.bitAnd x y=((x.toNat &&& y.toNat:Nat):Int):=by unfold Builtin.bitAnd; rw [show decide (0<=x)=true from decide_eq_true hx,show decide (0<=y)=true from decide_eq_true hy]
theorem zdt {x y:Int} (hx:0<=x) (hy:0<=y):Builtin.bitOr x y=((x.toNat ||| y.toNat:Nat):Int):=by
 have n:∀ z:Int,0<=z->¬ 0<=-z - 1:=fun z hz=>Int.not_le.mpr (Int.sub_one_lt_iff.mpr (Int.neg_nonpos_of_nonneg hz))
 have n1:¬ 0<=Builtin.bitNot x:=n x hx
 have n2:¬ 0<=Builtin.bitNot y:=n y hy
 have e:∀ z:Int,Builtin.bitNot (Builtin.bitNot z)=z:=fun z=>by unfold Builtin.bitNot; rw [Int.neg_sub,Int.sub_neg,Int.add_comm]; exact Int.add_sub_cancel ..
 unfold Builtin.bitOr Builtin.bitAnd
 rw [show decide (0<=Builtin.bitNot x)=false from decide_eq_false n1,show decide (0<=Builtin.bitNot y)=false from decide_eq_false n2]
 show Builtin.bitNot (Builtin.bitNot _)=_
 rw [e,e,e]
theorem zdg:∀ (n a b:Nat),a < 2 ^ n->b < 2 ^ n->a ||| b=(a ^^^ b)+(a &&& b)
 | 0,a,b,ha,hb=>by
  obtain rfl:=Nat.lt_one_iff.mp ha
  obtain rfl:=Nat.lt_one_iff.mp hb
  rfl
 | n+1,a,b,ha,hb=>by
  have ih:=zdg n (a / 2) (b / 2) (Nat.div_lt_of_lt_mul (Nat.pow_succ' ▸ ha)) (Nat.div_lt_of_lt_mul (Nat.pow_succ' ▸ hb))
  have d:∀ x y:Fin 2,x.1 ||| y.1=(x.1 ^^^ y.1)+(x.1 &&& y.1):=by decide
  have l:∀ x,x % 2 ^ 1 < 2:=fun x=>Nat.mod_lt x (by decide)
  have e1:a ||| b=2*(a / 2 ||| b / 2)+(a % 2 ^ 1 ||| b % 2 ^ 1):=by rw [<- Nat.or_div_two,<- Nat.or_mod_two_pow]; exact (Nat.div_add_mod _ 2).symm
  have e2:a ^^^ b=2*(a / 2 ^^^ b / 2)+(a % 2 ^ 1 ^^^ b % 2 ^ 1):=by rw [<- Nat.xor_div_two,<- Nat.xor_mod_two_pow]; exact (Nat.div_add_mod _ 2).symm
  have e3:a &&& b=2*(a / 2 &&& b / 2)+(a % 2 ^ 1 &&& b % 2 ^ 1):=by rw [<- Nat.and_div_two,<- Nat.and_mod_two_pow]; exact (Nat.div_add_mod _ 2).symm
  rw [e1,e2,e3,ih,d ⟨_,l a⟩ ⟨_,l b⟩,Nat.mul_add]
  exact Nat.add_add_add_comm ..
theorem zhX {x y:Int} (hx:0<=x) (hy:0<=y):Builtin.bitXor x y=((x.toNat ^^^ y.toNat:Nat):Int):=by
 unfold Builtin.bitXor
 rw [zdt hx hy,zem hx hy]
 have:=zdg (max x.toNat y.toNat) x.toNat y.toNat (Nat.lt_of_le_of_lt (Nat.le_max_left _ _) Nat.lt_two_pow_self) (Nat.lt_of_le_of_lt (Nat.le_max_right _ _) Nat.lt_two_pow_self)
 rw [this,Int.natCast_add,Int.add_sub_cancel]
theorem ziQ {x y:Int} (hy:0<=y) (hx:0<=x) (h:y ≥ ((Builtin.Int.intBits x:Nat):Int)):x / 2 ^ y.toNat=0:=by
 apply Int.ediv_eq_zero_of_lt hx
 have hlt:x.natAbs < 2 ^ Builtin.Int.intBits x:=by
  unfold Builtin.Int.intBits
  split
  ·rename_i h0; simp at h0; subst h0; decide
  ·exact Nat.lt_log2_self
 have:x.natAbs < 2 ^ y.toNat:=Nat.lt_of_lt_of_le hlt (Nat.pow_le_pow_right (by decide) ((Int.le_toNat hy).mpr h))
 have e:((2:Int) ^ y.toNat)=((2 ^ y.toNat:Nat):Int):=by simp
 rw [e]; exact Int.natAbs_of_nonneg hx ▸ Int.ofNat_lt.mpr this
theorem zlS {x y:Int} (hy:0<=y) (h1:y<=10000) (h2:x.natAbs<=1024):¬ Builtin.Int.intTooBig (((Builtin.Int.intBits x:Nat):Int)*y)=true:=by
 have:=@zbF x 11 (by exact #[0x4888042128880411,_] h2)
 unfold Builtin.Int.intTooBig bitsLine
 simp only [decide_eq_true_eq,Int.not_lt]
 have h3:((Builtin.Int.intBits x:Nat):Int)*y<=11*y:=Int.mul_le_mul_of_nonneg_right (Int.ofNat_le.mpr this) hy
 exact Int.le_trans h3 (Int.le_trans (Int.mul_le_mul_of_nonneg_left h1 (by decide)) (by decide))
theorem zcx (k:Nat):((2 ^ k:Nat):Int)=(2:Int) ^ k:=Int.natCast_pow 2 k
theorem zlO {op:Operator} {x y:Int} {t u:Tok} (G:Gd W frs H s.heap) (h:WBin H Q op (.int x) (.int y)) :
  wpAny W.M A (binaryOp op (.int x t) (.int y u)) (EPost W frs H s Q) E s:=by
 have fin:∀ {i j:Int},Q (.int j) H->i=j->EPost W frs H s Q (.int i s.toks) { s with toks:=s.toks+1 }:=fun q e=>endT G _ (zh _ _) (e ▸ q)
 cases h with
 | add q=>exact AutoIntOps.add_0 (fin q rfl)
 | sub q=>exact AutoIntOps.sub_0 (fin q rfl)
 | mul h q=>exact AutoIntOps.mul_0 (fin q rfl) (mulOk h)
 | mod h q=>exact AutoIntOps.mod_1 (by rw [beq_eq_false_iff_ne.mpr (Int.ne_of_gt h)]; decide) (fin q (Int.fmod_eq_emod_of_nonneg _ (Int.le_of_lt h)))
 | @div x y h h2 q=>exact AutoIntOps.floordiv_1 (fun z=>absurd (Int.ofNat.inj (eq_of_beq z)) (Nat.ne_of_gt h)) (zf7 h2) (fin q (Int.fdiv_eq_ediv_of_nonneg _ (Int.natCast_nonneg y)))
 | @pow x y h h2 q =>
  have e:(Int.ofNat x) ^ y=Int.ofNat (x ^ y):=(Int.natCast_pow x y).symm
  by_cases e0:y=0
  ·subst e0; exact AutoIntOps.pow_0 (by decide) (by decide) (fin q rfl)
  have hb:¬ (Int.ofNat y == 0)=true:=fun z=>e0 (Int.ofNat.inj (eq_of_beq z))
  by_cases e1:(Int.ofNat x == 0 || Int.ofNat x == 1)=true
  ·refine AutoIntOps.pow_1 (Int.natCast_nonneg y) hb e1 (fin q ?_)
   rw [<- e]
   rcases (Bool.or_eq_true _ _).mp e1 with z | z
   ·rw [eq_of_beq z,Int.zero_pow e0]
   ·rw [eq_of_beq z,Int.one_pow]
  ·exact AutoIntOps.pow_4 (Int.natCast_nonneg y) hb e1 (fun z=>absurd (eq_of_beq z) (by show ¬ Int.ofNat x=-1; exact fun q=>by cases q)) (zlS (Int.natCast_nonneg y) (Int.ofNat_le.mpr h) h2) (fin q e)
 | @shl x y h h2 q=>exact lshift_int_small (Int.natCast_nonneg y) (Int.ofNat_le.mpr (Nat.le_trans h (by decide))) (Nat.lt_trans (show x < 2 ^ 62 from h2) (by decide)) (fin q (show Int.ofNat x*2 ^ y=Int.ofNat (x*2 ^ y) from ((Int.natCast_mul x (2 ^ y)).trans (congrArg _ (zcx y))).symm))
 | @shr x y q =>
  have e:Int.ofNat x / 2 ^ y=Int.ofNat (x / 2 ^ y):=((Int.natCast_ediv x (2 ^ y)).trans (congrArg _ (zcx y))).symm
  by_cases z:Int.ofNat y ≥ ((Builtin.Int.intBits (Int.ofNat x):Nat):Int)
  ·refine AutoIntOps.rshift_1 (Int.not_lt.mpr (Int.natCast_nonneg y)) z (fin q ?_)
   rw [if_neg (show ¬ Int.ofNat x < 0 from Int.not_lt.mpr (Int.natCast_nonneg x)),<- e]
   exact (ziQ (y:=Int.ofNat y) (Int.natCast_nonneg y) (Int.natCast_nonneg x) z).symm
  ·exact AutoIntOps.rshift_2 (Int.not_lt.mpr (Int.natCast_nonneg y)) z (fin q ((Int.fdiv_eq_ediv_of_nonneg _ (Int.le_of_lt (Int.pow_pos (by decide)))).trans e))
 | @and x y q=>exact and_int (fin q (zem (Int.natCast_nonneg x) (Int.natCast_nonneg y)))
 | @or x y q=>exact or_int (fin q (zdt (Int.natCast_nonneg x) (Int.natCast_nonneg y)))
 | @xor x y q=>exact xor_int (fin q (zhX (Int.natCast_nonneg x) (Int.natCast_nonneg y)))
end
noncomputable def blank (h:Heap) (p:Addr->Prop):Heap:=open Classical in { h with objs:=h.objs.mapIdx fun i o=>if p i then { o with data:=.freed } else o }
theorem zf6 (h:Heap) (p:Addr->Prop) (a:Addr) {f:Obj->Obj} (e:∀ o:Obj,(open Classical in if p a then { o with data:=.freed } else o)=f o):(blank h p).objs[a]?=h.objs[a]?.map f :=
 Array.getElem?_mapIdx.trans (congrArg (fun g:Obj->Obj=>h.objs[a]?.map g) (funext e))
theorem zgT {h:Heap} {p:Addr->Prop} {a:Addr} (n:¬ p a):(blank h p).get? a=h.get? a:=by
 unfold Heap.get?
 rw [zf6 h p a (f:=id) fun o=>if_neg n,Option.map_id]; rfl
theorem zhj {h:Heap} {p:Addr->Prop} {a:Addr} (y:p a):(blank h p).get? a=none:=by
 unfold Heap.get?
 rw [zf6 h p a fun o=>if_pos y]
 induction h.objs[a]? using Option.casesOn <;> rfl
end Mine
end
section
open PySem PySem.W PySem.Calls
namespace Mine
section
variable {prog:Program} {w:World} {R:Result->Shared->Prop}
variable {N:Addr} {bm:List Value} {hdct:Bool} {sub:List Value} {initId:String}
theorem zlN (F:ExcBaseFacts B newId initId bmB) (hB:bm.contains (.type B)=true) (hAt:bm.contains (.type "AttributeError")=false) (hNm:bm.contains (.type "NameError")=false) {rest:List Value} (hC:h.get? C=some (excClassObj nm q C N bs bm hdct sn sub ab col dd k0 k1 k2 k3 k5 newId))
  (hq:R (.ok (.ret (.ref (h.objs.size+1)))) ⟨(h.push { cls:=.type "tuple",data:=.seq rest.toArray }).push { cls:=.ref C,data:=.fields #[.ref h.objs.size,.none,.none,.none,.bool false,.none] },g,d,t,os⟩) (hrest:rest.length≤sizeLine) :
  PySem.codeAny (model prog w) A (.builtin newId ⟨.ref C::rest,[]⟩) R ⟨h,g,d,t,os⟩:=by
 have hends:=F.ends
 have hcB:(Value.ref C::bm).contains (.type B)=true:=by rw [List.contains_cons,hB,Bool.or_true]
 have hcA:(Value.ref C::bm).contains (.type "AttributeError")=false:=by rw [List.contains_cons,hAt]; rfl
 have hcN:(Value.ref C::bm).contains (.type "NameError")=false:=by rw [List.contains_cons,hNm]; rfl
 refine codeAny_builtinAt F.entry ?_
 unfold Builtin.«BaseException.__new__»
 refine wpAt_bind ?_
 show wpAt _ _ _ (stack >>= _) _ _ _
 refine wpAt_bind (wpAt_stack fun p below=>wpAt_of_wpAny ?_)
 wp_walk
 refine wpAt_of_wpAny ?_
 rw [F.owner]
 repeat (first | with_reducible refine wpAny_madeHere_exc F.canon hC ?_ | with_reducible refine wpAny_loadPart_at hC ?_ | (with_reducible refine wpAny_isSubtype_exc hC ?_; first | rw [hcB] | rw [hcA] | rw [hcN]) | wp_step)
 show R _ _
 rw [Heap.size_push]
 exact hq
theorem zek (F:ExcBaseFacts B newId initId bmB) (hB:bm.contains (.type B)=true) (hAt:bm.contains (.type "AttributeError")=false) (hNm:bm.contains (.type "NameError")=false) {rest:List Value} {fI:Addr} {Q:Fin→Shared→Prop}
  (hC:h.get? C=some (excClassObj nm q C N bs bm hdct sn sub ab col dd k0 k1 k2 k3 k5 newId)) (hi:Looks (model prog w) h (typeLookup (.ref C) "__init__") (some (.ref fI))) (hb:∀ self,Looks (model prog w) h (bindSpecial (.ref fI) self) (.ref fI,[self])) (hrest:rest.length≤sizeLine)
  (hq:∀ h' e,Heap.MadeExcOf h h' e (.ref C) rest->PySem.wpAny (model prog w) A (call (.ref fI) (.ref e::rest)) (fun r s'=>r=.none/\Q (.done (.ret (.ref e))) s') E ⟨h',g,d,t,os⟩) :
  PySem.wpAny (model prog w) A (Builtin.«type.__call__» ⟨.ref C::rest,[]⟩) Q E ⟨h,g,d,t,os⟩:=by
 repeat (first | with_reducible refine wpAny_loadPart_at hC ?_ | with_reducible refine wpAny_madeBy_exc hC ?_ | wp_step)
 refine codeAny_call_builtin_code (Code.quiet_builtin _ F.quiet) (wpAny_check_new_subU F hB .base hC ?_)
 refine zlN F hB hAt hNm hC ?_ hrest
 show PySem.wpAny _ _ _ _ _ _
 have kk:∀ b o,h.get? b=some o→((h.push { cls:=.type "tuple",data:=.seq rest.toArray }).push { cls:=.ref C,data:=.fields #[.ref h.objs.size,.none,.none,.none,.bool false,.none] }).get? b=some o:=fun b o e=>Heap.get?_push_of_some _ (Heap.get?_push_of_some _ e)
 have hCB:=kk _ _ hC
 have hiB:=hi.keeps kk
 have hbB:=fun self=>(hb self).keeps kk
 have hget:((h.push { cls:=.type "tuple",data:=.seq rest.toArray }).push
   { cls:=.ref C,data:=.fields #[.ref h.objs.size,.none,.none,.none,.bool false,.none] }).get? (h.objs.size+1)=some
   { cls:=.ref C,data:=.fields #[.ref h.objs.size,.none,.none,.none,.bool false,.none] }:=by heap_get
 have hcC:(Value.ref C::bm).contains (.ref C)=true:=by simp
 unfold isInstance
 repeat (first | with_reducible refine wpAny_loadPart_at hget ?_ | (with_reducible refine wpAny_isSubtype_exc hCB ?_; rw [hcC]) | wp_step)
 show PySem.wpAny _ _ (typeLookup (.ref C) _) _ _ _
 refine hiB.at ?_
 refine PySem.wpAny_holding (PySem.wpAny_bind ((hbB _).at ?_))
 refine PySem.wpAny_bind (PySem.wpAny_mono (hq _ (h.objs.size+1) ⟨kk,Heap.get?_none_of_le (Nat.le_succ _),h.objs.size,hget,Heap.get?_none_of_le (Nat.le_refl _),Heap.get?_push_of_some _ (Heap.get?_push_at rfl rfl)⟩) (fun r s' hr=>?_) fun _ _ x=>x)
 obtain ⟨rfl,hQ⟩:=hr
 wp_walk
 exact hQ
theorem zjK (F:ExcBaseFacts B newId initId bmB) (hB:bm.contains (.type B)=true) (hAt:bm.contains (.type "AttributeError")=false) (hNm:bm.contains (.type "NameError")=false) {rest:List Value} {fI:Addr} {Q:Value→Shared→Prop}
  (hC:h.get? C=some (excClassObj nm q C N bs bm hdct sn sub ab col dd k0 k1 k2 k3 k5 newId)) (hi:Looks (model prog w) h (typeLookup (.ref C) "__init__") (some (.ref fI))) (hb:∀ self,Looks (model prog w) h (bindSpecial (.ref fI) self) (.ref fI,[self])) (hrest:rest.length≤sizeLine)
  (hq:∀ h' e,Heap.MadeExcOf h h' e (.ref C) rest→PySem.wpAny (model prog w) (A.under (.builtin "type.__call__" ⟨.ref C::rest,[]⟩)) (call (.ref fI) (.ref e::rest)) (fun r s'=>r=.none∧Q (.ref e) s') E ⟨h',g,d,t,os⟩) :
  PySem.wpAny (model prog w) A (call (.ref C) rest) Q E ⟨h,g,d,t,os⟩:=by
 have f1:=tc_lookup
 have f2:=tc_bind (.ref C)
 have hT:(⟨h,g,d,t,os⟩:Shared).TypeIs (.ref C) "type":=(mEA _ hC rfl)
 refine PySem.wpAny_call (PySem.codeAny_of_tree ?_)
 show PySem.wpAny _ _ (callAny (.ref C) _) _ _ _
 repeat (any_goals (first | assumption | with_reducible refine wpAny_loadPart_at hC ?_ | wp_step))
 refine ⟨rfl,?_⟩
 refine codeAny_call_builtin_at (Code.quiet_builtin _ (by decide +kernel)) entry_typeCall (wpAny_check_type_call_sub hC (zek F hB hAt hNm hC hi hb hrest fun h' e hm=>?_))
 exact hq h' e hm
theorem zhM {M:Model} {env:Env} {s:Shared} {x:Sem Value} {Q:Flow→Shared→Prop} (hbase:bm.contains (.type "BaseException")=true) (hh:A.handled=none)
  (h:PySem.wpAny M A x (fun v s₁=>∃ e t dx sl,v=.ref e/\s₁.heap.get? C=some (excClassObj nm q C N bs bm hdct sn sub ab col dd k0 k1 k2 k3 k5 newId) /\
   s₁.heap.get? e=some { cls:=.ref C,dict:=dx,data:=.fields #[.ref t,.none,.none,.none,.bool false,.none],slots:=sl }/\E (.ref e) s₁) E s) :
  PySem.wpAny M A (raiseStmt env (some x) none) Q E s:=by
 have hcB:(Value.ref C::bm).contains (.type "BaseException")=true:=by rw [List.contains_cons,hbase,Bool.or_true]
 unfold raiseStmt
 refine PySem.wpAny_bind (PySem.wpAny_mono h (fun v s₁ hF=>?_) fun _ _ x=>x)
 refine zbt hF fun e t dx sl yE hC he hE=>?_; obtain rfl:=yE
 obtain ⟨hp,g,d,tk,os⟩:=s₁
 repeat (first | with_reducible refine wpAny_loadPart_at he ?_ | with_reducible refine wpAny_loadPart_at hC ?_ | (with_reducible refine wpAny_isSubtype_exc hC ?_; rw [hcB]) | wp_step)
 exact wpAny_raiseNew_none hh hE
end
theorem zdn (K:Frag):findCls K (.type "ValueError") (.type "type") "__init__"=some (.val (.builtin "ValueError.__init__")):=by rfl
section
variable {prog:Program} {w:World} {K:Frag} {expr:Bool} {Q:Value->Shared->Prop}
theorem zdj (X:K.In s.heap) (h:Q (.builtin "ValueError.__init__") { s with toks:=s.toks+1 }):PySem.wpAny (model prog w) A (getAttr (.type "ValueError") "__init__" expr) Q E s:=by
 have ht:kitMeta "ValueError"=true:=by decide +kernel
 have hs:Manifest.isStub "ValueError"=false:=by decide +kernel
 have hstub:opaqueClassAbove (.type "ValueError")=pure none:=by unfold opaqueClassAbove; dsimp only; rw [hs]; rfl
 have L0:Looks (model prog w) s.heap (typeOf (.type "ValueError")) (.type "type"):=Looks.of_pure (kitMeta_of ht)
 have LO:Looks (model prog w) s.heap (opaqueClassAbove (.type "ValueError")) none:=Looks.of_pure hstub
 have hg:findIn K (.type "type") "__getattribute__"=some (some (.builtin "type.__getattribute__")):=type_tga
 refine cls_open X LO L0 hg (looks_hook X (r:=none) (by rfl)) (by show subIn K _ _=_; rfl) (zdn K) ?_
 show PySem.wpAny _ _ (ret _) _ _ _
 exact PySem.wpAny_pure (handed_on rfl h)
end
section
variable {prog:Program} {w:World}
variable {N:Addr} {bm:List Value} {hdct:Bool} {sub:List Value} {initId:String}
theorem zdW {M:Model} (F:ExcBaseFacts B newId initId bmB) (hB:bm.contains (.type B)=true) {e:Addr} {oe:Obj} {rest:List Value} {Q:Unit->Shared->Prop}
  (hC:h.get? C=some (excClassObj nm q C N bs bm hdct sn sub ab col dd k0 k1 k2 k3 k5 newId)) (he:h.get? e=some oe) (hcls:oe.cls=.ref C) (hq:Q () ⟨h,g,d,t,os⟩) :
  PySem.wpAny M A (checkBuiltinCall initId ⟨.ref e::rest,[]⟩) Q E ⟨h,g,d,t,os⟩:=by
 have hcB:(Value.ref C::bm).contains (.type B)=true:=by rw [List.contains_cons,hB,Bool.or_true]
 have hshort:=F.noStar
 simp only [checkBuiltinCall,F.initKind,F.initSplit,F.initRow]
 repeat (first | (with_reducible refine wpAny_loadPart_at he ?_; rw [hcls]) | with_reducible refine wpAny_loadPart_at hC ?_ | (with_reducible refine wpAny_isSubtype_exc hC ?_; rw [hcB]) | wp_step)
 refine PySem.wpAny_onRaise ?_
 rw [show ∀ (a b:String) (n:Nat),Bind.check ⟨.positional,"*",B,.self,[⟨"args",.varPos,false⟩]⟩ a b n (List.map (fun x=>x.fst) ({ pos:=Value.ref e::rest }:Args).kw)=pure () from fun a b n=>check_star_args _ _ _ _ _ _]
 exact PySem.wpAny_pure hq
theorem zdU (F:ExcBaseFacts B newId initId bmB) (hB:bm.contains (.type B)=true) {e a0:Addr} {rest:List Value} {Q:Value->Shared->Prop} (hrest:rest.length<=sizeLine)
  (hC:h.get? C=some (excClassObj nm q C N bs bm hdct sn sub ab col dd k0 k1 k2 k3 k5 newId)) (he:h.get? e=some { cls:=.ref C,data:=.fields #[.ref a0,.none,.none,.none,.bool false,.none] })
  (hq:∀ h' a1,(∀ b o,b≠e->h.get? b=some o->h'.get? b=some o)->h'.get? e=some { cls:=.ref C,data:=.fields #[.ref a1,.none,.none,.none,.bool false,.none] }->Q .none ⟨h',g,d,t,os⟩) :
  PySem.wpAny (model prog w) A (call (.builtin initId) (.ref e::rest)) Q E ⟨h,g,d,t,os⟩:=by
 refine PySem.wpAny_call (codeAny_call_builtin F.init.plain F.initEntry (zdW F hB hC he rfl ?_))
 wp_walk
 refine hq _ h.objs.size (fun b o n hb=>?_) ?_
 ·rw [Heap.get?_update_other _ _ (Ne.symm n)]
  exact Heap.get?_push_of_some _ hb
 ·rw [Heap.get?_update_self _ (Heap.get?_push_of_some _ he) rfl]
  rfl
variable {C' N x:Addr} {sub:List Value} {sa owner:String} {name:Str} {v:Value}
theorem zgX (SF:StoreFacts B bmB sa owner) (self:Value):refuseLoop self "__setattr__" (.ref C::.ref C'::bmB)=pure ():=by rw [refuseLoop_ref,refuseLoop_ref,SF.passes]
theorem zfB {M:Model} {o:Obj} {nameV:Value} {Q:Unit->Shared->Prop} (SF:StoreFacts B bmB sa owner)
  (hC:h.get? C=some (excClassObj nm q C N bs (.ref C'::bmB) true sn sub ab col dd k0 k1 k2 k3 k5 newId)) (hx:h.get? x=some o) (hc:o.cls=.ref C) (hq:Q () ⟨h,g,d,t,os⟩) :
  PySem.wpAny M A (checkBuiltinCall sa ⟨[.ref x,nameV,v],[]⟩) Q E ⟨h,g,d,t,os⟩:=by
 have hcB:(Value.ref C::.ref C'::bmB).contains (.type owner)=true:=by rw [List.contains_cons,List.contains_cons,SF.hasOwner,Bool.or_true,Bool.or_true]
 have ha:=SF.args (.ref x) nameV v
 simp only [checkBuiltinCall,SF.kind,SF.split]
 refine PySem.wpAny_bind ?_
 unfold isInstance
 repeat (first | (with_reducible refine wpAny_loadPart_at hx ?_; rw [hc]) | (with_reducible refine wpAny_isSubtype_exc hC ?_; rw [hcB]) | wp_step)
 cases hsig:Manifest.signature? sa with
 | none=>exact PySem.wpAny_pure hq
 | some sig =>
  simp only [argsOk,hsig] at ha
  have h2:Bind.checkArgs sa sig ⟨[.ref x,nameV,v],[]⟩=pure ():=ha
  show PySem.wpAny M A (Bind.checkArgs sa sig ⟨[.ref x,nameV,v],[]⟩) Q E _
  rw [h2]; exact PySem.wpAny_pure hq
open Builtin Builtin.ObjectAttr in
theorem zcP {tk:Tok} {Q:Fin->Shared->Prop} (SF:StoreFacts B bmB sa owner) {o:Obj} (hC:h.get? C=some (excClassObj nm q C N bs (.ref C'::bmB) true sn sub ab col dd k0 k1 k2 k3 k5 newId)) (hx:h.get? x=some o) (hc:o.cls=.ref C) (hnc:∀ c,o.data≠.cls c) (hdn:o.dict=none)
  (hna:Looks (model prog w) h (typeLookup (.ref C) name) none)
  (hq:∀ h' tk' dx,(∀ b ob,b≠x->h.get? b=some ob->h'.get? b=some ob)->h'.get? x=some { cls:=o.cls,dict:=some dx,data:=o.data,slots:=o.slots }->Q (.done (.ret .none)) ⟨h',g,d,tk',os⟩) :
  PySem.wpAny (model prog w) A (Builtin.«object.__setattr__» ⟨[.ref x,.str name tk,v],[]⟩) Q E ⟨h,g,d,t,os⟩:=by
 have hpass:refuseLoop (.ref x) "__setattr__" (.ref C::.ref C'::bmB)=pure ():=zgX SF _
 unfold Builtin.«object.__setattr__»
 repeat (first | rw [refuse_eq] | rw [hpass] | (with_reducible refine wpAny_loadPart_at hx ?_; rw [hc]) | with_reducible refine wpAny_mroOf_exc hC ?_ | with_reducible refine hna.at ?_ | wp_step)
 rw [hdn,if_neg (by simp [typeHasDict])]
 split
 ·rename_i hcd
  exact absN hcd
 split
 ·rename_i c hcd
  exact absurd hcd (hnc c)
 have hxB:(h.push { cls:=.type "dict",data:=.dict #[] }).get? x=some o:=Heap.get?_push_of_some _ hx
 have hxs:x≠h.objs.size:=Nat.ne_of_lt (Heap.lt_size hx)
 refine PySem.wpAny_bind (wpAny_alloc' (PySem.wpAny_bind (wpAny_update' hxB (PySem.wpAny_pure ?_))))
 have hgd:((h.push { cls:=.type "dict",data:=.dict #[] }).update x fun o=>{ cls:=o.cls,dict:=some h.objs.size,data:=o.data,slots:=o.slots }).get? h.objs.size=some { cls:=.type "dict",data:=.dict #[] } :=
  (Heap.get?_update_ne _ _ _ _ hxs.symm).trans (Heap.get?_push_at rfl rfl)
 have hnd:((h.push { cls:=.type "dict",data:=.dict #[] }).update x fun o=>{ cls:=o.cls,dict:=some h.objs.size,data:=o.data,slots:=o.slots }).Ns h.objs.size (fun _=>none) :=
  (zS _ (#[]) _ hgd rfl (fun e he=>absurd he (by simp)) (fun _=>rfl))
 show PySem.wpAny _ _ (storeInDict h.objs.size (.str name tk) name v) _ _ _
 unfold storeInDict newKeyGuard
 refine PySem.wpAny_bind (PySem.wpAny_pure (PySem.wpAny_bind (wpAny_nsSet1 (Heap.Ns1.of_empty hnd) fun h' hn' hs=>?_)))
 refine zaP (hn'.count (Within.cons name v Within.nil)) fun oD esD epD hoD hdD hcD=>?_
 refine PySem.wpAny_bind (wpAny_lookBehind hoD (by rw [hdD]; exact pastItsLine_dict (Nat.le_trans hcD (by rw [List.length_cons,List.length_nil,sizeLine_eq]; exact om 0x18888888901011 [] (by rfl') ))) ?_)
 wp_walk
 refine hq h' _ h.objs.size (fun b ob hbx hb=>?_) ?_
 ·exact (hs.2 b (Nat.ne_of_lt (Heap.lt_size hb))).trans ((Heap.get?_update_ne _ _ _ _ hbx).trans (Heap.get?_push_of_some _ hb))
 ·refine (hs.2 x hxs).trans (Heap.get?_update_self _ hxB ?_)
  have hfr:=(Heap.get?_some_iff.mp hx).2
  obtain ⟨oc,od,odt,osl⟩:=o
  induction odt using PySem.Data.casesOn <;> first | rfl | exact hfr
theorem ziA (SF:StoreFacts B bmB sa owner) {o:Obj} (hC:h.get? C=some (excClassObj nm q C N bs (.ref C'::bmB) true sn sub ab col dd k0 k1 k2 k3 k5 newId)) (hx:h.get? x=some o) (hc:o.cls=.ref C) (hnc:∀ c,o.data≠.cls c) (hdn:o.dict=none)
  (hsa:Looks (model prog w) h (typeLookup (.ref C) "__setattr__") (some (.builtin sa))) (hna:Looks (model prog w) h (typeLookup (.ref C) name) none)
  {Q:Unit->Shared->Prop} (hq:∀ h' tk' dx,(∀ b ob,b≠x->h.get? b=some ob->h'.get? b=some ob)->h'.get? x=some { cls:=o.cls,dict:=some dx,data:=o.data,slots:=o.slots }->Q () ⟨h',g,d,tk',os⟩) :
  PySem.wpAny (model prog w) A (setAttr (.ref x) name v) Q E ⟨h,g,d,t,os⟩:=by
 have f3:=SF.slot.bind (.ref x)
 unfold setAttr callSpecial? specialOf
 repeat (any_goals (first | assumption | (with_reducible refine wpAny_loadPart_at hx ?_; rw [hc]) | with_reducible refine hsa.at ?_ | wp_step))
 refine codeAny_call_builtin SF.slot.plain SF.entry (zfB SF hC hx hc (zcP SF hC hx hc hnc hdn hna fun h' tk' dx k1 k2=>?_))
 repeat (any_goals (first | assumption | wp_step))
 exact hq h' tk' dx k1 k2
end
section
variable {prog:Program} {w:World} {K:Frag}
theorem zdB {vN sN rN:Str} {p1 p2 p3 p4 p5:Pos} {mg mb mm:Str→Option Value} {x y:Value} {Q:Value→Shared→Prop} (hline:(p2.endLine == p5.line)=true) (hkind:env.scope.kind=.function) (hv:env.kindOf vN=some .globalImplicit) (hvd:(vN == ("__debug__" : Str))=false)
  (hs:env.kindOf sN=some .local) (hr:env.kindOf rN=some .local) (hsd:(sN == ("__debug__" : Str))=false) (hrd:(rN == ("__debug__" : Str))=false) (hg:s.heap.Ns env.globals mg) (hmiss:mg vN=none) (hb:s.heap.Ns env.builtins mb) (hbv:mb vN=some (.type "ValueError"))
  (hn:s.heap.Ns env.locals mm) (hx:mm sN=some x) (hy:mm rN=some y) (X:K.In s.heap) (h:PySem.wpAny (model prog w) A (call (.builtin "ValueError.__init__") [x,y]) Q E { s with toks:=s.toks+1 }) :
  PySem.wpAny (model prog w) A (eval (.Call (.Attribute (.Name vN p1) "__init__" p2) [.Name sN p3,.Name rN p4] [] p5) env) Q E s:=by
 show PySem.wpAny _ A (do
  let ov ← attributeBase (.Name vN p1) "__init__" env (eval (.Name vN p1) env)
  standAt p2.atName
  methodCall (.Name vN p1) "__init__" p2 p5 env ov 2 (backTo p5 (starEach [.Name sN p3,.Name rN p4] env)) (backToKw p5 (keywordEach [] env))) _ _ _
 show PySem.wpAny _ A (eval (.Name vN p1) env >>= _) _ _ _
 refine PySem.wpAny_bind (Name_function_global hkind hv (loadGlobal_builtin hg hmiss hb hbv ?_) hvd)
 refine PySem.wpAny_bind (PySem.wpAny_standAt ?_)
 unfold methodCall
 refine PySem.wpAny_bind (PySem.wpAny_holding ?_)
 have few:methodCallForm 2 (backTo p5 (starEach [.Name sN p3,.Name rN p4] env)) (backToKw p5 (keywordEach [] env))=true:=rfl
 rw [few]
 show PySem.wpAny _ A (getMethod (.type "ValueError") "__init__" _) _ _ _
 have ht:kitMeta "ValueError"=true:=by decide +kernel
 have L0:Looks (model prog w) s.heap (typeOf (.type "ValueError")) (.type "type"):=Looks.of_pure (kitMeta_of ht)
 have hgi:findIn K (.type "type") "__getattribute__"=some (some (.builtin "type.__getattribute__")):=type_tga
 have Lg:=looks_findIn (M:=model prog w) X hgi
 unfold getMethod specialOf
 refine PySem.wpAny_bind (PySem.wpAny_bind (L0.at (Lg.at ?_)))
 dsimp only
 rw [if_pos (by rw [PySem.W.Fast.canonicalQ_eq]; decide +kernel)]
 refine PySem.wpAny_bind (zdj X (PySem.wpAny_pure ?_))
 dsimp only
 refine PySem.wpAny_bind ?_
 unfold methodCallPos
 rw [if_pos (by rw [hline]; rfl)]
 refine PySem.wpAny_pure (callWith_builtin rfl (evalArgs_plain (spliced_cons ?_)))
 refine PySem.wpAny_Name (wpAny_loadName_local (s:={ s with toks:=s.toks+1 }) hkind hs hn hx (spliced_cons ?_)) hsd
 exact PySem.wpAny_Name (wpAny_loadName_local (s:={ s with toks:=s.toks+1 }) hkind hr hn hy (spliced_nil h)) hrd
end
structure IniOK (fd:FuncData) (vN sN rN aN:Str):Prop where
 body:∃ p1 p2 p3 p4 p5 p6 p7 p8 p9 p10,(p2.endLine == p5.line)=true∧fd.body=.stmts [.Expr (.Call (.Attribute (.Name vN p1) "__init__" p2) [.Name sN p3,.Name rN p4] [] p5) p6,.Assign [.Attribute (.Name sN p7) aN p8] (.Name rN p9) p10]
 clo:fd.closure=[]
 kind:fd.scope.kind=.function
 co:fd.scope.isCoroutine=false
 gen:fd.scope.isGenerator=false
 glob:fd.globals=mainGlobals
 blt:fd.builtins=builtinsNs
 nocell:∀ x∈fd.scope.names,x.2≠.cell
 sL:fd.scope.names.lookup sN=some .local
 rL:fd.scope.names.lookup rN=some .local
 vG:fd.scope.names.lookup vN=some .globalImplicit
 ne:sN≠rN
 dbg:(sN == ("__debug__" : Str))=false∧(rN == ("__debug__" : Str))=false∧(vN == ("__debug__" : Str))=false
section
variable {prog:Program} {w:World} {K:Frag}
variable {C' N:Addr} {sub:List Value} {sa owner:String}
theorem zj8 {fd:FuncData} {vN sN rN aN:Str} {fI e a0:Addr} {ob:Obj} {y:Value} {mg mb:Str→Option Value} {Q:Value→Shared→Prop} (D:IniOK fd vN sN rN aN) (F:ExcBaseFacts "ValueError" newId "ValueError.__init__" bmB) (hB:(.ref C'::bmB).contains (.type "ValueError")=true) (SF:StoreFacts "ValueError" bmB sa owner)
  (hroom:A.depth < recursionLimit) (hfo:h.get? fI=some ob) (hfd:ob.data=.func fd) (hcd:h.CodeRec fd.code fd.qualname) (hbind:BindsTo ⟨h,g,d,t,os⟩ fd ⟨[.ref e,y],[]⟩ [(sN,.ref e),(rN,y)]) (hnl:h.NoLimit) (hg:h.Ns mainGlobals mg) (hmiss:mg vN=none) (hbn:h.Ns builtinsNs mb) (hbv:mb vN=some (.type "ValueError"))
  (X:K.In h) (hC:h.get? C=some (excClassObj nm q C N bs (.ref C'::bmB) true sn sub ab col dd k0 k1 k2 k3 k5 newId)) (he:h.get? e=some { cls:=.ref C,data:=.fields #[.ref a0,.none,.none,.none,.bool false,.none] })
  (hsa:findIn K (.ref C) "__setattr__"=some (some (.builtin sa))) (hna:findIn K (.ref C) aN=some none) (heK:K.lookup e=none)
  (hq:∀ h' tk' dx a1,(∀ b o,b≠e->h.get? b=some o->h'.get? b=some o)->h'.get? e=some { cls:=.ref C,dict:=some dx,data:=.fields #[.ref a1,.none,.none,.none,.bool false,.none] }->Q .none ⟨h',g,d,tk',os⟩) :
  PySem.wpAny (model prog w) A (call (.ref fI) [.ref e,y]) Q E ⟨h,g,d,t,os⟩:=by
 refine zeM D.body fun p1 p2 p3 p4 p5 p6 p7 p8 p9 p10 hline hbody=>?_
 refine PySem.wpAny_call (PySem.codeAny_call_function hroom hfo hfd D.co D.gen hbody hcd (hbind _ _ _ _ ?_))
 rw [D.clo]
 refine PySem.wpAny_newFunctionEnv D.nocell (fun z hz=>?_) (fun h1 hns hsb=>?_) D.kind
 ·simp only [List.mem_cons,List.not_mem_nil,or_false] at hz
  rcases hz with rfl | rfl
  ·exact D.sL
  ·exact D.rL
 dsimp only at hns hsb ⊢
 have old:∀ b o,h.get? b=some o->h1.get? b=some o:=fun b o hb=>hsb.extBut b o (Nat.ne_of_lt (Heap.lt_size hb)) (Heap.get?_push_of_some _ hb)
 refine ⟨hnl.keeps old,PySem.codeAny_func ?_⟩
 have hL:h.objs.size≠e:=fun z=>absurd (Heap.lt_size he) (by rw [<- z]; exact Nat.lt_irrefl _)
 refine wpAny_execs_cons (PySem.wpAny_Expr_any (zdB (mg:=mg) (mb:=mb) (mm:=fun z=>[(sN,Value.ref e),(rN,y)].reverse.lookup z) (x:=.ref e) (y:=y) (K:=K) hline D.kind D.vG D.dbg.2.2 D.sL D.rL D.dbg.1 D.dbg.2.1 (by rw [show (newEnv fd.scope h.objs.size fd.globals [] _ _ _ none fd.builtins).globals=fd.globals from rfl,D.glob]; exact hg.keeps old) hmiss (by rw [show (newEnv fd.scope h.objs.size fd.globals [] _ _ _ none fd.builtins).builtins=fd.builtins from rfl,D.blt]; exact hbn.keeps old) hbv hns ?_ ?_ (X.keeps old) ?_) ?_ rfl)
 ·have e1:(sN == rN)=false:=by simpa using D.ne
  simp [List.lookup_cons,e1]
 ·simp
 ·refine zdU F hB (by rw [sizeLine_eq]; exact Nat.le_of_ble_eq_true rfl) (old _ _ hC) (old _ _ he) fun h2 a1 k1 k2=>?_
  have old2:∀ b o,b≠e->h.get? b=some o->h2.get? b=some o:=fun b o n hb=>k1 b o n (old b o hb)
  have ns2:h2.Ns h.objs.size fun z=>[(sN,Value.ref e),(rN,y)].reverse.lookup z:=zgK hns fun o es ep ho r=>(zhL o es ep (k1 _ _ hL ho) r)
  have e1:(sN == rN)=false:=by simpa using D.ne
  refine wpAny_execs_cons (plainObj_wpAny_Assign_Attribute (PySem.wpAny_Name (wpAny_loadName_local D.kind D.rL ns2 (v:=y) (by simp) (PySem.wpAny_Name (wpAny_loadName_local D.kind D.sL ns2 (v:=.ref e) (by simp [List.lookup_cons,e1]) ?_) D.dbg.1)) D.dbg.2.1) rfl)
  have hCe:C≠e:=fun z=>by rw [z,he] at hC; cases hC
  have X2:K.In h2:=fun b o hb=>old2 b o (fun z=>by rw [z,heK] at hb; exact absN hb) (X b o hb)
  refine ziA SF (old2 _ _ hCe hC) k2 rfl (fun c z=>by cases z) rfl (looks_findIn X2 hsa) (looks_findIn X2 hna) fun h3 tk dx k3 k4=>wpAny_execs_nil ?_
  exact hq h3 tk dx a1 (fun b o n hb=>k3 b o n (old2 b o n hb)) k4
 ·unfold interactive; rw [show (newEnv fd.scope h.objs.size fd.globals [] _ _ _ none fd.builtins).scope=fd.scope from rfl,D.kind]; rfl
end
end Mine
end
section
open PySem PySem.W PyProof.Rows PySem.Calls
namespace Mine
noncomputable def veTail:List Value:=[.type "ValueError",.type "Exception",.type "BaseException",.type "object"]
inductive CutOk (K:Frag) (cut:Addr):Prop
 | mk (nm q:Str) (N:Addr) (bs:List Value) (C':Addr) (sn:List Str) (sub:List Value) (ab:Bool) (col:Option Bool) (dd:Option Addr) (k0 k1 k2 k3 k5:Option Value) (fI:Addr) (ob:Obj) (fd:FuncData) (vN sN rN aN:Str)
  (h1:K.lookup cut=some (excClassObj nm q cut N bs (.ref C'::veTail) true sn sub ab col dd k0 k1 k2 k3 k5 "ValueError.__new__")) (h2:findIn K (.ref cut) "__init__"=some (some (.ref fI))) (h3:typeIn K (.ref fI)=some (.type "function"))
  (h4:findIn K (.ref cut) "__setattr__"=some (some (.builtin "object.__setattr__"))) (h5:findIn K (.ref cut) aN=some none) (h6:K.lookup fI=some ob) (h7:ob.data=.func fd) (h8:codeIn K fd.code fd.qualname=true) (h9:IniOK fd vN sN rN aN)
  (h10:nsIn K mainGlobals vN=some none) (h11:bootBuiltins vN=some (.type "ValueError")) (h12:vN≠"__name__") (h13:∀ (s:Shared) (e y:Value),K.In s.heap→BindsTo s fd ⟨[e,y],[]⟩ [(sN,e),(rN,y)]):CutOk K cut
section
variable {fnA:Fn->Addr}
theorem Step.push {H:AH} {s:Shared} (G:Gd W frs H s.heap) (o:Obj):Step W frs H s H { s with heap:=s.heap.push o } :=
 Step.of_keeps G (fun _ _ e=>Heap.get?_push_of_some o e) rfl rfl
theorem zQ (G:Gd W frs H s.heap):H s.heap.objs.size=none:=by
 cases q:H s.heap.objs.size with
 | none=>rfl
 | some o=>refine oAEA (G.rp.2 _ _ q) fun _ ob h _=>?_; exact absurd (Heap.lt_size h) (Nat.lt_irrefl _)
theorem zcs (G:Gd W frs H s.heap):¬ W.D H s.heap.objs.size:=zch (zQ G) fun p=>by
 refine oAE (G.pv _ p) fun _ o e=>?_
 exact absurd (Heap.lt_size e) (Nat.lt_irrefl _)
theorem zeo (G:Gd W frs H s.heap) {vs:List V} {xs:List Value} (a:AbsL W.clsA (W.D H) s.heap vs xs):Abs W.clsA (W.D H) (s.heap.push { cls:=.type "list",data:=.seq xs.toArray }) (.lst vs) (.ref s.heap.objs.size):=by
 exact zx _ xs rfl (zcs G) ((zbX _ (Heap.get?_push_size _ rfl) rfl rfl 0 rfl)) ((Step.push G _).absL a)
theorem zcr (G:Gd W frs H s.heap) {vs:List V} {xs:List Value} (a:AbsL W.clsA (W.D H) s.heap vs xs):Abs W.clsA (W.D H) (s.heap.push { cls:=.type "tuple",data:=.seq xs.toArray }) (.tup vs) (.ref s.heap.objs.size):=by
 exact zx _ xs rfl (zcs G) ((zfg _ (Heap.get?_push_size _ rfl) rfl 0 rfl)) ((Step.push G _).absL a)
theorem zf4 {H:AH} {a b:Addr} {o:AObj} (h:¬ W.D H b) (n:b≠a):¬ W.D (H.set a o) b:=by
 obtain ⟨h1,h2⟩:=zaq h
 exact zch ((zf _ _ n).trans h1) h2
theorem zbO {H:AH} {h:Heap} {ao:AObj} {ob:Obj}:KeepV (W.D H) h (W.D (H.set h.objs.size ao)) (h.push ob):=fun b o e nd _=>⟨⟨o.slots,Heap.get?_push_of_some _ e⟩,zf4 nd (fun q=>absurd (Heap.lt_size e) (by rw [q]; exact Nat.lt_irrefl _))⟩
theorem za9 (G:Gd W frs H s.heap) (hs:W.base.objs.size<=s.heap.objs.size) {ao:AObj} {ob:Obj} (hf:ob.isFreed=false) (r:RepO W.prog W.w W.clsA (W.D (H.set s.heap.objs.size ao)) (s.heap.push ob) ao ob) :
  Step W frs H s (H.set s.heap.objs.size ao) { s with heap:=s.heap.push ob }:=by
 have hlt:∀ b o,s.heap.get? b=some o->b≠s.heap.objs.size:=fun b o e q=>absurd (Heap.lt_size e) (by rw [q]; exact Nat.lt_irrefl _)
 refine ⟨⟨⟨fun b o e=>Heap.get?_push_of_some _ (G.rp.1 b o e),fun a o e=>?_⟩,fun L hL=>?_,(G.keeps fun b o e=>Heap.get?_push_of_some ob e).ff,fun a p=>?_,G.fp⟩,⟨fun b o e _ _ _=>Heap.get?_push_of_some _ e,fun b o e _ _ _=>⟨o.slots,Heap.get?_push_of_some _ e⟩,fun b o e nh=>?_,fun b o e _=>⟨o,Heap.get?_push_of_some _ e⟩⟩,rfl,rfl⟩
 ·by_cases q:a=s.heap.objs.size
  ·subst q
   rw [za] at e; cases e
   exact mAEA hs ob (Heap.get?_push_size _ hf) r
  ·rw [zf _ _ q] at e
   refine oAEA (G.rp.2 a o e) fun g1 ob' g2 g3=>?_
   exact mAEA g1 ob' (Heap.get?_push_of_some _ g2) (RepO.keeps zbO o ob' g3)
 ·have:=G.apart L hL
  rw [zf _ _ ?_]; exact this
  refine oAEA (G.ff.mem hL) fun _ o ho _=>?_
  exact hlt L o ho
 ·refine oAE (G.pv a p) fun n o e=>?_
  exact mAE ((zf _ _ (hlt a o e)).trans n) o (Heap.get?_push_of_some _ e)
 ·rw [zf _ _ (hlt b o e)]; exact nh
end
structure Pr (W:Wd) (lev:Nat) (A:Around) (frs:List Env) (s:Shared) (H:AH):Prop where
 rm:Rm lev A frs
 gd:Gd W frs H s.heap
 size:W.base.objs.size<=s.heap.objs.size
section
variable {fnA:Fn->Addr}
theorem zje:big<=16777216:=by decide
theorem zE {n:Nat} (h:n<=big):n<=sizeLine:=by rw [sizeLine_eq]; exact Nat.le_trans h (by decide)
theorem zat (G:Gd W frs H s.heap) {v:V} {x:Value} {vs:List V} (a:Abs W.clsA (W.D H) s.heap v x) (h:listOf H v=some vs) :
  ∃ b items,x=.ref b∧(∃ o,s.heap.get? b=some o∧o.cls=.type "list"∧o.dict=Option.none∧∃ n,o.data=.seq (List.toArray items) n)∧AbsL W.clsA (W.D H) s.heap vs items:=by
 induction v using V.casesOn with
 | lst xs =>
  cases h
  refine zu (zbc a) fun b items e _ o al=>?_
  exact zn b items e o al
 | ref b =>
  obtain rfl:=zI a
  have h:(match H b with | some (.list xs)=>some xs | _=>none)=some vs:=h
  cases hb:H b with
  | none=>rw [hb] at h; exact absN h
  | some ao =>
   rw [hb] at h
   induction ao using AObj.casesOn with
   | list xs =>
    cases h
    refine oAEA (G.rp.2 _ _ hb) fun _ ob g2 g3=>?_
    refine zh3 g3 fun c1 c2 items k c3 c4=>?_
    exact zn b items rfl ((zbX ob g2 c1 c2 k c3)) c4
   | _=>exact absN h
 | _=>exact absN h
theorem zk {h:Heap} {b:Addr} {items:List Value} (o:∃ o,h.get? b=some o∧o.cls=.type "list"∧o.dict=Option.none∧∃ n,o.data=.seq (List.toArray items) n):h.IsList b items.toArray :=
 zdw o fun o a b _ c=>(mEAA o a b c)
theorem zbr (G:Gd W frs H s.heap) {v:V} {x:Value} {ns:List Int} (a:Abs W.clsA (W.D H) s.heap v x) (h:IntsOf H v ns) :
  ∃ b items,x=.ref b/\s.heap.IsList b items.toArray/\IntsAre items ns:=by
 refine zd (zat G a h) fun b items e o al=>?_
 exact zn b items e (zk o) (AbsL.ints al)
theorem zk5 (P:Pr W lev A frs s H) {vs:List V} {xs:List Value} {tk:Nat} (a:AbsL W.clsA (W.D H) s.heap vs xs) (q:Q (.lst vs) H) :
  EPost W frs H s Q (.ref s.heap.objs.size) { s with heap:=s.heap.push { cls:=.type "list",data:=.seq xs.toArray },toks:=tk } :=
 (zY (.lst vs) H (zeo P.gd a) ((Step.push P.gd _).gd) ((Step.push P.gd _).ext) rfl rfl q)
theorem zgJ {prog:Program} {w:World} {l b:Addr} {vs ws:List Value} {Q:Value->Shared->Prop} (hl:s.heap.IsList l vs.toArray) (hb:s.heap.IsList b ws.toArray)
  (h:Q (.ref s.heap.objs.size) { s with heap:=s.heap.push { cls:=.type "list",data:=.seq (vs++ws).toArray } })
  (hsz:vs.length+ws.length<=sizeLine):wpAny (model prog w) A (binaryOp .Add (.ref l) (.ref b)) Q E s:=by
 refine zgW (id hl) fun yA ho hc n hd=>?_; obtain ⟨cls,dd,data,sl⟩:=yA
 refine zgW (id hb) fun yA ho2 hc2 n2 hd2=>?_; obtain ⟨cls2,dd2,data2,sl2⟩:=yA
 simp only at hc hd hc2 hd2
 subst hc hd hc2 hd2
 have e:vs.toArray++ws.toArray=(vs++ws).toArray:=by simp
 refine concat_meets (mEA _ ho rfl) (mEA _ ho2 rfl) noFill_list_add seq_list_add PySem.F.slot_list_add PySem.F.entry_list_add (PySem.F.args_list_add_2 _ _) (list_addW l b vs.toArray ws.toArray n n2 dd dd2 sl sl2 (by simpa using hsz)) ⟨ho,ho2,?_⟩
 rw [e]
 exact h
theorem strApp (x y:List Nat):((⟨x.toArray⟩:Str)++(⟨y.toArray⟩:Str))=⟨(x++y).toArray⟩:=by
 show (⟨x.toArray++y.toArray⟩:Str)=_
 rw [List.append_toArray]
theorem pBin (P:Pr W lev A frs s H) {op:Operator} {a b:V} {x y:Value} (ha:Abs W.clsA (W.D H) s.heap a x) (hb:Abs W.clsA (W.D H) s.heap b y) (h:WBin H Q op a b) :
  wpAny W.M A (binaryOp op x y) (EPost W frs H s Q) E s:=by
 have both:∀ {i j:Int},Abs W.clsA (W.D H) s.heap (.int i) x->Abs W.clsA (W.D H) s.heap (.int j) y->WBin H Q op (.int i) (.int j)->wpAny W.M A (binaryOp op x y) (EPost W frs H s Q) E s:=fun ha hb h=>by
  obtain ⟨t,rfl⟩:=zg ha
  obtain ⟨u,rfl⟩:=zg hb
  exact zlO P.gd h
 induction id h using WBin.casesOn with
 | @adds i j hl q =>
  obtain ⟨t,rfl⟩:=zbd ha
  obtain ⟨u,rfl⟩:=zbd hb
  refine KXadd.add (Nat.le_refl _) (Nat.le_refl _) (Nat.le_trans (show i.length+j.length<=big from hl) zje) fun t' k _=>?_
  rw [strApp]
  exact endT P.gd k (zbD (i++j) t') q
 | @addb i j hl q =>
  obtain ⟨t,rfl⟩:=zX ha
  obtain ⟨u,rfl⟩:=zX hb
  refine KBy.add_bytes (Nat.le_trans (show i.length+j.length<=big from hl) zje) fun t' k=>?_
  rw [List.append_toArray]
  exact endT P.gd k (za8 (i++j) t') q
 | addl hl q =>
  refine zd (zat P.gd ha rfl) fun b1 items yC o1 al=>?_; obtain rfl:=yC
  refine zd (zat P.gd hb rfl) fun b2 items2 yC o2 al2=>?_; obtain rfl:=yC
  refine zgJ (zk o1) (zk o2) (zk5 P (tk:=s.toks) (AbsL.append al al2) q) ?_
  rw [al.length,al2.length]; exact zE hl
 | _=>exact both ha hb h
theorem AbsL.rep {D:Addr->Prop} {h:Heap} {v:V} {x:Value} (a:Abs W.clsA D h v x):∀ k,AbsL W.clsA D h (List.replicate k v) (List.replicate k x)
 | 0=>AbsL.nil
 | k+1=>AbsL.cons a (AbsL.rep a k)
theorem zj7 (P:Pr W lev A frs s H) {ao:AObj} {ob:Obj} {tk:Nat} (hf:ob.isFreed=false) (r:RepO W.prog W.w W.clsA (W.D (H.set s.heap.objs.size ao)) (s.heap.push ob) ao ob) (q:wpFresh H Q ao) :
  EPost W frs H s Q (.ref s.heap.objs.size) { s with heap:=s.heap.push ob,toks:=tk } :=
 let st:=za9 P.gd P.size hf r
 (zY (.ref _) _ (zcc _) st.gd st.ext rfl rfl (q _ (zQ P.gd)))
theorem pRep (P:Pr W lev A frs s H) {l:Addr} {v:V} {x:Value} {u:V} {y:Value} (ha:Abs W.clsA (W.D H) s.heap v x) (hu:Abs W.clsA (W.D H) s.heap u y) (hl:s.heap.IsList l #[x]) (h:WRep H Q v u) :
  wpAny W.M A (binaryOp .Mult (.ref l) y) (EPost W frs H s Q) E s:=by
 obtain ⟨k,rfl,hk,h⟩:∃ k:Int,u=.int k/\(0<=k/\k<=1000000)/\wpFresh H Q (.list (List.replicate k.toNat v)):=by
  obtain ⟨hk,h⟩:=h
  exact mEAA _ rfl ⟨Int.natCast_nonneg _,Int.ofNat_le.mpr hk⟩ h
 obtain ⟨t,rfl⟩:=zg hu
 refine zgW (id hl) fun yA ho hcl n hd=>?_; obtain ⟨cls,d,data,sl⟩:=yA
 simp only at hcl hd
 subst hcl hd
 have hk':k.toNat<=1000000:=Int.toNat_le.mpr hk.2
 have hsz':(#[x] : Array Value).size*k.toNat<=2 ^ 24:=Nat.le_trans (Nat.le_of_eq (Nat.one_mul _)) (Nat.le_trans hk' (by decide))
 refine wpAny_binaryOp_repeat_ref (T:="list") (U:="int") (by decide) (mEA _ ho rfl) (fun s'=>typeIs_int s' k t) noFill_list_mul F.fills_int_mul F.slot_int_rmul repeat_list F.slot_int_index.lookup
  (call_meets F.slot_int_rmul (typeIs_int s k t) F.entry_int_rmul (F.args_int_rmul_2 _ _) (lm_int_rmul_list_any k t l #[x] n d sl)
   ⟨ho,rfl,(mEA _ ho rfl),call_meets F.slot_list_mul (mEA _ ho rfl) F.entry_list_mul (F.args_list_mul_2 _ _)
    (lm_list_mul_any l #[x] n d sl k t (by rw [fitsIndex_of hk.1 (Int.lt_of_le_of_lt hk.2 (by decide))]; decide) (Nat.not_lt.mpr (Nat.le_trans hsz' (by decide))) (fun e=>absurd (of_decide_eq_true e) (Nat.not_lt.mpr (Nat.le_trans hsz' (Nat.le_of_eq sizeLine_eq.symm)))))
    ⟨ho,?_⟩⟩)
 rw [show (#[x] : Array Value)=[x].toArray from rfl,listMul_foldl_if]
 refine zj7 P (tk:=s.toks) rfl ?_ h
 refine zd6 rfl rfl (List.replicate k.toNat x) 0 (by rw [List.flatten_replicate_singleton]) (AbsL.rep ?_ _)
 exact Abs.keeps zbO _ _ ha
end
end Mine
end
section
open PySem PySem.W PyProof.Rows PySem.Calls PySem.SeqAt PySem.Spec
namespace Mine
section
variable {fnA:Fn->Addr}
theorem Pr.u64 (P:Pr W lev A frs s H):A.units+64 < cLine:=Nat.lt_of_le_of_lt (by exact #[0x39805188241118804111,_,_] ) P.rm.units
theorem Pr.notSys (P:Pr W lev A frs s H) {a:Addr} {o:AObj} (h:H a=some o):(a == sysModules)=false:=by
 have h1:=(P.gd.rp.2 a o h).1
 have h2:=W.low
 simp only [beq_eq_false_iff_ne]
 intro e; subst e; exact Nat.not_lt.mpr h1 h2
theorem zhP {D:Addr->Prop} {h:Heap} (k:Int) {kvs:List (Int×V)} {xs:List (Int×Value)} (a:AbsKV W.clsA D h kvs xs) :
  (∀ v,dget kvs k=some v->∃ y,valueAt xs k=some y/\Abs W.clsA D h v y)/\(dget kvs k=none->valueAt xs k=none):=by
 induction kvs using List.rec generalizing xs with
 | nil =>
  obtain rfl:xs=[]:=a
  exact ⟨fun v e=>(nomatch e),fun _=>rfl⟩
 | cons p r ih =>
  refine zd a fun y ys yC a1 a2=>?_; obtain rfl:=yC
  have ih:=ih a2
  unfold dget at ih ⊢
  rw [List.lookup_cons]
  unfold valueAt at ih ⊢
  rw [List.find?_cons]
  by_cases e:k=p.1
  ·rw [beq_iff_eq.mpr e,decide_eq_true e.symm]
   exact ⟨fun v e=>(by cases e; exact (mEA y rfl a1)),fun e=>nomatch e⟩
  ·rw [beq_eq_false_iff_ne.mpr e,decide_eq_false (Ne.symm e)]; exact ih
theorem zms {D:Addr->Prop} {h:Heap} {k:Int} {kvs:List (Int×V)} {xs:List (Int×Value)} (a:AbsKV W.clsA D h kvs xs):(valueAt xs k).isSome=(dget kvs k).isSome:=by
 have:=zhP k a
 cases q:dget kvs k with
 | none=>rw [this.2 q]; rfl
 | some v=>refine oEA (this.1 v q) fun y e _=>?_; rw [e]; rfl
theorem dictAt (P:Pr W lev A frs s H) {a:Addr} {kvs:List (Int×V)} (h:H a=some (.dict kvs)):∃ xs,s.heap.DictOf (intKind W.prog W.w) a xs/\AbsKV W.clsA (W.D H) s.heap kvs xs:=by
 refine zfm (P.gd.rp.2 _ _ h) fun _ ob g2 c1 ps yF c3=>?_; obtain ⟨es,c2⟩:=yF
 exact mEA ps ((zhL ob es es.size g2 c2)) c3
theorem endB (P:Pr W lev A frs s H) {b:Bool} (tk:Nat) (q:QB b H):RPost W frs H s BV QB (.bool b) { s with toks:=tk }:=endT P.gd tk rfl q
theorem zaM (P:Pr W lev A frs s H) {b:Bool} (q:QB b H):RPost W frs H s BV QB (.bool b) s:=end0 P.gd rfl q
theorem zmr (ns:List Int) (k:Int):ns.any (· == k)=decide (k∈ns):=by
 rw [Bool.eq_iff_iff]; simp
theorem pIn (P:Pr W lev A frs s H) {op:CmpOp} {a b:V} {x y:Value} {r:Bool} (neg:Bool) (hop:op=if neg then .NotIn else .In) (ha:Abs W.clsA (W.D H) s.heap a x) (hb:Abs W.clsA (W.D H) s.heap b y) (h:InR H a b r) (q:QB (if neg then !r else r) H) :
  wpAny W.M A (compareOp op x y) (RPost W frs H s BV QB) E s:=by
 induction h using InR.casesOn with
 | @«ints» k b ns h =>
  obtain ⟨t,rfl⟩:=zg ha
  refine zd (zbr P.gd hb h) fun l items yC hl hi=>?_; obtain rfl:=yC
  rw [<- zmr] at q
  induction neg using Bool.casesOn <;> subst hop
  ·exact in_list_ints hl hi (zaM P q)
  ·exact notin_list_ints hl hi (zaM P q)
 | @dict k r kvs hr =>
  obtain ⟨t,rfl⟩:=zg ha
  obtain rfl:=zI hb
  refine oEA (dictAt P hr) fun xs hd hkv=>?_
  rw [<- zms hkv] at q
  induction neg using Bool.casesOn <;> subst hop
  ·exact wpAny_in_of (intKind_is _ _ k t) (P.notSys hr) hd.mapOf (endB P _ q)
  ·exact wpAny_notIn_of (intKind_is _ _ k t) (P.notSys hr) hd.mapOf (endB P _ q)
theorem zgC:∀ (ns ms:List Int),PyData.eqvAll (ns.map PyData.int) (ms.map PyData.int)=decide (ns=ms)
 | [],[]=>by simp [PyData.eqvAll]
 | [],_::_=>by simp [PyData.eqvAll]
 | _::_,[]=>by simp [PyData.eqvAll]
 | a::r,b::t=>by
  simp only [List.map_cons,PyData.eqvAll,PyData.eqv,zgC r t]
  by_cases h:a=b <;> by_cases h':r=t <;> simp [h,h']
theorem zii (a1 a2 b1 b2:List Int):PyData.eqv (.tuple [.list (a1.map .int),.list (a2.map .int)]) (.tuple [.list (b1.map .int),.list (b2.map .int)])=(decide (a1=b1)&&decide (a2=b2)):=by
 simp only [PyData.eqv,PyData.eqvAll,zgC,Bool.and_true]
theorem za6 (a1 a2:List Int):shaped (.tuple [.list (a1.map .int),.list (a2.map .int)])=true:=by
 simp [shaped,PyData.canLay0,PyData.canLayAll0,PyData.depth,PyData.depthAll,ke_canLayAll0,ke_depthAll]
theorem zew (P:Pr W lev A frs s H) {a1 a2:V} {x:Value} {n1 n2:List Int} (ha:Abs W.clsA (W.D H) s.heap (.tup [a1,a2]) x) (h1:IntsOf H a1 n1) (h2:IntsOf H a2 n2) :
  ∃ as,Reads s.heap x (.tuple [.list (n1.map .int),.list (n2.map .int)]) as:=by
 refine zu (zc3 ha) fun b items yC _ yE al=>?_; obtain rfl:=yC; refine zgW yE fun o ho hc k hd=>?_
 obtain ⟨y1,ys,rfl,b1,al⟩:∃ y ys,items=y::ys/\Abs W.clsA (W.D H) s.heap a1 y/\AbsL W.clsA (W.D H) s.heap [a2] ys:=al
 obtain ⟨y2,zs,rfl,b2,al⟩:∃ y zs,ys=y::zs/\Abs W.clsA (W.D H) s.heap a2 y/\AbsL W.clsA (W.D H) s.heap [] zs:=al
 obtain rfl:zs=[]:=al
 refine zd (zbr P.gd b1 h1) fun l1 i1 yC hl1 hi1=>?_; obtain rfl:=yC
 refine zd (zbr P.gd b2 h2) fun l2 i2 yC hl2 hi2=>?_; obtain rfl:=yC
 exact ⟨_,.tuple ho hc hd (.cons (reads_newData hl1 (ke_carried hi1)) (.cons (reads_newData hl2 (ke_carried hi2)) .nil))⟩
theorem pEq (P:Pr W lev A frs s H) {op:CmpOp} {a b:V} {x y:Value} {r:Bool} (neg:Bool) (hop:op=if neg then .NotEq else .Eq) (ha:Abs W.clsA (W.D H) s.heap a x) (hb:Abs W.clsA (W.D H) s.heap b y) (h:EqR H a b r) (q:QB (if neg then !r else r) H) :
  wpAny W.M A (compareOp op x y) (RPost W frs H s BV QB) E s:=by
 induction h using EqR.casesOn with
 | @int i j =>
  obtain ⟨t,rfl⟩:=zg ha
  obtain ⟨u,rfl⟩:=zg hb
  induction neg using Bool.casesOn <;> subst hop
  ·exact PySem.P.eq_int (zaM P q)
  ·exact PySem.P.ne_int (zaM P q)
 | @str i j =>
  obtain ⟨t,rfl⟩:=zbd ha
  obtain ⟨u,rfl⟩:=zbd hb
  have e:(i.toArray.toList == j.toArray.toList)=decide (i=j):=by rw [Bool.eq_iff_iff,beq_iff_eq,decide_eq_true_eq]
  rw [<- e] at q
  induction neg using Bool.casesOn <;> subst hop
  ·exact PySem.P.eq_str (zaM P q)
  ·exact PySem.P.ne_str (zaM P q)
 | @bytes i j =>
  obtain ⟨t,rfl⟩:=zX ha
  obtain ⟨u,rfl⟩:=zX hb
  have e:(i.toArray.toList == j.toArray.toList)=decide (i=j):=by rw [Bool.eq_iff_iff,beq_iff_eq,decide_eq_true_eq]
  rw [<- e] at q
  induction neg using Bool.casesOn <;> subst hop
  ·exact PySem.W.eq_bytes (zaM P q)
  ·exact PySem.W.ne_bytes (zaM P q)
 | «ints» h1 h2 =>
  refine zd (zbr P.gd ha h1) fun b1 items yC hl hi=>?_; obtain rfl:=yC
  refine zd (zbr P.gd hb h2) fun b2 items2 yC hl2 hi2=>?_; obtain rfl:=yC
  induction neg using Bool.casesOn <;> subst hop
  ·exact ke_eq_ints hl hl2 hi hi2 P.u64 (zaM P q)
  ·exact ke_ne_ints hl hl2 hi hi2 P.u64 (zaM P q)
 | two h1 h2 h3 h4 =>
  obtain ⟨as1,r1⟩:=zew P ha h1 h2
  obtain ⟨as2,r2⟩:=zew P hb h3 h4
  induction neg using Bool.casesOn <;> subst hop
  ·exact eq_dataH r1 r2 (za6 _ _) (za6 _ _) P.u64 (by rw [zii]; exact zaM P q)
  ·exact ne_dataH r1 r2 (za6 _ _) (za6 _ _) P.u64 (by rw [zii]; exact zaM P q)
end
end Mine
end
section
open PySem PySem.W PyProof.Rows PySem.Calls
namespace Mine
noncomputable def allAt:List At:=[.most,.counts,.symbols,.root,.sizes,.lesser,.more,.lengths,.codes,.data,.stop,.position,.made,.held,.heldBits]
theorem At.mem (a:At):a∈allAt:=List.mem_of_getElem? (i:=a.ctorIdx) (by induction a using At.casesOn <;> rfl)
theorem At.inj (a b:At) (h:a.str=b.str):a=b:=by
 have k:(allAt.all fun a=>allAt.all fun b=>a.str != b.str || a.ctorIdx == b.ctorIdx)=true:=by decide +kernel
 have:=List.all_eq_true.mp (List.all_eq_true.mp k a a.mem) b b.mem
 rw [h,bne_self_eq_false,Bool.false_or] at this
 exact At.of (eq_of_beq this)
section
variable {fnA:Fn->Addr}
theorem zby {a:Addr} {ao ao':AObj} (hH:H a=some ao) {h h':Heap} (hs:∀ b,b≠a->h'.get? b=h.get? b):KeepV (W.D H) h (W.D (H.set a ao')) h':=fun b o e n _=>by
 obtain ⟨n1,n2⟩:=zaq n
 have ne:b≠a:=fun q=>by rw [q,hH] at n1; exact absM n1
 exact ⟨⟨o.slots,by rw [hs b ne]; exact e⟩,zch ((zf _ _ ne).trans n1) n2⟩
theorem zkA (fs:List (At×V)) (nm:At) (v:V):(fput fs nm v).length<=fs.length+1:=by
 induction fs using List.rec with
 | nil=>exact Nat.le_refl _
 | cons p r ih=>exact @iteInduction _ _ (atDec _ _) (fun l:List (At×V)=>l.length<=r.length+1+1) _ _ (fun _=>Nat.le_succ _) fun _=>Nat.succ_le_succ ih
theorem Step.put (G:Gd W frs H s.heap) {a:Addr} {ao ao':AObj} (hH:H a=some ao) {h':Heap} {ob':Obj} {tk:Nat} (ho:h'.get? a=some ob') (hs:∀ b,b≠a->h'.get? b=s.heap.get? b) (r:RepO W.prog W.w W.clsA (W.D (H.set a ao')) h' ao' ob') :
  Step W frs H s (H.set a ao') { s with heap:=h',toks:=tk }:=by
 have ne:∀ b,H b=none->b≠a:=fun b n q=>by rw [q,hH] at n; exact absM n
 have kv:KeepV (W.D H) s.heap (W.D (H.set a ao')) h':=fun b o e n _=>by
  obtain ⟨n1,n2⟩:=zaq n
  exact ⟨⟨o.slots,by rw [hs b (ne b n1)]; exact e⟩,zch ((zf _ _ (ne b n1)).trans n1) n2⟩
 have same:∀ b o,s.heap.get? b=some o->H b=none->h'.get? b=some o:=fun b o e n=>by rw [hs b (ne b n)]; exact e
 refine ⟨⟨⟨fun b o e=>same b o (G.rp.1 b o e) (G.base_none e),fun b o e=>?_⟩,fun L hL=>(zf _ _ (ne L (G.apart L hL))).trans (G.apart L hL),?_,fun b p=>?_,G.fp⟩,⟨fun b o e n _ _=>same b o e n,fun b o e n _ _=>⟨o.slots,same b o e n⟩,fun b o e n=>(zf _ _ (ne b n)).trans n,fun b o e n=>⟨o,same b o e n⟩⟩,rfl,rfl⟩
 ·by_cases q:b=a
  ·subst q
   rw [za] at e; cases e
   exact mAEA ((G.rp.2 _ _ hH).1) ob' ho r
  ·rw [zf _ _ q] at e
   refine oAEA (G.rp.2 b o e) fun g1 ob g2 g3=>?_
   exact mAEA g1 ob (by show h'.get? b=_; rw [hs b q]; exact g2) (RepO.keeps kv o ob g3)
 ·have hfr:∀ L∈frA frs,h'.get? L=s.heap.get? L:=fun L hL=>hs L (ne L (G.apart L hL))
  have ff:=G.ff
  show h'.FunFrames W.base frs
  clear r kv same
  generalize s.heap=h at ff hfr
  induction frs with
  | nil=>trivial
  | cons env l ih =>
   refine oAA ff fun hk yB hr=>?_; obtain ⟨L,o,hf,hn,ho',hd⟩:=yB
   have hmem:L∈frA (env::l):=by unfold frA; rw [List.filterMap_cons,hf]; exact List.mem_cons_self
   have hsub:∀ L∈frA l,L∈frA (env::l):=fun L hL=>by unfold frA; rw [List.filterMap_cons,hf]; exact List.mem_cons_of_mem _ hL
   exact ⟨hk,(zx L o hf hn ((hfr L hmem).trans ho') hd),ih ⟨G.rp,fun L hL=>G.apart L (hsub L hL),G.ff.2.2,G.pv,fun L hL=>G.fp L (hsub L hL)⟩ hr fun L hL=>hfr L (hsub L hL)⟩
 ·refine oAE (G.pv b p) fun n o e=>?_
  exact mAE ((zf _ _ (ne b n)).trans n) o (same b o e n)
theorem zg6 {D:Addr->Prop} {h:Heap} {v:V} {y:Value} (a:Abs W.clsA D h v y):handedIn y=true:=by
 induction v using V.casesOn with
 | none=>obtain rfl:=zcB a; rfl
 | bool b=>obtain rfl:=zfE a; rfl
 | int i=>obtain ⟨t,rfl⟩:=zg a; rfl
 | str i=>obtain ⟨t,rfl⟩:=zbd a; rfl
 | bytes i=>obtain ⟨t,rfl⟩:=zX a; rfl
 | ref i=>obtain rfl:=zI a; rfl
 | tup i=>refine oEEA (zc3 a) fun b items yC _=>?_; obtain rfl:=yC; rfl
 | lst i=>refine oEEA (zbc a) fun b items yC _=>?_; obtain rfl:=yC; rfl
 | inst c b dx=>obtain ⟨rfl,_⟩:=zhA a; rfl
theorem zd9 {k nm:At} {t:Tok} (e:k=nm):(Value.str k.str t).isStr nm.str=true:=e ▸ beq_self_eq_true k.str
theorem zgp {k nm:At} {t:Tok} (e:¬ k=nm):(Value.str k.str t).isStr nm.str=false:=beq_eq_false_iff_ne.mpr fun q=>e (At.inj _ _ q)
theorem f_get {D:Addr->Prop} {h:Heap} (nm:At) {fs:List (At×V)} {es:List DictEntry} (a:AbsF W.clsA D h fs es) (v) (e:fget fs nm=some v):∃ e,es.find? (·.key.isStr nm.str)=some e/\Abs W.clsA D h v e.val:=by
 induction fs using List.rec generalizing es with
 | nil=>cases e
 | cons p r ih =>
  refine zu a fun y ys yC yD a1 a2=>?_; obtain rfl:=yC; obtain ⟨t,hk⟩:=yD
  rw [List.find?_cons,hk]
  by_cases q:p.1=nm
  ·obtain rfl:=Option.some.inj ((if_pos q).symm.trans e)
   rw [zd9 q]
   exact mEA y rfl a1
  ·rw [zgp q]
   exact ih a2 ((if_neg q).symm.trans e)
theorem zir {D:Addr->Prop} {h:Heap} {fs:List (At×V)} {es:List DictEntry} (a:AbsF W.clsA D h fs es):es.any (·.refKey)=false:=by
 induction fs using List.rec generalizing es with
 | nil=>cases (show es=[] from a); rfl
 | cons p r ih =>
  refine zu a fun y ys yC yD a1 a2=>?_; obtain rfl:=yC; obtain ⟨t,hk⟩:=yD
  rw [List.any_cons,ih a2,Bool.or_false]
  unfold DictEntry.refKey; rw [hk]
theorem f_len {D:Addr->Prop} {h:Heap} {fs:List (At×V)} {es:List DictEntry} (a:AbsF W.clsA D h fs es):es.length=fs.length:=by
 induction fs using List.rec generalizing es with
 | nil=>exact congrArg List.length (show es=[] from a)
 | cons p r ih =>
  refine zu a fun y ys yC yD a1 a2=>?_; obtain rfl:=yC
  exact congrArg Nat.succ (ih a2)
theorem f_put {D:Addr->Prop} {h:Heap} (nm:At) {v:V} {y:Value} (hv:Abs W.clsA D h v y) (hsh:Int) (t:Tok) {fs:List (At×V)} {es:List DictEntry} (a:AbsF W.clsA D h fs es) :
  AbsF W.clsA D h (fput fs nm v) (putIn (·.key.isStr nm.str) (fun e=>{ e with val:=y }) ⟨hsh,.str nm.str t,y⟩ es):=by
 induction fs using List.rec generalizing es with
 | nil =>
  obtain rfl:es=[]:=a
  exact zx _ ([]) rfl ⟨t,rfl⟩ hv rfl
 | cons p r ih =>
  refine zu a fun e ys yC yD a1 a2=>?_; obtain rfl:=yC; obtain ⟨tk,hk⟩:=yD
  by_cases q:p.1=nm
  ·rw [putIn_hit _ _ _ _ _ (by rw [hk,zd9 q]),show fput (p::r) nm v=_ from if_pos q]
   exact zx _ ys rfl ⟨tk,q ▸ hk⟩ hv a2
  ·rw [putIn_miss _ _ _ _ _ (by rw [hk,zgp q]),show fput (p::r) nm v=_ from if_neg q]
   exact zx e _ rfl ⟨tk,hk⟩ a1 (ih a2)
theorem zif (P:Pr W lev A frs s H) {c:Cls} {a dx:Addr} {x:Value} {fs:List (At×V)} (ha:Abs W.clsA (W.D H) s.heap (.inst c a dx) x) (hf:H dx=some (.fields fs)) :
  ∃ sl es n,x=.ref a/\InstAt s.heap a ⟨.ref (W.clsA c),some dx,.plain,sl⟩ (W.clsA c) (some (dictOf es n))/\AbsF W.clsA (W.D H) s.heap fs es/\s.heap.get? dx=some (dictOf es n):=by
 refine oAAE (zhA ha) fun yA _ sl ho=>?_; obtain rfl:=yA
 obtain ⟨_,ob,g2,es,n,rfl,g3⟩:=P.gd.rp.2 _ _ hf
 exact zS sl es n rfl ⟨ho,rfl,rfl,g2⟩ g3 g2
theorem Pr.kin (P:Pr W lev A frs s H):W.K.In s.heap:=fun b o e=>P.gd.rp.1 b o (W.kin b o e)
theorem pAttr (P:Pr W lev A frs s H) {a:V} {x:Value} {nm:At} (ha:Abs W.clsA (W.D H) s.heap a x) (h:WAttr H Q a nm):wpAny W.M A (getAttr x nm.str true) (EPost W frs H s Q) E s:=by
 obtain ⟨hf,hg,q⟩:=h
 refine zB (zif P ha hf) fun sl es n yD I af ho=>?_; obtain rfl:=yD
 refine oEA (f_get nm af _ hg) fun e he av=>?_
 obtain ⟨cd,hcd,hd⟩:=(W.cok _).cd
 refine get_value P.kin I (W.cok _).ga ?_ (zg6 av) (endT P.gd _ av q)
 unfold findObj
 rw [hcd,Option.bind_some,(W.cok _).no nm,Option.bind_some]
 dsimp only
 rw [Option.bind_some]
 unfold PySem.W.ownOf
 rw [hd,if_pos rfl]
 dsimp only
 unfold lookIn
 dsimp only
 rw [he]
 rfl
theorem zke (P:Pr W lev A frs s H) {c:Cls} {a dx:Addr} {x y:Value} {v:V} {nm:At} {fs:List (At×V)} {K:Unit->Shared->Prop} (ha:Abs W.clsA (W.D H) s.heap (.inst c a dx) x) (hf:H dx=some (.fields fs)) (hz:fs.length<=100) (hv:Abs W.clsA (W.D H) s.heap v y)
  (k:∀ s',Step W frs H s (H.set dx (.fields (fput fs nm v))) s'->K () s'):wpAny W.M A (setAttr x nm.str y) K E s:=by
 refine zB (zif P ha hf) fun sl es n yD I af D=>?_; obtain rfl:=yD
 refine oEA ((W.cok c).cd) fun cd hc hd'=>?_
 have X:=P.kin
 have ht:takerIn W.K (W.clsA c) nm.str=some none:=by unfold takerIn; rw [(W.cok c).no nm]; rfl
 refine set_plain X I (W.cok c).sa (osa_open (s:={ s with toks:=s.toks+1 }) X I (W.cok c).over ht fun b=>?_)
 obtain ⟨hx,hcl,hn,-⟩:=I
 refine wpAny_bind (wpAny_pure (wpAny_bind (wpAny_bind (wpAny_loadPart hx (wpAny_bind ((looks_clsIn X hc).at ?_))))))
 rw [hd']
 refine wpAny_pure (a:=some dx) (wpAny_bind (wpAny_pure (wpAny_bind ?_)))
 unfold nsSet
 refine wpAny_bind (wpAny_bind (wpAny_askSetting (wpAny_pure (wpAny_bind (wpAny_mkText (wpAny_bind (wpAny_loadPart D ?_)))))))
 dsimp only
 rw [aRefKeyMayBeTheName_at,show ((es.toArray:Array DictEntry).any (·.refKey))=false from by rw [<- Array.any_toList]; exact zir af,Bool.and_false]
 refine wpAny_updatePart D ?_
 generalize hhs:(if nm.str.cps.isEmpty=true then (0:Int) else _)=hsh
 have pe:=PySem.putName_eq nm.str hsh (.str nm.str (s.toks+1)) y (.type "dict") none es n #[]
 have hg:((s.heap).update dx (Obj.putName nm.str hsh (.str nm.str (s.toks+1)) y)).get? dx=some (dictOf (putIn (·.key.isStr nm.str) (fun e=>{ e with val:=y }) ⟨hsh,.str nm.str (s.toks+1),y⟩ es) (if es.any (·.key.isStr nm.str) then n else n+1)):=by
  have:=Heap.get?_update_self (Obj.putName nm.str hsh (.str nm.str (s.toks+1)) y) D (by show (Obj.putName _ _ _ _ ⟨_,_,_,_⟩).isFreed=false; rw [pe]; rfl)
  rw [this]
  show some (Obj.putName _ _ _ _ ⟨_,_,_,_⟩)=_
  rw [pe]
 have hs:∀ b,b≠dx->((s.heap).update dx (Obj.putName nm.str hsh (.str nm.str (s.toks+1)) y)).get? b=s.heap.get? b:=fun b hb=>Heap.get?_update_other _ _ (Ne.symm hb)
 have kp:=zby (W:=W) (ao':=.fields (fput fs nm v)) hf hs
 have st:=Step.put (ao':=.fields (fput fs nm v)) (tk:=s.toks+1+1) P.gd hf hg hs (mEEA _ _ rfl (f_put nm (Abs.keeps kp v y hv) _ _ (AbsF.keeps kp _ _ af)))
 refine wpAny_bind (wpAny_lookBehind hg (pastItsLine_dict ?_) ?_)
 ·rw [List.size_toArray,sizeLine_eq]
  have:=f_len (f_put nm hv hsh (s.toks+1) af)
  have h2:=zkA fs nm v
  exact #[0x1888888890511104161165311cc0411,_,_,_] hz this h2
 ·exact wpAny_pure (k _ st)
theorem pCmp (P:Pr W lev A frs s H) {op:CmpOp} {a b:V} {x y:Value} (ha:Abs W.clsA (W.D H) s.heap a x) (hb:Abs W.clsA (W.D H) s.heap b y) (h:WCmp H QB op a b) :
  wpAny W.M A (compareOp op x y) (RPost W frs H s BV QB) E s:=by
 induction h using WCmp.casesOn with
 | eq e q=>exact pEq P false rfl ha hb e q
 | ne e q=>exact pEq P true rfl ha hb e q
 | isin e q=>exact pIn P false rfl ha hb e q
 | notin e q=>exact pIn P true rfl ha hb e q
 | lt q =>
  obtain ⟨t,rfl⟩:=zg ha
  obtain ⟨u,rfl⟩:=zg hb
  exact PySem.P.lt_int (zaM P q)
 | le q =>
  obtain ⟨t,rfl⟩:=zg ha
  obtain ⟨u,rfl⟩:=zg hb
  exact PySem.P.le_int (zaM P q)
 | gt q =>
  obtain ⟨t,rfl⟩:=zg ha
  obtain ⟨u,rfl⟩:=zg hb
  exact PySem.P.gt_int (zaM P q)
 | ge q =>
  obtain ⟨t,rfl⟩:=zg ha
  obtain ⟨u,rfl⟩:=zg hb
  exact PySem.P.ge_int (zaM P q)
 | isnn q=>obtain rfl:=zcB ha; obtain rfl:=zcB hb; exact is_none_none (zaM P q)
 | isin' q=>obtain ⟨t,rfl⟩:=zg ha; obtain rfl:=zcB hb; exact is_int_none (zaM P q)
theorem zmb (P:Pr W lev A frs s H) {a:V} {x:Value} (ha:Abs W.clsA (W.D H) s.heap a x) (h:WTru H QB a):wpAny W.M A (truthy x) (RPost W frs H s BR QB) E s:=by
 obtain ⟨q⟩:=h
 obtain rfl:=zfE ha; exact wpAny_truthy_bool (end0 P.gd rfl q)
theorem lt63 {n:Nat} (h:n<=1000000):((n:Nat):Int) < 2 ^ 63:=Int.lt_of_le_of_lt (Int.ofNat_le.mpr h) (by decide)
theorem zeu (P:Pr W lev A frs s H) {a b:V} {x y:Value} (ha:Abs W.clsA (W.D H) s.heap a x) (hb:Abs W.clsA (W.D H) s.heap b y) (h:WSub H Q a b) :
  ∃ T id,s.TypeIs x T∧typeLookup (.type T) "__getitem__"=pure (some (.builtin id))∧wpAny W.M A (getItem x y) (EPost W frs H s Q) E s:=by
 have item:∀ {v w:V} {x:Value} {xs:List V} {k:Nat},Abs W.clsA (W.D H) s.heap v x→Abs W.clsA (W.D H) s.heap (iv k) y→listOf H v=some xs→k < 2 ^ 62→xs[k]?=some w→Q w H→∃ T id,s.TypeIs x T∧typeLookup (.type T) "__getitem__"=pure (some (.builtin id))∧wpAny W.M A (getItem x y) (EPost W frs H s Q) E s:=fun {v w x xs k} av hb hl h1 h2 q=>by
  obtain ⟨t,rfl⟩:=zg hb
  refine zd (zat P.gd av hl) fun b items yC o al=>?_; obtain rfl:=yC
  refine oEA (AbsL.get al h2) fun y hy ay=>?_
  exact (zn ("list") _ ((zk o).typeIs) slot_list_getitem.lookup (wpAny_getItem_list (zk o) (Int.natCast_nonneg k) (Int.ofNat_lt.mpr (Nat.lt_trans h1 (by decide))) (by simpa using hy) (end0 P.gd ay q)))
 induction h using WSub.casesOn with
 | lst h hk q=>exact item ha hb rfl hk h q
 | list h e hk q=>exact item ha hb (by show (match H _ with | some (.list xs)=>some xs | _=>none)=_; rw [h]) hk e q
 | dict h e q =>
  obtain ⟨u,rfl⟩:=zg hb
  obtain rfl:=zI ha
  refine oEA (dictAt P h) fun xs hd hkv=>?_
  refine oEA ((zhP _ hkv).1 _ e) fun y hy ay=>?_
  exact (zn ("dict") _ hd.mapOf.typeIs slot_dict_getitem.lookup (wpAny_getItem_of (intKind_is _ _ _ u) hd.mapOf hy (endT P.gd _ ay q)))
 | @str i k c h hs q =>
  obtain ⟨u,rfl⟩:=zg hb
  obtain ⟨t,rfl⟩:=zbd ha
  obtain ⟨hlt,hg⟩:=List.getElem?_eq_some_iff.mp h
  have hs:i.length<=1000000:=hs
  refine (zn ("str") _ (typeIs_str _ _ _) F.slot_str_getitem.lookup (PySem.P.getItem_str (c:=c) ?_ ?_ (endT P.gd _ (zbD [c] _) q)))
  ·rw [show Int.ofNat k=(k:Int) from rfl]
   rw [decide_eq_false (Int.not_lt.mpr (Int.le_trans (by decide) (Int.natCast_nonneg k))),decide_eq_false (Int.not_le.mpr (lt63 (Nat.le_trans (Nat.le_of_lt hlt) hs)))]; rfl
  ·have:seqIndex? (Int.ofNat k) i.toArray.size=some k:=by
    have h0:(0:Int)<=Int.ofNat k:=Int.natCast_nonneg k
    have hn:¬ Int.ofNat k < 0:=Int.not_lt.mpr h0
    have h1:Int.ofNat k < (i.length:Int):=Int.ofNat_lt.mpr hlt
    unfold seqIndex?
    simp only [hn,h0,h1,List.size_toArray,if_false]
    rfl
   refine (?_:(seqIndex? (Int.ofNat k) i.toArray.size).bind _=_)
   rw [this]
   refine (?_:i.toArray[k]?=_)
   rw [List.getElem?_toArray]; exact h
 | @bytes i k c h hs q =>
  obtain ⟨u,rfl⟩:=zg hb
  obtain ⟨t,rfl⟩:=zX ha
  obtain ⟨hlt,hg⟩:=List.getElem?_eq_some_iff.mp h
  refine (zn ("bytes") _ (typeIs_bytes _ _ _) FB.slot_bytes_getitem.lookup (getItem_bytes (Nat.le_trans hs (by decide)) (Int.natCast_nonneg k) (Int.ofNat_lt.mpr hlt) (endT P.gd _ (zh _ _) ?_)))
  rw [List.getD_eq_getElem?_getD,show (Int.ofNat k).toNat=k from rfl,h]; exact q
theorem zka (P:Pr W lev A frs s H) {a b:V} {x y:Value} (ha:Abs W.clsA (W.D H) s.heap a x) (hb:Abs W.clsA (W.D H) s.heap b y) (h:WSub H Q a b):wpAny W.M A (getItem x y) (EPost W frs H s Q) E s :=
 zd (zeu P ha hb h) fun _ _ _ _ z=>z
theorem zcC {slice:Expr} (hns:∀ lo hi st p,slice≠.Slice lo hi st p) (o i:Value):subscripted slice false o i=operate [o,i] (getItem o i):=by
 induction slice using Expr.casesOn <;> first | rfl | exact absurd rfl (hns _ _ _ _)
theorem pSub (P:Pr W lev A frs s H) {a b:V} {x y:Value} (value slice:Expr) (hns:∀ lo hi st p,slice≠.Slice lo hi st p) (ha:Abs W.clsA (W.D H) s.heap a x) (hb:Abs W.clsA (W.D H) s.heap b y) (h:WSub H Q a b) :
  wpAny W.M A (subscriptTail value slice x y) (EPost W frs H s Q) E s :=
 zd (zeu P ha hb h) fun _ _ z1 z2 z3 =>
 tail_any z1 z2 z3 (zcC hns _ _)
theorem zdD {prog:Program} {w:World} {l:Addr} {items:Array Value} {k:Int} {t:Tok} {v:Value} {Q:Unit->Shared->Prop} (hl:s.heap.IsList l items)
  (h0:0<=k) (hfit:k < 2 ^ 63) (hn:k < items.size)
  (hQ:Q () { s with heap:=s.heap.update l (Obj.mapSeq (·.setIfInBounds k.toNat v)) }) :
  wpAny (model prog w) A (setItem (.ref l) (.int k t) v) Q E s:=by
 refine zgW (id hl) fun o ho hc ne hd=>?_
 unfold setItem
 try with_reducible refine wpAny_holding ?_
 first | refine wpAny_bind (wpAny_pure ?_) | skip
 refine wpAny_bind (wpAny_sequenceKey hl.typeIs (by decide) ?_)
 refine wpAny_bind (wpAny_callSpecial?_slot (name:=Str.ofString "__setitem__") hl.typeIs slot_list_setitem
  (wpAny_call_entry slot_list_setitem hl.typeIs entry_list_setitem ?_ (args_list_setitem _ _ _)))
 refine (?_:wpAny _ _ (Builtin.List.listSubscript? (.int k t) >>= _) _ _ s)
 refine wpAny_bind (wpAny_listSubscript_int (fitsIndex_of h0 hfit) ?_)
 clear hfit
 obtain ⟨j,rfl⟩:=Int.eq_ofNat_of_zero_le h0
 have hj:j < items.size:=Int.ofNat_lt.mp hn
 have hx':items[j]?=some items[j]:=Array.getElem?_eq_getElem hj
 refine (?_:wpAny _ _ ((seqItemAt l j >>= fun r=>pure (r.map (j,·))) >>= _) _ _ s)
 refine wpAny_bind (wpAny_bind (wpAny_seqItemAt ho hd (wpAny_pure ?_)))
 rw [hx']
 refine (?_:wpAny _ _ (setSeqItemAt l j v >>= _) _ _ s)
 refine wpAny_bind (wpAny_setSeqItemAt ho hd ?_)
 first
  | exact wpAny_bind (wpAny_pure (wpAny_pure (mEA .none rfl (wpAny_pure hQ))))
  | exact wpAny_pure ⟨.none,rfl,wpAny_pure hQ⟩
theorem zaX (P:Pr W lev A frs s H) {a:Addr} {xs:List V} (h:H a=some (.list xs)):∃ ob items n,s.heap.get? a=some ob∧ob.cls=.type "list"∧ob.dict=none∧ob.data=.seq (List.toArray items) n∧AbsL W.clsA (W.D H) s.heap xs items:=by
 refine zcp (P.gd.rp.2 _ _ h) fun _ ob g2 c1 c2 items k c3 c4=>?_
 exact za7 ob items k g2 c1 c2 c3 c4
theorem zbm (P:Pr W lev A frs s H) {a:Addr} {xs xs':List V} (hl:H a=some (.list xs)) {ob:Obj} {items items':List Value} {k tk:Nat} {f:Array Value→Array Value} (ho:s.heap.get? a=some ob) (hc:ob.cls=.type "list") (hd:ob.dict=none) (hdat:ob.data=.seq items.toArray k)
  (hf:f items.toArray=items'.toArray) (al:AbsL W.clsA (W.D (H.set a (.list xs'))) (s.heap.update a (Obj.mapSeq f)) xs' items'):Step W frs H s (H.set a (.list xs')) { s with heap:=s.heap.update a (Obj.mapSeq f),toks:=tk }:=by
 obtain ⟨n',hd'⟩:=Obj.data_mapSeq hdat f
 refine Step.put P.gd hl (Heap.get?_update_self _ ho (Obj.isFreed_of_seq hd')) (fun b hb=>Heap.get?_update_other _ _ (Ne.symm hb)) (zd6 ((Obj.cls_mapSeq ..).trans hc) ?_ items' n' (by rw [hd',hf]) al)
 obtain ⟨c,d,dat,sl⟩:=ob
 subst hd; subst hdat; rfl
theorem zkK (P:Pr W lev A frs s H) {a:Addr} {i:Int} {t:Tok} {y:Value} {v:V} {xs:List V} {K:Unit->Shared->Prop} (hl:H a=some (.list xs)) (h0:0<=i) (h1:i < xs.length) (h2:xs.length<=big) (hv:Abs W.clsA (W.D H) s.heap v y)
  (k:∀ s',Step W frs H s (H.set a (.list (xs.set i.toNat v))) s'->K () s'):wpAny W.M A (setItem (.ref a) (.int i t) y) K E s:=by
 refine zam (zaX P hl) fun ob items n ho hc hd hdat al=>?_
 have hlen:=al.length
 refine zdD (zfg ob ho hc n hdat) h0 (Int.lt_trans h1 (lt63 h2)) (by rw [List.size_toArray,hlen]; exact h1) (k _ ?_)
 have kp:KeepV (W.D H) s.heap (W.D (H.set a (.list (xs.set i.toNat v)))) (s.heap.update a (Obj.mapSeq (·.setIfInBounds i.toNat y))):=zby hl fun b hb=>Heap.get?_update_other _ _ (Ne.symm hb)
 exact zbm P hl ho hc hd hdat (items':=items.set i.toNat y) (by simp) (AbsL.set (AbsL.keeps kp _ _ al) _ (Abs.keeps kp _ _ hv))
theorem kv_put {D:Addr->Prop} {h:Heap} (k:Int) {v:V} {y:Value} (hv:Abs W.clsA D h v y) {kvs:List (Int×V)} {xs:List (Int×Value)} (a:AbsKV W.clsA D h kvs xs) (hn:(xs.map (·.1)).Nodup):AbsKV W.clsA D h (dput kvs k v) (stored xs k y):=by
 induction kvs using List.rec generalizing xs with
 | nil =>
  obtain rfl:xs=[]:=a
  exact zn y ([]) rfl hv rfl
 | cons p r ih =>
  refine zd a fun z ys yC a1 a2=>?_; obtain rfl:=yC
  have hn:=List.nodup_cons.mp hn
  have ih:=ih a2 hn.2
  by_cases e:p.1=k
  ·rw [show dput (p::r) k v=_ from if_pos e]
   subst e
   have:stored ((p.1,z)::ys) p.1 y=(p.1,y)::ys:=by
    unfold stored
    rw [if_pos (by simp)]
    rw [List.map_cons,if_pos rfl,map_store_of_not_mem ys p.1 y hn.1]
   rw [this]
   exact zn y ys rfl hv a2
  ·rw [show dput (p::r) k v=_ from if_neg e]
   have:stored ((p.1,z)::ys) k y=(p.1,z)::stored ys k y:=by
    unfold stored
    simp only [List.any_cons,e,decide_false,Bool.false_or,List.map_cons,if_false]
    split <;> simp
   rw [this]
   exact zn z _ rfl a1 ih
theorem zlg {D:Addr->Prop} {h:Heap} {kvs:List (Int×V)} {xs:List (Int×Value)} (a:AbsKV W.clsA D h kvs xs):xs.length=kvs.length:=by
 induction kvs using List.rec generalizing xs with
 | nil=>exact congrArg List.length (show xs=[] from a)
 | cons p r ih =>
  refine zd a fun y ys yC a1 a2=>?_; obtain rfl:=yC
  exact congrArg Nat.succ (ih a2)
theorem zks {prog:Program} {w:World} {A:Around} {E:Value->Shared->Prop} {s:Shared} {d:Addr} {o:Obj} {ps:List (Int×Value)} {k:Int} {key v:Value} {P:Unit->Shared->Prop} (ho:s.heap.get? d=some o) (hm:DictN prog w o ps) (hkey:(intKind prog w).is k key=true)
  (hP:∀ h' o',h'.get? d=some o'->DictN prog w o' (stored ps k v)->Heap.SameBut d s.heap h'->P () { s with heap:=h',toks:=s.toks+1 }) (hsz:ps.length<=sizeLine):PySem.wpAny (model prog w) A (dictSet d key v) P E s:=by
 refine zcZ hm fun es hc hd hk hp hn=>?_
 have hes:es.size<=sizeLine:=by have:=hp.length; rw [Array.length_toList] at this; exact #[0x561146315411,_,sizeLine,_] hsz this
 unfold dictSet
 refine PySem.wpAny_holding (PySem.wpAny_bind ((intKind prog w).pyHash hkey ?_))
 unfold dictSetHashed
 refine PySem.wpAny_holding (PySem.wpAny_bind (wpAny_dictFind_of (s:={ s with toks:=s.toks+1 }) hkey ho hd hk ?_))
 have hix:=hp.findIdx k
 have hfx:(es.findIdx? fun e=>(intKind prog w).is k e.key)=es.toList.findIdx? fun e=>(intKind prog w).is k e.key:=by obtain ⟨l⟩:=es; simp
 rw [<- hfx] at hix
 cases hi:es.findIdx? fun e=>(intKind prog w).is k e.key with
 | some i =>
  rw [hi] at hix
  have e1:stored ps k v=ps.map fun kv=>if kv.1=k then (kv.1,v) else kv:=if_pos (any_of_findIdx_some hix.symm)
  refine PySem.wpAny_bind (PySem.wpAny_rule (PySem.wpAny_bind (wpAny_updateDict (s:={ s with toks:=s.toks+1 }) ho hd (wpAny_point (hP _ _ (Heap.get?_update_self _ ho (Obj.isFreed_of_dict (Obj.data_mapDict hd _))) (zcv _ (hc.mapDict _) ?_ (hk.modify i v) ?_ ?_) (Heap.SameBut.update ..))))))
  ·rw [Obj.data_mapDict hd,Array.size_modify]
  ·rw [e1,Array.toList_modify]
   exact hp.modify hn (by rw [<- hfx]; exact hi) v
  ·rw [e1,keys_map_store]; exact hn
 | none =>
  rw [hi] at hix
  have hnot:=not_mem_of_findIdx_none hix.symm
  have e1:stored ps k v=ps++[(k,v)]:=if_neg (by
   rw [List.any_eq_true]; rintro ⟨kv,hkv,he⟩
   exact hnot (List.mem_map.mpr (mEA kv hkv (of_decide_eq_true he))))
  refine PySem.wpAny_bind (PySem.wpAny_rule (wpAny_updateDictKeys (hz:=hes) (s:={ s with toks:=s.toks+1 }) ho hd (hP _ _ (Heap.get?_update_self _ ho (Obj.isFreed_of_dict (Obj.data_mapDictKeys hd _))) (zcv _ (hc.mapDictKeys _) ?_ (hk.push hkey v) ?_ ?_) (Heap.SameBut.update ..))))
  ·rw [Obj.data_mapDictKeys hd,Array.size_push]
  ·rw [e1,Array.toList_push]
   exact hp.append hkey _ v
  ·rw [e1,List.map_append,List.nodup_append]
   exact ⟨hn,by simp,fun a ha b hb q=>hnot (by simp at hb; rw [<- hb,<- q]; exact ha)⟩
theorem zkT {prog:Program} {w:World} {A:Around} {E:Value->Shared->Prop} {s:Shared} {d:Addr} {o:Obj} {ps:List (Int×Value)} {k:Int} {key v:Value} {Q:Unit->Shared->Prop} (ho:s.heap.get? d=some o) (hm:DictN prog w o ps) (hkey:(intKind prog w).is k key=true)
  (hQ:∀ h' o',h'.get? d=some o'->DictN prog w o' (stored ps k v)->Heap.SameBut d s.heap h'->Q () { s with heap:=h',toks:=s.toks+1 }) (hsz:ps.length<=sizeLine):PySem.wpAny (model prog w) A (setItem (.ref d) key v) Q E s:=by
 have hT:s.TypeIs (.ref d) "dict":=zcZ hm fun es hc hd hk hp hn=>Heap.DictOf.typeIs (knd:=intKind prog w) (kvs:=ps) (zaU o es _ ho hc hd hk hp hn)
 unfold setItem
 refine PySem.wpAny_holding (PySem.wpAny_bind (wpAny_sequenceKey hT (by decide) (PySem.wpAny_bind (wpAny_callSpecial?_slot (name:=Str.ofString "__setitem__") hT slot_dict_setitem (wpAny_call_entry slot_dict_setitem hT entry_dict_setitem ?_ (args_dict_setitem _ _ _))))))
 unfold Builtin.«dict.__setitem__»
 refine PySem.wpAny_bind (wpAny_notOrdered_dict hT ?_)
 refine (?_:PySem.wpAny _ _ (dictSet d key v >>= _) _ _ s)
 exact PySem.wpAny_bind (zks ho hm hkey (fun h' o' a b c=>PySem.wpAny_pure (mEA .none rfl (PySem.wpAny_pure (hQ h' o' a b c)))) hsz)
theorem zjq (P:Pr W lev A frs s H) {a:Addr} {i:Int} {t:Tok} {y:Value} {v:V} {kvs:List (Int×V)} {K:Unit->Shared->Prop} (hl:H a=some (.dict kvs)) (h2:kvs.length<=big) (hv:Abs W.clsA (W.D H) s.heap v y)
  (k:∀ s',Step W frs H s (H.set a (.dict (dput kvs i v))) s'->K () s'):wpAny W.M A (setItem (.ref a) (.int i t) y) K E s:=by
 refine zfm (P.gd.rp.2 _ _ hl) fun _ ob g2 c1 xs hd hkv=>?_
 refine zkT g2 hd (intKind_is _ _ i t) (fun h' ob' ho hd' hs=>k _ ?_) (by rw [zlg hkv]; exact zE h2)
 have kp:KeepV (W.D H) s.heap (W.D (H.set a (.dict (dput kvs i v)))) h':=zby hl fun b hb=>hs.2 b hb
 refine zcZ hd fun es _ _ _ _ hn=>?_
 refine Step.put P.gd hl ho (fun b hb=>hs.2 b hb) (mAEA ?_ _ hd' (kv_put i (Abs.keeps kp _ _ hv) (AbsKV.keeps kp _ _ hkv) hn))
 refine oEA hd' fun es ex _=>?_
 exact ex.2.1
theorem pAug (P:Pr W lev A frs s H) {op:Operator} {a b:V} {x y:Value} (ha:Abs W.clsA (W.D H) s.heap a x) (hb:Abs W.clsA (W.D H) s.heap b y) (h:WAug H Q op a b) :
  wpAny W.M A (inplaceOp op x y) (EPost W frs H s Q) E s:=by
 have fin:∀ {i j:Int},Q (.int j) H->i=j->EPost W frs H s Q (.int i s.toks) { s with toks:=s.toks+1 }:=fun q e=>endT P.gd _ (zh _ _) (e ▸ q)
 induction h using WAug.casesOn <;> (obtain ⟨t,rfl⟩:=zg ha; obtain ⟨u,rfl⟩:=zg hb)
 ·exact AutoIntOps.iadd_0 (fin q rfl)
 ·exact AutoIntOps.isub_0 (fin q rfl)
 ·exact irshift_int (Int.natCast_nonneg y_1) (fin q ((Int.fdiv_eq_ediv_of_nonneg _ (Int.le_of_lt (Int.pow_pos (by decide)))).trans ((Int.natCast_ediv x_1 (2 ^ y_1)).trans (congrArg _ (zcx y_1))).symm))
 ·exact ior_int (fin q (zdt (Int.natCast_nonneg x_1) (Int.natCast_nonneg y_1)))
end
end Mine
end
section
open PySem PySem.W PyProof.Rows PySem.Calls PySem.Builtin PySem.Builtin.Str
namespace Mine
section
variable {fnA:Fn->Addr}
noncomputable def cut {α:Type} (xs:List α) (lo hi:Option Nat):List α:=((match hi with | some n=>xs.take n | none=>xs)).drop (lo.getD 0)
inductive PartR:V->Option Nat->Prop
 | none:PartR .none none
 | int {k:Nat}:PartR (iv k) (some k)
noncomputable def loN (l:Option Nat) (n:Nat):Nat:=min (l.getD 0) n
noncomputable def hiN (u:Option Nat) (n:Nat):Nat:=match u with | none=>n | some y=>min y n
noncomputable def asI (l:Option Nat):Option Int:=l.map fun n=>(n:Int)
theorem zdI {α:Type} (xs:List α) (l u:Option Nat):(xs.drop (loN l xs.length)).take (hiN u xs.length - loN l xs.length)=cut xs l u:=by
 unfold loN
 rw [kmk_drop_min]
 induction u using Option.casesOn with
 | none =>
  show _=xs.drop (l.getD 0)
  exact List.take_of_length_le (by rw [List.length_drop]; show _<=xs.length - _; exact #[0x8411008376246716781345167356245736514510043562465165413451,_,_,_,_,_] (subO _ _) (minO _ _) (subO _ _))
 | some y =>
  show _=(xs.take y).drop (l.getD 0)
  rw [List.drop_take]
  refine List.take_eq_take_iff.mpr ?_
  rw [List.length_drop,Nat.sub_min_sub_right]
  refine (Nat.le_total (l.getD 0) xs.length).elim (fun h=>?_) fun h=>?_
  ·rw [Nat.min_eq_left h]; exact (Nat.sub_min_sub_right _ _ _).trans (congrArg (· - _) ((Nat.min_assoc _ _ _).trans (congrArg (min y) (Nat.min_self _))))
  ·rw [Nat.min_eq_right h,Nat.sub_eq_zero_of_le (Nat.le_trans (Nat.min_le_right y _) h)]
   exact (congrArg (min · _) (Nat.sub_eq_zero_of_le (Nat.min_le_right _ _))).trans (Nat.zero_min _)
theorem hiN_le (u:Option Nat) (n:Nat):hiN u n<=n:=by
 induction u using Option.casesOn with
 | none=>exact Nat.le_refl _
 | some y=>exact Nat.min_le_right _ _
theorem zlp {α:Type} (xs:List α) (l u:Option Nat) (h:hiN u xs.length - loN l xs.length=xs.length):cut xs l u=xs:=by
 rw [<- zdI,h,List.take_of_length_le (Nat.le_trans (Nat.le_of_eq List.length_drop) (Nat.sub_le _ _))]
 exact (List.drop_sublist _ _).eq_of_length_le (Nat.le_trans (Nat.le_of_eq h.symm) (Nat.le_trans (Nat.sub_le_sub_right (hiN_le _ _) _) (Nat.le_of_eq List.length_drop.symm)))
theorem zj5 (m n:Nat):max (0:Int) (min (if ((m:Nat):Int) < 0 then ((m:Nat):Int)+(n:Int) else ((m:Nat):Int)) (n:Int))=((min m n:Nat):Int):=by
 rw [if_neg (Int.not_lt.mpr (Int.natCast_nonneg _)),Int.max_eq_right (Int.le_min.mpr ⟨Int.natCast_nonneg _,Int.natCast_nonneg _⟩)]
 exact (Nat.le_total m n).elim (fun h=>(Int.min_eq_left (Int.ofNat_le.mpr h)).trans (congrArg _ (Nat.min_eq_left h).symm)) fun h=>(Int.min_eq_right (Int.ofNat_le.mpr h)).trans (congrArg _ (Nat.min_eq_right h).symm)
theorem zkW (l u:Option Nat) (n:Nat):sliceBounds (asI l) (asI u) none n=(((loN l n:Nat):Int),((hiN u n:Nat):Int),1):=by
 have z:((loN none n:Nat):Int)=0:=congrArg _ (Nat.zero_min n)
 induction l using Option.casesOn with
 | none =>
  induction u using Option.casesOn with
  | none=>rw [z]; rfl
  | some y =>
   rw [z]
   show ((0:Int),(max (0:Int) (min (if ((y:Nat):Int) < 0 then ((y:Nat):Int)+(n:Int) else ((y:Nat):Int)) (n:Int))),(1:Int))=_
   rw [zj5]; rfl
 | some x =>
  induction u using Option.casesOn with
  | none =>
   show (max (0:Int) (min (if ((x:Nat):Int) < 0 then ((x:Nat):Int)+(n:Int) else ((x:Nat):Int)) (n:Int)),(n:Int),(1:Int))=_
   rw [zj5]; rfl
  | some y =>
   show (max (0:Int) (min (if ((x:Nat):Int) < 0 then ((x:Nat):Int)+(n:Int) else ((x:Nat):Int)) (n:Int)),(max (0:Int) (min (if ((y:Nat):Int) < 0 then ((y:Nat):Int)+(n:Int) else ((y:Nat):Int)) (n:Int))),(1:Int))=_
   rw [zj5,zj5]; rfl
theorem strIdx (l u:Option Nat) (n:Nat):strSliceIndices (asI l) (asI u) 1 n=(List.range (hiN u n - loN l n)).map (loN l n+·):=by
 rw [<- sliceRange_one]
 have:=zkW l u n
 unfold sliceBounds at this
 simp only [Prod.mk.injEq] at this
 unfold strSliceIndices
 refine oAA this fun h1 h2 _=>?_
 have e1:∀ a b a' b':Int,a=a'->b=b'->sliceRange a b 1=sliceRange a' b' 1:=fun _ _ _ _ h h'=>by rw [h,h']
 exact e1 _ _ _ _ h1 h2
theorem cut_le {α:Type} (xs:List α) (l u:Option Nat):(cut xs l u).length<=xs.length:=by
 rw [<- zdI,List.length_take,List.length_drop]; exact #[0x681148374247834714510043562465165413451,_,_,_,_,_] (subO _ _) (minO _ _)
theorem zk3 {D:Addr->Prop} {h:Heap} {v:V} {y:Value} {l:Option Nat} (a:Abs W.clsA D h v y) (hp:PartR v l):∃ p:Option (Int×Tok),y=partValue p/\p.map (·.1)=asI l:=by
 induction hp using PartR.casesOn with
 | none=>obtain rfl:=zcB a; exact mEA none rfl rfl
 | int =>
  obtain ⟨t,rfl⟩:=zg a
  exact mEA (some (_,t)) rfl rfl
theorem zeN (p:Option (Int×Tok)):IsPart (partValue p) (p.map (·.1)):=by
 induction p using Option.casesOn with
 | none=>exact .none
 | some q=>exact .int q.1 q.2
theorem AbsL.cut {D:Addr->Prop} {h:Heap} {vs:List V} {xs:List Value} (a:AbsL W.clsA D h vs xs) (l u:Option Nat):AbsL W.clsA D h (cut vs l u) (Mine.cut xs l u):=by
 unfold Mine.cut
 induction u using Option.casesOn with
 | none=>exact AbsL.drop a _
 | some y=>exact AbsL.drop (AbsL.take a _) _
theorem Pr.step {s₁:Shared} {HC:AH} (P:Pr W lev A frs s H) (st:Step W frs H s HC s₁) (h:s.heap.objs.size<=s₁.heap.objs.size):Pr W lev A frs s₁ HC:=⟨P.rm,st.gd,Nat.le_trans P.size h⟩
theorem pSlice {HA:AH} {sA:Shared} (st:Step W frs HA sA H s) (P:Pr W lev A frs s H) {a b c:V} {x y z:Value} (value:Expr) (lo hi:Option Expr) (p:Pos) (ha:Abs W.clsA (W.D H) s.heap a x) (hb:Abs W.clsA (W.D H) s.heap b y) (hc:Abs W.clsA (W.D H) s.heap c z) (h:WSlice H Q a b c) :
  wpAny W.M A (newFields "slice" [y,z,.none]) (fun i s₁=>wpAny W.M A (subscriptTail value (.Slice lo hi none p) x i) (EPost W frs HA sA Q) E s₁) E s:=by
 unfold newFields
 refine wpAny_newObj_type ?_ (by show (3:Nat)<=_; rw [sizeLine_eq]; decide)
 have st1:=Step.push P.gd ({ cls:=.type "slice",data:=.fields #[y,z,.none] }:Obj)
 have P1:Pr W lev A frs { s with heap:=s.heap.push ({ cls:=.type "slice",data:=.fields #[y,z,.none] }:Obj) } H:=P.step st1 (by rw [Heap.size_push]; exact #[0x1041411,_] )
 have fin:∀ {v:Value} {sC:Shared},EPost W frs H { s with heap:=s.heap.push ({ cls:=.type "slice",data:=.fields #[y,z,.none] }:Obj) } Q v sC→EPost W frs HA sA Q v sC:=fun q=>q.of (st.trans st1).ext (st.trans st1).os (st.trans st1).gens
 have gen:∀ {l u:Option Nat},PartR b l→PartR c u→((∃ xs,a=.lst xs∧xs.length≤big∧Q (.lst (cut xs l u)) H)∨(∃ i,a=.str i∧i.length≤big∧Q (.str (cut i l u)) H))→wpAny W.M A (subscriptTail value (.Slice lo hi none p) x (.ref s.heap.objs.size)) (EPost W frs HA sA Q) E { s with heap:=s.heap.push ({ cls:=.type "slice",data:=.fields #[y,z,.none] }:Obj) }:=fun {l u} hl hu h=>by
  refine oEA (zk3 hb hl) fun p1 yB e1=>?_; obtain rfl:=yB
  refine oEA (zk3 hc hu) fun p2 yB e2=>?_; obtain rfl:=yB
  have lists:∀ {xs:List V},a=.lst xs→xs.length≤big∧Q (.lst (cut xs l u)) H→wpAny W.M A (subscriptTail value (.Slice lo hi none p) x (.ref s.heap.objs.size)) (EPost W frs HA sA Q) E { s with heap:=s.heap.push ({ cls:=.type "slice",data:=.fields #[partValue p1,partValue p2,.none] }:Obj) }:=fun {xs} hxs hq=>by
   refine zd (zat P1.gd (hxs ▸ st1.abs ha) rfl) fun b1 items yC o al=>?_; obtain rfl:=yC
   have hI:=zk o
   have e:slicePick items.toArray (p1.map (·.1)) (p2.map (·.1)) none=(cut items l u).toArray:=by
    rw [e1,e2,kmk_pick_nat _ (zkW l u _)]
    show (List.take (hiN u items.toArray.size - loN l items.toArray.size) (List.drop (loN l items.toArray.size) items)).toArray=_
    rw [List.size_toArray,zdI]
   refine tail_any hI.typeIs slot_list_getitem.lookup (wpAny_getItem_list_slice hI (Heap.IsSliceOf.new _ _ _ _) (zeN p1) (zeN p2) .none (by simp) ?_ ?_) rfl
   ·rw [e]
    exact fin (zk5 P1 (tk:=s.toks) (AbsL.cut al l u) hq.2)
   ·rw [List.size_toArray,al.length]; exact zE hq.1
  have txts:∀ {i:List Nat},a=.str i→i.length≤big∧Q (.str (cut i l u)) H→wpAny W.M A (subscriptTail value (.Slice lo hi none p) x (.ref s.heap.objs.size)) (EPost W frs HA sA Q) E { s with heap:=s.heap.push ({ cls:=.type "slice",data:=.fields #[partValue p1,partValue p2,.none] }:Obj) }:=fun {i} hi h=>by
   obtain ⟨t,rfl⟩:=zbd (hi ▸ ha)
   refine tail_any (typeIs_str _ _ _) F.slot_str_getitem.lookup (wpAny_getItem_str_slice (l:=p1) (u:=p2) (st:=none) (mEAA _ (Heap.get?_push_size _ rfl) rfl rfl) rfl (post_val_or_str ?_)) rfl
   have hp:slicePicked (⟨i.toArray⟩:PySem.Str) p1 p2 none=(List.range (hiN u i.length - loN l i.length)).map (loN l i.length+·):=by
    unfold slicePicked
    rw [e1,e2]
    exact strIdx l u i.length
   have hf:(slicePicked (⟨i.toArray⟩:PySem.Str) p1 p2 none).filterMap (i.toArray[·]?)=cut i l u:=by
    rw [hp,pick_run,<- zdI]
   have e:(if ((Option.map (fun x=>x.1) (none:Option (Int×Tok))).getD 1 == 1&&(slicePicked (⟨i.toArray⟩:PySem.Str) p1 p2 none).length == (⟨i.toArray⟩:PySem.Str).length)=true then (⟨i.toArray⟩:PySem.Str) else ⟨((slicePicked (⟨i.toArray⟩:PySem.Str) p1 p2 none).filterMap ((⟨i.toArray⟩:PySem.Str).cps[·]?)).toArray⟩)=⟨(cut i l u).toArray⟩:=by
    show (if _ then (⟨i.toArray⟩:PySem.Str) else ⟨((slicePicked (⟨i.toArray⟩:PySem.Str) p1 p2 none).filterMap (i.toArray[·]?)).toArray⟩)=_
    rw [hf]
    split
    ·rename_i hq
     have hq:(slicePicked (⟨i.toArray⟩:PySem.Str) p1 p2 none).length=i.length:=by
      simp only [Bool.and_eq_true,beq_iff_eq] at hq
      exact hq.2
     rw [hp,List.length_map,List.length_range] at hq
     exact congrArg (fun x:List Nat=>(⟨x.toArray⟩:PySem.Str)) (zlp i l u hq).symm
    ·rfl
   rw [e]
   refine ⟨?_,fun t' k=>fin (endT P1.gd k (zbD _ t') h.2)⟩
   show (cut i l u).toArray.size<=_
   rw [List.size_toArray]
   exact zE (Nat.le_trans (cut_le _ _ _) h.1)
  rcases h with ⟨xs,e,h⟩ | ⟨i,e,h⟩
  ·exact lists e h
  ·exact txts e h
 induction h using WSlice.casesOn with
 | lstFrom h q=>exact gen .int .none (.inl (mEAA _ rfl h q))
 | lstTo h q=>exact gen .none .int (.inl (mEAA _ rfl h q))
 | strFrom h q=>exact gen .int .none (.inr (mEAA _ rfl h q))
 | strTo h q=>exact gen .none .int (.inr (mEAA _ rfl h q))
end
end Mine
end
section
namespace Mine
theorem zbz:∀ (xs:List Int) (x:Int),maxI x xs∈x::xs/\∀ a∈x::xs,a<=maxI x xs
 | [],x=>⟨List.mem_cons_self,fun a h=>by rcases List.mem_cons.mp h with rfl | h; exact Int.le_refl _; cases h⟩
 | y::r,x=>by
  obtain ⟨h1,h2⟩:=zbz r (if y > x then y else x)
  have e:maxI x (y::r)=maxI (if y > x then y else x) r:=rfl
  rw [e]
  refine ⟨?_,fun a ha=>?_⟩
  ·rcases List.mem_cons.mp h1 with q | q
   ·rw [q]; split <;> simp
   ·exact .tail _ (.tail _ q)
  ·have hb:=h2 _ List.mem_cons_self
   rcases List.mem_cons.mp ha with rfl | ha
   ·refine Int.le_trans ?_ hb; split
    ·exact Int.le_of_lt (by assumption)
    ·exact Int.le_refl _
   ·rcases List.mem_cons.mp ha with rfl | ha
    ·refine Int.le_trans ?_ hb; split
     ·exact Int.le_refl _
     ·exact Int.not_lt.mp (by assumption)
    ·exact h2 a (.tail _ ha)
theorem zct:∀ (xs:List Int) (x:Int),minI x xs∈x::xs/\∀ a∈x::xs,minI x xs<=a
 | [],x=>⟨List.mem_cons_self,fun a h=>by rcases List.mem_cons.mp h with rfl | h; exact Int.le_refl _; cases h⟩
 | y::r,x=>by
  obtain ⟨h1,h2⟩:=zct r (if y < x then y else x)
  have e:minI x (y::r)=minI (if y < x then y else x) r:=rfl
  rw [e]
  refine ⟨?_,fun a ha=>?_⟩
  ·rcases List.mem_cons.mp h1 with q | q
   ·rw [q]; split <;> simp
   ·exact .tail _ (.tail _ q)
  ·have hb:=h2 _ List.mem_cons_self
   rcases List.mem_cons.mp ha with rfl | ha
   ·refine Int.le_trans hb ?_; split
    ·exact Int.le_of_lt (by assumption)
    ·exact Int.le_refl _
   ·rcases List.mem_cons.mp ha with rfl | ha
    ·refine Int.le_trans hb ?_; split
     ·exact Int.le_refl _
     ·exact Int.not_lt.mp (by assumption)
    ·exact h2 a (.tail _ ha)
end Mine
end
section
open PySem PySem.W PyProof.Rows PySem.Calls PySem.Builtin PySem.Builtin.Str
namespace Mine
noncomputable def bval:BFn->Value
 | .len=>.builtin "len" | .max=>.builtin "max" | .min=>.builtin "min" | .sorted=>.builtin "sorted" | .sum=>.builtin "sum" | .list=>.type "list" | .bytes=>.type "bytes" | .bytearray=>.type "bytearray" | .isInt=>.builtin "isinstance" | .isBool=>.builtin "isinstance"
noncomputable def isName:BFn->String
 | .isInt=>"int"
 | _=>"bool"
section
variable {fnA:Fn->Addr}
theorem pIs (P:Pr W lev A frs s H) {f:BFn} {v:V} {x:Value} (hf:f=.isInt∨f=.isBool) (ha:Abs W.clsA (W.D H) s.heap v x) (h:WBcall H Q f [v]) :
  wpAny W.M A (call (.builtin "isinstance") [x,.type (isName f)]) (EPost W frs H s Q) E s:=by
 rcases hf with rfl | rfl
 ·obtain ⟨i,rfl,q⟩:∃ i,v=.int i/\Q (.bool true) H:=by cases h; exact mEA _ rfl ‹_›
  obtain ⟨t,rfl⟩:=zg ha; exact IsiPair.int_int (end0 P.gd (zaz true) q)
 ·obtain ⟨i,rfl,q⟩:∃ i,v=.int i/\Q (.bool false) H:=by cases h; exact mEA _ rfl ‹_›
  obtain ⟨t,rfl⟩:=zg ha; exact IsiPair.int_bool (endT P.gd _ (zaz false) q)
theorem endK (P:Pr W lev A frs s H) {v:V} {x:Value} {h':Heap} {tk:Nat} (k:∀ b o,s.heap.get? b=some o->h'.get? b=some o) (a:Abs W.clsA (W.D H) h' v x) (q:Q v H):EPost W frs H s Q x { s with heap:=h',toks:=tk } :=
 have st:Step W frs H s H { s with heap:=h',toks:=tk }:=Step.of_keeps P.gd k rfl rfl
 (zY v H a st.gd st.ext rfl rfl q)
theorem zcA {vs:List Value} {ns:List Int} (hi:IntsAre vs ns):∃ xs:Array (Int×Tok),vs.toArray=intItems xs/\ns=xs.toList.map (·.1):=by
 obtain ⟨xs,e⟩:=hi.allInts.items
 exact mEA xs e (by rw [<- hi.numsOf,<- nums_intItems,<- e])
theorem sMax (P:Pr W lev A frs s H) {v:V} {x:Value} {n:Int} {ns:List Int} (ha:Abs W.clsA (W.D H) s.heap v x) (h:IntsOf H v (n::ns)) (q:Q (.int (maxI n ns)) H):wpAny W.M A (call (.builtin "max") [x]) (EPost W frs H s Q) E s:=by
 refine zd (zbr P.gd ha h) fun b items yC hl hi=>?_; obtain rfl:=yC
 refine oEA (zcA hi) fun xs e hns=>?_
 have hsz:0 < xs.size:=by
  have h3:0 < (n::ns).length:=Nat.succ_pos _
  rw [hns,List.length_map,Array.length_toList] at h3; exact h3
 rw [e] at hl
 refine max_intList P.rm.quiet hl hsz fun v h' tk hv hk=>?_
 obtain ⟨t,rfl⟩:=intItems_at hv
 obtain ⟨h1,h2⟩:=argBest_gt (numAt xs) (xs.size - 1)
 obtain ⟨m1,m2⟩:=zbz ns n
 have a1:numAt xs (argBest (fun i j=>decide (numAt xs i > numAt xs j)) (xs.size - 1))∈n::ns:=by
  rw [hns,numAt_eq]; exact getD_mem (by rw [List.length_map,Array.length_toList]; exact #[0x45210063104244101410613451651140021,_,_,_] hsz h1 (subO _ _))
 have a2:∀ a,a∈n::ns->a<=numAt xs (argBest (fun i j=>decide (numAt xs i > numAt xs j)) (xs.size - 1)):=fun a ha=>by
  rw [hns] at ha
  refine oEA (mem_getD ha) fun j hj yC=>?_; obtain rfl:=yC
  rw [List.length_map,Array.length_toList] at hj
  rw [<- numAt_eq]; exact h2 j (by exact #[0x641100631052451015106134515421,_,_,_] hj (subO _ _))
 rw [Int.le_antisymm (m2 _ a1) (a2 _ m1)]
 exact endK P hk (zh _ _) q
theorem sMin (P:Pr W lev A frs s H) {v:V} {x:Value} {n:Int} {ns:List Int} (ha:Abs W.clsA (W.D H) s.heap v x) (h:IntsOf H v (n::ns)) (q:Q (.int (minI n ns)) H):wpAny W.M A (call (.builtin "min") [x]) (EPost W frs H s Q) E s:=by
 refine zd (zbr P.gd ha h) fun b items yC hl hi=>?_; obtain rfl:=yC
 refine oEA (zcA hi) fun xs e hns=>?_
 have hsz:0 < xs.size:=by
  have h3:0 < (n::ns).length:=Nat.succ_pos _
  rw [hns,List.length_map,Array.length_toList] at h3; exact h3
 rw [e] at hl
 refine min_intList P.rm.quiet hl hsz fun v h' tk hv hk=>?_
 obtain ⟨t,rfl⟩:=intItems_at hv
 obtain ⟨h1,h2⟩:=argBest_lt (numAt xs) (xs.size - 1)
 obtain ⟨m1,m2⟩:=zct ns n
 have a1:numAt xs (argBest (fun i j=>decide (numAt xs i < numAt xs j)) (xs.size - 1))∈n::ns:=by
  rw [hns,numAt_eq]; exact getD_mem (by rw [List.length_map,Array.length_toList]; exact #[0x45210063104244101410613451651140021,_,_,_] hsz h1 (subO _ _))
 have a2:∀ a,a∈n::ns->numAt xs (argBest (fun i j=>decide (numAt xs i < numAt xs j)) (xs.size - 1))<=a:=fun a ha=>by
  rw [hns] at ha
  refine oEA (mem_getD ha) fun j hj yC=>?_; obtain rfl:=yC
  rw [List.length_map,Array.length_toList] at hj
  rw [<- numAt_eq]; exact h2 j (by exact #[0x641100631052451015106134515421,_,_,_] hj (subO _ _))
 rw [Int.le_antisymm (a2 _ m1) (m2 _ a1)]
 exact endK P hk (zh _ _) q
theorem sSum (P:Pr W lev A frs s H) {v:V} {x:Value} {ns:List Int} (ha:Abs W.clsA (W.D H) s.heap v x) (h:IntsOf H v ns) (q:Q (.int ns.sum) H):wpAny W.M A (call (.builtin "sum") [x]) (EPost W frs H s Q) E s:=by
 refine zd (zbr P.gd ha h) fun b items yC hl hi=>?_; obtain rfl:=yC
 refine oEA (zcA hi) fun xs e hns=>?_
 rw [e] at hl
 refine sum_intListG P.rm.quiet hl fun h' tk t' hk=>?_
 rw [preSum_eq,<- hns,List.take_of_length_le (by rw [hns,List.length_map,Array.length_toList]; exact Nat.le_refl _)]
 exact endK P hk (zh _ _) q
theorem sMax2 (P:Pr W lev A frs s H) {a b:Int} {t u:Tok} (q:Q (.int (if b > a then b else a)) H):wpAny W.M A (call (.builtin "max") [.int a t,.int b u]) (EPost W frs H s Q) E s :=
 max_two_ints P.rm.quiet fun h' tk hk=>by
  split <;> rename_i c
  ·rw [if_pos c] at q; exact endK P hk (zh _ _) q
  ·rw [if_neg c] at q; exact endK P hk (zh _ _) q
theorem sMin2 (P:Pr W lev A frs s H) {a b:Int} {t u:Tok} (q:Q (.int (if b < a then b else a)) H):wpAny W.M A (call (.builtin "min") [.int a t,.int b u]) (EPost W frs H s Q) E s :=
 min_two_ints P.rm.quiet fun h' tk hk=>by
  split <;> rename_i c
  ·rw [if_pos c] at q; exact endK P hk (zh _ _) q
  ·rw [if_neg c] at q; exact endK P hk (zh _ _) q
theorem sList1 (P:Pr W lev A frs s H) {v:V} {x:Value} {vs:List V} (ha:Abs W.clsA (W.D H) s.heap v x) (h:listOf H v=some vs) (hz:vs.length≤big) (q:Q (.lst vs) H):wpAny W.M A (call (.type "list") [x]) (EPost W frs H s Q) E s:=by
 refine zd (zat P.gd ha h) fun b items yC yD al=>?_; obtain rfl:=yC; refine zll yD fun o ho hc hd n hdat=>?_
 refine call_list_seq b (.inl rfl) ho hc hdat (fun h' c' hk hg=>endK P (tk:=s.toks) hk ?_ q) (by rw [List.size_toArray,al.length]; exact zE hz)
 exact zx _ items rfl (zcs P.gd) ((zbX _ hg rfl rfl c' rfl)) (AbsL.keeps (fun b o e n _=>⟨⟨o.slots,hk b o e⟩,n⟩) _ _ al)
theorem zlR (P:Pr W lev A frs s H) {v:V} {x:Value} {ns:List Int} (ha:Abs W.clsA (W.D H) s.heap v x) (h:IntsOf H v ns) (hz:ns.length≤big) (hr:∀ n∈ns,0≤n∧n < 256) (q:Q (.bytes (ns.map fun n=>UInt8.ofNat n.toNat)) H):wpAny W.M A (call (.type "bytes") [x]) (EPost W frs H s Q) E s:=by
 refine zd (zbr P.gd ha h) fun b items yC hl hi=>?_; obtain rfl:=yC
 exact call_bytes_ints hl hi hr (by rw [hi.length]; exact zE hz) P.rm.quiet fun h' t k hk=>endK P hk (za8 _ _) q
theorem zkv (P:Pr W lev A frs s H) {v:V} {x:Value} {vs:List V} (ha:Abs W.clsA (W.D H) s.heap v x) (h:listOf H v=some vs) (hz:vs.length≤big) (q:Q (.int vs.length) H):wpAny W.M A (call (.builtin "len") [x]) (EPost W frs H s Q) E s:=by
 refine zd (zat P.gd ha h) fun b items yC o al=>?_; obtain rfl:=yC
 have e:((items.toArray.size:Nat):Int)=((vs.length:Nat):Int):=by rw [List.size_toArray,al.length]
 refine Calls.call_len_list (zk o) (by rw [e]; exact lt63 hz) ?_
 rw [e]
 exact endT P.gd _ (zh _ _) q
theorem zlP (P:Pr W lev A frs s H) {i:List Nat} {x:Value} (ha:Abs W.clsA (W.D H) s.heap (.str i) x) (hz:i.length≤big) (q:Q (.int i.length) H):wpAny W.M A (call (.builtin "len") [x]) (EPost W frs H s Q) E s:=by
 obtain ⟨t,rfl⟩:=zbd ha
 exact PySem.P.len_str (by show ¬ ((i.length:Nat):Int) ≥ 2 ^ 63; exact Int.not_le.mpr (lt63 hz)) (endT P.gd _ (zh _ _) q)
theorem zi6 (P:Pr W lev A frs s H) {i:List UInt8} {x:Value} (ha:Abs W.clsA (W.D H) s.heap (.bytes i) x) (hz:i.length≤big) (q:Q (.int i.length) H):wpAny W.M A (call (.builtin "len") [x]) (EPost W frs H s Q) E s:=by
 obtain ⟨t,rfl⟩:=zX ha
 have hbig:big=1000000:=rfl
 exact PySem.W.len_bytes (by rw [List.size_toArray]; exact #[0x2888888888888804113ec998805315411,_,_] hz hbig) (endT P.gd _ (zh _ _) q)
end
end Mine
end
section
open PySem PySem.W PyProof.Rows
namespace Mine
section
variable (n:Nat) (lt:Nat->Nat->Bool)
noncomputable def Good {α:Type}:KasT α->(α->Prop)->Prop
 | .ret a,P=>P a
 | .ask i j k,P=>i < n/\j < n/\Good (k (lt i j)) P
variable {n lt}
theorem Good.bind {α β:Type} {f:α->KasT β} {P:β->Prop}:∀ {t:KasT α},Good n lt t (fun a=>Good n lt (f a) P)->Good n lt (t.bind f) P
 | .ret _,h=>h
 | .ask i j k,⟨h1,h2,h3⟩=>⟨h1,h2,Good.bind (t:=k (lt i j)) h3⟩
theorem Good.mono {α:Type} {P P':α->Prop} (h:∀ a,P a->P' a):∀ {t:KasT α},Good n lt t P->Good n lt t P'
 | .ret _,q=>h _ q
 | .ask i j k,⟨h1,h2,h3⟩=>⟨h1,h2,Good.mono h h3⟩
theorem Good.wp {α:Type} {cmp:Nat->Nat->(Bool->Shared->Prop)->Shared->Prop} {I:Shared->Prop} (hc:∀ i j C s,i < n->j < n->I s->(∀ s',I s'->C (lt i j) s')->cmp i j C s) {P:α->Prop} {Q:α->Shared->Prop} :
  ∀ {t:KasT α} {s:Shared},Good n lt t P->I s->(∀ a s',P a->I s'->Q a s')->t.kasWp cmp Q s
 | .ret _,s,h,i,q=>q _ s h i
 | .ask i j k,s,⟨h1,h2,h3⟩,is,q=>hc i j _ s h1 h2 is fun s' is'=>Good.wp hc h3 is' q
variable (n lt) in
structure SOrd:Prop where
 tr:∀ i j k,i < n->j < n->k < n->lt i j=true->lt j k=true->lt i k=true
 tot:∀ i j,i < n->j < n->i≠j->lt i j=false->lt j i=true
noncomputable abbrev gt (p:Array Nat) (i:Nat):Nat:=p.getD i 0
variable (n) in
def Pm (p:Array Nat):Prop:=p.Perm (List.toArray (List.range n))
variable (lt) in
def Srt (p:Array Nat) (k:Nat):Prop:=∀ i j,i < j->j < k->lt (gt p i) (gt p j)=true
variable (lt) in
def Dsc (p:Array Nat) (k:Nat):Prop:=∀ i j,i < j->j < k->lt (gt p j) (gt p i)=true
theorem zbj {p:Array Nat} {i:Nat} (h:i < p.size):p[i]?=some (gt p i):=by
 simp [gt,Array.getD,h]
theorem zli {p:Array Nat} {i x:Nat} (h:p[i]?=some x):gt p i=x:=by
 obtain ⟨hi,e⟩:=Array.getElem?_eq_some_iff.mp h
 simp [gt,Array.getD,hi,e]
theorem Pm.size {p:Array Nat} (h:Pm n p):p.size=n:=by have:=Array.Perm.size_eq h; simpa using this
theorem Pm.low {p:Array Nat} (h:Pm n p) {i:Nat} (hi:i < n):gt p i < n:=by
 have h1:=zbj (p:=p) (i:=i) (by rw [h.size]; exact hi)
 have h2:gt p i∈p:=Array.mem_of_getElem? h1
 have h3:=(Array.Perm.mem_iff h).mp h2
 simpa using h3
theorem Pm.ne {p:Array Nat} (h:Pm n p) {i j:Nat} (hi:i < n) (hj:j < n) (hn:i≠j):gt p i≠gt p j:=fun e=>by
 have h1:=zbj (p:=p) (i:=i) (by rw [h.size]; exact hi)
 have h2:=zbj (p:=p) (i:=j) (by rw [h.size]; exact hj)
 have nd:p.toList.Nodup:=by
  have:=(Array.perm_iff_toList_perm.mp h)
  exact this.nodup_iff.mpr (by simpa using List.nodup_range)
 rw [<- Array.getElem?_toList] at h1 h2
 exact hn ((List.getElem?_inj (by rw [Array.length_toList,h.size]; exact hi) nd).mp (h1.trans (by rw [e,h2])))
theorem Srt.snoc (O:SOrd n lt) {p:Array Nat} (hp:Pm n p) {k:Nat} (h1:1<=k) (hk:k < n) (h:Srt lt p k) (q:lt (gt p (k - 1)) (gt p k)=true):Srt lt p (k+1):=fun i j hij hj=>by
 by_cases e:j=k
 ·subst e
  by_cases e2:i=j - 1
  ·subst e2; exact q
  ·exact O.tr _ _ _ (hp.low (by exact #[0x642165215421,_,_,_] hij hk)) (hp.low (by exact #[0x562100631042441014106134515421,_,_,_] hk (subO _ _))) (hp.low (by exact #[0x54215421,_,_] hk)) (h i (j - 1) (by exact #[0x64210063105245101510613451643615421,_,_,_] hij e2 (subO _ _)) (by exact #[0x4521005310424410141051345141011,_,_] h1 (subO _ _))) q
 ·exact h i j hij (by exact #[0x5421543611051421,_,_] hj e)
theorem Dsc.snoc (O:SOrd n lt) {p:Array Nat} (hp:Pm n p) {k:Nat} (h1:1<=k) (hk:k < n) (h:Dsc lt p k) (q:lt (gt p k) (gt p (k - 1))=true):Dsc lt p (k+1):=fun i j hij hj=>by
 by_cases e:j=k
 ·subst e
  by_cases e2:i=j - 1
  ·subst e2; exact q
  ·exact O.tr _ _ _ (hp.low (by exact #[0x54215421,_,_] hk)) (hp.low (by exact #[0x562100631042441014106134515421,_,_,_] hk (subO _ _))) (hp.low (by exact #[0x642165215421,_,_,_] hij hk)) q (h i (j - 1) (by exact #[0x64210063105245101510613451643615421,_,_,_] hij e2 (subO _ _)) (by exact #[0x4521005310424410141051345141011,_,_] h1 (subO _ _)))
 ·exact h i j hij (by exact #[0x5421543611051421,_,_] hj e)
theorem zdq (O:SOrd n lt) {p:Array Nat} (hp:Pm n p):∀ (f m:Nat),1<=m->m+f<=n->Srt lt p m ->
  Good n lt (kas_asc p f m) fun r=>m<=r/\r<=m+f/\Srt lt p r/\(r < m+f->lt (gt p r) (gt p (r - 1))=true)
 | 0,m,_,_,hs=>⟨Nat.le_refl _,Nat.le_refl _,hs,fun h=>absurd h (Nat.lt_irrefl _)⟩
 | f+1,m,h1,h2,hs=>by
  refine ⟨hp.low (by exact #[0x6421610514111,_,_,_] h2),hp.low (by exact #[0x67210073104244101410713451610514111,_,_,_,_] h2 (subO _ _)),?_⟩
  cases c:lt (gt p m) (gt p (m - 1)) with
  | true=>exact ⟨Nat.le_refl _,by exact #[0x105141411,_,_] ,hs,fun _=>c⟩
  | false =>
   have q:=O.tot _ _ (hp.low (by exact #[0x6421610514111,_,_,_] h2)) (hp.low (by exact #[0x67210073104244101410713451610514111,_,_,_,_] h2 (subO _ _))) (hp.ne (by exact #[0x6421610514111,_,_,_] h2) (by exact #[0x67210073104244101410713451610514111,_,_,_,_] h2 (subO _ _)) (by exact #[0x54361005310424410141051345141011,_,_] h1 (subO _ _))) c
   exact (zdq O hp f (m+1) (by exact #[0x10411011,_] ) (by exact #[0x651041111610514111,_,_,_] h2) (hs.snoc O hp h1 (by exact #[0x6421610514111,_,_,_] h2) q)).mono fun r ⟨a,b,c,d⟩=>⟨by exact #[0x54115104111,_,_] a,by exact #[0x106151411610511411,_,_,_] b,c,fun h=>d (by exact #[0x610511421106151421,_,_,_] h)⟩
theorem zeS (O:SOrd n lt) {p:Array Nat} (hp:Pm n p):∀ (f m:Nat),1<=m->m+f<=n->Dsc lt p m ->
  Good n lt (kas_desc f p m 0) fun r=>r.1=p/\r.2.2=0/\m<=r.2.1/\r.2.1<=n/\Dsc lt p r.2.1
 | 0,m,_,_,hs=>⟨rfl,rfl,Nat.le_refl _,by simpa using ‹m+0<=n›,hs⟩
 | f+1,m,h1,h2,hs=>by
  refine ⟨hp.low (by exact #[0x6421610514111,_,_,_] h2),hp.low (by exact #[0x67210073104244101410713451610514111,_,_,_,_] h2 (subO _ _)),?_⟩
  cases c:lt (gt p m) (gt p (m - 1)) with
  | true=>exact (zeS O hp f (m+1) (by exact #[0x10411011,_] ) (by exact #[0x651041111610514111,_,_,_] h2) (hs.snoc O hp h1 (by exact #[0x6421610514111,_,_,_] h2) c)).mono fun r ⟨a,b,c,d,e⟩=>⟨a,b,by exact #[0x54115104111,_,_] c,d,e⟩
  | false =>
   have q:=O.tot _ _ (hp.low (by exact #[0x6421610514111,_,_,_] h2)) (hp.low (by exact #[0x67210073104244101410713451610514111,_,_,_,_] h2 (subO _ _))) (hp.ne (by exact #[0x6421610514111,_,_,_] h2) (by exact #[0x67210073104244101410713451610514111,_,_,_,_] h2 (subO _ _)) (by exact #[0x54361005310424410141051345141011,_,_] h1 (subO _ _))) c
   refine ⟨hp.low (by exact #[0x67210073104244101410713451610514111,_,_,_,_] h2 (subO _ _)),hp.low (by exact #[0x6421610514111,_,_,_] h2),?_⟩
   rw [show lt (p.getD (m - 1) 0) (p.getD m 0)=true from q]
   exact ⟨rfl,rfl,Nat.le_refl _,show m<=n by exact #[0x6411610514111,_,_,_] h2,hs⟩
theorem Pm.rev {p:Array Nat} (hp:Pm n p) (i j:Nat):Pm n (kas_rev p i j):=(mirror_perm _ _ _ _).trans hp
theorem zg7 (O:SOrd n lt) {p:Array Nat} (hp:Pm n p) {m:Nat} (h1:1<=m) (hm:m<=n) (hd:Dsc lt p m):Good n lt (kas_tail3 m n p) fun r=>1<=r.1/\r.1<=n/\Pm n r.2/\Srt lt r.2 r.1:=by
 have hr:∀ k,k < m->gt (kas_rev p 0 m) k=gt p (m - 1 - k):=fun k hk=>zli (by
  show (mirror p 0 m ((m - 0) / 2))[k]?=_
  rw [getElem?_mirror_all (by rw [hp.size]; exact hm) k,if_pos ⟨Nat.zero_le _,hk⟩,Nat.zero_add]
  exact zbj (by rw [hp.size]; exact #[0x58210083672476176813451007310424410141071345146215411,_,_,_,_,_] hm hk (subO _ _) (subO _ _)))
 refine Good.bind ((zdq O (hp.rev 0 m) (n - m) m h1 (by exact #[0x56411100634524541546134515411,_,_,_] hm (subO _ _)) fun i j hij hj=>?_).mono fun r ⟨a,b,c,d⟩=>⟨by exact #[0x51011541141011,_,_] h1 a,by exact #[0x561100734524541547134517416115411,_,_,_,_] hm b (subO _ _),hp.rev 0 m,c⟩)
 rw [hr i (by exact #[0x642165215421,_,_,_] hij hj),hr j hj]
 exact hd _ _ (by exact #[0x982100934724741749134510083572475175813451007310624610161071345165215421,_,_,_,_,_,_] hij hj (subO _ _) (subO _ _) (subO _ _)) (by exact #[0x5721007386246816871345100631052451015106134515421,_,_,_,_,_] hj (subO _ _) (subO _ _))
theorem zgR (O:SOrd n lt) (h2:2<=n) {p:Array Nat} (hp:Pm n p):Good n lt (kas_count n p) fun r=>1<=r.1/\r.1<=n/\Pm n r.2/\Srt lt r.2 r.1:=by
 refine Good.bind ((zdq O hp (n - 1) 1 (Nat.le_refl _) (by exact #[0x4510111005310424410141051345142011,_,_] h2 (subO _ _)) fun i j hij hj=>by exact False.elim <| #[0x1105215421,_,_] hij hj).mono fun r ⟨a,b,c,d⟩=>?_)
 by_cases e:r=n
 ·subst e
  rw [if_pos (by simp)]
  exact ⟨a,Nat.le_refl _,hp,c⟩
 ·rw [if_neg (by simpa using e)]
  by_cases g:r > 1
  ·rw [if_pos g]
   refine ⟨hp.low (by exact #[0x4002142011,_] h2),hp.low (by exact #[0x762100531072471017105134510063104244101410613451410215101411,_,_,_,_] b g (subO _ _) (subO _ _)),?_⟩
   rw [show lt (p.getD 0 0) (p.getD (r - 1) 0)=true from c 0 (r - 1) (by exact #[0x50021005310424410141051345141021,_,_] g (subO _ _)) (by exact #[0x4521005310424410141051345141021,_,_] g (subO _ _))]
   exact ⟨a,by exact #[0x64110053106246101610513451410215101411,_,_,_] b g (subO _ _),hp,c⟩
  ·rw [if_neg g]
   have hr:r=1:=by exact #[0x1043141026141011,_] a g
   subst hr
   refine Good.bind ((zeS O hp (n - (1+1)) (1+1) (by exact om 0x201011 [] (by rfl') ) (by exact #[0x4520111005320424420142051345142011,_,_] h2 (subO _ _)) fun i j hij hj=>?_).mono fun r ⟨a1,a2,a3,a4,a5⟩=>?_)
   ·obtain rfl:j=1:=by exact #[0x10531205215421,_,_] hij hj
    obtain rfl:i=0:=by exact #[0x43110421,_] hij
    exact d (by exact #[0x51011021005310424410141051345142011,_,_] h2 (subO _ _))
   ·rw [if_neg (by exact #[0x40026100431,_] a2),a1]
    exact zg7 O hp (by exact #[0x4101142011,_] a3) a4 a5
theorem zbH (O:SOrd n lt) {p:Array Nat} (hp:Pm n p) {k:Nat} (hk:k < n) (hs:Srt lt p k):∀ (f l r:Nat),l<=r->r<=k->r - l<=f->(∀ i,i < l->lt (gt p i) (gt p k)=true)->(∀ i,r<=i->i < k->lt (gt p k) (gt p i)=true) ->
  Good n lt (kas_place p k f l r) fun m=>m<=k/\(∀ i,i < m->lt (gt p i) (gt p k)=true)/\∀ i,m<=i->i < k->lt (gt p k) (gt p i)=true
 | 0,l,r,h1,h2,h3,h4,h5=>⟨by exact #[0x641165115411,_,_,_] h1 h2,h4,fun i hi=>h5 i (by exact #[0x67110043572475175413451651100411,_,_,_,_] h3 hi (subO _ _))⟩
 | f+1,l,r,h1,h2,h3,h4,h5=>by
  unfold kas_place
  by_cases e:l ≥ r
  ·rw [if_pos e]
   exact ⟨by exact #[0x641165115411,_,_,_] h1 h2,h4,fun i hi=>h5 i (by exact #[0x641165115411,_,_,_] e hi)⟩
  ·rw [if_neg e]
   refine ⟨hp.low hk,hp.low (by exact #[0x58212092002035671982213417616146115421,_,_,_,_,_,_] hk h2 e (divO _ _)),?_⟩
   cases c:lt (gt p k) (gt p ((l+r) / 2)) with
   | true =>
    exact zbH O hp hk hs f l ((l+r) / 2) (by exact #[0x651120720020354517622134154161,_,_,_,_] e (divO _ _)) (by exact #[0x5711208200203546187221341641615411,_,_,_,_,_] h2 e (divO _ _)) (Nat.sub_le_of_le_add (Nat.le_of_lt_succ (Nat.lt_of_lt_of_le (Nat.div_lt_of_lt_mul (Nat.two_mul r ▸ Nat.add_lt_add_right (Nat.lt_of_not_le e) r)) (Nat.le_trans (Nat.le_add_of_sub_le h3) (Nat.le_of_eq (Nat.succ_add ..)))))) h4 fun i hi hik=>by
     by_cases e2:i=(l+r) / 2
     ·subst e2; exact c
     ·exact O.tr _ _ _ (hp.low hk) (hp.low (by exact #[0x5621472176115421,_,_,_,_] hk hi hik)) (hp.low (by exact #[0x562146215421,_,_,_] hk hik)) c (hs _ _ (by exact #[0x5421453615411,_,_] hi e2) hik)
   | false =>
    have q:=O.tot _ _ (hp.low hk) (hp.low (by exact #[0x58212092002035671982213417616146115421,_,_,_,_,_,_] hk h2 e (divO _ _))) (hp.ne hk (by exact #[0x58212092002035671982213417616146115421,_,_,_,_,_,_] hk h2 e (divO _ _)) (by exact #[0x75361208200203546187221341641615411,_,_,_,_,_] h2 e (divO _ _))) c
    exact zbH O hp hk hs f ((l+r) / 2+1) r (by exact #[0x410611120720020354517622134154161,_,_,_,_] e (divO _ _)) h2 (by exact #[0x7a11006345245415461345100a3108152451081151081a1345120920020355419822134110716115411,l,r,r - l,f,(l+r) / 2,(l+r) % 2,r - ((l+r) / 2+1)] h1 h3 (divO _ _) (subO _ _) (subO _ _)) (fun i hi=>by
     by_cases e2:i=(l+r) / 2
     ·subst e2; exact q
     ·exact O.tr _ _ _ (hp.low (by exact #[0x582120a2002035671a922134110918217616146115421,_,_,_,_,_,_,_] hk h2 e hi (divO _ _))) (hp.low (by exact #[0x58212092002035671982213417616146115421,_,_,_,_,_,_] hk h2 e (divO _ _))) (hp.low hk) (hs _ _ (by exact #[0x5421543611051421,_,_] hi e2) (by exact #[0x5721208200203546187221341641615411,_,_,_,_,_] h2 e (divO _ _))) q) h5
theorem zf0 (O:SOrd n lt):∀ (f k:Nat) (p:Array Nat),Pm n p->k+f=n->Srt lt p k->Good n lt (kas_bin f p k) fun q=>Pm n q/\Srt lt q n
 | 0,k,p,hp,he,hs=>⟨hp,by rw [<- he]; exact hs⟩
 | f+1,k,p,hp,he,hs=>by
  refine Good.bind ((zbH O hp (by exact #[0x6421610514131,_,_,_] he) hs k 0 k (by exact #[0x40011,_] ) (Nat.le_refl _) (by exact #[0x54110043005245001500413451,_,_] (subO _ _)) (fun i hi=>by exact False.elim <| #[0x100421,_] hi) fun i h1 h2=>by exact False.elim <| #[0x145215411,_,_] h1 h2).mono fun l ⟨a,b,c⟩=>?_)
  have hb:∀ i,i < k+1->gt (bubble p k (k - l)) i=if i=l then gt p k else if l < i then gt p (i - 1) else gt p i:=fun i hi=>zli (by
   rw [getElem?_bubble (by rw [hp.size]; exact #[0x6421610514131,_,_,_] he) (k - l) (by exact #[0x64110043562465165413451,_,_,_] (subO _ _)) i,show k - (k - l)=l by exact #[0x4731007365245615671345100634524541546134515411,_,_,_,_] a (subO _ _) (subO _ _)]
   by_cases e1:i=l
   ·rw [if_pos e1,if_pos e1]; exact zbj (by rw [hp.size]; exact #[0x6421610514131,_,_,_] he)
   ·rw [if_neg e1,if_neg e1]
    by_cases e2:l < i
    ·rw [if_pos ⟨e2,by exact #[0x54111051421,_,_] hi⟩,if_pos e2]; exact zbj (by rw [hp.size]; exact #[0x682100831072471017108134511041721610514131,_,_,_,_,_] he hi (subO _ _))
    ·rw [if_neg (fun q=>e2 q.1),if_neg e2]; exact zbj (by rw [hp.size]; exact #[0x67211041721610514131,_,_,_,_] he hi))
  refine zf0 O f (k+1) _ ((bubble_perm _ _ _).trans hp) (by exact #[0x651041131610514131,_,_,_] he) fun i j hij hj=>?_
  rw [hb i (by exact #[0x106142110615215421,_,_,_] hij hj),hb j hj]
  by_cases e1:i=l
  ·rw [if_pos e1,if_neg (by exact #[0x6536164315421,_,_,_] hij e1),if_pos (by exact #[0x562164315421,_,_,_] hij e1)]
   exact c _ (by exact #[0x7611007310524510151071345164315421,_,_,_,_] hij e1 (subO _ _)) (by exact #[0x6721007310524510151071345110615215421,_,_,_,_] hij hj (subO _ _))
  ·rw [if_neg e1]
   by_cases e2:l < i
   ·rw [if_pos e2,if_neg (by exact #[0x6536146215421,_,_,_] hij e2),if_pos (by exact #[0x562146215421,_,_,_] hij e2)]
    exact hs _ _ (by exact #[0x87210083105245101510813451007310424410141071345146215421,_,_,_,_,_] hij e2 (subO _ _) (subO _ _)) (by exact #[0x6721007310524510151071345110615215421,_,_,_,_] hij hj (subO _ _))
   ·rw [if_neg e2]
    by_cases e3:j=l
    ·rw [if_pos e3]; exact b _ (by exact #[0x54214526154361,_,_] e1 e2)
    ·rw [if_neg e3]
     by_cases e4:l < j
     ·rw [if_pos e4]
      by_cases e5:i=j - 1
      ·exact False.elim <| #[0x10073106246101610713451743165214526154361,_,_,_,_] e1 e2 e4 e5 (subO _ _)
      ·exact hs _ _ (by exact #[0x64210063105245101510613451643615421,_,_,_] hij e5 (subO _ _)) (by exact #[0x5721007310424410141071345146211051421,_,_,_,_] hj e4 (subO _ _))
     ·rw [if_neg e4]; exact hs _ _ hij (by exact #[0x562164261463615411,_,_,_] a e3 e4)
theorem zi2 (O:SOrd n lt) (h2:2<=n):Good n lt (kas_sort n) fun q=>Pm n q/\Srt lt q n:=by
 refine Good.bind ((zgR O h2 (Array.Perm.refl _)).mono fun r ⟨a,b,c,d⟩=>?_)
 by_cases e:r.1 < n
 ·rw [if_pos e,show max r.1 1=r.1 from Nat.max_eq_left a]
  exact zf0 O _ _ _ c (by exact #[0x56413100634524541546134515421,_,_,_] e (subO _ _)) d
 ·rw [if_neg e]
  exact ⟨c,by rw [show n=r.1 by exact #[0x4531542615411,_,_] b e]; exact d⟩
end
end Mine
end
section
open PySem PySem.W PyProof.Rows PySem.Calls
namespace Mine
def PairAt (h:Heap) (v:Value) (p:Int×Int):Prop:=∃ a o n t u,v=.ref a∧h.get? a=some o∧o.cls=.type "tuple"∧o.data=.seq #[.int p.1 t,.int p.2 u] n
section
variable {prog:Program} {w:World}
theorem zmC {x y:Value} {p q:Int×Int} {Q:Bool->Shared->Prop} (hx:PairAt s.heap x p) (hy:PairAt s.heap y q) (h:Q (ltP p q) s):PySem.wpAny (model prog w) A (keyLt' (tuples' true) x y) Q E s:=by
 refine zac hx fun a o n t u yF ho hc hd=>?_; obtain rfl:=yF
 refine zac hy fun b o' n' t' u' yF ho' hc' hd'=>?_; obtain rfl:=yF
 refine kat_lt ho hd ho' hd' (kat_cons (wpAny_eqBool_int (kat_go (fun e=>kat_yes (kat_cons (wpAny_eqBool_int (kat_go (fun e2=>kat_yes (kat_nil ?_)) fun e2=>kat_no (kat_one _ _ ?_))))) fun e=>kat_no (oneLt_int ?_))))
 ·have e:p.1=q.1:=by simpa using e
  have e2:p.2=q.2:=by simpa using e2
  unfold ltP at h
  rw [e,e2] at h
  simpa using h
 ·refine PySem.P.lt_int ?_
  have e:p.1=q.1:=by simpa using e
  have h':Q (decide (p.2 < q.2)) s:=by
   unfold ltP at h
   rw [e] at h
   simpa using h
  exact h'
 ·have e:(p.1 == q.1)=false:=e
  unfold ltP at h
  rw [e] at h
  simpa using h
theorem zc1 {h:Heap}:∀ {vs:List Value} {ps:List (Int×Int)},vs.length=ps.length->(∀ i,i < ps.length->PairAt h (vs.getD i .none) (ps.getD i (0,0)))->∃ fs,KatTups h vs fs/\fs.length=vs.length/\∀ v∈fs,∃ i t,v=.int i t
 | [],_,_,_=>(mEAA ([]) KatTups.nil rfl (fun _ h=>nomatch h))
 | v::vs,[],e,_=>by cases e
 | v::vs,p::ps,e,k=>by
  obtain ⟨fs,h1,h2,h3⟩:=zc1 (vs:=vs) (ps:=ps) (by simpa using e) (fun i hi=>by simpa using k (i+1) (by simpa using hi))
  obtain ⟨a,o,n,t,u,e,ho,hc,hd⟩:PairAt h v p:=by simpa using k 0 (by simp)
  subst e
  exact ⟨.int p.1 t::fs,KatTups.cons ho hc hd rfl h1,by simp [h2],fun v hv=>by
   rcases List.mem_cons.mp hv with rfl | hv
   ·exact mEE _ _ rfl
   ·exact h3 v hv⟩
theorem lt_to {x1 x2 y1 y2:Int} (q1:¬ x1 < y1) (q2:¬ x1=y1∨¬ x2 < y2) (hn:¬ (x1=y1/\x2=y2)):y1 < x1∨y1=x1/\y2 < x2 :=
 (Int.lt_or_eq_of_le (Int.not_lt.mp q1)).imp id fun e=>⟨e,Int.lt_iff_le_and_ne.mpr ⟨Int.not_lt.mp (q2.resolve_left fun h=>h e.symm),fun h=>hn ⟨e.symm,h.symm⟩⟩⟩
theorem lt_tr {a1 a2 b1 b2 c1 c2:Int} (h1:a1 < b1∨a1=b1/\a2 < b2) (h2:b1 < c1∨b1=c1/\b2 < c2):a1 < c1∨a1=c1/\a2 < c2 :=
 h1.elim (fun p=>h2.elim (fun q=>.inl (Int.lt_trans p q)) fun q=>.inl (q.1 ▸ p)) fun p=>h2.elim (fun q=>.inl (p.1 ▸ q)) fun q=>.inr ⟨p.1.trans q.1,Int.lt_trans p.2 q.2⟩
theorem zhu {a:Addr} {vs:List Value} {ps:List (Int×Int)} {n:Nat} {P:Fin→Shared→Prop} (ho:s.heap.get? a=some (seqObj "list" vs.toArray n)) (hl:vs.length=ps.length) (h2:2≤ps.length) (h64:ps.length < 64) (hnd:ps.Nodup)
  (hp:∀ h',(∀ b o,b≠a->s.heap.get? b=some o->h'.get? b=some o)->∀ i,i < ps.length->PairAt h' (vs.getD i .none) (ps.getD i (0,0)))
  (h:∀ p:Array Nat,Pm ps.length p->Srt (fun i j=>ltP (ps.getD i (0,0)) (ps.getD j (0,0))) p ps.length->P (.done (.ret .none)) { s with heap:=sortedHeap s.heap a vs (List.toArray (p.toList.map fun i=>vs.getD i .none)) }) :
  PySem.wpAny (model prog w) A (Builtin.«list.sort» ⟨[.ref a],[]⟩) P E s:=by
 rw [list_sort_plain]
 have ha:a < s.heap.objs.size:=Heap.lt_size ho
 have hz:∀ {k:Nat},k=vs.length->k<=sizeLine:=fun e=>by rw [sizeLine_eq]; exact #[0x1888888880611463118805215431,_,_,_] hl h64 e
 refine PySem.wpAny_bind (listItems_at ho rfl ?_)
 refine PySem.wpAny_bind (listUpdate_at ho rfl ?_ (hz List.size_toArray) (Nat.zero_le _))
 obtain ⟨e1,ho1⟩:∃ e1,(s.heap.update a (Obj.mapSeq fun _=>#[])).get? a=some (seqObj "list" #[] e1):=⟨_,get?_update_seq ho (fun _=>#[])⟩
 refine PySem.wpAny_bind (seqEpoch_at ho1 rfl ?_)
 refine PySem.wpAny_bind (wpAny_newTuple ?_ (hz rfl))
 refine PySem.wpAny_bind (wpAny_newList ?_ (Nat.zero_le _))
 refine PySem.wpAny_holding ?_
 have ho6:(((s.heap.update a (Obj.mapSeq fun _=>#[])).push (seqObj "tuple" vs.toArray 0)).push (seqObj "list" #[] 0)).get? a=some (seqObj "list" #[] e1) :=
  Heap.get?_push_of_some _ (Heap.get?_push_of_some _ ho1)
 show PySem.wpAny (model prog w) A _ P E { s with heap:=((s.heap.update a (Obj.mapSeq fun _=>#[])).push (seqObj "tuple" vs.toArray 0)).push (seqObj "list" #[] 0) }
 dsimp only
 have pa:=hp (((s.heap.update a (Obj.mapSeq fun _=>#[])).push (seqObj "tuple" vs.toArray 0)).push (seqObj "list" #[] 0)) fun b o hb e =>
  Heap.get?_push_of_some _ (Heap.get?_push_of_some _ ((Heap.get?_update_ne _ _ _ _ hb).trans e))
 have hn2:¬ vs.toArray.size < 2:=by rw [List.size_toArray]; exact #[0x204261520115431,_,_] hl h2
 rw [if_neg hn2,if_neg hn2]
 refine oEAA (zc1 hl pa) fun fs f1 f2 f3=>?_
 refine PySem.wpAny_bind (kat_kind (T:=.type "int") f1 (by exact #[0x600214631520115431,_,_,_] hl h2 f2) (fun v hv=>by refine oEE (f3 v hv) fun i t yC=>?_; obtain rfl:=yC; exact Looks.of_pure rfl) (by decide) ?_)
 rw [show (Value.type "int" != Value.type "tuple")=true from by decide]
 have O:SOrd ps.length (fun i j=>ltP (ps.getD i (0,0)) (ps.getD j (0,0))):=by
  refine ⟨fun i j k _ _ _ q1 q2=>?_,fun i j hi hj hn q=>?_⟩
  ·simp only [ltP,Bool.or_eq_true,Bool.and_eq_true,decide_eq_true_eq,beq_iff_eq] at q1 q2 ⊢
   exact lt_tr q1 q2
  ·have hne:ps.getD i (0,0)≠ps.getD j (0,0):=fun e=>by
    rw [List.getD_eq_getElem?_getD,List.getD_eq_getElem?_getD,List.getElem?_eq_getElem hi,List.getElem?_eq_getElem hj] at e
    exact hn ((List.getElem_inj hnd).mp e)
   generalize ps.getD i (0,0)=x at q hne ⊢
   generalize ps.getD j (0,0)=y at q hne ⊢
   obtain ⟨x1,x2⟩:=x
   obtain ⟨y1,y2⟩:=y
   simp only [ltP,Bool.or_eq_true,Bool.and_eq_true,decide_eq_true_eq,beq_iff_eq,Bool.or_eq_false_iff,Bool.and_eq_false_iff,decide_eq_false_iff_not,beq_eq_false_iff_ne,ne_eq,Prod.mk.injEq] at q hne ⊢
   exact lt_to q.1 q.2 hne
 refine PySem.wpAny_bind (PySem.wpAny_mono (kat_run (κ:=tuples' true) (Q:=fun st' s'=>∃ p:Array Nat,(Pm ps.length p/\Srt (fun i j=>ltP (ps.getD i (0,0)) (ps.getD j (0,0))) p ps.length)/\arrOf st'=p.map (kas_item (vs.toArray.zip vs.toArray))/\failedOf st'=none /\
   s'={ s with heap:=((s.heap.update a (Obj.mapSeq fun _=>#[])).push (seqObj "tuple" vs.toArray 0)).push (seqObj "list" #[] 0) })
  (G:=fun p s'=>(Pm ps.length p∧Srt (fun i j=>ltP (ps.getD i (0,0)) (ps.getD j (0,0))) p ps.length)∧s'={ s with heap:=((s.heap.update a (Obj.mapSeq fun _=>#[])).push (seqObj "tuple" vs.toArray 0)).push (seqObj "list" #[] 0) })
  rfl (by exact #[0x42011520115431,_,_] hl h2) (by exact #[0x188042118805215431,_,_] hl h64) (fun p' st' s' a1 a2 a3 a4=>(zgL p' a4.1 a2 a3 a4.2)) ?_) ?_ fun _ _ e=>e)
 ·rw [hl]
  refine (zi2 O h2).wp (I:=fun s'=>s'={ s with heap:=((s.heap.update a (Obj.mapSeq fun _=>#[])).push (seqObj "tuple" vs.toArray 0)).push (seqObj "list" #[] 0) }) (fun i j C s' hi hj hs k=>?_) rfl fun p s' hp hs=>⟨hp,hs⟩
  subst hs
  exact zmC (pa i hi) (pa j hj) (k _ rfl)
 ·rintro ⟨⟨⟩,st'⟩ s' ⟨p,hpm,har,hf,rfl⟩
  dsimp only
  have hout:=kat_snds rfl har
  rw [hout]
  refine PySem.wpAny_bind (seqEpoch_at ho6 rfl ?_)
  refine PySem.wpAny_bind (listUpdate_at ho6 rfl ?_ (Nat.zero_le _) (Nat.le_succ_of_le (hz (by rw [List.size_toArray,List.length_map,Array.length_toList,hpm.1.size,hl]))))
  rw [hf]
  simp only [bne_self_eq_false,Bool.false_eq_true,if_false]
  exact PySem.wpAny_pure (h p hpm.1 hpm.2)
theorem zfJ {l:Addr} {vs:List Value} {ps:List (Int×Int)} {Q:Value->Shared->Prop} (hl:s.heap.IsList l vs.toArray) (hlen:vs.length=ps.length) (h2:2<=ps.length) (h64:ps.length < 64) (hnd:ps.Nodup)
  (hp:∀ i,i < ps.length->PairAt s.heap (vs.getD i .none) (ps.getD i (0,0)))
  (h:∀ p:Array Nat,Pm ps.length p->Srt (fun i j=>ltP (ps.getD i (0,0)) (ps.getD j (0,0))) p ps.length->Q (.ref (s.heap.objs.size+1)) { s with heap:=sortedAll s.heap vs (List.toArray (p.toList.map fun i=>vs.getD i .none)) }) :
  PySem.wpAny (model prog w) A (call (.builtin "sorted") [.ref l]) Q E s:=by
 refine Calls.call_function_entry kind_sorted plain_sorted entry_sorted (args_sorted1 _) ?_
 have hz:vs.length<=sizeLine:=by rw [sizeLine_eq]; exact #[0x188888888041118805215431,_,_] hlen h64
 unfold Builtin.«sorted»
 refine PySem.wpAny_bind (m:=checkCount "sorted" 1 1 _) (PySem.wpAny_pure ?_)
 refine PySem.wpAny_bind (collect_list hl ?_ hz)
 refine PySem.wpAny_bind (wpAny_newList ?_ hz)
 have hsz:((s.heap.push (seqObj "list" #[] 0)).update s.heap.objs.size (Obj.mapSeq (·++vs.toArray))).objs.size=s.heap.objs.size+1:=by
  rw [Heap.size_update,size_push']
 have hoL:(((s.heap.push (seqObj "list" #[] 0)).update s.heap.objs.size (Obj.mapSeq (·++vs.toArray))).push (seqObj "list" vs.toArray 0)).get? (s.heap.objs.size+1)=some (seqObj "list" vs.toArray 0):=by
  rw [<- hsz]; exact Heap.get?_push_size _ rfl
 have keep:∀ b o,s.heap.get? b=some o→(((s.heap.push (seqObj "list" #[] 0)).update s.heap.objs.size (Obj.mapSeq (·++vs.toArray))).push (seqObj "list" vs.toArray 0)).get? b=some o:=fun b o q =>
  Heap.get?_push_of_some _ ((Heap.get?_update_ne _ _ _ _ (Nat.ne_of_lt (Heap.lt_size q))).trans (Heap.get?_push_of_some _ q))
 show PySem.wpAny _ _ _ _ _ { s with heap:=((s.heap.push (seqObj "list" #[] 0)).update s.heap.objs.size (Obj.mapSeq (·++vs.toArray))).push (seqObj "list" vs.toArray 0) }
 rw [hsz]
 refine PySem.wpAny_bind (PySem.wpAny_holding (wpAny_call_entry slot_list_sort (mEA _ hoL rfl) entry_list_sort (zhu hoL hlen h2 h64 hnd (fun h' k i hi=>?_) fun p h3 h4=>(mEA _ rfl ?_)) (args_list_sort _)))
 ·refine zac (hp i hi) fun a o n t u e ho hc hd=>?_
  exact zau a o n t u e (k a o (Nat.ne_of_lt (Nat.lt_succ_of_lt (Heap.lt_size ho))) (keep a o ho)) hc hd
 ·exact PySem.wpAny_pure (mEA _ rfl (h p h3 h4))
end
theorem zlw {α:Type} {d:α} {xs:List α} {p:Array Nat} (h:Pm xs.length p):(p.toList.map fun i=>xs.getD i d).Perm xs:=by
 have h1:p.toList.Perm (List.range xs.length):=by simpa using Array.perm_iff_toList_perm.mp h
 refine (h1.map _).trans (List.Perm.of_eq ?_)
 refine List.ext_getElem (by simp) fun i h1 h2=>?_
 simp [List.getElem?_eq_getElem h2]
theorem zgy {clsA:Cls->Addr} {D:Addr->Prop} {h:Heap}:∀ {vs:List V} {xs:List Value},xs.length=vs.length->(∀ (i:Nat) (v:V),vs[i]?=some v->∃ x,xs[i]?=some x/\Abs clsA D h v x)->AbsL clsA D h vs xs
 | [],xs,e,_=>by
  have:xs=[]:=by simpa using e
  subst this; exact AbsL.nil
 | v::vs,[],e,_=>by cases e
 | v::vs,x::xs,e,k=>by
  refine oEA (k 0 v rfl) fun y h1 h2=>?_
  cases h1
  exact AbsL.cons h2 (zgy (by simpa using e) fun i u hu=>by simpa using k (i+1) u (by simpa using hu))
section
theorem zhe (P:Pr W lev A frs s H) {v:V} {x:Value} {ps:List (Int×Int)} (ha:Abs W.clsA (W.D H) s.heap v x) (hv:listOf H v=some (ps.map tupV)) (h2:2<=ps.length) (h64:ps.length < 64) (hnd:ps.Nodup)
  (q:∀ qs:List (Int×Int),qs.Perm ps→qs.Pairwise (fun a b=>ltP a b=true)→Q (.lst (qs.map tupV)) H):PySem.wpAny W.M A (call (.builtin "sorted") [x]) (EPost W frs H s Q) E s:=by
 refine zd (zat P.gd ha hv) fun b items yC o al=>?_; obtain rfl:=yC
 have hlen:items.length=ps.length:=by rw [al.length,List.length_map]
 have each:∀ i (hi:i < ps.length),∃ y,items[i]?=some y/\Abs W.clsA (W.D H) s.heap (tupV (ps.getD i (0,0))) y:=fun i hi=>by
  refine al.get (i:=i) ?_
  rw [List.getElem?_map,List.getElem?_eq_getElem hi,List.getD_eq_getElem?_getD,List.getElem?_eq_getElem hi]
  rfl
 refine zfJ (zk o) hlen h2 h64 hnd (fun i hi=>?_) fun p h3 h4=>?_
 ·refine oEA (each i hi) fun y e1 e2=>?_
  rw [List.getD_eq_getElem?_getD,e1]
  refine zu (zc3 e2) fun a its yC _ yE hits=>?_; obtain rfl:=yC; refine zgW yE fun ob ho hc k hd=>?_
  obtain ⟨y1,ys,rfl,a1,hits⟩:=hits
  obtain ⟨y2,zs,rfl,a2,hits⟩:=hits
  subst hits
  obtain ⟨t1,rfl⟩:=zg a1
  obtain ⟨t2,rfl⟩:=zg a2
  exact zau a ob k t1 t2 rfl ho hc hd
 ·obtain ⟨e,he⟩:=sortedAll_at s.heap items (List.toArray (p.toList.map fun i=>items.getD i .none))
  have k:∀ b o,s.heap.get? b=some o->(sortedAll s.heap items (List.toArray (p.toList.map fun i=>items.getD i .none))).get? b=some o:=fun _ _=>sortedAll_old
  refine endK P (tk:=s.toks) k ?_ (q (p.toList.map fun i=>ps.getD i (0,0)) (zlw h3) ?_)
  ·refine zx _ _ rfl ?_ ((zbX _ he rfl rfl e rfl)) (zgy (by simp) fun i v hv=>?_)
   ·refine zch ?_ fun pv=>?_
    ·cases z:H (s.heap.objs.size+1) with
     | none=>rfl
     | some ao=>refine oAEA (P.gd.rp.2 _ _ z) fun _ ob e2 _=>?_; exact absurd (Heap.lt_size e2) (Nat.not_lt.mpr (Nat.le_succ _))
    ·refine oAE (P.gd.pv _ pv) fun _ ob e2=>?_
     exact absurd (Heap.lt_size e2) (Nat.not_lt.mpr (Nat.le_succ _))
   ·rw [List.getElem?_map,List.getElem?_map] at hv
    refine oEA (Option.map_eq_some_iff.mp hv) fun pr h5 h6=>?_
    refine oEA (Option.map_eq_some_iff.mp h5) fun j h7 h8=>?_
    subst h8; subst h6
    have hj:j < ps.length:=by
     have h9:=List.mem_of_getElem? h7
     have h10:=(Array.perm_iff_toList_perm.mp h3).mem_iff.mp h9
     simpa using h10
    refine oEA (each j hj) fun y e1 e2=>?_
    refine mEA y ?_ (Abs.keeps (fun b o e n _=>⟨⟨o.slots,k b o e⟩,n⟩) _ _ e2)
    rw [List.getElem?_map,h7]
    simp [List.getD_eq_getElem?_getD,e1]
  ·refine List.pairwise_iff_getElem.mpr fun i j hi hj hij=>?_
   have hi':i < p.size:=by simpa using hi
   have hj':j < p.size:=by simpa using hj
   have:=h4 i j hij (by rw [<- h3.size]; exact hj')
   simpa [gt,Array.getD,hi',hj'] using this
end
theorem zg3 {ks:List Int}:∀ {vs:List Value},vs.length=ks.length->(∀ (j:Nat) (v:Value),vs[j]?=some v->∃ k t,ks[j]?=some k/\v=.int k t)->IntsAre vs ks:=by
 induction ks with
 | nil =>
  intro vs e _
  have:vs=[]:=by simpa using e
  subst this; exact .nil
 | cons k ks ih =>
  intro vs e h
  induction vs using List.casesOn with
  | nil=>cases e
  | cons v vs =>
   refine oEEA (h 0 v rfl) fun k' t e1 yD=>?_; obtain rfl:=yD
   cases e1
   exact .cons k t (ih (by simpa using e) fun j v hv=>by simpa using h (j+1) v (by simpa using hv))
theorem zh6 {clsA:Cls->Addr} {D:Addr->Prop} {h:Heap} {kvs:List (Int×V)} {xs:List (Int×Value)} (a:AbsKV clsA D h kvs xs):xs.map (·.1)=kvs.map (·.1):=by
 induction kvs using List.rec generalizing xs with
 | nil=>exact congrArg (List.map _) (show xs=[] from a)
 | cons p r ih =>
  refine zd a fun y ys yC a1 a2=>?_; obtain rfl:=yC
  exact congrArg (List.cons _) (ih a2)
section
theorem zhY (P:Pr W lev A frs s H) {a:Addr} {kvs:List (Int×V)} (h:H a=some (.dict kvs)) (h64:kvs.length < 64)
  (q:∀ ks:List Int,ks.Perm (kvs.map (·.1))→Q (.lst (ks.map .int)) H):PySem.wpAny W.M A (call (.builtin "sorted") [.ref a]) (EPost W frs H s Q) E s:=by
 refine oEA (dictAt P h) fun xs hD hkv=>?_
 obtain ⟨ep,hat⟩:=hD.dictAt
 have hxl:xs.length=kvs.length:=zlg hkv
 refine call_function_entry kind_sorted plain_sorted entry_sorted (args_sorted1 _) ?_
 unfold Builtin.«sorted»
 refine PySem.wpAny_bind (m:=checkCount "sorted" 1 1 _) (PySem.wpAny_pure ?_)
 refine PySem.wpAny_bind (kdu_collect (A:=A.in1) (kdl_dict (knd:=intKind W.prog W.w) (kvs:=xs) (ep:=ep) (P.notSys h)) P.rm.quiet hat (by rw [hxl,sizeLine_eq]; exact #[0x18888888804111880421,_] h64) fun h' tk acc hk hacc=>?_)
 have hl:acc.toList.length=kvs.length:=by rw [Array.length_toList,hacc.1,hxl]
 have hI:IntsAre acc.toList (kvs.map (·.1)):=zg3 (by rw [hl,List.length_map]) fun j v e=>by
  obtain ⟨k,x,e1,e2⟩:=hacc.2 j v (by rw [<- Array.getElem?_toList]; exact e)
  obtain ⟨t,rfl⟩:=Value.isInt_shape e2
  exact mEEA k t (by rw [<- zh6 hkv,List.getElem?_map,e1]; rfl) rfl
 refine PySem.wpAny_bind (wpAny_newList ?_ (by rw [hl,sizeLine_eq]; exact #[0x18888888804111880421,_] h64))
 have hoL:(h'.push (seqObj "list" acc.toList.toArray 0)).get? h'.objs.size=some (seqObj "list" acc.toList.toArray 0):=Heap.get?_push_size _ rfl
 refine PySem.wpAny_bind (PySem.wpAny_holding (wpAny_call_entry slot_list_sort (mEA _ hoL rfl) entry_list_sort (list_sort_tree hoL hI (by rw [hl]; exact h64) fun out ns' a1 a2 a3=>(mEA _ rfl (PySem.wpAny_pure (mEA _ rfl ?_)))) (args_list_sort _)))
 obtain ⟨c,hc⟩:=sortedHeap_at (vs:=acc.toList) (out:=out) hoL
 have k:∀ b o,s.heap.get? b=some o→(sortedHeap (h'.push (seqObj "list" acc.toList.toArray 0)) h'.objs.size acc.toList out).get? b=some o:=fun b o e=>by
  have e2:=hk b o e
  have hlt:=Heap.lt_size e2
  rw [sortedHeap_old (Nat.ne_of_lt hlt) (by rw [size_push']; exact Nat.lt_succ_of_lt hlt),Heap.get?_push_of_some _ e2]
 have hnn:∀ o,s.heap.get? h'.objs.size≠some o:=fun o e=>absurd (Heap.lt_size (hk _ _ e)) (Nat.lt_irrefl _)
 refine endK P (tk:=tk) k ?_ (q ns' a2)
 refine zx _ out.toList rfl ?_ ((zbX _ hc rfl rfl c rfl)) (zb2 a1)
 refine zch ?_ fun pv=>?_
 ·cases z:H h'.objs.size with
  | none=>rfl
  | some ao=>refine oAEA (P.gd.rp.2 _ _ z) fun _ ob e2 _=>?_; exact absurd e2 (hnn ob)
 ·refine oAE (P.gd.pv _ pv) fun _ ob e2=>?_
  exact absurd e2 (hnn ob)
end
end Mine
end
section
namespace Mine
noncomputable def rev (c:Nat):Nat->Nat
 | 0=>0
 | n+1=>rev c n*2 ^ 1 ||| c / 2 ^ n &&& 1
theorem zdL:∀ x:Fin 256,∀ l:Fin 9,rev x.1 8 / 2 ^ (8 - l.1)=rev x.1 l.1/\rev (rev (x.1 % 2 ^ l.1) l.1) l.1=x.1 % 2 ^ l.1/\rev x.1 l.1=rev (x.1 % 2 ^ l.1) l.1/\rev x.1 l.1 < 2 ^ l.1:=by decide +kernel
theorem zbg:∀ (c n k:Nat),n<=k->rev (c % 2 ^ k) n=rev c n
 | c,0,k,_=>rfl
 | c,n+1,k,h=>by
  unfold rev
  rw [zbg c n k (Nat.le_of_succ_le h),Nat.and_one_is_mod,Nat.and_one_is_mod]
  have:c % 2 ^ k / 2 ^ n % 2=c / 2 ^ n % 2:=by
   obtain ⟨d,rfl⟩:∃ d,k=n+1+d:=⟨k - (n+1),by exact #[0x61041153100631041524510411510416134515104111,_,_,_] h (subO _ _)⟩
   rw [Nat.pow_add,Nat.pow_succ,Nat.mul_assoc,Nat.mod_mul_right_div_self,Nat.mod_mul_right_mod]
  rw [this]
theorem rev8 (c l:Nat) (h:l<=8):rev c 8 / 2 ^ (8 - l)=rev c l:=by
 rw [<- zbg c 8 8 (Nat.le_refl _),<- zbg c l 8 h]
 exact (zdL ⟨c % 2 ^ 8,Nat.mod_lt _ (by decide)⟩ ⟨l,by exact #[0x190421180411,_] h⟩).1
theorem zlt (c:Nat):rev c 8 < 256:=by
 rw [<- zbg c 8 8 (Nat.le_refl _)]
 exact (zdL ⟨c % 2 ^ 8,Nat.mod_lt _ (by decide)⟩ ⟨8,by exact om 0x19018021 [] (by rfl') ⟩).2.2.2
theorem zdA (c l:Nat) (h:l<=8):rev c l < 2 ^ l:=by
 rw [<- zbg c l 8 h]
 exact (zdL ⟨c % 2 ^ 8,Nat.mod_lt _ (by decide)⟩ ⟨l,by exact #[0x190421180411,_] h⟩).2.2.2
theorem ziG (c l:Nat) (h:l<=8):rev (rev c l) l=c % 2 ^ l:=by
 have:=(zdL ⟨c % 2 ^ 8,Nat.mod_lt _ (by decide)⟩ ⟨l,by exact #[0x190421180411,_] h⟩).2
 have e:c % 2 ^ 8 % 2 ^ l=c % 2 ^ l:=Nat.mod_mod_of_dvd _ (Nat.pow_dvd_pow 2 h)
 rw [<- zbg c l l (Nat.le_refl _),<- e]
 exact this.1
theorem zlL {c k l:Nat} (h:l<=8) (hk:k < 2 ^ l):c % 2 ^ l=rev k l ↔ rev c 8 / 2 ^ (8 - l)=k:=by
 rw [rev8 c l h]
 constructor
 ·intro e
  rw [<- zbg c l l (Nat.le_refl _),e,ziG k l h,Nat.mod_eq_of_lt hk]
 ·rintro rfl
  rw [ziG c l h]
noncomputable def wt (l:Nat):Nat:=if l=0 then 0 else 2 ^ (8 - l)
structure Full (ls:List Nat):Prop where
 le8:∀ l∈ls,l<=8
 sum:(ls.map wt).sum=256
 len:ls.length<=11
noncomputable def acc (ls:List Nat):Nat->Nat
 | 0=>0
 | n+1=>acc ls n+ls.count (n+1)*2 ^ (7 - n)
noncomputable def plc (ls:List Nat):Nat->Nat
 | 0=>0
 | n+1=>plc ls n+ls.count (n+1)
noncomputable def fst' (ls:List Nat):Nat->Nat
 | 0=>0
 | n+1=>(fst' ls n+ls.count (n+1))*2
theorem zdS (l:Nat) (ls:List Nat):∀ n,acc (l::ls) n=acc ls n+if 1<=l/\l<=n then 2 ^ (8 - l) else 0
 | 0=>by rw [if_neg (by exact #[0x414101461,_] )]; rfl
 | n+1=>by
  unfold acc
  rw [zdS l ls n,List.count_cons]
  by_cases h:l=n+1
  ·subst h
   rw [if_neg (by exact #[0x4104111041101461,_] ),if_pos (by simp),if_pos (by exact #[0x104110411104110141,_] ),Nat.add_mul,Nat.one_mul,show 8 - (n+1)=7 - n by exact #[0x643100635702470517056134510043105118024180105111801051413451,_,_,_] (subO _ _) (subO _ _)]; exact #[0x654116510041131,_,_,_] 
  ·rw [if_neg (c:=(l == n+1)=true) (by simpa using h),Nat.add_zero]
   by_cases g:1<=l/\l<=n
   ·rw [if_pos g,if_pos (by exact #[0x105141410141541141011,_,_] g.1 g.2)]; exact #[0x564116541131,_,_,_] 
   ·rw [if_neg g,if_neg (by exact #[0x1051414101461541410146110514361,_,_] h g)]; exact #[0x541150041131,_,_] 
theorem acc8:∀ (ls:List Nat),(∀ l∈ls,l<=8)->acc ls 8=(ls.map wt).sum
 | [],_=>rfl
 | l::ls,h=>by
  rw [zdS,acc8 ls fun x hx=>h x (.tail _ hx),List.map_cons,List.sum_cons]
  have:=h l (.head _)
  unfold wt
  by_cases g:l=0
  ·rw [if_neg (by exact #[0x18041410146100431,_] g),if_pos g]; exact #[0x4001004131,_] 
  ·rw [if_pos (by exact #[0x18041410141004361180411,_] this g),if_neg g]; exact #[0x45154131,_,_] 
theorem zbT (ls:List Nat):∀ n,n<=7->fst' ls n*2 ^ (7 - n)=acc ls n
 | 0,_=>rfl
 | n+1,h=>by
  unfold fst' acc
  rw [<- zbT ls n (by exact #[0x7041170104111,_] h),Nat.mul_assoc,<- Nat.add_mul]
  congr 1
  obtain ⟨d,hd⟩:∃ d,7 - n=d+1:=⟨6 - n,by exact #[0x10615310063460246041604613451005347024704170451345170104111,_,_,_] h (subO _ _) (subO _ _)⟩
  rw [hd,Nat.pow_succ,show 7 - (n+1)=d by exact #[0x5631004377024707170741345100631071702470107117010716134511051431,_,_,_,_] hd (subO _ _) (subO _ _)]; exact #[0x42342231,_] 
theorem za3 (ls:List Nat) {n k:Nat} (h:n<=k):acc ls n<=acc ls k:=by
 induction h with
 | refl=>exact Nat.le_refl _
 | step _ ih=>exact Nat.le_trans ih (Nat.le_add_right _ _)
theorem zdi (ls:List Nat) {n k:Nat} (h:n<=k):plc ls n<=plc ls k:=by
 induction h with
 | refl=>exact Nat.le_refl _
 | step _ ih=>exact Nat.le_trans ih (Nat.le_add_right _ _)
noncomputable def rank (ls:List Nat) (s:Nat):Nat:=(ls.take s).count (ls.getD s 0)
noncomputable def cod (ls:List Nat) (s:Nat):Nat:=fst' ls (ls.getD s 0 - 1)+rank ls s
def Has (ls:List Nat) (s l:Nat):Prop:=ls[s]?=some (l+1)
theorem nth:∀ (ls:List Nat) (L r:Nat),r < ls.count L->∃ s,ls[s]?=some L/\(ls.take s).count L=r
 | [],L,r,h=>by simp at h
 | l::ls,L,r,h=>by
  rw [List.count_cons] at h
  by_cases e:l=L
  ·subst e
   induction r using Nat.casesOn with
   | zero=>exact mEA 0 rfl rfl
   | succ r =>
    obtain ⟨s,h1,h2⟩:=nth ls l r (by simp at h; exact #[0x54215421,_,_] h)
    exact mEA (s+1) h1 (by rw [List.take_succ_cons,List.count_cons_self,h2])
  ·rw [if_neg (by simpa using e)] at h
   refine oEA (nth ls L r h) fun s h1 h2=>?_
   exact mEA (s+1) h1 (by rw [List.take_succ_cons,List.count_cons_of_ne e,h2])
theorem zgt:∀ (ls:List Nat) (L s:Nat),ls[s]?=some L->(ls.take s).count L < ls.count L
 | [],_,_,h=>by simp at h
 | l::ls,L,0,h=>by cases h; rw [List.count_cons_self]; exact Nat.succ_pos _
 | l::ls,L,s+1,h=>by
  have:=zgt ls L s h
  rw [List.take_succ_cons,List.count_cons,List.count_cons]; exact #[0x651641215421,_,_,_] this
theorem zcl (ls:List Nat) (L:Nat) {a b:Nat} (h:a<=b):(ls.take a).count L<=(ls.take b).count L:=by
 have:ls.take a=(ls.take b).take a:=by rw [List.take_take,Nat.min_eq_left h]
 rw [this]
 exact List.Sublist.count_le _ (List.take_sublist _ _)
theorem zbn (ls:List Nat) (L:Nat) {a b:Nat} (h:a < b) (e:ls[a]?=some L):(ls.take a).count L < (ls.take b).count L:=by
 refine Nat.lt_of_lt_of_le ?_ (zcl ls L h)
 rw [List.take_add_one,e,List.count_append]
 simp
theorem zho {ls:List Nat} {L a b:Nat} (ha:ls[a]?=some L) (hb:ls[b]?=some L) (h:(ls.take a).count L=(ls.take b).count L):a=b:=by
 rcases Nat.lt_trichotomy a b with q | q | q
 ·have:=zbn ls L q ha; exact #[0x763154215431,_,_,_,_] h this
 ·exact q
 ·have:=zbn ls L q hb; exact #[0x763145215431,_,_,_,_] h this
section
theorem zaC {s l:Nat} (h:Has ls s l):ls.getD s 0=l+1:=by
 unfold Has at h
 rw [List.getD_eq_getElem?_getD,h]; rfl
theorem zid {s l:Nat} (h:Has ls s l):rank ls s < ls.count (l+1):=by
 unfold rank
 rw [zaC h]; exact zgt ls _ _ h
theorem zeD {s l:Nat} (h:Has ls s l):cod ls s=fst' ls l+rank ls s:=by
 unfold cod
 rw [zaC h]; rfl
theorem zav (F:Full ls) {s l:Nat} (h:Has ls s l):l < 8:=F.le8 _ (List.mem_of_getElem? h)
theorem zdl (F:Full ls) {s l:Nat} (h:Has ls s l):cod ls s*2 ^ (7 - l)=acc ls l+rank ls s*2 ^ (7 - l):=by
 rw [zeD h,Nat.add_mul,zbT ls l (by have:=zav F h; exact #[0x70411180421,_] this)]
theorem zk0 (F:Full ls) {s l:Nat} (h:Has ls s l):(cod ls s+1)*2 ^ (7 - l)<=acc ls (l+1):=by
 have h1:=zid h
 rw [Nat.add_mul,Nat.one_mul,zdl F h,show acc ls (l+1)=acc ls l+ls.count (l+1)*2 ^ (7 - l) from rfl]
 have:(rank ls s+1)*2 ^ (7 - l)<=ls.count (l+1)*2 ^ (7 - l):=Nat.mul_le_mul_right _ h1
 rw [Nat.add_mul,Nat.one_mul] at this
 exact #[0x6715471111654111,_,_,_,_] this
theorem zej (F:Full ls) {s l:Nat} (h:Has ls s l):cod ls s < 2 ^ (l+1):=by
 have h0:=zav F h
 have h1:=zk0 F h
 have h2:acc ls (l+1)<=256:=by rw [<- F.sum,<- acc8 ls F.le8]; exact za3 ls (by exact #[0x180104111180421,_] h0)
 have h3:2 ^ (l+1)*2 ^ (7 - l)=256:=by rw [<- Nat.pow_add,show l+1+(7 - l)=8 by exact #[0x180510411310053470247041704513451180421,_,_] h0 (subO _ _)]
 have h4:(cod ls s+1)*2 ^ (7 - l)<=2 ^ (l+1)*2 ^ (7 - l):=by exact #[0x6411488063148805115411,_,_,_] h1 h2 h3
 exact Nat.le_of_mul_le_mul_right h4 (Nat.two_pow_pos _)
def At8 (ls:List Nat) (w s l:Nat):Prop:=Has ls s l/\w / 2 ^ (7 - l)=cod ls s
theorem zcE {w s l:Nat} (F:Full ls) (h:At8 ls w s l):acc ls l<=w/\w < acc ls (l+1):=by
 obtain ⟨h1,h2⟩:=h
 have h3:=zk0 F h1
 have h4:=zdl F h1
 have h5:=(Nat.div_lt_iff_lt_mul (Nat.two_pow_pos (7 - l))).mp (h2 ▸ Nat.lt_succ_self _:w / 2 ^ (7 - l) < cod ls s+1)
 have h6:=Nat.div_mul_le_self w (2 ^ (7 - l))
 rw [h2] at h6
 exact #[0x59297141961149218716315411,_,_,_,_,_,_] h3 h4 h5 h6
theorem zkc (F:Full ls) {w:Nat} (hw:w < 256):∃ l,l < 8/\acc ls l<=w/\w < acc ls (l+1):=by
 have h8:w < acc ls 8:=by rw [acc8 ls F.le8,F.sum]; exact hw
 have:∀ n,w < acc ls n->∃ l,l < n/\acc ls l<=w/\w < acc ls (l+1):=by
  intro n
  induction n with
  | zero=>intro h; exact absurd h (Nat.not_lt_zero _)
  | succ n ih =>
   intro h
   by_cases g:w < acc ls n
   ·refine oEA (ih g) fun l h1 h2=>?_; exact mEA l (by exact #[0x10514215421,_,_] h1) h2
   ·exact mEAA n (Nat.lt_succ_self _) (by exact #[0x451154261,_,_] g) h
 exact this 8 h8
theorem in_len {w l:Nat} (hl:l < 8) (h1:acc ls l<=w) (h2:w < acc ls (l+1)):fst' ls l<=w / 2 ^ (7 - l)/\w / 2 ^ (7 - l) < fst' ls l+ls.count (l+1):=by
 have e:=zbT ls l (by exact #[0x70411180421,_] hl)
 constructor
 ·rw [Nat.le_div_iff_mul_le (Nat.two_pow_pos _),e]; exact h1
 ·rw [Nat.div_lt_iff_lt_mul (Nat.two_pow_pos _),Nat.add_mul,e]; exact h2
theorem at_ex (F:Full ls) {w:Nat} (hw:w < 256):∃ s l,At8 ls w s l:=by
 refine oEAA (zkc F hw) fun l hl h1 h2=>?_
 obtain ⟨h3,h4⟩:=in_len hl h1 h2
 obtain ⟨s,h5,h6⟩:=nth ls (l+1) (w / 2 ^ (7 - l) - fst' ls l) (by exact #[0x672100734524541547134516415215411,_,_,_,_] h3 h4 (subO _ _))
 refine mEEA s l h5 ?_
 have h5:Has ls s l:=h5
 have:rank ls s=w / 2 ^ (7 - l) - fst' ls l:=by unfold rank; rw [zaC h5,h6]
 rw [zeD h5,this]; exact #[0x64153100634524541546134515411,_,_,_] h3 (subO _ _)
theorem zgE {w l l':Nat} (a:acc ls l<=w) (b:w < acc ls (l+1)) (a':acc ls l'<=w) (b':w < acc ls (l'+1)):l=l':=by
 rcases Nat.lt_trichotomy l l' with q | q | q
 ·have:=za3 ls (show l+1<=l' from q); exact #[0x8731651146115421,_,_,_,_,_] b a' this
 ·exact q
 ·have:=za3 ls (show l'+1<=l from q); exact #[0x8731461165215411,_,_,_,_,_] a b' this
theorem zml (F:Full ls) {w s l s' l':Nat} (h:At8 ls w s l) (h':At8 ls w s' l'):s=s'/\l=l':=by
 obtain ⟨b1,b2⟩:=zcE F h
 obtain ⟨b3,b4⟩:=zcE F h'
 obtain rfl:=zgE b1 b2 b3 b4
 refine ⟨?_,rfl⟩
 obtain ⟨h1,h2⟩:=h
 obtain ⟨h3,h4⟩:=h'
 have e:=h2.symm.trans h4
 rw [zeD h1,zeD h3] at e
 have e:rank ls s=rank ls s':=by exact #[0x653164154131,_,_,_] e
 unfold rank at e
 rw [zaC h1,zaC h3] at e
 exact zho h1 h3 e
end
def Dec (ls:List Nat) (c s l:Nat):Prop:=Has ls s l/\c % 2 ^ (l+1)=rev (cod ls s) (l+1)
section
variable {n' N N' c:Nat} {fs' es':List Nat}
theorem zf9 (F:Full ls) {s l:Nat}:Dec ls c s l ↔ At8 ls (rev c 8) s l:=by
 refine and_congr_right fun h=>?_
 have h8:=zav F h
 rw [zlL (by exact #[0x180104111180421,_] h8) (zej F h),show 8 - (l+1)=7 - l by exact #[0x643100635702470517056134510043105118024180105111801051413451,_,_,_] (subO _ _) (subO _ _)]
theorem zcW (F:Full ls) (c:Nat):∃ s l,Dec ls c s l:=by
 refine oEE (at_ex F (zlt c)) fun s l h=>?_
 exact mEE s l ((zf9 F).mpr h)
theorem zw (F:Full ls) {s l s' l':Nat} (h:Dec ls c s l) (h':Dec ls c s' l'):s=s'/\l=l':=zml F ((zf9 F).mp h) ((zf9 F).mp h')
theorem ziC (F:Full ls) {s l:Nat} (h:Dec ls c s l):l < 8:=zav F h.1
theorem zgl {c' s l:Nat} (h:Dec ls c s l) (e:c % 2 ^ (l+1)=c' % 2 ^ (l+1)):Dec ls c' s l:=⟨h.1,e ▸ h.2⟩
inductive Runs (ls:List Nat) (n N:Nat):Nat->List Nat->List Nat->Prop
 | stop {p s l:Nat} (d:Dec ls (n / 2 ^ p) s l) (hp:p<=N) (h:N < p+l+1):Runs ls n N p [] []
 | step {p s l:Nat} {fs es:List Nat} (d:Dec ls (n / 2 ^ p) s l) (h:p+l+1<=N) (r:Runs ls n N (p+l+1) fs es):Runs ls n N p (s::fs) ((p+l+1)::es)
theorem zfu (F:Full ls) (n N:Nat):∀ (k p:Nat),p<=N->N - p=k->∃ fs es,Runs ls n N p fs es:=by
 intro k
 induction k using Nat.strongRecOn with
 | ind k ih =>
  intro p hp hk
  refine oEE (zcW F (n / 2 ^ p)) fun s l d=>?_
  by_cases h:p+l+1<=N
  ·obtain ⟨fs,es,r⟩:=ih (N - (p+l+1)) (by exact #[0x5921004368248618641345100931076118248107611181076119134518107611115431,_,_,_,_,_,_] hk h (subO _ _) (subO _ _)) _ h rfl
   exact mEE _ _ (.step d h r)
  ·exact mEE _ _ (.stop d hp (by exact #[0x1054116216105411161,_,_,_] h))
theorem Runs.uniq (F:Full ls) (r:Runs ls n N p fs es):∀ {fs' es'},Runs ls n N p fs' es'->fs=fs'/\es=es':=by
 induction r with
 | stop d hp h =>
  intro fs' es' r'
  induction r' using Runs.casesOn with
  | stop=>exact ⟨rfl,rfl⟩
  | step d' h' r'=>have:=(zw F d d').2; exact False.elim <| #[0x17631410751111106511421,_,_,_,_] h h' this
 | step d h r ih =>
  intro fs' es' r'
  induction r' using Runs.casesOn with
  | stop d' hp h'=>have:=(zw F d d').2; exact False.elim <| #[0x17531107411621610541111,_,_,_,_] h h' this
  | step d' h' r' =>
   obtain ⟨rfl,rfl⟩:=zw F d d'
   obtain ⟨rfl,rfl⟩:=ih r'
   exact ⟨rfl,rfl⟩
theorem Runs.le (r:Runs ls n N p fs es):p<=N:=by
 induction r using Runs.casesOn with
 | stop d hp h=>exact hp
 | step d h r=>exact #[0x6411610541111,_,_,_] h
theorem Runs.len (r:Runs ls n N p fs es):fs.length=es.length:=by
 induction r with
 | stop=>rfl
 | step d h r ih=>rw [List.length_cons,List.length_cons,ih]
theorem Runs.above (r:Runs ls n N p fs es):∀ e∈es,p < e/\e<=N:=by
 induction r with
 | stop=>intro e h; cases h
 | step d h r ih =>
  intro e he
  rcases List.mem_cons.mp he with rfl | he
  ·exact #[0x610541111054114241610541111,_,_,_] h
  ·have:=ih e he; exact #[0x761642417611610541121,_,_,_,_] this.1 this.2
theorem Runs.drop (r:Runs ls n N p fs es):∀ {k q:Nat},(p::es)[k]?=some q->Runs ls n N q (fs.drop k) (es.drop k):=by
 induction r with
 | stop d hp h =>
  intro k q e
  induction k using Nat.casesOn with
  | zero=>cases e; exact .stop d hp h
  | succ k=>simp at e
 | step d h r ih =>
  intro k q e
  induction k using Nat.casesOn with
  | zero=>cases e; exact .step d h r
  | succ k=>exact ih (k:=k) e
theorem Runs.of_high (r:Runs ls n N p fs es):(∀ q,p<=q->n / 2 ^ q=n' / 2 ^ q)->Runs ls n' N p fs es:=by
 induction r with
 | stop d hp h=>intro e; exact .stop (e _ (Nat.le_refl _) ▸ d) hp h
 | step d h r ih=>intro e; exact .step (e _ (Nat.le_refl _) ▸ d) h (ih fun q hq=>e q (by exact #[0x6411610541111,_,_,_] hq))
theorem zaI (n p k:Nat):n / 2 ^ p % 2 ^ k=n % 2 ^ (p+k) / 2 ^ p:=by
 rw [Nat.pow_add,Nat.mod_mul_right_div_self]
theorem zcm {k l:Nat} (e:n % 2 ^ k=n' % 2 ^ k) (h:p+l<=k):n / 2 ^ p % 2 ^ l=n' / 2 ^ p % 2 ^ l:=by
 have:∀ m:Nat,m % 2 ^ (p+l)=m % 2 ^ k % 2 ^ (p+l):=fun m=>(Nat.mod_mod_of_dvd _ (Nat.pow_dvd_pow 2 h)).symm
 rw [zaI,zaI,this n,this n',e]
theorem Runs.more (F:Full ls) (r:Runs ls n N p fs es) (e:n % 2 ^ N=n' % 2 ^ N):∀ {fs' es'},Runs ls n' (N+8) p fs' es'->fs'.take fs.length=fs/\es'.take es.length=es/\fs.length < fs'.length:=by
 induction r with
 | stop d hp h =>
  intro fs' es' r'
  refine ⟨rfl,rfl,?_⟩
  induction r' using Runs.casesOn with
  | stop d' hp' h'=>have:=ziC F d'; exact #[0x772118062110641118051215411,_,_,_,_] hp h' this
  | step=>exact Nat.succ_pos _
 | step d h r ih =>
  intro fs' es' r'
  have d2:=zgl d (zcm e (Nat.add_assoc _ _ _ ▸ h))
  induction r' using Runs.casesOn with
  | stop d' hp h'=>have:=(zw F d2 d').2; exact False.elim <| #[0x175311074111806121610541111,_,_,_,_] h h' this
  | step d' h' r' =>
   obtain ⟨rfl,rfl⟩:=zw F d2 d'
   refine oAA (ih r') fun h1 h2 h3=>?_
   refine ⟨?_,?_,by simpa using h3⟩
   ·rw [List.length_cons,List.take_succ_cons,h1]
   ·rw [List.length_cons,List.take_succ_cons,h2]
theorem Runs.many (F:Full ls) {a b:Nat} (hb:∀ l∈ls,l≠0->b<=l/\l<=a) (r:Runs ls n N p fs es):N < p+fs.length*a+a/\p+fs.length*b<=N:=by
 induction r with
 | stop d hp h =>
  have:=hb _ (List.mem_of_getElem? d.1) (by exact #[0x1041361,_] )
  simp only [List.length_nil,Nat.zero_mul]
  exact #[0x500411700411524171061111064115215411,_,_,_,_] hp h this.2
 | step d h r ih =>
  have:=hb _ (List.mem_of_getElem? d.1) (by exact #[0x1041361,_] )
  rw [List.length_cons,Nat.succ_mul,Nat.succ_mul]
  exact #[0x4a915118871511424181061111061a11491065111118710651111421,_,_,_,_,_,_,_] ih.1 ih.2 this.1 this.2
theorem zbi {k:Nat} (h:∀ e∈es,k < e):es.filter (fun e=>decide (e<=k))=[]:=by
 rw [List.filter_eq_nil_iff]
 intro e he
 have:=h e he
 simp; exact #[0x54215421,_,_] this
theorem Runs.torn (F:Full ls) {k:Nat} (hk:k < N) (e:n % 2 ^ k=n' % 2 ^ k) (hd:∀ p l,p<=k->k < p+l->n / 2 ^ p % 2 ^ l≠n' / 2 ^ p % 2 ^ l) (r:Runs ls n N p fs es):∀ {fs' es'},p<=k->Runs ls n' N p fs' es' ->
  es'.filter (fun e=>decide (e<=k))=es.take (es.filter fun e=>decide (e<=k)).length/\fs'.take (es.filter fun e=>decide (e<=k)).length=fs.take (es.filter fun e=>decide (e<=k)).length /\
  ∀ x y,fs[(es.filter fun e=>decide (e<=k)).length]?=some x->fs'[(es.filter fun e=>decide (e<=k)).length]?=some y->y≠x:=by
 induction r with
 | stop d hp h =>
  intro fs' es' hpk r'
  refine ⟨?_,rfl,fun x y q=>by exact absN q⟩
  induction r' using Runs.casesOn with
  | stop=>rfl
  | step d' h' r' =>
   refine zbi fun q hq=>?_
   rcases Nat.lt_or_ge k (_+_+1) with g | g
   ·rcases List.mem_cons.mp hq with rfl | hq
    ·exact g
    ·exact Nat.lt_trans g (r'.above q hq).1
   ·have:=(zw F d (zgl d' (zcm e.symm (Nat.add_assoc _ _ _ ▸ g)))).2; exact #[0x98217631410751111106511421,_,_,_,_,_,_] h h' this
 | @step p s l fs es d h r ih =>
  intro fs' es' hpk r'
  rcases Nat.lt_or_ge k (p+l+1) with g | g
  ·have z:((p+l+1)::es).filter (fun e=>decide (e<=k))=[]:=zbi fun q hq=>by
    rcases List.mem_cons.mp hq with rfl | hq
    ·exact g
    ·exact Nat.lt_trans g (r.above q hq).1
   rw [z]
   cases r' with
   | stop d' hp' h'=>exact ⟨rfl,rfl,fun x y _ q=>by exact absN q⟩
   | @step _ s' l' fs' es' d' h' r' =>
    have g':k < p+l'+1:=by
     rcases Nat.lt_or_ge k (p+l'+1) with g' | g'
     ·exact g'
     ·have:=(zw F d (zgl d' (zcm e.symm (Nat.add_assoc _ _ _ ▸ g')))).2; exact #[0x1075114217631106511421,_,_,_,_] g this
    refine ⟨zbi fun q hq=>?_,rfl,fun x y q1 q2 q3=>?_⟩
    ·rcases List.mem_cons.mp hq with rfl | hq
     ·exact g'
     ·exact Nat.lt_trans g' (r'.above q hq).1
    ·cases q1; cases q2; subst q3
     have hl:l=l':=by have:=d.1.symm.trans d'.1; simpa using this
     subst hl
     exact hd p (l+1) hpk (by exact #[0x106151421106511421,_,_,_] g') (d.2.trans d'.2.symm)
  ·have d2:=zgl d (zcm e (Nat.add_assoc _ _ _ ▸ g))
   have z:((p+l+1)::es).filter (fun e=>decide (e<=k))=(p+l+1)::es.filter (fun e=>decide (e<=k)):=List.filter_cons_of_pos (by simpa using g)
   rw [z]
   induction r' using Runs.casesOn with
   | stop d' hp' h'=>have:=(zw F d2 d').2; exact False.elim <| #[0x17531107411621610541111,_,_,_,_] h h' this
   | step d' h' r' =>
    obtain ⟨rfl,rfl⟩:=zw F d2 d'
    refine oAA (ih g r') fun i1 i2 i3=>?_
    rw [List.filter_cons_of_pos (by simpa using g),i1,List.length_cons,List.take_succ_cons,List.take_succ_cons,List.take_succ_cons,i2]
    exact ⟨rfl,rfl,fun x y q1 q2=>i3 x y q1 q2⟩
end
noncomputable def num:List UInt8->Nat
 | []=>0
 | o::r=>o.toNat+256*num r
theorem zlm:∀ b:List UInt8,num b < 2 ^ (8*b.length)
 | []=>Nat.one_pos
 | o::r=>by
  have:=zlm r
  have h:=o.toNat_lt
  unfold num
  rw [List.length_cons,Nat.mul_succ,Nat.pow_add]
  exact #[0x5488344882612148806215421,_,_,_] this h
theorem zP:∀ (b c:List UInt8),num (b++c)=num b+2 ^ (8*b.length)*num c
 | [],c=>by simp [num]
 | o::r,c=>by
  show o.toNat+256*num (r++c)=(o.toNat+256*num r)+2 ^ (8*(r.length+1))*num c
  rw [zP r c,Nat.mul_succ,Nat.pow_add,Nat.mul_assoc,Nat.mul_left_comm (2 ^ (8*r.length)),Nat.mul_add,Nat.add_assoc]
theorem zcF:∀ (b:List UInt8) (k:Nat),num b / 2 ^ (8*k) % 256=(b.getD k 0).toNat
 | [],k=>by simp [num]
 | o::r,0=>by
  have:=o.toNat_lt
  show (o.toNat+256*num r) / 1 % 256=o.toNat
  exact #[0x4931488092004880355984882134110620010357488241651213414880421,o.toNat,(o.toNat+256*num r) / 1,(o.toNat+256*num r) % 1,num r,(o.toNat+256*num r) / 1 / 256,(o.toNat+256*num r) / 1 % 256] this (divO _ _) (divO _ _)
 | o::r,k+1=>by
  have h:=o.toNat_lt
  rw [List.getD_cons_succ,<- zcF r k]
  show (o.toNat+256*num r) / _ % _=_
  rw [Nat.mul_succ,Nat.add_comm (8*k),Nat.pow_add,<- Nat.div_div_eq_div_mul,Nat.add_mul_div_left _ _ (by decide),Nat.div_eq_of_lt h,Nat.zero_add]
section
theorem zkJ:n % 2 ^ k=(n ^^^ 2 ^ k) % 2 ^ k:=by
 rw [Nat.xor_mod_two_pow,Nat.mod_self,Nat.xor_zero]
theorem zhq {q:Nat} (h:k < q):n / 2 ^ q=(n ^^^ 2 ^ k) / 2 ^ q:=by
 have:(n ^^^ 2 ^ k) / 2 ^ q=n / 2 ^ q ^^^ 2 ^ k / 2 ^ q:=Nat.xor_div_two_pow
 rw [this,Nat.div_eq_of_lt (Nat.pow_lt_pow_right (by decide) h),Nat.xor_zero]
theorem zmF {p l:Nat} (h1:p<=k) (h2:k < p+l):n / 2 ^ p % 2 ^ l≠(n ^^^ 2 ^ k) / 2 ^ p % 2 ^ l:=fun e=>by
 have:=congrArg (fun m=>m.testBit (k - p)) e
 simp only [Nat.testBit_mod_two_pow,Nat.testBit_div_two_pow,Nat.testBit_xor,Nat.testBit_two_pow,show k - p < l by exact #[0x672100734524541547134516415215411,_,_,_,_] h1 h2 (subO _ _),decide_true,Bool.true_and,show k - p+p=k by exact #[0x54613100634524541546134515411,_,_,_] h1 (subO _ _)] at this
 revert this
 induction n.testBit k using Bool.casesOn <;> simp
end
end Mine
end
section
open PySem PySem.W PyProof.Rows PySem.Calls
namespace Mine
set_option backward.match.sparseCases true
noncomputable def holders:List String:=PySem.Builtin.Bytes.decodersThatHold++["bytearray.__contains__","bytearray.__mod__","bytearray.__rmod__","_struct.pack_into.held","bytearray.find.held"]
noncomputable def cleanC:Code->Bool
 | .builtin id _=>!holders.contains id
 | _=>true
def CleanB (Γ:Ctx):Prop:=∀ x∈Γ.below,cleanC x.1=true
def Clean (Γ:Ctx):Prop:=cleanC Γ.code=true/\CleanB Γ
noncomputable def wpAny {α:Type} (M:Model) (A:Around) (t:Sem α) (Q:α->Shared->Prop) (E:Value->Shared->Prop) (s:Shared):Prop :=
 ∀ Γ p,Γ.In A->Clean Γ->Sem.wp M Γ t (fun a _ s'=>Q a s') (fun e _ s'=>E e s') p s
noncomputable def codeAny (M:Model) (A:Around) (c:Code) (R:Result->Shared->Prop) (s:Shared):Prop :=
 ∀ Γ p,Γ.code=c->Γ.Below A->CleanB Γ->wpCode M Γ R p s
section
variable {α β:Type} {M:Model}
theorem lift {t:Sem α} {Q:α->Shared->Prop} (h:PySem.wpAny M A t Q E s):wpAny M A t Q E s:=fun Γ p a _=>h Γ p a
theorem liftC {c:Code} {R:Result->Shared->Prop} (h:PySem.codeAny M A c R s):codeAny M A c R s:=fun Γ p a b _=>h Γ p a b
theorem wpAny_pure {a:α} {Q:α->Shared->Prop} (h:Q a s):wpAny M A (pure a) Q E s:=fun _ _ _ _=>h
theorem wpAny_mono {t:Sem α} {Q Q':α->Shared->Prop} {E':Value->Shared->Prop} (h:wpAny M A t Q E s)
  (hQ:∀ a s,Q a s->Q' a s) (hE:∀ e s,E e s->E' e s):wpAny M A t Q' E' s :=
 fun Γ p hΓ hc=>Sem.wp_mono M Γ t (fun a _ s=>hQ a s) (fun e _ s=>hE e s) p s (h Γ p hΓ hc)
theorem wpAny_bind {m:Sem α} {f:α->Sem β} {Q:β->Shared->Prop} (h:wpAny M A m (fun a s'=>wpAny M A (f a) Q E s') E s) :
  wpAny M A (m >>= f) Q E s:=fun Γ p hΓ hc=>by
 rw [Sem.wp_bind']
 exact Sem.wp_mono M Γ m (fun a p' s' h'=>h' Γ p' hΓ hc) (fun _ _ _ h'=>h') p s (h Γ p hΓ hc)
theorem wpAny_onRaise {m:Sem α} {k:Value->Sem Unit} {Q:α->Shared->Prop}
  (h:wpAny M A m Q (fun e s'=>wpAny M A (k e) (fun _ s''=>E e s'') E s') s):wpAny M A (m.onRaise k) Q E s:=fun Γ p hΓ hc=>by
 rw [Sem.wp_onRaise]
 exact Sem.wp_mono M Γ m (fun _ _ _ h'=>h') (fun e p' s' h'=>h' Γ p' hΓ hc) p s (h Γ p hΓ hc)
theorem wpAny_attempt {m:Sem α} {Q:Except Value α->Shared->Prop} (h:wpAny M A m (fun a=>Q (.ok a)) (fun e=>Q (.error e)) s) :
  wpAny M A m.attempt Q E s:=fun Γ p hΓ hc=>by rw [Sem.wp_attempt]; exact h Γ p hΓ hc
theorem wpAny_holding {vs:List Value} {m:Sem α} {Q:α->Shared->Prop} (h:wpAny M A m Q E s):wpAny M A (holding vs m) Q E s :=
 fun Γ p hΓ hc=>by rw [Sem.wp_holding]; exact h Γ p hΓ hc
theorem wpAny_keep {vs:List Value} {m:Sem α} {Q:α->Shared->Prop} (h:wpAny M A m Q E s):wpAny M A (m.keep vs) Q E s :=
 fun Γ p hΓ hc=>by rw [Sem.wp_keep]; exact h Γ p hΓ hc
theorem wpAny_rule {tag:String} {Q:Unit->Shared->Prop} (h:Q () s):wpAny M A (rule tag) Q E s:=fun _ _ _ _=>h
theorem wpAny_standAt {pos:Pos} {Q:Unit->Shared->Prop} (h:Q () s):wpAny M A (standAt pos) Q E s:=fun _ _ _ _=>h
theorem wpAny_point {Q:Unit->Shared->Prop} (h:Q () s):wpAny M A point Q E s:=fun _ _ _ _=>h
theorem wpAny_release {vs keep:List Value} {Q:Unit->Shared->Prop} (h:Q () s):wpAny M A (release vs keep) Q E s:=lift (PySem.wpAny_release h)
theorem wpAny_operate' {vs:List Value} {m:Sem Value} {Q:Value->Shared->Prop} (h:wpAny M A m Q E s):wpAny M A (operate vs m) Q E s :=
 fun Γ p hΓ hc=>by rw [Sem.wp_operate]; exact h Γ p hΓ hc
theorem wpAny_bindName {x:Str} {v:Value} {Q:Unit->Shared->Prop} (h:wpAny M A (storeName env x v) Q E s):wpAny M A (bindName env x v) Q E s :=
 fun Γ p hΓ hc=>by rw [Sem.wp_bindName]; exact h Γ p hΓ hc
theorem wpAny_truthy_bool {b:Bool} {Q:Bool->Shared->Prop} (h:Q b s):wpAny M A (truthy (.bool b)) Q E s:=lift (PySem.wpAny_truthy_bool h)
theorem wpAny_Constant_int {i k pos} {Q:Value->Shared->Prop} (h:Q (.int i s.toks) { s with toks:=s.toks+1 }):wpAny M A (eval (.Constant (.int i) k pos) env) Q E s:=lift (PySem.wpAny_Constant_int h)
theorem codeAny_mono {c:Code} {R R':Result->Shared->Prop} (h:codeAny M A c R s) (hR:∀ r s,R r s->R' r s):codeAny M A c R' s :=
 fun Γ p hc hΓ hb=>wpCode_mono hR (h Γ p hc hΓ hb)
theorem enterB {Γ:Ctx} (h:Clean Γ) (c:Code) (hd:Option Value) (p:Pos):CleanB (Γ.enter c hd p):=fun x hx=>by
 rcases List.mem_cons.mp (show x∈(Γ.code,p)::Γ.below from hx) with rfl | hx
 ·exact h.1
 ·exact h.2 x hx
theorem wpAny_run {c:Code} {h:Option Value} {Q:Flow->Shared->Prop}
  (hc:codeAny M (A.mark h) c (fun r s'=>match r with | .ok f=>Q f s' | .error e=>E e s') s) (hnb:h≠some byPass) :
  wpAny M A (run c h) Q E s :=
 fun Γ p hΓ hk=>by rw [Sem.wp_run]; exact hc _ p rfl (hΓ.enter c h p hnb) (enterB hk c h p)
theorem wpAny_runValue {c:Code} {Q:Value->Shared->Prop}
  (hc:codeAny M A c (fun r s'=>match r with | .ok (.ret v)=>Q v s' | .ok _=>False | .error e=>E e s') s) :
  wpAny M A (runValue c) Q E s:=fun Γ p hΓ hk=>by rw [Sem.wp_runValue]; exact hc _ p rfl (hΓ.enter c none p (by intro x; exact absN x)) (enterB hk c none p)
theorem wpAny_call {f:Value} {pos:List Value} {kw:List (Str×Value)} {Q:Value->Shared->Prop}
  (hc:codeAny M A (.call f ⟨pos,kw⟩) (fun r s'=>match r with | .ok (.ret v)=>Q v s' | .ok _=>False | .error e=>E e s') s) :
  wpAny M A (call f pos kw) Q E s:=wpAny_runValue hc
theorem codeAny_of_tree {c:Code} {R:Result->Shared->Prop} (hk:cleanC c=true)
  (h:wpAny M (A.under c) (M.den c) (fun fin s'=>match fin with | .done f=>R (.ok f) s' | .again c'=>c'.quiet=true/\codeAny M A c' R s')
   (fun e s'=>R (.error e) s') s):codeAny M A c R s:=fun Γ p hc hΓ hb=>by
 rw [wpCode_iff_wp,hc]
 refine Sem.wp_mono M Γ _ (fun fin p' s' h'=>?_) (fun _ _ _ h'=>h') p s (h Γ p (hc ▸ hΓ.in) ⟨by rw [hc]; exact hk,hb⟩)
 induction fin using PySem.Fin.casesOn with
 | done f=>exact h'
 | again c'=>exact ⟨h'.1,h'.2 (Γ.goto c') p' rfl (hΓ.goto c') hb⟩
theorem codeAny_loop {c:Code} {R:Result->Shared->Prop} (hk:cleanC c=true) (hq:c.quiet=true) (I:Nat->Shared->Prop)
  (turn:∀ n s,I n s->wpAny M (A.under c) (M.den c)
   (fun fin s'=>match fin with
    | .done f=>R (.ok f) s'
    | .again c'=>(c'=c/\∃ m,m < n/\I m s')∨(c'.quiet=true/\codeAny M A c' R s')) (fun e s'=>R (.error e) s') s)
  (n:Nat) (h:I n s):codeAny M A c R s:=by
 induction n using Nat.strongRecOn generalizing s with
 | ind n ih =>
  refine codeAny_of_tree hk (wpAny_mono (turn n s h) (fun fin s' hf=>?_) fun _ _ h'=>h')
  induction fin using PySem.Fin.casesOn with
  | done f=>exact hf
  | again c' =>
   rcases hf with ⟨rfl,m,hm,hI⟩ | hf
   ·exact ⟨hq,ih m hm hI⟩
   ·exact hf
theorem codeAny_loopG {c:Code} {R:Result->Shared->Prop} (hk:cleanC c=true) (hq:c.quiet=true) (I:Nat->Shared->Prop)
  (turn:∀ n s Q E,I n s->(∀ f s',R (.ok f) s'->Q (.done f) s')->(∀ m s',m < n->I m s'->Q (.again c) s')->(∀ e s',R (.error e) s'->E e s')->wpAny M (A.under c) (M.den c) Q E s)
  (n:Nat) (h:I n s):codeAny M A c R s :=
 codeAny_loop hk hq I (fun n s h=>turn n s _ _ h (fun f s' z=>z) (fun m s' hm z=>.inl ⟨rfl,m,hm,z⟩) fun e s' z=>z) n h
theorem wpAny_Name {x pos} {Q:Value→Shared→Prop} (h:wpAny M A (loadName env x) Q E s) (hd:(x == ("__debug__" : Str))=false):wpAny M A (eval (.Name x pos) env) Q E s:=by
 rw [eval_Name env x pos hd]
 exact wpAny_bind (wpAny_standAt h)
theorem wpAny_BinOp {l op r pos} {Q:Value->Shared->Prop} (h:wpAny M A (eval l env) (fun a s₁=>wpAny M A (eval r env) (fun b sC=>wpAny M A (binaryOp op a b) Q E sC) E s₁) E s):wpAny M A (eval (.BinOp l op r pos) env) Q E s:=by
 rw [eval_BinOp]
 exact wpAny_bind (wpAny_mono h (fun a s₁ hF=>wpAny_bind (wpAny_holding (wpAny_mono hF (fun b sC hG=>wpAny_bind (wpAny_standAt (wpAny_operate' hG))) fun _ _ x=>x))) fun _ _ x=>x)
theorem wpAny_UnaryOp {op:UnaryOp} {x:Expr} {pos:Pos} {Q:Value->Shared->Prop} (h:wpAny M A (eval x env) (fun v s₁=>wpAny M A (unaryOp op v) Q E s₁) E s):wpAny M A (eval (.UnaryOp op x pos) env) Q E s:=by
 rw [arm_eval_UnaryOp]
 exact wpAny_bind (wpAny_mono h (fun v s₁ hF=>wpAny_bind (wpAny_standAt (wpAny_holding hF))) fun _ _ x=>x)
theorem wpAny_IfExp {test body orelse:Expr} {pos:Pos} {Q:Value->Shared->Prop}
  (h:wpAny M A (isTrue test env (eval test env)) (fun b s₁=>if b then wpAny M A (eval body env) Q E s₁ else wpAny M A (eval orelse env) Q E s₁) E s):wpAny M A (eval (.IfExp test body orelse pos) env) Q E s:=by
 rw [arm_eval_IfExp]
 refine wpAny_bind (wpAny_mono h (fun b s₁ hF=>?_) fun _ _ x=>x)
 induction b using Bool.casesOn <;> exact hF
theorem wpAny_isTrue_Not {x:Expr} {pos:Pos} {whole:Sem Value} {Q:Bool->Shared->Prop} (h:wpAny M A (isTrue x env (eval x env)) (fun b s₁=>Q (!b) s₁) E s):wpAny M A (isTrue (.UnaryOp .Not x pos) env whole) Q E s:=by
 rw [arm_isTrue_UnaryOp]
 exact wpAny_bind (wpAny_mono h (fun b s₁ hF=>wpAny_pure hF) fun _ _ x=>x)
theorem wpAny_isTrue_BoolOp {op:BoolOp} {values:List Expr} {pos:Pos} {whole:Sem Value} {Q:Bool->Shared->Prop} (h:wpAny M A (allTrue op values env) Q E s):wpAny M A (isTrue (.BoolOp op values pos) env whole) Q E s:=by rw [arm_isTrue_BoolOp]; exact h
theorem spliced_nil {Q:List Value->Shared->Prop} (h:Q [] s):wpAny M A (spliced []) Q E s:=wpAny_pure h
theorem spliced_cons {x:Sem Value} {rest:List (Bool×Sem Value)} {Q:List Value->Shared->Prop}
  (h:wpAny M A x (fun v s₁=>wpAny M A (spliced rest) (fun vs sC=>Q (v::vs) sC) E s₁) E s):wpAny M A (spliced ((false,x)::rest)) Q E s:=by
 rw [spliced]
 refine wpAny_bind (wpAny_mono h (fun v s₁ hF=>?_) fun _ _ x=>x)
 simp only [Bool.false_eq_true,if_false]
 exact wpAny_bind (wpAny_pure (wpAny_bind (wpAny_holding (wpAny_mono hF (fun vs sC hG=>wpAny_pure hG) fun _ _ x=>x))))
theorem evalArgs_plain {f:Value} {x:Sem Value} {rest:List (Bool×Sem Value)} {Q:Args->Shared->Prop}
  (h:wpAny M A (spliced ((false,x)::rest)) (fun vs s'=>Q ⟨vs,[]⟩ s') E s):wpAny M A (evalArgs f true ((false,x)::rest) []) Q E s:=by
 unfold evalArgs
 refine (?_:wpAny M A (spliced ((false,x)::rest) >>= _) Q E s)
 refine wpAny_bind (wpAny_mono h (fun vs s' h'=>?_) fun _ _ x=>x)
 refine wpAny_holding ?_
 exact wpAny_bind (wpAny_pure (wpAny_bind (wpAny_pure (wpAny_pure h'))))
theorem Tuple_ {elts:List Expr} {k:Nat} {pos:Pos} {Q:Value->Shared->Prop} (h:wpAny M A (spliced (backTo pos (starEach elts env))) (fun vs s₁=>wpAny M A (newTuple vs) Q E s₁) E s):wpAny M A (eval (.Tuple elts k pos) env) Q E s:=by
 show wpAny M A (do standAt pos; newTuple (<- spliced (backTo pos (starEach elts env)))) Q E s
 exact wpAny_bind (wpAny_standAt (wpAny_bind h))
theorem List_ {elts:List Expr} {pos:Pos} {Q:Value->Shared->Prop} (h:wpAny M A (spliced (backTo pos (starEach elts env))) (fun vs s₁=>wpAny M A (newList vs) Q E s₁) E s):wpAny M A (eval (.List elts pos) env) Q E s:=by
 show wpAny M A (do standAt pos; newList (<- spliced (backTo pos (starEach elts env)))) Q E s
 exact wpAny_bind (wpAny_standAt (wpAny_bind h))
theorem Subscript_ {value slice pos} {Q:Value->Shared->Prop} (h:wpAny M A (eval value env) (fun o s₁=>wpAny M A (eval slice env) (fun i sC=>wpAny M A (subscriptTail value slice o i) Q E sC) E s₁) E s):wpAny M A (eval (.Subscript value slice pos) env) Q E s:=by
 rw [eval_Subscript]
 exact wpAny_bind (wpAny_mono h (fun o s₁ hF=>wpAny_bind (wpAny_holding (wpAny_mono hF (fun i sC hG=>wpAny_bind (wpAny_standAt hG)) fun _ _ x=>x))) fun _ _ x=>x)
theorem wpAny_Call_ofName {x:Str} {np pos:Pos} {args:List Expr} {keywords:List Keyword} {Q:Value->Shared->Prop}
  (h:wpAny M A (eval (.Name x np) env) (fun f s₁=>wpAny M A (callWith pos f [] (backTo pos (starEach args env)) (backToKw pos (keywordEach keywords env))) Q E s₁) E s):wpAny M A (eval (.Call (.Name x np) args keywords pos) env) Q E s:=by
 refine (?_:wpAny M A (do callWith pos (<- eval (.Name x np) env) [] (backTo pos (starEach args env)) (backToKw pos (keywordEach keywords env))) Q E s)
 exact wpAny_bind h
theorem callWith_of {f:Value} {pos:Pos} {first:List Value} {Q:Value->Shared->Prop} {P:Heap->Prop} {args:List (Bool×Sem Value)} {keywords:List (Option Str×Sem Value)} (hplain:(args.any (·.1) || keywords.any (·.1.isNone))=false)
  (hk:∀ h,P h->∃ k,(k=Keeper.frame∨k=Keeper.machine∨k=Keeper.boundFrame)/\Looks M h (keeperOf f) k)
  (h:wpAny M A (evalArgs f true args keywords) (fun a s₁=>P s₁.heap/\wpAny M A (call f (first++a.pos) a.kw) Q E s₁) E s):wpAny M A (callWith pos f first args keywords) Q E s:=by
 unfold callWith
 refine wpAny_bind (wpAny_holding (wpAny_mono h (fun a s₁ hF=>wpAny_bind (wpAny_standAt ?_)) fun _ _ x=>x))
 refine oEA (hk _ hF.1) fun k hk' L=>?_
 rw [hplain]
 refine wpAny_bind (lift (L.here ?_))
 have tail:∀ {t:Sem Value},wpAny M A t Q E s₁->wpAny M A (t >>= fun r=>holding [r] point >>= fun _=>pure r) Q E s₁ :=
  fun ht=>wpAny_bind (wpAny_mono ht (fun r sC hr=>wpAny_bind (wpAny_holding (wpAny_point (wpAny_pure hr)))) fun _ _ x=>x)
 have marked (mk:Value):wpAny M A (callMarked mk f (first++a.pos) a.kw) Q E s₁:=by unfold callMarked; exact wpAny_keep hF.2
 have two {c:Prop} [Decidable c] (mk:Value) {g:Value->Sem Value} (hg:∀ {t:Sem Value},wpAny M A t Q E s₁->wpAny M A (t >>= g) Q E s₁):wpAny M A (if c then call f (first++a.pos) a.kw >>= g else callMarked mk f (first++a.pos) a.kw >>= g) Q E s₁ :=
  iteInduction (motive:=fun t=>wpAny M A t Q E s₁) (fun _=>hg hF.2) fun _=>hg (marked mk)
 rcases hk' with rfl | rfl | rfl
 ·exact two _ tail
 ·exact tail hF.2
 ·exact two _ tail
theorem wpAny_execs_nil {Q:Flow->Shared->Prop} (h:Q .next s):wpAny M A (execs [] env) Q E s:=fun _ _ _ _=>h
theorem wpAny_execs_cons {st rest} {Q:Flow->Shared->Prop} (h:wpAny M A (exec st env) (fun f s'=>match f with | .next=>wpAny M A (execs rest env) Q E s' | f=>Q f s') E s) :
  wpAny M A (execs (st::rest) env) Q E s:=fun Γ p hΓ hc=>by
 rw [execs_cons,Sem.wp_bind']
 refine Sem.wp_mono M Γ _ (fun f p' s' h'=>?_) (fun _ _ _ h'=>h') _ _ (h Γ p hΓ hc)
 induction f using PySem.Flow.casesOn <;> first | exact h' Γ p' hΓ hc | exact h'
theorem wpAny_If {test body orelse pos} {Q:Flow->Shared->Prop} (h:wpAny M A (isTrue test env (eval test env)) (fun b sC=>if b then wpAny M A (execs body env) Q E sC else wpAny M A (execs orelse env) Q E sC) E s):wpAny M A (exec (.If test body orelse pos) env) Q E s:=by
 rw [exec_If]
 refine wpAny_bind (wpAny_standAt (wpAny_bind (wpAny_mono h (fun b sC hG=>?_) fun _ _ x=>x)))
 induction b using Bool.casesOn <;> exact hG
theorem wpAny_Return_some {e pos} {Q:Flow->Shared->Prop} (h:wpAny M A (eval e env) (fun v=>Q (.ret v)) E s):wpAny M A (exec (.Return (some e) pos) env) Q E s:=by
 show wpAny M A (do standAt pos; return .ret (<- eval e env)) Q E s
 exact wpAny_bind (wpAny_standAt (wpAny_bind (wpAny_mono h (fun v s' h'=>wpAny_pure h') fun _ _ x=>x)))
theorem wpAny_Return_none {pos} {Q:Flow->Shared->Prop} (h:Q (.ret .none) s):wpAny M A (exec (.Return none pos) env) Q E s:=lift (PySem.wpAny_Return_none h)
theorem wpAny_assign_Name {x pos v} {Q:Unit->Shared->Prop} (h:wpAny M A (storeName env x v) Q E s):wpAny M A (assign (.Name x pos) env v) Q E s:=by
 rw [PySem.assign_Name]; exact wpAny_bind (wpAny_standAt (wpAny_bindName h))
theorem wpAny_AugAssign_Name {x pos' op value pos} {Q:Flow->Shared->Prop}
  (h:wpAny M A (loadName env x) (fun old s₁=>wpAny M A (eval value env) (fun v sC=>wpAny M A (inplaceOp op old v)
   (fun r sD=>wpAny M A (storeName env x r) (fun _=>Q .next) E sD) E sC) E s₁) E s):wpAny M A (exec (.AugAssign (.Name x pos') op value pos) env) Q E s:=by
 rw [exec_AugAssign_Name]
 refine wpAny_bind (wpAny_standAt (wpAny_bind (wpAny_mono h (fun old s₁ hF=>?_) fun _ _ x=>x)))
 refine wpAny_bind (wpAny_holding (wpAny_mono hF (fun v sC hG=>?_) fun _ _ x=>x))
 refine wpAny_bind (wpAny_standAt (wpAny_bind (wpAny_operate' (wpAny_mono hG (fun r sD hO=>?_) fun _ _ x=>x))))
 exact wpAny_bind (wpAny_standAt (wpAny_bind (wpAny_bindName (wpAny_mono hO (fun _ _ hU=>wpAny_pure hU) fun _ _ x=>x))))
theorem wpAny_AugAssign_SubscriptAny {o i value:Expr} {tpos pos:Pos} {op:Operator} {Q:Flow->Shared->Prop}
  (h:wpAny M A (eval o env) (fun ov s₁=>wpAny M A (eval i env) (fun iv sC=>wpAny M A (getItem ov iv) (fun old sD =>
     wpAny M A (eval value env) (fun v sE=>wpAny M A (inplaceOp op old v) (fun new sF =>
      wpAny M A (setItem ov iv new) (fun _=>Q .next) E sF) E sE) E sD) E sC) E s₁) E s)
  (hi:∀ ov iv new,augStore i ov iv new=(do holding [new,ov,iv] (setItem ov iv new); release [new,ov,iv] []; pure .next)) :
  wpAny M A (exec (.AugAssign (.Subscript o i tpos) op value pos) env) Q E s:=by
 have e:exec (.AugAssign (.Subscript o i tpos) op value pos) env=(do
   standAt pos
   let ov <- eval o env
   let iv <- holding [ov] (eval i env)
   let new <- holding [ov,iv] do
    standAt tpos
    let old <- getItem ov iv
    let v <- holding [old] (eval value env)
    standAt pos
    operate [old,v] (inplaceOp op old v)
   standAt tpos
   augStore i ov iv new):=rfl
 rw [e]
 refine wpAny_bind (wpAny_standAt (wpAny_bind (wpAny_mono h (fun ov s₁ hF=>?_) fun _ _ x=>x)))
 refine wpAny_bind (wpAny_holding (wpAny_mono hF (fun iv sC hG=>?_) fun _ _ x=>x))
 refine wpAny_bind (wpAny_holding (wpAny_bind (wpAny_standAt (wpAny_bind (wpAny_mono hG (fun old sD hO=>?_) fun _ _ x=>x)))))
 refine wpAny_bind (wpAny_holding (wpAny_mono hO (fun v sE hU=>?_) fun _ _ x=>x))
 refine wpAny_bind (wpAny_standAt (wpAny_operate' (wpAny_mono hU (fun new sF hV=>?_) fun _ _ x=>x)))
 refine wpAny_bind (wpAny_standAt ?_)
 rw [hi]
 exact wpAny_bind (wpAny_holding (wpAny_mono hV (fun _ _ hW=>wpAny_bind (wpAny_release (wpAny_pure hW))) fun _ _ x=>x))
theorem wpAny_AugAssign_AttributeAny {o value:Expr} {attr:Str} {tpos pos:Pos} {op:Operator} {Q:Flow->Shared->Prop}
  (h:wpAny M A (eval o env) (fun ov s₁=>wpAny M A (getAttr ov attr true) (fun old sC =>
     wpAny M A (eval value env) (fun v sD=>wpAny M A (inplaceOp op old v) (fun new sE =>
      wpAny M A (setAttr ov attr new) (fun _=>Q .next) E sE) E sD) E sC) E s₁) E s) :
  wpAny M A (exec (.AugAssign (.Attribute o attr tpos) op value pos) env) Q E s:=by
 have e:exec (.AugAssign (.Attribute o attr tpos) op value pos) env=(do
   standAt pos
   let ov <- eval o env
   let new <- holding [ov] do
    standAt tpos.atName
    let old <- getAttr ov attr true
    let v <- holding [old] (eval value env)
    standAt pos
    operate [old,v] (inplaceOp op old v)
   standAt tpos.atName
   holding [new,ov] (setAttr ov attr new)
   release [new,ov] []
   pure .next):=rfl
 rw [e]
 refine wpAny_bind (wpAny_standAt (wpAny_bind (wpAny_mono h (fun ov s₁ hF=>?_) fun _ _ x=>x)))
 refine wpAny_bind (wpAny_holding (wpAny_bind (wpAny_standAt (wpAny_bind (wpAny_mono hF (fun old sC hG=>?_) fun _ _ x=>x)))))
 refine wpAny_bind (wpAny_holding (wpAny_mono hG (fun v sD hO=>?_) fun _ _ x=>x))
 refine wpAny_bind (wpAny_standAt (wpAny_operate' (wpAny_mono hO (fun new sE hU=>?_) fun _ _ x=>x)))
 exact wpAny_bind (wpAny_standAt (wpAny_bind (wpAny_holding (wpAny_mono hU (fun _ _ hV=>wpAny_bind (wpAny_release (wpAny_pure hV))) fun _ _ x=>x))))
theorem wpAny_runOwn {c:Code} {h:Option Value} {Q:Flow->Shared->Prop}
  (hc:codeAny M (A.mark h) c (fun r s'=>match r with | .ok f=>Q f s' | .error e=>cameBackBy M A env E e s') s) (hnb:h≠some byPass):wpAny M A (runOwn c env h) Q E s:=by
 unfold runOwn
 exact wpAny_onRaise (wpAny_mono (wpAny_run hc hnb) (fun _ _ x=>x) fun _ _ x=>lift x)
theorem wpAny_noted {m:Sem α} {Q:α->Shared->Prop} (h:wpAny M A m Q (notedBy M A env E) s):wpAny M A (m.onRaise fun x=>do noteFrame x env; theTreesLotGoes x) Q E s :=
 wpAny_onRaise (wpAny_mono h (fun _ _ q=>q) fun _ _ hx=>wpAny_bind (wpAny_mono (lift hx) (fun _ _ e=>lift (wpAny_theTreesLotGoes e)) fun _ _ e=>e))
theorem wpAny_passesOwn {t:Sem α} {Q:α->Shared->Prop} (hE:PassesOwn M A env E) (h:wpAny M A t Q E s):wpAny M A t Q (notedBy M A env (cameBackBy M A env E)) s:=wpAny_mono h (fun _ _ x=>x) hE
end
section
variable {prog:Program} {w:World}
theorem wpAny_letTemporaryGo {base:Expr} {o r:Value} {Q:Unit->Shared->Prop} (h:Q () s):wpAny (model prog w) A (letTemporaryGo base o r) Q E s:=lift (PySem.wpAny_letTemporaryGo h)
theorem wpAny_Expr_any {e pos} {Q:Flow->Shared->Prop} (h:wpAny (model prog w) A (eval e env) (fun _=>Q .next) E s) (hi:interactive env=false) (hs:swapsWith e none pos.line env=pure false):wpAny (model prog w) A (exec (.Expr e pos) env) Q E s:=by
 rw [exec_Expr env e pos hi hs]
 exact wpAny_bind (wpAny_standAt (wpAny_bind (wpAny_mono h (fun v s' h'=>lift (wpAny_dropValue h')) fun _ _ x=>x)))
theorem wpAny_unpack_tuple {t:Addr} {items:Array Value} {targets:List (Bool×(Value->Sem Unit))} {Q:Unit->Shared->Prop} (hh:A.handled=none) (ht:s.heap.IsTuple t items) (hn:targets.length=items.size) (hstar:targets.findIdx? (·.1)=none)
  (h:∀ h',Heap.ExtBut s.heap.objs.size s.heap h'->wpAny (model prog w) A (assignInOrder (targets.map (·.2)) items.toList) Q E { s with heap:=h' }):wpAny (model prog w) A (unpack (.ref t) targets) Q E s:=by
 unfold unpack
 rw [hn,hstar]
 exact wpAny_bind (wpAny_holding (lift (PySem.wpAny_unpackItems_tuple hh ht h)))
theorem wpAny_assign_Tuple {elts:List Expr} {x1} {pos:Pos} {t:Addr} {items:Array Value} {Q:Unit->Shared->Prop} (hh:A.handled=none) (ht:s.heap.IsTuple t items) (hn:(assignEach elts env).length=items.size) (hstar:(assignEach elts env).findIdx? (·.1)=none)
  (h:∀ h',Heap.ExtBut s.heap.objs.size s.heap h'->wpAny (model prog w) A (assignInOrder ((assignEach elts env).map (·.2)) items.toList) Q E { s with heap:=h' }):wpAny (model prog w) A (assign (.Tuple elts x1 pos) env (.ref t)) Q E s:=by
 rw [arm_assign_Tuple]
 exact wpAny_bind (wpAny_standAt (wpAny_unpack_tuple hh ht hn hstar h))
theorem codeAny_block {stmts:List Stmt} {R:Result->Shared->Prop} (h:wpAny (model prog w) A (execs stmts env) (fun f s'=>R (.ok f) s') (notedBy (model prog w) A env fun e s'=>R (.error e) s') s):codeAny (model prog w) A (.block stmts env) R s:=by
 refine codeAny_of_tree rfl ?_
 show wpAny _ _ (do return Fin.done (<- (execs stmts env).onRaise (fun x=>do noteFrame x env; theTreesLotGoes x))) _ _ s
 exact wpAny_bind (wpAny_noted (wpAny_mono h (fun f s' h'=>wpAny_pure h') fun _ _ h'=>h'))
theorem codeAny_forLoop_any {R:Result->Shared->Prop} {target it body orelse} (I:Nat->Shared->Prop)
  (turn:∀ n s,I n s->wpAny (model prog w) A (pyNext it) (fun r s₁=>match r with
   | none=>wpAny (model prog w) A (execs orelse env) (fun f sD=>R (.ok f) sD) (notedBy (model prog w) A env fun e s'=>R (.error e) s') s₁
   | some v=>wpAny (model prog w) A (letOwnedTupleGo target it v) (fun _ s₁' =>
     wpAny (model prog w) A (assign target env v) (fun _ sC=>wpAny (model prog w) A (execs body env) (fun f sD=>match f with
      | .next | .cont=>∃ m,m < n/\I m sD
      | .brk=>R (.ok .next) sD
      | .ret v=>R (.ok (.ret v)) sD) (notedBy (model prog w) A env fun e s'=>R (.error e) s') sC) (notedBy (model prog w) A env fun e s'=>R (.error e) s') s₁') (notedBy (model prog w) A env fun e s'=>R (.error e) s') s₁) (notedBy (model prog w) A env fun e s'=>R (.error e) s') s)
  (n:Nat) (h:I n s):codeAny (model prog w) A (.forLoop target it body orelse env) R s:=by
 refine codeAny_loop rfl rfl I (fun n s hI=>?_) n h
 show wpAny _ A ((forTurn target it body orelse env).onRaise (fun x=>do noteFrame x env; theTreesLotGoes x)) _ _ s
 refine wpAny_noted ?_
 simp only [forTurn]
 refine wpAny_bind (wpAny_standAt (wpAny_bind (wpAny_onRaise (wpAny_mono (turn n s hI) (fun r s₁ hF=>?_) fun _ _ h'=>wpAny_standAt h'))))
 induction r using Option.casesOn with
 | none=>exact wpAny_pure (.inr ⟨rfl,codeAny_block hF⟩)
 | some v =>
  refine wpAny_bind (wpAny_mono hF (fun _ s₁' h₁'=>?_) fun _ _ h'=>h')
  refine wpAny_bind (wpAny_mono h₁' (fun _ sC hG=>wpAny_bind (wpAny_mono hG (fun f sD hO=>?_) fun _ _ h'=>h')) fun _ _ h'=>h')
  induction f using PySem.Flow.casesOn with
  | next=>exact wpAny_pure (.inl ⟨rfl,hO⟩)
  | cont=>exact wpAny_pure (.inl ⟨rfl,hO⟩)
  | brk=>exact wpAny_pure hO
  | ret v=>exact wpAny_pure hO
theorem codeAny_whileLoop {R:Result->Shared->Prop} {test body orelse} (I:Nat->Shared->Prop)
  (turn:∀ n s,I n s ->
   wpAny (model prog w) A (isTrue test env (eval test env)) (fun b sC =>
    if b then wpAny (model prog w) A (execs body env) (fun f sD=>match f with
      | .next | .cont=>∃ m,m < n/\I m sD
      | .brk=>R (.ok .next) sD
      | .ret v=>R (.ok (.ret v)) sD) (notedBy (model prog w) A env fun e s'=>R (.error e) s') sC
    else wpAny (model prog w) A (execs orelse env) (fun f sD=>R (.ok f) sD) (notedBy (model prog w) A env fun e s'=>R (.error e) s') sC)
    (notedBy (model prog w) A env fun e s'=>R (.error e) s') s)
  (n:Nat) (h:I n s):codeAny (model prog w) A (.whileLoop test body orelse env) R s:=by
 refine codeAny_loop rfl rfl I (fun n s hI=>?_) n h
 show wpAny _ A ((whileTurn test body orelse env).onRaise (fun x=>do noteFrame x env; theTreesLotGoes x)) _ _ s
 refine wpAny_noted ?_
 simp only [whileTurn]
 refine wpAny_bind (wpAny_mono (turn n s hI) (fun b sC hG=>?_) fun _ _ h'=>h')
 induction b using Bool.casesOn with
 | false =>
  simp only [Bool.false_eq_true,if_false] at hG ⊢
  exact wpAny_bind (wpAny_mono hG (fun f sD hO=>wpAny_pure hO) fun _ _ h'=>h')
 | true =>
  simp only [if_true] at hG ⊢
  refine wpAny_bind (wpAny_mono hG (fun f sD hO=>?_) fun _ _ h'=>h')
  induction f using PySem.Flow.casesOn with
  | next=>exact wpAny_pure (.inl ⟨rfl,hO⟩)
  | cont=>exact wpAny_pure (.inl ⟨rfl,hO⟩)
  | brk=>exact wpAny_pure hO
  | ret v=>exact wpAny_pure hO
theorem wpAny_While {test body pos} {Q:Flow->Shared->Prop} (h:codeAny (model prog w) A (.whileLoop test body [] env) (fun r s'=>match r with | .ok f=>Q f s' | .error e=>cameBackBy (model prog w) A env E e s') s) :
  wpAny (model prog w) A (exec (.While test body [] pos) env) Q E s:=by
 rw [exec_While]; exact wpAny_bind (wpAny_standAt (wpAny_runOwn h fun x=>absN x))
theorem codeAny_func {R:Result->Shared->Prop} {body}
  (h:wpAny (model prog w) (A.deeper env) (execs body env) (fun f s'=>R (.ok (.ret (match f with | .ret v=>v | _=>.none))) s')
   (fun e s'=>PySem.wpAny (model prog w) (A.deeper env) (leaving env e) (fun _ s''=>R (.error e) s'') (fun e' s''=>R (.error e') s'') s') s):codeAny (model prog w) A (.func body env) R s:=by
 refine codeAny_of_tree rfl ?_
 show wpAny _ (A.deeper env) (do point; match <- (execs body env).onRaise (leaving env) with | .ret v=>ret v | _=>ret .none) _ _ s
 refine wpAny_bind (wpAny_point (wpAny_bind (wpAny_onRaise (wpAny_mono h (fun f s' h'=>?_) fun _ _ h'=>lift h'))))
 induction f using PySem.Flow.casesOn <;> exact wpAny_pure h'
theorem codeAny_call_function {R:Result->Shared->Prop} {a:Addr} {args:Args} {o:Obj} {fd:FuncData} {body:List Stmt} (hroom:A.depth < recursionLimit) (ho:s.heap.get? a=some o)
  (hd':o.data=.func fd) (hco:fd.scope.isCoroutine=false) (hgen:fd.scope.isGenerator=false) (hbody:fd.body=.stmts body) (hcd:s.heap.CodeRec fd.code fd.qualname)
  (h:PySem.wpAny (model prog w) A.in1 (bindArgs fd args) (fun binds s₁ =>
   PySem.wpAny (model prog w) A.in1 (newFunctionEnv fd.scope fd.globals fd.closure binds (fd.qualname++".<locals>.") (some a) fd.code none fd.builtins)
    (fun env sC=>sC.heap.NoLimit/\codeAny (model prog w) A (.func body env) R sC) (fun e s'=>R (.error e) s') s₁) (fun e s'=>R (.error e) s') s) :
  codeAny (model prog w) A (.call (.ref a) args) R s:=by
 refine codeAny_of_tree rfl ?_
 refine (?_:wpAny _ A.in1 (callAny (.ref a) args) _ _ s)
 refine wpAny_bind (lift (PySem.wpAny_load ho ?_))
 refine zbt hcd fun c oc vs tq hc hoc hdc hq=>?_
 rw [hd']
 refine (?_:wpAny _ A.in1 (callFunction a fd args) _ _ s)
 unfold callFunction
 rw [hco,hgen,hbody,hc]
 rw [hc] at h
 refine wpAny_bind (m:=field (.ref c) 1) (lift (PySem.wpAny_field hoc hdc hq (wpAny_bind (wpAny_pure ?_))))
 exact wpAny_bind (wpAny_mono (lift h) (fun binds s₁ hF=>wpAny_bind (wpAny_mono (lift hF) (fun env sC hG=>wpAny_bind (lift (PySem.wpAny_enterFrame hG.1 hroom
  (wpAny_pure (And.intro rfl hG.2))))) fun _ _ h'=>h')) fun _ _ h'=>h')
theorem wpAny_newList {M:Model} {items:List Value} {Q:Value→Shared→Prop} (h:Q (.ref s.heap.objs.size) { s with heap:=s.heap.push { cls:=.type "list",data:=.seq items.toArray } }) (hsz:items.length≤sizeLine):wpAny M A (newList items) Q E s:=lift (PySem.wpAny_newList h hsz)
theorem wpAny_newTuple {M:Model} {items:List Value} {Q:Value→Shared→Prop} (h:Q (.ref s.heap.objs.size) { s with heap:=s.heap.push { cls:=.type "tuple",data:=.seq items.toArray } }) (hsz:items.length≤sizeLine):wpAny M A (newTuple items) Q E s:=lift (PySem.wpAny_newTuple h hsz)
theorem Constant_str {M:Model} {x:Str} {k:Nat} {pos:Pos} {Q:Value->Shared->Prop} (h:Q (.str x s.toks) { s with toks:=s.toks+1 }):wpAny M A (eval (.Constant (.str x) k pos) env) Q E s:=lift (PySem.Calls.Constant_str h)
theorem wpAny_Dict_empty {M:Model} {pos} {Q:Value→Shared→Prop} (h:Q (.ref s.heap.objs.size) { s with heap:=s.heap.push { cls:=.type "dict",data:=.dict #[] } }):wpAny M A (eval (.Dict [] [] pos) env) Q E s:=lift (PySem.wpAny_Dict_empty h)
theorem codeAny_builtin {R:Result->Shared->Prop} {id:String} {args:Args} {b:Builtin} (hk:holders.contains id=false) (hb:entryFor table id=some b)
  (h:wpAny (model prog w) (A.under (.builtin id args)) (b args) (fun fin s'=>match fin with | .done f=>R (.ok f) s' | .again c'=>c'.quiet=true/\codeAny (model prog w) A c' R s') (fun e s'=>R (.error e) s') s) :
  codeAny (model prog w) A (.builtin id args) R s:=by
 refine codeAny_of_tree (by show (!holders.contains id)=true; rw [hk]; rfl) ?_
 refine (?_:wpAny _ _ (match entryFor table id with | some b=>b args | none=>unsupported ((withoutEnding? id "#data").getD id)) _ _ s)
 rw [hb]; exact h
theorem codeAny_call_builtin {R:Result->Shared->Prop} {id:String} {args:Args} {b:Builtin} (hq:(Code.builtin id args).quiet=true) (hk:holders.contains id=false) (hb:entryFor table id=some b)
  (h:wpAny (model prog w) A.in1 (checkBuiltinCall id args) (fun _ s₁=>wpAny (model prog w) (A.under (.builtin id args)) (b args)
   (fun fin s'=>match fin with | .done f=>R (.ok f) s' | .again c'=>c'.quiet=true/\codeAny (model prog w) A c' R s') (fun e s'=>R (.error e) s') s₁) (fun e s'=>R (.error e) s') s):codeAny (model prog w) A (.call (.builtin id) args) R s:=by
 refine codeAny_of_tree rfl ?_
 show wpAny _ A.in1 (do checkBuiltinCall id args; again (.builtin id args)) _ _ s
 exact wpAny_bind (wpAny_mono h (fun _ s₁ hF=>wpAny_pure (And.intro hq (codeAny_builtin hk hb hF))) fun _ _ h'=>h')
end
theorem clean_typeCall:holders.contains "type.__call__"=false:=by decide +kernel
theorem quiet_typeCall (args:Args):(Code.builtin "type.__call__" args).quiet=true:=Code.quiet_builtin _ (by decide +kernel)
set_option backward.match.sparseCases false
end Mine
end
section
open PySem PySem.W PySem.Spec PyProof.Rows PySem.Calls
namespace Mine
noncomputable abbrev Γ0:PySem.Ctx:=⟨.builtin "claim.caller" {},none,none,[],none⟩
theorem clean0:Clean Γ0:=⟨by decide +kernel,fun _ h=>(by cases h)⟩
theorem zgP {prog:Program} {w:World} {t:Sem Fin} {s:Shared} {R:Result->Shared->Prop} (hreg:s.asleep)
  (h:wpAny (model prog w) callerA t (fun fin s'=>∃ f,fin=.done f/\(R (.ok f) s'/\leftWithCleanup s'.gens=false)) (fun e s'=>R (.error e) s'/\leftWithCleanup s'.gens=false) s) :
  ∃ n r s' s'',runN (denote table) prog w n s ⟨t,.builtin "claim.caller" {},default,[]⟩=.halted (outcomeOf r) s' ∧
   schedN (denote table) prog w n (.single s ⟨t,.builtin "claim.caller" {},default,[]⟩)=.halted (outcomeOf r) s'∧s'.forget=s''.forget∧R r s'':=by
 have hw:Sem.wp (model prog w) Γ0 t (Sem.finPost (model prog w) Γ0 fun r s'=>R r s'/\leftWithCleanup s'.gens=false) (fun e _ s'=>R (.error e) s'/\leftWithCleanup s'.gens=false) default s:=by
  refine Sem.wp_mono _ Γ0 t (fun fin p' s' h'=>?_) (fun _ _ _ z=>z) default s (h Γ0 default caller_in clean0)
  refine oEA h' fun f yB hf=>?_; obtain rfl:=yB
  exact hf
 refine zbt (wp_halts_full (M:=model prog w) (R:=R) hreg hw) fun n r s₁ sC hs hn hfo hR=>?_
 exact ⟨n,r,sC,s₁,hn,hs,hfo,hR⟩
theorem gen {G:Prop} (k:∀ P:Prop,(G->P)->P):G:=k G id
theorem zhx {c:ClaimW} {tree:List Value->Sem Fin} {w:World} {s:Shared} {free:Addr->Prop} {gens:Prop} {kept:Heap->Prop} (hz:s.asleep) (hgens:s.gens=#[])
  (hspec:∀ args,c.pre args=true->WData.layableAll args=true ->
   ∀ ord:List DictEntry->List DictEntry,(∀ l,(ord l).Perm l) ->
   ∃ vs s₁,layAllW c.records (classAt s.heap) w.params ord args s=some (vs,s₁) /\
    wpAny (model c.prog w) callerA (tree vs) (fun fin s'=>∃ f,fin=.done f/\(c.Ends s args vs s₁ (.ok f) s'/\s'.os=s.os/\AllBare s'.gens/\kept s'.heap))
     (fun e s'=>c.Ends s args vs s₁ (.error e) s'/\s'.os=s.os/\AllBare s'.gens/\kept s'.heap) s₁) :
  c.CallFrom (fun vs=>⟨tree vs,.builtin "claim.caller" {},default,[]⟩) w free gens kept s:=by
 intro args hpre hlay ord hord
 refine gen fun P ret=>?_
 refine oEEA (hspec args hpre hlay ord hord) fun vs s₁ hlaid hcode=>?_
 have hal:=layAllW_rest _ _ _ hlaid
 have st:=zgP (prog:=c.prog) (w:=w) (t:=tree vs) (s:=s₁)
  (R:=fun r s'=>c.Ends s args vs s₁ r s'/\s'.os=s.os/\kept s'.heap)
  (Shared.asleep_of_life hal.2.2.2 hz)
  (wpAny_mono hcode (fun fin s' z=>oEA z fun f e q=>mEA f e ⟨⟨q.1,q.2.1,q.2.2.2⟩,leftWithCleanup_false_of_bare q.2.2.1⟩)
   fun e s' q=>⟨⟨q.1,q.2.1,q.2.2.2⟩,leftWithCleanup_false_of_bare q.2.2.1⟩)
 refine zbt st fun k r s' s'' hrun hsched hfo hR=>?_
 refine zbK (Shared.forget_eq hfo) fun eh _ _ eo _=>?_
 have hkp:kept s'.heap:=eh.symm ▸ hR.2.2
 have hlife:s'.heap.life=s.heap.life:=(runN_life _ _ _ hrun).trans hal.2.2.2
 refine ret (zes vs s₁ hlaid k _ s' hsched ?_ (fun _ i x hx=>by rw [hgens] at hx; simp at hx) hkp (by rw [hlife]) (Shared.rest_eq (eo ▸ hR.2.1)))
 exact (hR.1.congr eh).imp (fun z=>ziO z fun v e d1 d2 d3 d4 d5=>zlF v (congrArg outcomeOf e) d1 d2 d3 (fun b o y _=>d4 b o y) d5) fun z=>zd7 z fun e ob cls q d1 d2 d3 d4 d5=>zaU e ob cls (congrArg outcomeOf q) d1 d2 d3 d4 fun b o y _=>d5 b o y
noncomputable abbrev WalkC (q:Program) (loose:List Str) (XP:(Str->Option Value)->Heap->Prop) (YP:World->Heap->Prop) (r:RowW) (d:DefRec) (kwd:List (Str×Expr)):Prop :=
 ∀ (w:World) (sA s₁:Shared) (mg mb:Str->Option Value),Ground q loose r.records XP w sA mg mb s₁.heap->YP w s₁.heap->∀ (a:Addr) (o:Obj) (pm cd doc dV kV:Value),s₁.heap.get? a=some o ->
  o.data=.func { docDef d.name d.params d.body d.scope pm cd doc with defaults:=dV,kwdefaults:=kV }->s₁.heap.CodeRec cd d.name->Dflts mg s₁.heap d.params kwd dV kV->mg d.name=some (.ref a)->s₁.gens=#[] ->
  ∀ (args:List WData) (vals:List Value) (as:List Addr),r.claim.pre args=true->WData.layableAll args=true->ReadsAllW r.records (classAt sA.heap) s₁.heap vals args as->WellAll w.params s₁.heap vals args->(∀ a∈as,(a == sysModules)=false) ->
   wpAny (model r.prog w) callerA (PySem.call (.ref a) vals) (fun v s'=>GoodWG r.claim (classAt sA.heap) (ExcName.means sA.heap) args s₁ (.ok (.ret v)) s')
    (fun e s'=>GoodWG r.claim (classAt sA.heap) (ExcName.means sA.heap) args s₁ (.error e) s') s₁
theorem openC {r:RowW} {q:Program} {loose defs kps:List Str} {writes:Bool} {Xt:Shared->Bool} {XP:(Str->Option Value)->Heap->Prop} {α:Type} {Yf:Shared->α} {Ya:World->α} {YP:World->Heap->Prop} {N:Nat} {tree:List Value->Sem Fin}
  (left:LeftO r.prog q loose Xt Yf Ya N) (hY:∀ w s,Yf s=Ya w->YP w s.heap) (hYk:∀ w h h',YP w h->(∀ b o,h.get? b=some o->h'.get? b=some o)->YP w h') (hX:∀ s,Xt s=true->XP (s.heap.nsMap mainGlobals) s.heap) (hXk:∀ mg h h',XP mg h->(∀ b o,h.get? b=some o->h'.get? b=some o)->XP mg h')
  (hRf:∀ s,Xt s=true->RecFacts r.records s.heap) (hwr:(!writes || r.records.isEmpty)=true) (ok:(chainsOk q&&opensWell r.prog&&(frees r&&r.within.isEmpty))=true) (hb:r.prog.bare) (hw:r.promised)
  (ht:∀ vs (w:World) (s:Shared) mg f (Q:Fin->Shared->Prop) (E:Value->Shared->Prop),s.heap.Ns mainGlobals mg->mg r.name=some f->wpAny (model r.prog w) callerA (PySem.call f vs) (fun v s'=>Q (.done (.ret v)) s') E s->wpAny (model r.prog w) callerA (tree vs) Q E s)
  (pin:∀ w s,s.heap.isNs mainGlobals=true->Ground q loose [] XP w s (s.heap.nsMap mainGlobals) (s.heap.nsMap builtinsNs) s.heap->∀ n∈defs,isTheDefsW r.prog s.heap n)
  (call:∀ (w:World) (sA s₁:Shared) (mg mb:Str->Option Value),Ground q loose r.records XP w sA mg mb s₁.heap->YP w s₁.heap->∀ (args:List WData) (vs:List Value) (as:List Addr),
   r.claim.pre args=true->WData.layableAll args=true->Laid r.records w sA s₁ args vs as->sysModules < sA.heap.objs.size->∃ f,mg r.name=some f /\
    wpAny (model r.prog w) callerA (PySem.call f vs) (fun v s'=>GoodWG r.claim (classAt sA.heap) (ExcName.means sA.heap) args s₁ (.ok (.ret v)) s')
     (fun e s'=>GoodWG r.claim (classAt sA.heap) (ExcName.means sA.heap) args s₁ (.error e) s') s₁):r.claim.HoldsOpenBy (fun vs=>⟨tree vs,.builtin "claim.caller" {},default,[]⟩) defs kps writes:=by
 refine gen fun P ret0=>?_
 refine (Bool.and_eq_true_iff.mp ok).elim fun ok k5=>(Bool.and_eq_true_iff.mp ok).elim fun hch o1=>(Bool.and_eq_true_iff.mp k5).elim fun k5 k6=>?_
 refine zbK (frees_parts k5) fun hsame hu ha hap hm=>?_
 refine ret0 ⟨⟨hb,o1,by show r.makers.map _=[]; rw [hm]; rfl⟩,hw.witness,fun w=>⟨(left.behind hX hch w).1,fun s' hs'=>?_⟩⟩
 refine gen fun P ret=>?_
 refine zg8 ((left.behind (XP:=fun mg h=>XP mg h/\RecFacts r.records h) (fun s hs=>⟨hX s hs,hRf s hs⟩) hch w).2 s' hs') fun sA hf hg0 s hT hz hgens hg G00 y=>?_
 have G0:Ground q loose [] XP w s (s.heap.nsMap mainGlobals) (s.heap.nsMap builtinsNs) s.heap:=⟨G00.T,G00.B,G00.D,G00.TE,G00.TD,G00.W,G00.X.1,G00.cls,G00.has,G00.apart,G00.once,G00.K⟩
 have RF:=G00.X.2
 have hT':=hT
 refine ret (zhm sA hf hg0 s hT (pin w s hg G0) RF.1 RF.2.1 ?_)
 have hgens:s.gens=#[]:=Array.eq_empty_of_size_eq_zero (beq_iff_eq.mp hgens)
 have G:Ground q loose r.records XP w s _ _ s.heap:=RF.ground G0
 refine zhx (c:=r.claim) hz hgens fun args hpre hlay ord hord=>?_
 refine gen fun P ret=>?_
 obtain ⟨⟨vs,s₁⟩,hlaid⟩:=Option.isSome_iff_exists.mp (layAllW_isSome (P:=w.params) (ord:=ord) G.has args r.args s (pre_splitW hpre).1)
 have keeps:=layAllW_keeps _ _ _ hlaid
 have hal:=layAllW_rest _ _ _ hlaid
 obtain ⟨as,hrd,hin,hold⟩:=reads_layAllW hord _ _ _ hlaid hlay s₁.heap (fun _ _ e=>e)
 have L:Laid r.records w s s₁ args vs as:=⟨⟨ord,hord,hlaid⟩,hrd,hin,hold,keeps,hal.1.trans hgens,hal.2.2.1⟩
 have GB:=G.keeps hXk keeps
 refine oEA (call w s s₁ _ _ GB (hYk _ _ _ (hY w s y) keeps) args vs as hpre hlay L G.low) fun f hf h=>?_
 have hi:=ident_freeW hu ha hap
 have hwi:r.claim.within=[]:=List.isEmpty_iff.mp k6
 exact ret ⟨vs,s₁,hlaid,ht vs w s₁ _ f _ _ GB.T.g hf (wpAny_mono h (fun v s' g=>⟨_,rfl,have z:=g.laid (c:=r.claim) hsame hwi hi L; ⟨z.1,z.2.1,z.2.2,fun q=>⟨namesKept_of hT' hg kps keeps g.2.1.old,noTable hwr q⟩⟩⟩) fun e s' g=>have z:=g.laid (c:=r.claim) hsame hwi hi L; ⟨z.1,z.2.1,z.2.2,fun q=>⟨namesKept_of hT' hg kps keeps g.2.1.old,noTable hwr q⟩⟩)⟩
theorem holdsC {r:OpenRow} {q:Program} {loose:List Str} {Xt:Shared->Bool} {XP:(Str->Option Value)->Heap->Prop} {α:Type} {Yf:Shared->α} {Ya:World->α} {YP:World->Heap->Prop} {d:DefRec} {kwd:List (Str×Expr)} {N:Nat}
  (left:LeftO r.prog q loose Xt Yf Ya N) (hY:∀ w s,Yf s=Ya w->YP w s.heap) (hYk:∀ w h h',YP w h->(∀ b o,h.get? b=some o->h'.get? b=some o)->YP w h')
  (hX:∀ s,Xt s=true->XP (s.heap.nsMap mainGlobals) s.heap) (hXk:∀ mg h h',XP mg h->(∀ b o,h.get? b=some o->h'.get? b=some o)->XP mg h')
  (hdef:defOf q r.name=some (d,kwd)) (hp:r.prog.theDef r.name=some (d.params,d.body,d.scope)) (hk:kwWritten? d.params.kwonlyargs d.params.kw_defaults=some kwd) (hRf:∀ s,Xt s=true->RecFacts r.records s.heap) (hwr:(!r.writes || r.records.isEmpty)=true)
  (k1:r.wellSaid=true) (ok:(chainsOk q&&opensWell r.prog&&(frees r.toRowW&&r.within.isEmpty))=true) (hb:r.prog.bare) (hw:r.toRowW.promised)
  (call:WalkC q loose XP YP r.toRowW d kwd):r.Holds:=by
 refine ⟨k1,hw,openC (r:=r.toRowW) (tree:=fun vs=>do match <- nsGet mainNs r.name with
   | some f=>do ret (<- PySem.call f vs)
   | none=>unsupported "claim.caller:no-such-global") left hY hYk hX hXk hRf hwr ok hb hw
  (fun vs w s mg f Q E hg hf h=>wpAny_bind (lift (wpAny_nsGet hg (by rw [hf]; exact wpAny_bind (wpAny_mono h (fun _ _ x=>wpAny_pure x) fun _ _ x=>x)))))
  (fun w s hg G n hn=>?_) fun w sA s₁ mg mb G Y args vs as hpre hlay L low=>?_⟩
 ·obtain rfl:n=r.name:=by split at hn <;> simp_all
  exact pinned_of_view hg G hdef hp hk
 ·refine zeO (G.fn hdef) fun a o pm cd doc dV kV h1 h2 h3 h4 h5=>?_
  exact ⟨.ref a,h1,call w sA s₁ mg mb G Y a o pm cd doc dV kV h2 h3 h4 h5 (defOf_name hdef ▸ h1) L.gens args vs as hpre hlay L.reads L.well (L.low low)⟩
end Mine
end
section
set_option tactic.hygienic true
open PySem PySem.W PyProof.Rows
namespace Mine
def Walk (K:Params→Frag):Prop:=∀ (q:Program) (loose:List Str) (XP:(Str→Option Value)→Heap→Prop) (d:DefRec) (kwd:List (Str×Expr)),d.name=Str.ofString "law" →
 WalkC q loose XP (InK K) (OpenRow.toRowW (OpenLaw.row PySem.Challenge.rw_tg0041_01)) d kwd
end Mine
section
open Lean in
local macro_rules
 | `(tactic| refine $e:term)=>do
  let .node _ ``Lean.Parser.Term.app #[f,_]:=e.raw | Macro.throwUnsupported
  unless f.isIdent&&f.getId == ``PySem.W.holds_open do Macro.throwUnsupported
  `(tactic| assumption)
set_option maxHeartbeats 8000000 in
theorem Mine.kf (h:OpenRow.Holds (OpenLaw.row PySem.Challenge.rw_tg0041_01)):OpenRow.Holds (OpenLaw.row PySem.Challenge.rw_tg0041_01):=by
 k_head
end
end
section
open PySem PySem.W PyProof.Rows PySem.Calls
namespace Mine
section
variable {α β γ δ:Type}
theorem seqR {t:Sem α} {R:(Addr->Prop)->Heap->β->α->Prop} {Q:β->AH->Prop} {P:α->Shared->Prop} (h:wpAny W.M A t (RPost W frs H s R Q) (XPost W frs H s X) s)
  (k:∀ x v s₁ HC,Step W frs H s HC s₁->R (W.D HC) s₁.heap v x->Q v HC->P x s₁):wpAny W.M A t P (XPost W frs H s X) s :=
 wpAny_mono h (fun x s₁ z9=>zv z9 fun v HC a b c d e f=>k x v s₁ HC ⟨b,c,d,e⟩ a f) fun _ _ z=>z
theorem zax {t:Sem α} {R:(Addr->Prop)->Heap->β->α->Prop} {Q:β->AH->Prop} (st:Step W frs H s HC s₁) (h:wpAny W.M A t (RPost W frs HC s₁ R Q) (XPost W frs HC s₁ X) s₁) :
  wpAny W.M A t (RPost W frs H s R Q) (XPost W frs H s X) s₁ :=
 wpAny_mono h (fun _ _ z=>z.of st.ext st.os st.gens) fun _ _ z=>z.of st.ext st.os st.gens
theorem zb3 {t:Sem α} {P:α->Shared->Prop} (st:Step W frs H s HC s₁) (h:wpAny W.M A t P (XPost W frs HC s₁ X) s₁):wpAny W.M A t P (XPost W frs H s X) s₁ :=
 wpAny_mono h (fun _ _ z=>z) fun _ _ z=>z.of st.ext st.os st.gens
end
noncomputable def Holds (env:Env) (h:Heap) (mm:Str->Option Value) (x:Str) (y:Value):Prop :=
 (env.kindOf x=some .local/\mm x=some y)∨((env.kindOf x=some .cell∨env.kindOf x=some .free)/\∃ c,env.cells.lookup x=some c/\h.IsCell c (some y))
theorem zN {l:List (Str×Addr)} {x:Str} {c:Addr} (h:l.lookup x=some c):(x,c)∈l:=by
 refine oEEA (List.lookup_eq_some_iff.mp h) fun a b e _=>?_
 rw [e]; simp
structure Fits (W:Wd) (frs:List Env) (env:Env) (sc:Sc) (m:Loc) (H:AH) (h:Heap):Prop where
 kind:env.scope.kind=.function
 lk:env.scope.names=sc.scope.names
 glob:env.globals=mainGlobals
 blt:env.builtins=builtinsNs
 above:W.base.objs.size<=env.locals
 apartL:H env.locals=none
 nodup:sc.names.Nodup
 nocd:sc.names.all (· != ("__classdict__" : Str))=true
 len:m.length=sc.names.length
 frame:∃ L,env.frame=some L/\L∈frA frs
 cell:∀ x c,(x,c)∈env.cells->W.base.objs.size<=c/\H c=none/\c∉frA frs/\∃ v,h.IsCell c v
 inj:∀ x y c,(x,c)∈env.cells->(y,c)∈env.cells->x=y
 has:∀ x,env.kindOf x=some .cell->∃ c,env.cells.lookup x=some c
 vals:∃ mm,h.Ns env.locals mm/\∀ i x v,sc.names[i]?=some x->lget m i=some v->∃ y,Abs W.clsA (W.D H) h v y/\Holds env h mm x y
theorem ziX {h h':Heap} {a:Addr} {mm:Str->Option Value} (hn:h.Ns a mm) (k:∀ o,h.get? a=some o->∃ sl,h'.get? a=some { o with slots:=sl }):h'.Ns a mm:=by
 refine zaP hn fun o es ep ho hd r=>?_
 obtain ⟨sl,q⟩:=k o ho
 exact zhG _ es ep q hd r
theorem zep {h h':Heap} {a:Addr} {v:Option Value} (hn:h.IsCell a v) (k:∀ o,h.get? a=some o->∃ sl,h'.get? a=some { o with slots:=sl }):h'.IsCell a v:=by
 refine oEA hn fun o ho hd=>?_
 obtain ⟨sl,q⟩:=k o ho
 exact mEA _ q hd
theorem Fits.like {W:Wd} {frs:List Env} {env:Env} {sc:Sc} {m:Loc} {H H':AH} {h h':Heap} (F:Fits W frs env sc m H h) (k:KeepH H h H' h'):Fits W frs env sc m H' h':=by
 refine oEA F.vals fun mm hn hv=>?_
 refine zgK (id hn) fun oL es ep hoL r=>?_
 refine ⟨F.kind,F.lk,F.glob,F.blt,F.above,(k _ _ hoL F.apartL).2,F.nodup,F.nocd,F.len,F.frame,fun x c e=>?_,F.inj,F.has,mm,ziX hn fun o ho=>(k _ _ ho F.apartL).1,fun i x v e g=>?_⟩
 ·refine zK (F.cell x c e) fun c1 c2 c3 v oc hoc hdc=>?_
  have q:=k c oc hoc c2
  exact zhv c1 q.2 c3 v (zep (mEA oc hoc hdc) fun o ho=>(k _ _ ho c2).1)
 ·refine oEA (hv i x v e g) fun y ha hh=>?_
  refine mEA y (Abs.keeps k.v v y ha) (hh.imp id fun z9=>oAEA z9 fun hk c hc hi=>(mAEA hk c hc ?_))
  exact zep hi fun o ho=>(k _ _ ho (F.cell x c (zN hc)).2.1).1
theorem Fits.step {W:Wd} {frs:List Env} {env:Env} {sc:Sc} {m:Loc} {H H':AH} {s s':Shared} (F:Fits W frs env sc m H s.heap) (st:Step W frs H s H' s'):Fits W frs env sc m H' s'.heap:=F.like st.ext.toKeep
theorem Fits.size {W:Wd} {frs:List Env} {env:Env} {sc:Sc} {m:Loc} {H:AH} {h:Heap} (F:Fits W frs env sc m H h):W.base.objs.size<=h.objs.size:=by
 refine oEA F.vals fun mm hn _=>?_
 exact Nat.le_trans F.above (Nat.le_of_lt hn.lt)
structure Wok (W:Wd) (fnA:Fn->Addr):Prop where
 kin:W.K.In W.base
 top:∃ mg mb,W.base.Ns mainGlobals mg∧W.base.Ns builtinsNs mb∧∀ x:Str,x≠"__name__"→mb x=bootBuiltins x
 nolimit:W.base.NoLimit
 gfn:∀ x f,globals.lookup x=some (.fn f)->nsIn W.K mainGlobals x=some (some (.ref (fnA f)))/\keepIn W.K (.ref (fnA f))=true
 gnum:∀ x i,globals.lookup x=some (.num i)->∃ t,nsIn W.K mainGlobals x=some (some (.int i t))
 gblt:∀ x∈([("len" : Str),"max","min","sorted","sum","list","bytes","bytearray","isinstance","int","bool","range","enumerate","zip"] : List Str),nsIn W.K mainGlobals x=some none
 gcut:nsIn W.K mainGlobals "CutShort"=some (some (.ref W.cut))
 gexc:exmOne W.K (.ref W.cut) (.ref W.cut)=some true
 gcutO:CutOk W.K W.cut
 gmeth:∀ c nm f,userFn c nm=some f→findIn W.K (.ref (W.clsA c)) nm.str=some (some (.ref (fnA f)))∧typeIn W.K (.ref (fnA f))=some (.type "function")∧keepIn W.K (.ref (fnA f))=true
section
variable {fnA:Fn->Addr}
theorem zfC (O:Wok W fnA) (hb:W.base.StaysIn s.heap) (F:Fits W frs env sc m H s.heap) {x:Str} {pos:Pos} {v:Value} (hx:sc.scope.names.lookup x=some .globalImplicit) (e:nsIn W.K mainGlobals x=some (some v))
  {Q:Value→Shared→Prop} (hd:(x == ("__debug__" : Str))=false) (h:Q v s):PySem.wpAny W.M A (eval (.Name x pos) env) Q E s:=by
 refine zd O.top fun mg mb h1 h2 h3=>?_
 refine Name_function_global F.kind (by unfold Env.kindOf; rw [F.lk]; exact hx) ?_ hd
 exact loadGlobal_global (env:=env) (by rw [F.glob]; exact h1.keeps hb) (mg_of O.kin h1 e) h
theorem zf1 (O:Wok W fnA) (G:Gd W frs H s.heap) (F:Fits W frs env sc m H s.heap) {x:Str} {pos:Pos} {v:Value} (hx:sc.scope.names.lookup x=some .globalImplicit) (e:nsIn W.K mainGlobals x=some (some v))
  {Q:Value→Shared→Prop} (hd:(x == ("__debug__" : Str))=false) (h:Q v s):wpAny W.M A (eval (.Name x pos) env) Q E s:=lift (zfC O G.rp.1 F hx e hd h)
theorem zaQ (O:Wok W fnA) (G:Gd W frs H s.heap) (F:Fits W frs env sc m H s.heap) {x:Str} {pos:Pos} {v:Value} (hx:sc.scope.names.lookup x=some .globalImplicit) (e:nsIn W.K mainGlobals x=some none)
  (hb:bootBuiltins x=some v) (hn:x≠"__name__") {Q:Value→Shared→Prop} (hd:(x == ("__debug__" : Str))=false) (h:Q v s):wpAny W.M A (eval (.Name x pos) env) Q E s:=by
 refine zd O.top fun mg mb h1 h2 h3=>?_
 refine lift (Name_function_global F.kind (by unfold Env.kindOf; rw [F.lk]; exact hx) ?_ hd)
 exact loadGlobal_builtin (env:=env) (by rw [F.glob]; exact h1.keeps G.rp.1) (mg_none_of O.kin h1 e) (by rw [F.blt]; exact h2.keeps G.rp.1) ((h3 x hn).trans hb) h
theorem zai {names:List Str} {x:Str} {i:Nat} (h:names.findIdx? (· == x)=some i):names[i]?=some x:=by
 rw [List.findIdx?_eq_some_iff_getElem] at h
 obtain ⟨hi,h1,_⟩:=h
 rw [List.getElem?_eq_getElem hi]
 simpa using h1
theorem pVar (F:Fits W frs env sc m H s.heap) {x:Str} {i:Nat} {v:V} (hi:sc.var x=some i) (hv:lget m i=some v) (hx:x≠"__classdict__") {Q:Value→Shared→Prop}
  (h:∀ y,Abs W.clsA (W.D H) s.heap v y->Q y s):PySem.wpAny W.M A (loadName env x) Q E s:=by
 have hn:sc.names[i]?=some x:=zai (zfU hi)
 refine oEA F.vals fun mm hns hvs=>?_
 refine oEA (hvs i x v hn hv) fun y ha hh=>?_
 rcases hh with ⟨hk,hm⟩ | ⟨hk | hk,c,hc,hi'⟩
 ·exact wpAny_loadName_local F.kind hk hns hm (h y ha)
 ·exact wpAny_loadName_cell F.kind hk hc hi' (h y ha)
 ·exact wpAny_loadName_free F.kind hk hc hi' (h y ha) (by simpa using hx)
theorem sVar (G:Gd W frs H s.heap) (F:Fits W frs env sc m H s.heap) {x:Str} {i:Nat} {v:V} (hi:sc.var x=some i) (hv:lget m i=some v) (hx:x≠"__classdict__") {Q:Value→Shared→Prop}
  (h:∀ y,Abs W.clsA (W.D H) s.heap v y->Q y s):wpAny W.M A (loadName env x) Q E s:=lift (pVar F hi hv hx h)
end
def SpecsOk (W:Wd) (fnA:Fn->Addr) (lev:Nat) (S:Specs):Prop:=∀ (f:Fn) (vs:List V) (xs:List Value) (A:Around) (frs:List Env) (s:Shared) (H:AH) (Q:V->AH->Prop) (X:AH->Prop),
 Rm lev A frs->Gd W frs H s.heap->W.base.objs.size<=s.heap.objs.size->AbsL W.clsA (W.D H) s.heap vs xs->S f vs H Q X->wpAny W.M A (call (.ref (fnA f)) xs) (EPost W frs H s Q) (XPost W frs H s X) s
def PE (W:Wd) (lev:Nat) (S:Specs) (n:Nat):Prop:=∀ (sc:Sc) (e:Expr) (c:CE),sc.ce n e=some c->∀ (A:Around) (frs:List Env) (env:Env) (s:Shared) (m:Loc) (H:AH) (Q:V->AH->Prop) (X:AH->Prop),
 Rm lev A frs->Gd W frs H s.heap->Fits W frs env sc m H s.heap->wpE S X c m H Q->wpAny W.M A (eval e env) (EPost W frs H s Q) (XPost W frs H s X) s
def PT (W:Wd) (lev:Nat) (S:Specs) (n:Nat):Prop:=∀ (sc:Sc) (e:Expr) (c:CE),sc.ce n e=some c->∀ (A:Around) (frs:List Env) (env:Env) (s:Shared) (m:Loc) (H:AH) (Q:Bool->AH->Prop) (X:AH->Prop),
 Rm lev A frs->Gd W frs H s.heap->Fits W frs env sc m H s.heap->wpT S X c m H Q->wpAny W.M A (isTrue e env (eval e env)) (RPost W frs H s BR Q) (XPost W frs H s X) s
theorem zi {α β:Type} {f:α->Option β} {a:α} {r:List α} {l:List β} (h:mapO f (a::r)=some l):∃ b bs,l=b::bs/\f a=some b/\mapO f r=some bs:=by
 have h:((f a).bind fun b=>(mapO f r).bind fun bs=>some (b::bs))=some l:=h
 refine oEA (Option.bind_eq_some_iff.mp h) fun b hb h=>oEA (Option.bind_eq_some_iff.mp h) fun bs hbs e=>?_
 exact zn b bs (Option.some.inj e).symm hb hbs
theorem mapC {α β:Type} {f:α->Option β} {a:α} {r:List α} {l:List β} {M:List β->Prop} {P:Prop} (h:mapO f (a::r)=some l) (w:M l) (k:∀ b bs,f a=some b->mapO f r=some bs->M (b::bs)->P):P:=by
 obtain ⟨b,bs,rfl,h1,h2⟩:=zi h
 exact k b bs h1 h2 w
theorem zci {α β:Type} {f:α->Option β} {a:α} {r:List α} {b:β} {bs:List β} (h1:f a=some b) (h2:mapO f r=some bs):mapO f (a::r)=some (b::bs):=by
 show ((f a).bind fun b=>(mapO f r).bind fun bs=>some (b::bs))=_
 rw [h1,h2]; rfl
theorem zj {α β:Type} {f:α->Option β} {l:List β} (h:mapO f []=some l):l=[]:=(Option.some.inj h).symm
theorem zge {α β:Type} {f:α->Option β} {b:β} {l:List α} {r:List β} (e:mapO f l=some r) (h:b∈r):∃ a,a∈l/\f a=some b:=by
 induction l using List.rec generalizing r with
 | nil=>obtain rfl:=zj e; exact nomatch h
 | cons x l ih =>
  obtain ⟨y,ys,rfl,e1,e2⟩:=zi e
  exact (List.mem_cons.mp h).elim (fun q=>⟨x,.head _,q ▸ e1⟩) fun h=>oEA (ih e2 h) fun a h1 h2=>⟨a,.tail _ h1,h2⟩
theorem zp {e:Expr} {r:List Expr} {env:Env} (h:plainArg e=true):starEach (e::r) env=(false,eval e env)::starEach r env:=by
 induction e using Expr.casesOn <;> first | rfl | exact absB h
theorem zaS (pos:Pos):∀ {es:List Expr} {env:Env},es.all plainArg=true->(backTo pos (starEach es env)).any (·.1)=false
 | [],_,_=>rfl
 | e::r,env,h=>by
  simp only [List.all_cons,Bool.and_eq_true] at h
  rw [zp h.1]
  show (false || (backTo pos (starEach r env)).any (·.1))=false
  rw [zaS pos h.2]; rfl
section
variable {fnA:Fn->Addr}
theorem zeA (ih:PE W lev S n) (R:Rm lev A frs) (pos:Pos):∀ (es:List Expr) (cs:List CE) (s:Shared) (H:AH) (Q:List V->AH->Prop),es.all plainArg=true->mapO (sc.ce n) es=some cs->Gd W frs H s.heap->Fits W frs env sc m H s.heap->wpEs S X cs m H Q ->
  wpAny W.M A (spliced (backTo pos (starEach es env))) (RPost W frs H s (fun D h vs xs=>AbsL W.clsA D h vs xs/\xs.length=es.length) Q) (XPost W frs H s X) s
 | [],cs,s,H,Q,hp,hc,G,F,h=>by
  obtain rfl:=zj hc
  exact spliced_nil (end0 G ⟨AbsL.nil,rfl⟩ h)
 | e::r,cs,s,H,Q,hp,hc,G,F,h=>by
  refine zd (zi hc) fun b bs yC hb hbs=>?_; obtain rfl:=yC
  simp only [List.all_cons,Bool.and_eq_true] at hp
  rw [zp hp.1]
  refine spliced_cons (seqR (ih sc e b hb A frs env s m H _ X R G F h) fun x v s₁ HC st a q=>?_)
  refine zb3 st (seqR (zeA ih R pos r bs s₁ HC _ hp.2 hbs st.gd (F.step st) q) fun xs vs sC HD stD as qC=>?_)
  exact endR (st.trans stD) ⟨AbsL.cons (stD.abs a) as.1,by rw [List.length_cons,List.length_cons,as.2]⟩ qC
theorem zcg {M:Model} {h:Heap} {k:Keeper} {t:Sem Keeper} (e:t=pure k):Looks M h t k:=by subst e; exact .now
theorem zaN {f:Value} {first:List Value} {es:List Expr} {pos:Pos} {Q:Value->Shared->Prop} {E:Value->Shared->Prop} {P:Heap->Prop} (hp:es.all plainArg=true)
  (hk:∀ h,P h->∃ k,(k=Keeper.frame∨k=Keeper.machine∨k=Keeper.boundFrame)/\Looks W.M h (keeperOf f) k)
  (h:wpAny W.M A (spliced (backTo pos (starEach es env))) (fun vs s₁=>P s₁.heap/\wpAny W.M A (call f (first++vs)) Q E s₁) E s) :
  wpAny W.M A (callWith pos f first (backTo pos (starEach es env)) (backToKw pos (keywordEach [] env))) Q E s:=by
 refine callWith_of (P:=P) (by rw [zaS pos hp]; rfl) hk ?_
 induction es using List.casesOn with
 | nil =>
  unfold evalArgs
  show wpAny W.M A (spliced [] >>= _) _ _ _
  exact wpAny_bind (wpAny_mono (h:wpAny W.M A (spliced []) _ _ _) (fun vs s' h'=>wpAny_holding (wpAny_bind (wpAny_pure (wpAny_bind (wpAny_pure (wpAny_pure h')))))) fun _ _ x=>x)
 | cons e r =>
  simp only [List.all_cons,Bool.and_eq_true] at hp
  rw [zp hp.1] at h ⊢
  exact evalArgs_plain h
end
end Mine
end
section
open PySem PySem.W PyProof.Rows PySem.Calls PySem.Builtin PySem.Builtin.Bytes
namespace Mine
section
variable {M:Model}
theorem any_no {f1 f2 f4 f3 f5 f6} {x:Code×Pos} (k:cleanC x.1=true) (h6:∀ i v t kw q,holders.contains i=false->f6 i v t kw q=false):exported.match_1 (fun _=>Bool) x f1 f2 f3 f4 f5 f6 (fun _=>false)=false:=by
 obtain ⟨c,q⟩:=x
 induction c using PySem.Code.casesOn with
 | builtin i args =>
  have k:(!holders.contains i)=true:=k
  have hn:holders.contains i=false:=Bool.not_eq_true' _ ▸ k
  have ne:∀ n:String,holders.contains n=true->¬ i=n:=fun n h e=>by rw [e,h] at hn; exact absC hn
  delta exported.match_1
  show dite _ _ _=false
  rw [dif_neg (ne "bytearray.__contains__" (by decide +kernel))]
  rw [dif_neg (ne "bytearray.__mod__" (by decide +kernel))]
  rw [dif_neg (ne "bytearray.__rmod__" (by decide +kernel))]
  rw [dif_neg (ne "_struct.pack_into.held" (by decide +kernel))]
  rw [dif_neg (ne "bytearray.find.held" (by decide +kernel))]
  obtain ⟨ps,kw⟩:=args
  induction ps using List.casesOn with
  | nil=>rfl
  | cons v r=>exact h6 i v r kw q hn
 | _=>rfl
theorem zeQ {self:Value} {Q:Bool->Shared->Prop} (h:Q false s):wpAny M A (exported self) Q E s:=fun Γ p hΓ hc=>by
 have e:List.any ((Γ.code,p)::Γ.below) (fun x=>exported.match_1 (fun _=>Bool) x (fun v _ _ _=>Bytes.sameRef v self) (fun v _ _ _=>Bytes.sameRef v self) (fun _ v _ _ _=>Bytes.sameRef v self) (fun v _ _ _=>Bytes.sameRef v self) (fun _ _ held _ _=>held.any (Bytes.sameRef self)) (fun id v _ _ _=>Bytes.sameRef v self&&decodersThatHold.contains id) fun _=>false)=false :=
  List.any_eq_false.mpr fun x hx=>by
   rw [any_no ((List.mem_cons.mp hx).elim (fun z=>z ▸ hc.1) (hc.2 x)) fun i v t kw q z=>?_]
   ·exact Bool.false_ne_true
   ·have:decodersThatHold.contains i=false:=by
     rw [List.contains_eq_any_beq,holders,List.any_append,Bool.or_eq_false_iff] at z
     rw [List.contains_eq_any_beq]; exact z.1
    rw [this,Bool.and_false]
 show Q (List.any ((Γ.code,p)::Γ.below) _) s
 exact e.symm ▸ h
end
section
variable {prog:Program} {w:World}
theorem zcG {T:String} {name:Str} {id:String} {b:Builtin} {self:Value} {rest:List Value} {Q:Value->Shared->Prop} (h:Slot T name id) (hT:s.TypeIs self T) (hb:entryFor table id=some b) (hcl:holders.contains id=false)
  (hc:wpAny (model prog w) A.in1 (b ⟨self::rest,[]⟩) (fun fin s'=>∃ v,fin=.done (.ret v)/\Q v s') E s) (ha:argsOk id ⟨self::rest,[]⟩) :
  wpAny (model prog w) A (call (.builtin id) (self::rest)) Q E s:=by
 refine wpAny_call (codeAny_of_tree rfl ?_)
 show wpAny _ A.in1 (do checkBuiltinCall id ⟨self::rest,[]⟩; again (.builtin id ⟨self::rest,[]⟩)) _ _ _
 refine wpAny_bind (lift (h.check _ _ _ _ _ _ _ _ hT ha (wpAny_pure (And.intro (plainId_quiet h.plain _) (codeAny_of_tree (by show (!holders.contains id)=true; rw [hcl]; rfl) ?_)))))
 show wpAny _ _ (match entryFor table id with | some b=>b ⟨self::rest,[]⟩ | none=>unsupported ((withoutEnding? id "#data").getD id)) _ _ _
 rw [hb,Around.under_plainId h.plain]
 refine wpAny_mono hc (fun fin s' h'=>?_) fun _ _ z=>z
 refine oEA h' fun v yB hv=>?_; obtain rfl:=yB
 exact hv
end
namespace FB
theorem slot_append:Slot "bytearray" "append" "bytearray.append" :=
 .of (owner:="bytearray") (n:="append") (by rw [typeLookup_type,builtinLookup_eq_fast]; kernel_rfl) (by decide +kernel) (by decide +kernel) (by decide +kernel)
  (by first | exact .inl (by decide +kernel) | exact .inr (by decide +kernel)) (by rw [isSubtype_type]; kernel_rfl)
theorem entry_append:entryFor table "bytearray.append"=some Builtin.«bytearray.append»:=entryFor_of_tree (by rfl')
theorem args_append (a b:Value):argsOk "bytearray.append" ⟨[a,b],[]⟩:=by unfold argsOk; rw [PySem.W.Fast.signatureQ_eq]; kernel_rfl
theorem clean_append:holders.contains "bytearray.append"=false:=by decide +kernel
end FB
section
variable {prog:Program} {w:World}
theorem zmI {a:Addr} {o:Obj} {bs:Array UInt8} {i:Int} {t:Tok} {Q:Value→Shared→Prop} (ho:s.heap.get? a=some o) (hc:o.cls=.type "bytearray") (hd:o.data=.bytearray bs 0) (h0:0≤i) (h1:i < 256) (hz:bs.size+1≤sizeLine)
  (q:Q .none { s with heap:=s.heap.update a (Obj.mapBytearray (·.push i.toNat.toUInt8)) }):wpAny (model prog w) A (call (.builtin "bytearray.append") [.ref a,.int i t]) Q E s:=by
 refine zcG FB.slot_append (mEA o ho hc) FB.entry_append FB.clean_append ?_ (FB.args_append _ _)
 unfold Builtin.«bytearray.append»
 refine wpAny_bind (wpAny_pure (a:=(Value.ref a,Value.int i t)) ?_)
 refine wpAny_bind ?_
 unfold byteValue
 refine wpAny_bind (wpAny_pure (a:=i) ?_)
 rw [if_neg (fun e=>(Bool.or_eq_true_iff.mp e).elim (fun e=>absurd h0 (Int.not_le.mpr (of_decide_eq_true e))) fun e=>absurd h1 (Int.not_lt.mpr (of_decide_eq_true e)))]
 refine wpAny_pure (wpAny_bind ?_)
 unfold checkResize
 refine wpAny_bind ?_
 unfold orM
 refine wpAny_bind (zeQ ?_)
 show wpAny _ _ (do return decide ((<- exportsOf (.ref a)) > 0)) _ _ _
 refine wpAny_bind ?_
 show wpAny _ _ (load a >>= _) _ _ _
 refine wpAny_bind (lift (PySem.wpAny_load ho ?_))
 rw [hd]
 refine wpAny_pure (wpAny_pure ?_)
 rw [if_neg (by decide)]
 refine wpAny_pure (wpAny_bind ?_)
 show wpAny _ _ (updateBytearray a (·.push i.toNat.toUInt8)) _ _ _
 unfold updateBytearray
 refine wpAny_bind (lift (PySem.wpAny_load ho ?_))
 rw [hd]
 have hu:=Heap.get?_update_self (Obj.mapBytearray (·.push i.toNat.toUInt8)) ho (by obtain ⟨c,d,dt,sl⟩:=o; subst hd; rfl)
 refine wpAny_bind (lift (PySem.wpAny_update ho ?_))
 refine lift (wpAny_lookBehind hu ?_ (wpAny_pure (mEA _ rfl q)))
 obtain ⟨c,d,dt,sl⟩:=o
 subst hd
 show (if (bs.push i.toNat.toUInt8).size > sizeLine then some "bytearray:memory" else none)=none
 rw [if_neg (by rw [Array.size_push]; exact #[0x104152615104111,_,sizeLine] hz)]
end
namespace FB
theorem zlo:mroOf (.type "bytearray")=pure [.type "bytearray",.type "object"]:=by rw [mroOf_type]; kernel_rfl
theorem zhd:typeLookup (.type "bytearray") "__new__"=pure (some (.builtin "bytearray.__new__")):=by rw [typeLookup_type,builtinLookup_eq_fast]; kernel_rfl
theorem slot_init:Slot "bytearray" "__init__" "bytearray.__init__" :=
 .of (owner:="bytearray") (n:="__init__") (by rw [typeLookup_type,builtinLookup_eq_fast]; kernel_rfl) (by decide +kernel) (by decide +kernel) (by decide +kernel)
  (by first | exact .inl (by decide +kernel) | exact .inr (by decide +kernel)) (by rw [isSubtype_type]; kernel_rfl)
theorem called_ba:TypeCalled "bytearray" "bytearray.__new__" "bytearray.__init__" :=
 ⟨by decide +kernel,by decide +kernel,(mEE _ _ zlo),madeBy_type zlo zhd (by decide +kernel),by decide +kernel,by rw [isSubtype_type]; kernel_rfl,slot_init⟩
theorem typeCall_0:checkTypeCall "bytearray" ⟨[],[]⟩=pure ():=by unfold checkTypeCall; rw [PySem.W.Fast.signatureQ_eq]; kernel_rfl
theorem newCall_0:checkBuiltinCall "bytearray.__new__" ⟨[.type "bytearray"],[]⟩=pure ():=by unfold checkBuiltinCall; rw [PySem.W.Fast.signatureQ_eq,PySem.W.Fast.canonicalQ_eq]; kernel_rfl
theorem entry_new:entryFor table "bytearray.__new__"=some Builtin.«list.__new__»:=entryFor_alias (id':="list.__new__") (by rw [fastTable_eq_tree]; kernel_rfl) (by decide +kernel) (by rw [PySem.W.Fast.canonicalQ_eq]; decide +kernel) (by rw [fastTable_eq_tree]; kernel_rfl)
theorem plain_new:plainId "bytearray.__new__"=true:=by decide +kernel
theorem owner_new:("bytearray.__new__".splitOn ".__new__").headD ""="bytearray":=by simp +decide [String.splitOn,String.splitOnAux]
theorem entry_init:entryFor table "bytearray.__init__"=some Builtin.«bytearray.__init__»:=entryFor_of_tree (by rfl')
theorem args_init (a:Value):argsOk "bytearray.__init__" ⟨[a],[]⟩:=by unfold argsOk; rw [PySem.W.Fast.signatureQ_eq]; kernel_rfl
theorem clean_init:holders.contains "bytearray.__init__"=false:=by decide +kernel
theorem sub_self:isSubtype (.type "bytearray") (.type "bytearray")=pure true:=by rw [isSubtype_type]; kernel_rfl
theorem bind_0:Builtin.Bytes.bindOptional "bytearray.__init__" "bytearray" ["source","encoding","errors"] [] []=pure [none,none,none]:=by rfl'
theorem no_release:typeLookup (.type "bytearray") "__release_buffer__"=pure (some (.builtin "bytearray.__release_buffer__")):=by rw [typeLookup_type,builtinLookup_eq_fast]; kernel_rfl
end FB
section
variable {prog:Program} {w:World}
theorem zfz {Q₁:Value→Shared→Prop} (h:Q₁ (.ref s.heap.objs.size) { s with heap:=s.heap.push { cls:=.type "bytearray",data:=.bytearray #[] } }) :
  PySem.codeAny (model prog w) A (.call (.builtin "bytearray.__new__") ⟨[.type "bytearray"],[]⟩) (wants Q₁ E) s:=by
 refine PySem.codeAny_of_tree ?_
 show PySem.wpAny _ A.in1 (do checkBuiltinCall "bytearray.__new__" ⟨[.type "bytearray"],[]⟩; again (.builtin "bytearray.__new__" ⟨[.type "bytearray"],[]⟩)) _ _ s
 refine PySem.wpAny_bind (wpAny_of_eq FB.newCall_0 (PySem.wpAny_pure ⟨plainId_quiet FB.plain_new _,codeAny_builtin_stack FB.entry_new rfl fun p st=>?_⟩))
 rw [Around.under_plainId FB.plain_new _]
 have hsub:=FB.sub_self
 have hown:=FB.owner_new
 obtain ⟨hp,g,d,tk,os⟩:=s
 simp only [hown]
 wp_walk
 exact h
theorem zbA {a:Addr} {Q:Bool→Shared→Prop} (hT:s.TypeIs (.ref a) "bytearray") (q:Q false s):PySem.wpAny (model prog w) A (ownRelease (.ref a)) Q E s:=by
 unfold ownRelease slotIsOwn
 refine PySem.wpAny_bind (PySem.wpAny_bind (wpAny_specialOf hT FB.no_release ?_))
 dsimp only
 have e1 : (!"bytearray.__release_buffer__".endsWith ("." ++ "__release_buffer__")) = false := by decide +kernel
 have e2 : "bytearray.__release_buffer__".dropRight ("__release_buffer__".length+1)="bytearray":=by decide +kernel
 rw [if_neg (by rw [e1]; decide),e2]
 exact wpAny_isInstance hT FB.sub_self (PySem.wpAny_pure q)
theorem zlQ {a:Addr} {o:Obj} {bs:Array UInt8} {Q:Value→Shared→Prop} (ho:s.heap.get? a=some o) (hc:o.cls=.type "bytearray") (hd:o.data=.bytearray bs 0)
  (q:Q .none { s with heap:=s.heap.update a (Obj.mapBytearray fun _=>#[]) }):wpAny (model prog w) A (call (.builtin "bytearray.__init__") [.ref a]) Q E s:=by
 have hT:s.TypeIs (.ref a) "bytearray":=(mEA o ho hc)
 have hu:=Heap.get?_update_self (Obj.mapBytearray fun _=>#[]) ho (by obtain ⟨c,d,dt,sl⟩:=o; subst hd; rfl)
 refine zcG FB.slot_init hT FB.entry_init FB.clean_init ?_ (FB.args_init _)
 refine wpAny_bind (lift (zbA hT ?_))
 rw [FB.bind_0]
 refine wpAny_bind (wpAny_pure (wpAny_bind (wpAny_pure (wpAny_bind (wpAny_pure (wpAny_bind ?_))))))
 refine wpAny_bind (zeQ (wpAny_bind (wpAny_bind (lift (PySem.wpAny_load ho ?_)))))
 rw [hd]
 refine wpAny_pure (wpAny_pure (wpAny_bind (wpAny_bind (lift (PySem.wpAny_load ho ?_)))))
 rw [hd]
 refine wpAny_bind (lift (PySem.wpAny_update ho ?_))
 refine lift (wpAny_lookBehind hu ?_ ?_)
 ·obtain ⟨c,d,dt,sl⟩:=o
  subst hd
  rfl
 ·exact wpAny_bind (wpAny_pure (wpAny_pure (mEA _ rfl q)))
theorem zgG {Q:Value→Shared→Prop} (q:∀ h',(∀ b o,s.heap.get? b=some o→h'.get? b=some o)→h'.get? s.heap.objs.size=some { cls:=.type "bytearray",data:=.bytearray #[] }→h'=(s.heap.push { cls:=.type "bytearray",data:=.bytearray #[] }).update s.heap.objs.size (Obj.mapBytearray fun _=>#[])→Q (.ref s.heap.objs.size) { s with heap:=h' }) :
  wpAny (model prog w) A (call (.type "bytearray") []) Q E s:=by
 refine wpAny_call (codeAny_of_tree rfl ?_)
 show wpAny _ _ (callAny (.type "bytearray") _) _ _ _
 refine wpAny_pure ⟨quiet_typeCall _,codeAny_builtin clean_typeCall entry_typeCall ?_⟩
 rw [Around.under_plain (weight_type_call_type "bytearray" [] []) (units_type_call_type "bytearray" [] [])]
 refine oEE FB.called_ba.mro fun c tl hmro=>?_
 unfold Builtin.«type.__call__»
 simp only [FB.called_ba.notType,Bool.false_eq_true,if_false,FB.called_ba.canCreate,FB.typeCall_0,hmro,FB.called_ba.made,pure_bind,List.isEmpty_cons]
 refine wpAny_bind (wpAny_holding (wpAny_call (liftC (PySem.codeAny_mono (zfz (Q₁:=fun obj s₁=>obj=.ref s.heap.objs.size∧s₁={ s with heap:=s.heap.push { cls:=.type "bytearray",data:=.bytearray #[] } }) (E:=E) ⟨rfl,rfl⟩) fun r s₁ z=>?_))))
 induction r using Except.casesOn with
 | error e=>exact z
 | ok f =>
  induction f using PySem.Flow.casesOn with
  | ret v =>
   obtain ⟨rfl,rfl⟩:=z
   have ho:(s.heap.push ({ cls:=.type "bytearray",data:=.bytearray #[] }:Obj)).get? s.heap.objs.size=some { cls:=.type "bytearray",data:=.bytearray #[] }:=Heap.get?_push_size _ rfl
   have hT:({ s with heap:=s.heap.push ({ cls:=.type "bytearray",data:=.bytearray #[] }:Obj) }:Shared).TypeIs (.ref s.heap.objs.size) "bytearray":=(mEA _ ho rfl)
   refine wpAny_bind (lift (wpAny_isInstance hT FB.sub_self ?_))
   refine wpAny_bind (wpAny_holding ?_)
   unfold callSpecial?
   refine wpAny_bind (lift (wpAny_specialOf hT FB.slot_init.lookup ?_))
   refine wpAny_holding ?_
   rw [FB.slot_init.bind]
   refine wpAny_bind (wpAny_pure (wpAny_bind (wpAny_mono (zlQ ho rfl rfl (Q:=fun v s'=>v=.none∧s'={ s with heap:=(s.heap.push ({ cls:=.type "bytearray",data:=.bytearray #[] }:Obj)).update s.heap.objs.size (Obj.mapBytearray fun _=>#[]) }) ⟨rfl,rfl⟩) (fun v s' hv=>?_) fun _ _ z=>z)))
   obtain ⟨rfl,rfl⟩:=hv
   refine wpAny_pure (wpAny_pure (q _ (fun b o e=>?_) ?_ rfl))
   ·rw [Heap.get?_update_other _ _ (Nat.ne_of_gt (Heap.lt_size e))]
    exact Heap.get?_push_of_some _ e
   ·exact Heap.get?_update_self (Obj.mapBytearray fun _=>#[]) ho rfl
  | _=>exact z.elim
end
namespace FB
theorem b_bytes:typeLookup (.type "bytes") "__bytes__"=pure (some (.builtin "bytes.__bytes__")):=by rw [typeLookup_type,builtinLookup_eq_fast]; kernel_rfl
theorem a_bytes:typeLookup (.type "bytearray") "__bytes__"=pure none:=by rw [typeLookup_type,builtinLookup_eq_fast]; kernel_rfl
theorem a_index:typeLookup (.type "bytearray") "__index__"=pure none:=by rw [typeLookup_type,builtinLookup_eq_fast]; kernel_rfl
theorem a_buffer:typeLookup (.type "bytearray") "__buffer__"=pure (some (.builtin "bytearray.__buffer__")):=by rw [typeLookup_type,builtinLookup_eq_fast]; kernel_rfl
theorem slot_len:Slot "bytearray" "__len__" "bytearray.__len__" :=
 .of (owner:="bytearray") (n:="__len__") (by rw [typeLookup_type,builtinLookup_eq_fast]; kernel_rfl) (by decide +kernel) (by decide +kernel) (by decide +kernel)
  (by first | exact .inl (by decide +kernel) | exact .inr (by decide +kernel)) (by rw [isSubtype_type]; kernel_rfl)
theorem entry_len:entryFor table "bytearray.__len__"=some Builtin.«bytearray.__len__»:=entryFor_of_tree (by rfl')
theorem args_len (a:Value):argsOk "bytearray.__len__" ⟨[a],[]⟩:=by unfold argsOk; rw [PySem.W.Fast.signatureQ_eq]; kernel_rfl
end FB
section
variable {prog:Program} {w:World}
theorem zfh {b:Array UInt8} {t:Tok} {Q:Value→Shared→Prop} (q:Q (.bytes b t) s):PySem.wpAny (model prog w) A (call (.type "bytes") [.bytes b t]) Q E s:=by
 refine callType_codes (Q₁:=fun obj s₁=>s₁.TypeIs obj "bytes"∧Q obj s₁) F.bm_called (F.bm_typeCall _) F.entry_object_init ?_ fun obj s₁ hF=>?_
 ·refine PySem.codeAny_of_tree ?_
  show PySem.wpAny _ A.in1.in1 (do checkBuiltinCall "bytes.__new__" ⟨[.type "bytes",.bytes b t],[]⟩; again (.builtin "bytes.__new__" ⟨[.type "bytes",.bytes b t],[]⟩)) _ _ s
  refine PySem.wpAny_bind (wpAny_of_eq (F.bm_newCall _) (PySem.wpAny_pure ⟨plainId_quiet F.bm_plain _,PySem.codeAny_builtin F.bm_entry ?_⟩))
  rw [Around.under_plainId F.bm_plain _]
  unfold Builtin.«bytes.__new__»
  refine PySem.wpAny_bind (wpAny_of_eq (a:=true) rfl ?_)
  refine bm_if_false rfl ?_
  refine PySem.wpAny_bind (wpAny_of_eq F.bm_sub ?_)
  refine bm_if_false rfl ?_
  refine PySem.wpAny_bind (wpAny_of_eq (F.bm_bind _) ?_)
  refine PySem.wpAny_bind (wpAny_of_eq (a:=()) rfl ?_)
  refine PySem.wpAny_bind (wpAny_of_eq (a:=()) rfl ?_)
  refine bm_if_false rfl ?_
  refine PySem.wpAny_bind (wpAny_specialOf (PySem.W.typeIs_bytes _ _ _) FB.b_bytes ?_)
  refine PySem.wpAny_bind (PySem.wpAny_rule ?_)
  refine PySem.wpAny_bind (wpAny_typeOf (PySem.W.typeIs_bytes _ _ _) ?_)
  refine bm_if_true rfl ?_
  show PySem.wpAny _ _ (if (Value.type "bytes" == Value.type "bytes")=true then _ else _) _ _ _
  refine bm_if_true (by decide) ?_
  first
   | exact PySem.wpAny_pure ⟨PySem.W.typeIs_bytes _ _ _,q⟩
   | exact PySem.wpAny_bind (PySem.wpAny_pure (PySem.wpAny_pure ⟨PySem.W.typeIs_bytes _ _ _,q⟩))
 ·exact ⟨hF.1,F.args_object_init_2 obj _,object_init_meets F.bm_called.init.lookup F.bm_called.made (by decide) prog w A.in1 _ s₁ ⟨hF.1,rfl,hF.2⟩⟩
theorem zez {a:Addr} {Q:Bool→Shared→Prop} (hT:s.TypeIs (.ref a) "bytearray") (q:Q true s):PySem.wpAny (model prog w) A (slotIsOwn (.ref a) "__buffer__") Q E s:=by
 unfold slotIsOwn
 refine PySem.wpAny_bind (wpAny_specialOf hT FB.a_buffer ?_)
 dsimp only
 have e1 : (!"bytearray.__buffer__".endsWith ("." ++ "__buffer__")) = false := by decide +kernel
 have e2 : "bytearray.__buffer__".dropRight ("__buffer__".length+1)="bytearray":=by decide +kernel
 rw [if_neg (by rw [e1]; decide),e2]
 exact wpAny_isInstance hT FB.sub_self q
theorem zic {a:Addr} {o:Obj} {bs:Array UInt8} {Q:Option (Array UInt8)→Shared→Prop} (ho:s.heap.get? a=some o) (hc:o.cls=.type "bytearray") (hd:o.data=.bytearray bs 0) (q:Q (some bs) s):PySem.wpAny (model prog w) A (buffer? "bytes.__new__" (.ref a) true) Q E s:=by
 have hT:s.TypeIs (.ref a) "bytearray":=(mEA o ho hc)
 unfold buffer?
 refine PySem.wpAny_bind (wpAny_specialOf hT FB.a_buffer ?_)
 refine PySem.wpAny_bind (zez hT ?_)
 refine bm_if_false rfl ?_
 first
  | refine PySem.wpAny_bind (PySem.wpAny_pure ?_)
  | skip
 refine PySem.wpAny_bind (wpAny_specialOf hT FB.a_buffer ?_)
 refine PySem.wpAny_bind (zbA hT ?_)
 refine bm_if_false rfl ?_
 refine PySem.wpAny_bind ?_
 unfold payload payload?
 refine PySem.wpAny_bind (PySem.wpAny_bind (PySem.wpAny_load ho ?_))
 rw [hd]
 exact PySem.wpAny_pure (PySem.wpAny_pure (PySem.wpAny_pure q))
theorem len_ba {a:Addr} {o:Obj} {bs:Array UInt8} {Q:Value→Shared→Prop} (ho:s.heap.get? a=some o) (hc:o.cls=.type "bytearray") (hd:o.data=.bytearray bs 0) (hz:bs.size≤1000000000) (q:Q (.int bs.size (s.toks+1)) { s with toks:=s.toks+1+1 }):PySem.wpAny (model prog w) A (call (.builtin "len") [.ref a]) Q E s:=by
 have hT:s.TypeIs (.ref a) "bytearray":=(mEA o ho hc)
 refine Calls.call_function_entry kind_len plain_len entry_len (args_len1 _) ?_
 unfold Builtin.«len»
 refine PySem.wpAny_bind (m:=oneArg "len" _) (PySem.wpAny_pure ?_)
 refine PySem.wpAny_bind (m:=callSpecial? (.ref a) (Str.ofString "__len__")) (wpAny_callSpecial?_slot (name:=Str.ofString "__len__") hT FB.slot_len (PySem.wpAny_call_entry FB.slot_len hT FB.entry_len ?_ (FB.args_len _)))
 unfold Builtin.«bytearray.__len__»
 refine PySem.wpAny_bind (PySem.wpAny_pure (a:=(Value.ref a,[])) ?_)
 refine PySem.wpAny_bind ?_
 unfold payload payload?
 refine PySem.wpAny_bind (PySem.wpAny_bind (PySem.wpAny_load ho ?_))
 rw [hd]
 refine PySem.wpAny_pure (PySem.wpAny_pure ?_)
 show PySem.wpAny _ _ (do ret (<- mkInt ((bs.size:Nat):Int))) _ _ _
 refine PySem.wpAny_bind (PySem.wpAny_mkInt (PySem.wpAny_pure (mEA _ rfl ?_)))
 refine PySem.wpAny_bind (PySem.wpAny_holding (PySem.wpAny_pure ?_))
 refine PySem.wpAny_bind (PySem.wpAny_letGo ?_)
 dsimp only
 rw [if_neg (Int.not_lt.mpr (Int.natCast_nonneg _)),if_neg (Int.not_le.mpr (Int.lt_of_le_of_lt (Int.ofNat_le.mpr hz) (by decide)))]
 show PySem.wpAny _ _ (do ret (<- mkInt ((bs.size:Nat):Int))) _ _ _
 exact PySem.wpAny_bind (PySem.wpAny_mkInt (PySem.wpAny_pure (mEA _ rfl q)))
theorem zjt {a:Addr} {o:Obj} {bs:Array UInt8} {Q:Value→Shared→Prop} (ho:s.heap.get? a=some o) (hc:o.cls=.type "bytearray") (hd:o.data=.bytearray bs 0) (hz:bs.size≤sizeLine) (q:Q (.bytes bs s.toks) { s with toks:=s.toks+1 }):PySem.wpAny (model prog w) A (call (.type "bytes") [.ref a]) Q E s:=by
 have hT:s.TypeIs (.ref a) "bytearray":=(mEA o ho hc)
 refine callType_codes (Q₁:=fun obj s₁=>s₁.TypeIs obj "bytes"∧Q obj s₁) F.bm_called (F.bm_typeCall _) F.entry_object_init ?_ fun obj s₁ hF=>?_
 ·refine PySem.codeAny_of_tree ?_
  show PySem.wpAny _ A.in1.in1 (do checkBuiltinCall "bytes.__new__" ⟨[.type "bytes",.ref a],[]⟩; again (.builtin "bytes.__new__" ⟨[.type "bytes",.ref a],[]⟩)) _ _ s
  refine PySem.wpAny_bind (wpAny_of_eq (F.bm_newCall _) (PySem.wpAny_pure ⟨plainId_quiet F.bm_plain _,PySem.codeAny_builtin F.bm_entry ?_⟩))
  rw [Around.under_plainId F.bm_plain _]
  unfold Builtin.«bytes.__new__»
  refine PySem.wpAny_bind (wpAny_of_eq (a:=true) rfl ?_)
  refine bm_if_false rfl ?_
  refine PySem.wpAny_bind (wpAny_of_eq F.bm_sub ?_)
  refine bm_if_false rfl ?_
  refine PySem.wpAny_bind (wpAny_of_eq (F.bm_bind _) ?_)
  refine PySem.wpAny_bind (wpAny_of_eq (a:=()) rfl ?_)
  refine PySem.wpAny_bind (wpAny_of_eq (a:=()) rfl ?_)
  refine bm_if_false rfl ?_
  refine PySem.wpAny_bind (wpAny_specialOf hT FB.a_bytes ?_)
  refine PySem.wpAny_bind (PySem.wpAny_bind ?_)
  show PySem.wpAny _ _ (load a >>= _) _ _ _
  refine PySem.wpAny_bind (PySem.wpAny_load ho ?_)
  rw [hd]
  refine PySem.wpAny_pure (PySem.wpAny_pure ?_)
  refine bm_if_false rfl ?_
  refine PySem.wpAny_bind (wpAny_specialOf hT FB.a_index ?_)
  refine bm_if_true rfl ?_
  first
   | show PySem.wpAny _ _ (Builtin.Bytes.buffer? "bytes.__new__" (.ref a) true >>= _) _ _ _
   | (refine PySem.wpAny_bind ?_; show PySem.wpAny _ _ (Builtin.Bytes.buffer? "bytes.__new__" (.ref a) true >>= _) _ _ _)
  refine PySem.wpAny_bind (zic ho hc hd ?_)
  refine PySem.wpAny_bind (PySem.wpAny_rule ?_)
  refine PySem.wpAny_bind (wpAny_mkBytes ?_ hz)
  show PySem.wpAny _ _ (if (Value.type "bytes" == Value.type "bytes")=true then _ else _) _ _ _
  refine bm_if_true (by decide) ?_
  first
   | exact PySem.wpAny_pure ⟨PySem.W.typeIs_bytes _ _ _,q⟩
   | exact PySem.wpAny_bind (PySem.wpAny_pure (PySem.wpAny_pure ⟨PySem.W.typeIs_bytes _ _ _,q⟩))
 ·exact ⟨hF.1,F.args_object_init_2 obj _,object_init_meets F.bm_called.init.lookup F.bm_called.made (by decide) prog w A.in1 _ s₁ ⟨hF.1,rfl,hF.2⟩⟩
end
end Mine
end
section
open PySem PySem.W PyProof.Rows PySem.Calls
namespace Mine
section
theorem zhk (G:Gd W frs H s.heap) (hs:W.base.objs.size<=s.heap.objs.size) {ao:AObj} {ob:Obj} {h':Heap} (k:∀ b o,s.heap.get? b=some o->h'.get? b=some o) (ho:h'.get? s.heap.objs.size=some ob)
  (r:RepO W.prog W.w W.clsA (W.D (H.set s.heap.objs.size ao)) h' ao ob):Step W frs H s (H.set s.heap.objs.size ao) { s with heap:=h' }:=by
 have hlt:∀ b o,s.heap.get? b=some o->b≠s.heap.objs.size:=fun b o e q=>absurd (Heap.lt_size e) (by rw [q]; exact Nat.lt_irrefl _)
 have kv:KeepV (W.D H) s.heap (W.D (H.set s.heap.objs.size ao)) h':=fun b o e nd _=>⟨⟨o.slots,k b o e⟩,zf4 nd (hlt b o e)⟩
 refine ⟨⟨⟨fun b o e=>k _ _ (G.rp.1 b o e),fun a o e=>?_⟩,fun L hL=>?_,(G.keeps k).ff,fun a p=>?_,G.fp⟩,⟨fun b o e _ _ _=>k _ _ e,fun b o e _ _ _=>⟨o.slots,k _ _ e⟩,fun b o e nh=>?_,fun b o e _=>⟨o,k _ _ e⟩⟩,rfl,rfl⟩
 ·by_cases q:a=s.heap.objs.size
  ·subst q
   rw [za] at e; cases e
   exact mAEA hs ob ho r
  ·rw [zf _ _ q] at e
   refine oAEA (G.rp.2 a o e) fun g1 ob' g2 g3=>?_
   exact mAEA g1 ob' (k _ _ g2) (RepO.keeps kv o ob' g3)
 ·refine oAEA (G.ff.mem hL) fun _ o ho _=>?_
  rw [zf _ _ (hlt L o ho)]; exact G.apart L hL
 ·refine oAE (G.pv a p) fun n o e=>?_
  exact mAE ((zf _ _ (hlt a o e)).trans n) o (k _ _ e)
 ·rw [zf _ _ (hlt b o e)]; exact nh
theorem zln (P:Pr W lev A frs s H) {a:Addr} {b:List UInt8} (h:H a=some (.barr b)):∃ ob,s.heap.get? a=some ob∧ob.cls=.type "bytearray"∧ob.data=.bytearray b.toArray 0:=by
 refine ziy (P.gd.rp.2 _ _ h) fun _ ob g2 c1 _ c3=>?_
 exact mEAA ob g2 c1 c3
theorem abs1 {D:Addr->Prop} {h:Heap} {v:V} {xs:List Value} (a:AbsL W.clsA D h [v] xs):∃ y,xs=[y]/\Abs W.clsA D h v y:=by
 obtain ⟨y,ys,rfl,a1,a⟩:=a
 subst a
 exact mEA y rfl a1
theorem abs2 {D:Addr->Prop} {h:Heap} {v u:V} {xs:List Value} (a:AbsL W.clsA D h [v,u] xs):∃ y z,xs=[y,z]/\Abs W.clsA D h v y/\Abs W.clsA D h u z:=by
 obtain ⟨y,ys,rfl,a1,a⟩:=a
 refine oEA (abs1 a) fun z yB a2=>?_; obtain rfl:=yB
 exact zn y z rfl a1 a2
theorem sBcall (P:Pr W lev A frs s H) {f:BFn} {vs:List V} {xs:List Value} (hf:f≠.isInt/\f≠.isBool) (ha:AbsL W.clsA (W.D H) s.heap vs xs) (h:WBcall H Q f vs):wpAny W.M A (call (bval f) xs) (EPost W frs H s Q) E s:=by
 induction h using WBcall.casesOn with
 | lenStr h q=>refine oEA (abs1 ha) fun y yB a=>?_; obtain rfl:=yB; exact lift (zlP P a h q)
 | lenBytes h q=>refine oEA (abs1 ha) fun y yB a=>?_; obtain rfl:=yB; exact lift (zi6 P a h q)
 | lenList h hl q=>refine oEA (abs1 ha) fun y yB a=>?_; obtain rfl:=yB; exact lift (zkv P a h hl q)
 | @lenBarr b l h hl q =>
  refine oEA (abs1 ha) fun y yB a=>?_; obtain rfl:=yB
  obtain rfl:=zI a
  refine oEAA (zln P h) fun ob o1 o2 o3=>?_
  have hl:l.length<=1000000:=hl
  refine lift (len_ba o1 o2 o3 (by rw [List.size_toArray]; exact #[0x7bcedcd88804113ec99880411,_] hl) ?_)
  rw [List.size_toArray]
  exact endT P.gd _ (zh _ _) q
 | max2 q=>refine zd (abs2 ha) fun y z yC a1 a2=>?_; obtain rfl:=yC; obtain ⟨t,rfl⟩:=zg a1; obtain ⟨t',rfl⟩:=zg a2; exact lift (sMax2 P q)
 | min2 q=>refine zd (abs2 ha) fun y z yC a1 a2=>?_; obtain rfl:=yC; obtain ⟨t,rfl⟩:=zg a1; obtain ⟨t',rfl⟩:=zg a2; exact lift (sMin2 P q)
 | max h q=>refine oEA (abs1 ha) fun y yB a=>?_; obtain rfl:=yB; exact lift (sMax P a h q)
 | min h q=>refine oEA (abs1 ha) fun y yB a=>?_; obtain rfl:=yB; exact lift (sMin P a h q)
 | sum h q=>refine oEA (abs1 ha) fun y yB a=>?_; obtain rfl:=yB; exact lift (sSum P a h q)
 | list h hl q=>refine oEA (abs1 ha) fun y yB a=>?_; obtain rfl:=yB; exact lift (sList1 P a h hl q)
 | bytesB q=>refine oEA (abs1 ha) fun y yB a=>?_; obtain rfl:=yB; obtain ⟨t,rfl⟩:=zX a; exact lift (zfh (end0 P.gd (za8 _ _) q))
 | bytesL hl h q=>refine oEA (abs1 ha) fun y yB a=>?_; obtain rfl:=yB; exact lift (zlR P a rfl hl h q)
 | bytesA h hl q =>
  refine oEA (abs1 ha) fun y yB a=>?_; obtain rfl:=yB
  obtain rfl:=zI a
  refine oEAA (zln P h) fun ob o1 o2 o3=>?_
  exact lift (zjt o1 o2 o3 (by rw [List.size_toArray]; exact zE hl) (endT P.gd _ (za8 _ _) q))
 | bytearray q =>
  subst ha
  refine zgG fun h' k ho _=>?_
  exact endR (zhk P.gd P.size (ao:=.barr []) k ho ⟨rfl,rfl,rfl⟩) (zcc _) (q _ (zQ P.gd))
 | sortP h2 h64 hn q=>refine oEA (abs1 ha) fun y yB a=>?_; obtain rfl:=yB; exact lift (zhe P a rfl h2 h64 hn q)
 | sortD h h64 q=>refine oEA (abs1 ha) fun y yB a=>?_; obtain rfl:=yB; obtain rfl:=zI a; exact lift (zhY P h h64 q)
 | isInt=>exact absurd rfl hf.1
 | isBool=>exact absurd rfl hf.2
end
namespace FB
theorem plainAttrs_ba:PlainAttrs "bytearray" :=
 ⟨(mEA ("bytearray.__getattribute__") (by rw [typeLookup_type,builtinLookup_eq_fast]; kernel_rfl) (by rw [PySem.W.Fast.canonicalQ_eq]; decide +kernel)),by rw [typeLookup_type,builtinLookup_eq_fast]; kernel_rfl⟩
theorem type_ba_append:typeOf (.builtin "bytearray.append")=pure (.type "method_descriptor"):=by show builtinType _=_; rw [builtinType_eq_fast]; kernel_rfl
end FB
theorem zeB:∀ (rest:List (List Nat)) (acc:Array Nat),(rest.map fun l=>(⟨l.toArray⟩:Str)).foldl (fun acc p=>acc++(⟨[].toArray⟩:Str).cps++p.cps) acc=acc++rest.flatten.toArray
 | [],acc=>by simp
 | l::r,acc=>by
  rw [List.map_cons,List.foldl_cons,zeB r]
  simp
theorem zkj (ss:List (List Nat)):Txt.join ⟨[].toArray⟩ (ss.map fun l=>(⟨l.toArray⟩:Str))=⟨ss.flatten.toArray⟩:=by
 show Builtin.Str.glued _ _=_
 unfold Builtin.Str.glued
 induction ss using List.casesOn with
 | nil=>rfl
 | cons l r=>rw [List.map_cons,List.drop_one,List.tail_cons,List.headD_cons,zeB]; simp
theorem zgY {clsA:Cls->Addr} {D:Addr->Prop} {h:Heap} {ss:List (List Nat)} {xs:List Value} (e:AbsL clsA D h (ss.map V.str) xs):StrsAre xs (ss.map fun l=>(⟨l.toArray⟩:Str)):=by
 induction ss using List.rec generalizing xs with
 | nil=>obtain rfl:xs=[]:=e; exact .nil
 | cons n ns ih =>
  refine zd e fun y ys yC h1 h2=>?_; obtain rfl:=yC
  obtain ⟨t,rfl⟩:=h1
  exact .cons _ t (ih h2)
theorem zgu:∀ (ss:List (List Nat)),((ss.map fun l=>(⟨l.toArray⟩:Str)).map (·.length)).sum=ss.flatten.length
 | []=>rfl
 | l::r=>by
  rw [List.map_cons,List.map_cons,List.sum_cons,zgu r,List.flatten_cons,List.length_append]; rfl
section
theorem zmA (P:Pr W lev A frs s H) {a:Addr} {xs:List V} {v:V} {y:Value} (hl:H a=some (.list xs)) (hz:xs.length<=big) (hv:Abs W.clsA (W.D H) s.heap v y) (q:Q .none (H.set a (.list (xs++[v])))) :
  PySem.wpAny W.M A (call (.builtin "list.append") [.ref a,y]) (EPost W frs H s Q) E s:=by
 refine zam (zaX P hl) fun ob items n ho hc hd hdat al=>?_
 have hsz:items.toArray.size<=sizeLine:=by rw [List.size_toArray,al.length]; exact zE hz
 refine wpAny_call_entry slot_list_append (mEA ob ho hc) entry_list_append ?_ (args_list_append _ _)
 show PySem.wpAny _ _ (updateSeq a (·.push y) >>= fun _=>ret .none) _ _ s
 refine PySem.wpAny_bind (wpAny_updateSeq ho hdat (PySem.wpAny_pure (mEA .none rfl ?_)) hsz (by rw [Array.size_push]; exact #[0x10511041115411,_,sizeLine] hsz))
 have kp:KeepV (W.D H) s.heap (W.D (H.set a (.list (xs++[v])))) (s.heap.update a (Obj.mapSeq (·.push y))):=zby hl fun b hb=>Heap.get?_update_other _ _ (Ne.symm hb)
 exact endR (zbm P hl ho hc hd hdat (items':=items++[y]) (tk:=s.toks) (by simp) (AbsL.append (AbsL.keeps kp _ _ al) (AbsL.cons (Abs.keeps kp _ _ hv) AbsL.nil))) zO q
theorem zlW (P:Pr W lev A frs s H) {a:Addr} {xs:List V} {i:Int} {t:Tok} {v:V} {y:Value} (hl:H a=some (.list xs)) (h0:0<=i) (h1:i < 2 ^ 62) (hz:xs.length<=big) (hv:Abs W.clsA (W.D H) s.heap v y) (q:Q .none (H.set a (.list (xs.take i.toNat++v::xs.drop i.toNat)))) :
  PySem.wpAny W.M A (call (.builtin "list.insert") [.ref a,.int i t,y]) (EPost W frs H s Q) E s:=by
 refine zam (zaX P hl) fun ob items n ho hc hd hdat al=>?_
 have hsz:items.toArray.size<=sizeLine:=by rw [List.size_toArray,al.length]; exact zE hz
 refine wpAny_call_entry PySem.F.slot_list_insert (mEA ob ho hc) PySem.F.entry_list_insert ?_ (PySem.F.args_list_insert_3 _ _ _)
 unfold Builtin.«list.insert»
 refine PySem.wpAny_bind (PySem.wpAny_pure (a:=(Value.ref a,[Value.int i t,y])) ?_)
 refine PySem.wpAny_bind (PySem.wpAny_pure (a:=i) ?_)
 have hfit:(!Builtin.List.listFitsIndex i)=false:=by rw [fitsIndex_of h0 (Int.lt_trans h1 (by decide))]; rfl
 rw [hfit]
 have e:∀ f:Array Value->Array Value,f items.toArray=(items.take i.toNat++y::items.drop i.toNat).toArray->(f items.toArray).size<=sizeLine+1:=fun f hf=>by
  rw [hf,List.size_toArray,List.length_append,List.length_cons,List.length_take,List.length_drop]
  rw [List.size_toArray] at hsz
  exact #[0x105110817111008364244614681345147364246734614515411,_,sizeLine,_,_,_] hsz (minO _ _) (subO _ _)
 have hf:(fun xs:Array Value=>have k:=if i < 0 then (i+((xs.size:Nat):Int)).toNat else min i.toNat xs.size; (xs.extract 0 k).push y++xs.extract k xs.size) items.toArray=(items.take i.toNat++y::items.drop i.toNat).toArray:=by
  dsimp only
  rw [if_neg (Int.not_lt.mpr h0)]
  apply Array.toList_inj.mp
  simp only [Array.toList_append,Array.toList_push,Array.toList_extract,List.size_toArray,List.extract_eq_take_drop,List.drop_zero,Nat.sub_zero]
  by_cases hle:i.toNat<=items.length
  ·rw [Nat.min_eq_left hle,List.take_of_length_le (l:=items.drop i.toNat) (by simp)]
   simp
  ·rw [Nat.min_eq_right (by exact #[0x451154161,_,_] hle),List.take_of_length_le (l:=items) (i:=i.toNat) (by exact #[0x451154161,_,_] hle),List.drop_eq_nil_of_le (as:=items) (i:=i.toNat) (by exact #[0x451154161,_,_] hle)]
   simp
 refine PySem.wpAny_bind (wpAny_updateSeq ho hdat (PySem.wpAny_pure (mEA .none rfl ?_)) hsz (e (fun xs:Array Value=>have k:=if i < 0 then (i+((xs.size:Nat):Int)).toNat else min i.toNat xs.size; (xs.extract 0 k).push y++xs.extract k xs.size) hf))
 have kp:KeepV (W.D H) s.heap (W.D (H.set a (.list (xs.take i.toNat++v::xs.drop i.toNat)))) (s.heap.update a (Obj.mapSeq (fun xs:Array Value=>have k:=if i < 0 then (i+((xs.size:Nat):Int)).toNat else min i.toNat xs.size; (xs.extract 0 k).push y++xs.extract k xs.size))):=zby hl fun b hb=>Heap.get?_update_other _ _ (Ne.symm hb)
 exact endR (zbm P hl ho hc hd hdat (tk:=s.toks) hf (AbsL.append ((AbsL.keeps kp _ _ al).take _) (AbsL.cons (Abs.keeps kp _ _ hv) ((AbsL.keeps kp _ _ al).drop _)))) zO q
theorem zk1 (P:Pr W lev A frs s H) {v:V} {x:Value} {i:Int} {t:Tok} {ns:List Int} (ha:Abs W.clsA (W.D H) s.heap v x) (hv:IntsOf H v ns) (hz:ns.length<=big) (hm:i∈ns) (q:Q (.int (ns.idxOf i)) H) :
  PySem.wpAny W.M A (call (.builtin "list.index") [x,.int i t]) (EPost W frs H s Q) E s:=by
 refine zd (zat P.gd ha hv) fun b items yC yD al=>?_; obtain rfl:=yC; refine zll yD fun o ho hc hd n hdat=>?_
 have hI:IntsAre items ns:=al.ints
 have hlen:items.length=ns.length:=hI.length
 have at_:∀ k (hk:k < items.length),∃ u,items[k]=.int (ns.getD k 0) u:=fun k hk=>by
  have:=(zb2 (clsA:=W.clsA) (D:=fun _=>True) (h:=s.heap) hI).get (i:=k) (v:=.int (ns.getD k 0)) (by rw [List.getElem?_map,List.getElem?_eq_getElem (by exact #[0x562146215431,_,_,_] hlen hk),List.getD_eq_getElem?_getD,List.getElem?_eq_getElem (by exact #[0x562146215431,_,_,_] hlen hk)]; rfl)
  refine oEA this fun y h1 h2=>?_
  obtain ⟨u,rfl⟩:=zg h2
  rw [List.getElem?_eq_getElem hk] at h1
  exact ⟨u,Option.some.inj h1⟩
 have hj:ns.idxOf i < ns.length:=List.idxOf_lt_length_of_mem hm
 have hbig:big=1000000:=rfl
 have e:o={ cls:=.type "list",dict:=none,data:=.seq items.toArray n,slots:=o.slots }:=by
  obtain ⟨c,d,dt,sl⟩:=o; subst hc; subst hd; subst hdat; rfl
 refine call_meets PySem.F.slot_list_index (mEA o ho hc) PySem.F.entry_list_index (PySem.F.args_list_index_2 _ _) (PySem.SeqAt.list_indexAt b items.toArray n none o.slots (.int i t) (fun y=>match y with | .int k _=>k == i | _=>false) (ns.idxOf i) (by rw [List.size_toArray]; exact #[0x462156215431,_,_,_] hlen hj) (Int.lt_of_le_of_lt (Int.ofNat_le.mpr (show _<=1000000 from Nat.le_trans (Nat.le_of_lt hj) hz)) (by decide)) ?_ fun m hm1 hm2=>?_) ⟨by rw [<- e]; exact ho,fun y hy=>?_,?_⟩
 ·obtain ⟨u,hu⟩:=at_ (ns.idxOf i) (by exact #[0x462156215431,_,_,_] hlen hj)
  rw [List.getElem_toArray,hu]
  dsimp only
  rw [List.getD_eq_getElem?_getD,List.getElem?_eq_getElem hj,Option.getD_some,List.getElem_idxOf]
  simp
 ·have hm3:m < items.length:=by simpa using hm1
  obtain ⟨u,hu⟩:=at_ m hm3
  rw [List.getElem_toArray,hu]
  dsimp only
  rw [List.getD_eq_getElem?_getD,List.getElem?_eq_getElem (by exact #[0x562146215421,_,_,_] hj hm2),Option.getD_some]
  have:=List.not_of_lt_findIdx (p:=(· == i)) (xs:=ns) (i:=m) (by exact hm2)
  simpa using this
 ·have hy':y∈items:=by simpa using hy
  obtain ⟨k,hk,rfl⟩:=List.getElem_of_mem hy'
  obtain ⟨u,hu⟩:=at_ k hk
  rw [hu]
  exact (MeetsSeq.EqGives.int _ _ _ _).at _ _
 ·exact endT P.gd _ (zh _ _) q
theorem mGet (P:Pr W lev A frs s H) {a:Addr} {kvs:List (Int×V)} {k:Int} {t:Tok} {d:V} {y:Value} (hl:H a=some (.dict kvs)) (hv:Abs W.clsA (W.D H) s.heap d y) (q:Q ((dget kvs k).getD d) H) :
  PySem.wpAny W.M A (call (.builtin "dict.get") [.ref a,.int k t,y]) (EPost W frs H s Q) E s:=by
 refine oEA (dictAt P hl) fun xs hD hkv=>?_
 refine call_meetsIn PySem.F.slot_dict_get hD.typeIs PySem.F.entry_dict_get (PySem.F.args_dict_get_3 _ _ _) (meets_dict_get_default (intKind W.prog W.w) a (intKind_is _ _ k t) (P.notSys hl) y) (mEA _ hD.mapOf ?_)
 refine endT P.gd _ ?_ q
 have:=zhP k hkv
 cases e:dget kvs k with
 | none=>rw [this.2 e]; exact hv
 | some v=>refine oEA (this.1 v e) fun z h1 h2=>?_; rw [h1]; exact h2
theorem mJoin (P:Pr W lev A frs s H) {x y:Value} {ss:List (List Nat)} (hx:Abs W.clsA (W.D H) s.heap (.str []) x) (ha:Abs W.clsA (W.D H) s.heap (.lst (ss.map V.str)) y) (h1:ss.length<=big) (h2:ss.flatten.length<=big) (q:Q (.str ss.flatten) H) :
  PySem.wpAny W.M A (call (.builtin "str.join") [x,y]) (EPost W frs H s Q) E s:=by
 obtain ⟨t,rfl⟩:=zbd hx
 refine zd (zat P.gd ha rfl) fun b items yC o al=>?_; obtain rfl:=yC
 have hbig:big=1000000:=rfl
 refine join_list (zk o) (zgY al) ?_ fun t' k=>?_
 ·rw [zgu,List.length_map]
  show _+ss.length*0<=_
  exact #[0x188888888060341113ec998805315411,_,big,_] h2 hbig
 ·rw [zkj]
  exact endT P.gd _ (zbD _ _) q
end
noncomputable def allMn:List MName:=[.append,.insert,.index,.get,.join,.bit,.bits,.peek,.skip,.left,.read,.enter,.cost,.write,.code,.size,.done]
theorem MName.mem (a:MName):a∈allMn:=List.mem_of_getElem? (i:=a.ctorIdx) (by induction a using MName.casesOn <;> rfl)
theorem mn_at (nm:MName) (k:At):k.str≠nm.str:=by
 have z:(allMn.all fun a=>allAt.all fun b=>b.str != a.str)=true:=by decide +kernel
 exact bne_iff_ne.mp (List.all_eq_true.mp (List.all_eq_true.mp z nm nm.mem) k k.mem)
theorem zfT {k nm:Str} {t:Tok} (h:k≠nm):(Value.str k t).isStr nm=false:=by
 unfold Value.isStr
 simpa using h
section
variable {fnA:Fn->Addr}
theorem zmc {D:Addr->Prop} {h:Heap} (nm:MName) {fs:List (At×V)} {es:List DictEntry} (a:AbsF W.clsA D h fs es):es.find? (·.key.isStr nm.str)=none:=by
 induction fs using List.rec generalizing es with
 | nil=>cases (show es=[] from a); rfl
 | cons p r ih =>
  refine zu a fun e ys yC yD a1 a2=>?_; obtain rfl:=yC; obtain ⟨t,hk⟩:=yD
  rw [List.find?_cons,hk,zfT (mn_at nm p.1)]
  exact ih a2
theorem ziW (P:Pr W lev A frs s H) {a:Addr} {bs:List UInt8} {i:Nat} {t:Tok} (hl:H a=some (.barr bs)) (h1:i < 256) (hz:bs.length<=big) (q:Q .none (H.set a (.barr (bs++[UInt8.ofNat i])))) :
  wpAny W.M A (call (.builtin "bytearray.append") [.ref a,.int (Int.ofNat i) t]) (EPost W frs H s Q) E s:=by
 refine ziy (P.gd.rp.2 _ _ hl) fun _ ob g2 c1 cd c3=>?_
 have hbig:big=1000000:=rfl
 refine zmI g2 c1 c3 (Int.natCast_nonneg i) (Int.ofNat_lt.mpr h1) (by rw [List.size_toArray,sizeLine_eq]; exact #[0x18888888801041113ec998805315411,_,_] hz hbig) ?_
 have hu:=Heap.get?_update_self (Obj.mapBytearray (·.push (Int.ofNat i).toNat.toUInt8)) g2 (by obtain ⟨c,d,dt,sl⟩:=ob; subst c3; rfl)
 refine endR (Step.put P.gd hl (tk:=s.toks) hu (fun b hb=>Heap.get?_update_other _ _ (Ne.symm hb)) ?_) zO q
 obtain ⟨c,d,dt,sl⟩:=ob
 subst c1; subst cd; subst c3
 refine ⟨rfl,rfl,?_⟩
 show Data.bytearray _ 0=Data.bytearray _ 0
 simp
theorem zeq {x f:Value} {first:List Value} {nm:Str} {es:List Expr} {o:Expr} {apos pos:Pos} {Q E:Value->Shared->Prop} {P:Heap->Prop} (hpos:(apos.endLine == pos.line)=true) (hlen:es.length < 29) (hp:es.all plainArg=true)
  (hg:∀ (pl:Sem Bool) (Q':Value×List Value->Shared->Prop),Q' (f,first) s->PySem.wpAny W.M A (getMethod x nm pl) Q' E s)
  (hk:∀ h,P h->∃ k,(k=Keeper.frame∨k=Keeper.machine∨k=Keeper.boundFrame)/\Looks W.M h (keeperOf f) k)
  (h:wpAny W.M A (spliced (backTo pos (starEach es env))) (fun vs s₁=>P s₁.heap/\wpAny W.M A (call f (first++vs)) Q E s₁) E s) :
  wpAny W.M A (methodCall o nm apos pos env x (es.length+0) (backTo pos (starEach es env)) (backToKw pos (keywordEach [] env))) Q E s:=by
 have hform:methodCallForm (es.length+0) (backTo pos (starEach es env)) (backToKw pos (keywordEach [] env))=true:=by
  unfold methodCallForm
  have h1:=zaS pos hp (env:=env)
  have h2:(backTo pos (starEach es env)).all (fun x=>!x.1)=true:=by
   rw [<- List.not_any_eq_all_not,h1]; rfl
  have h3:keywordEach [] env=[]:=rfl
  rw [h2,h3]
  show (true&&true&&decide (es.length+0+0 < 30))=true
  simp; exact #[0x3e04213d0421,_] hlen
 unfold methodCall
 rw [hform]
 refine wpAny_bind (wpAny_holding (lift (hg _ _ ?_)))
 have e2:methodCallPos true o env apos pos=pure pos:=by unfold methodCallPos; rw [hpos]; rfl
 show wpAny _ _ (methodCallPos true o env apos pos >>= fun callPos=>callWith callPos f first _ _) _ _ _
 rw [e2]
 exact wpAny_bind (wpAny_pure (zaN hp hk h))
noncomputable def idOf:MK->MName->String×String
 | .list,.append=>("list","list.append")
 | .list,.insert=>("list","list.insert")
 | .list,_=>("list","list.index")
 | .barr,_=>("bytearray","bytearray.append")
 | .dict,_=>("dict","dict.get")
 | .lst,_=>("list","list.index")
 | _,_=>("str","str.join")
noncomputable def MK.blt:MK->Bool
 | .user=>false
 | _=>true
structure MethI (s:Shared) (x:Value) (nm:Str) (p:String×String):Prop where
 ty:s.TypeIs x p.1
 pa:PlainAttrs p.1
 sl:Slot p.1 nm p.2
 td:typeOf (.builtin p.2)=pure (.type "method_descriptor")
 nd:∀ a,x=.ref a->∃ o,s.heap.get? a=some o/\o.dict=none
 kp:keeperOf (.builtin p.2)=pure Keeper.machine
theorem lstI (P:Pr W lev A frs s H) {x:Value} {a:Addr} {xs:List V} (ha:Abs W.clsA (W.D H) s.heap (.ref a) x) (hA:H a=some (.list xs)):s.TypeIs x "list"∧∀ b,x=.ref b→∃ o,s.heap.get? b=some o∧o.dict=none:=by
 obtain rfl:=zI ha
 refine zam (zaX P hA) fun ob items n' ho hcl hd hdat al=>?_
 exact ⟨(mEA ob ho hcl),fun a e=>by cases e; exact (mEA ob ho hd)⟩
theorem methI (P:Pr W lev A frs s H) {v:V} {x:Value} {nm:MName} {κ:MK} (ha:Abs W.clsA (W.D H) s.heap v x) (hok:MOk H v nm κ) (hb:κ.blt=true):MethI s x nm.str (idOf κ nm):=by
 induction hok using MOk.casesOn with
 | user=>exact absB hb
 | append hA=>exact ⟨(lstI P ha hA).1,PySem.F.plainAttrs_list,slot_list_append,type_list_append,(lstI P ha hA).2,rfl⟩
 | insert hA=>exact ⟨(lstI P ha hA).1,PySem.F.plainAttrs_list,PySem.F.slot_list_insert,PySem.F.type_list_insert,(lstI P ha hA).2,rfl⟩
 | index hA=>exact ⟨(lstI P ha hA).1,PySem.F.plainAttrs_list,PySem.F.slot_list_index,PySem.F.type_list_index,(lstI P ha hA).2,rfl⟩
 | push hA =>
  refine ziy (P.gd.rp.2 _ _ hA) fun _ ob g2 c1 cd c3=>?_
  obtain rfl:=zI ha
  exact ⟨(mEA ob g2 c1),FB.plainAttrs_ba,FB.slot_append,FB.type_ba_append,fun a e=>by cases e; exact (mEA ob g2 cd),rfl⟩
 | get hA =>
  refine oEA (dictAt P hA) fun ps hD hkv=>?_
  obtain rfl:=zI ha
  exact ⟨hD.typeIs,PySem.F.plainAttrs_dict,PySem.F.slot_dict_get,PySem.F.type_dict_get,hD.mapOf.noDict,rfl⟩
 | @lst xs =>
  refine zd (zat P.gd ha (vs:=xs) rfl) fun b items yC yD al=>?_; obtain rfl:=yC; refine zdw yD fun ob ho hcl hd hdat=>?_
  exact ⟨(mEA ob ho hcl),PySem.F.plainAttrs_list,PySem.F.slot_list_index,PySem.F.type_list_index,fun a e=>by cases e; exact (mEA ob ho hd),rfl⟩
 | join =>
  obtain ⟨t,rfl⟩:=zbd ha
  exact ⟨typeIs_str _ _ _,PySem.F.plainAttrs_str,PySem.F.slot_str_join,PySem.F.type_str_join,fun a e=>(nomatch e),rfl⟩
theorem methC (P:Pr W lev A frs s H) {v:V} {x:Value} {nm:MName} {κ:MK} {vs:List V} {ys:List Value} (ha:Abs W.clsA (W.D H) s.heap v x) (al:AbsL W.clsA (W.D H) s.heap vs ys) (hb:κ.blt=true) (q:WMeth H Q S X κ v nm vs) :
  wpAny W.M A (call (.builtin (idOf κ nm).2) (x::ys)) (EPost W frs H s Q) (XPost W frs H s X) s:=by
 induction q using WMeth.casesOn with
 | user=>exact absB hb
 | append h hl q=>obtain rfl:=zI ha; refine oEA (abs1 al) fun y yB b1=>?_; obtain rfl:=yB; exact lift (zmA P h hl b1 q)
 | insert h hi hl q =>
  obtain rfl:=zI ha
  refine zd (abs2 al) fun y z yC b1 b2=>?_; obtain rfl:=yC
  obtain ⟨t,rfl⟩:=zg b1
  exact lift (zlW P h (Int.natCast_nonneg _) (Int.ofNat_lt.mpr hi) hl b2 q)
 | index h hl hk q =>
  refine oEA (abs1 al) fun y yB b1=>?_; obtain rfl:=yB
  obtain ⟨t,rfl⟩:=zg b1
  exact lift (zk1 P ha (by show (match H _ with | some (.list xs)=>some xs | _=>none)=_; rw [h]) hl hk q)
 | indexL hl hk q =>
  refine oEA (abs1 al) fun y yB b1=>?_; obtain rfl:=yB
  obtain ⟨t,rfl⟩:=zg b1
  exact lift (zk1 P ha rfl hl hk q)
 | push h hn hl q =>
  obtain rfl:=zI ha
  refine oEA (abs1 al) fun y yB b1=>?_; obtain rfl:=yB
  obtain ⟨t,rfl⟩:=zg b1
  exact ziW P h hn hl q
 | get h q =>
  obtain rfl:=zI ha
  refine zd (abs2 al) fun y z yC b1 b2=>?_; obtain rfl:=yC
  obtain ⟨t,rfl⟩:=zg b1
  exact lift (mGet P h b2 q)
 | join h1 h2 q =>
  refine oEA (abs1 al) fun y yB b1=>?_; obtain rfl:=yB
  exact lift (mJoin P ha b1 h1 h2 q)
inductive UserP (H:AH) (nm:MName):V->MK->Prop
 | mk {c:Cls} {a dx:Addr} {f:Fn} {fs:List (At×V)} (u:userFn c nm=some f) (h:H dx=some (.fields fs)):UserP H nm (.inst c a dx) .user
theorem zjJ {v:V} {nm:MName} {κ:MK} (hok:MOk H v nm κ) (hb:κ.blt=false):UserP H nm v κ:=by
 induction hok using MOk.casesOn with
 | user h hf=>exact .mk h hf
 | _=>exact absC hb
noncomputable def UQ (S:Specs) (Q:V->AH->Prop) (X:AH->Prop) (H:AH) (vs:List V) (nm:MName):MK->V->Prop
 | .user,.inst c a dx=>∀ f,userFn c nm=some f->S f (.inst c a dx::vs) H Q X
 | _,_=>True
theorem ziw {v:V} {κ:MK} {nm:MName} {vs:List V} (q:WMeth H Q S X κ v nm vs):UQ S Q X H vs nm κ v:=by
 induction q using WMeth.casesOn with
 | user hu q=>exact fun f h=>Option.some.inj (hu.symm.trans h) ▸ q
 | _=>exact True.intro
theorem sMeth (O:Wok W fnA) (SO:SpecsOk W fnA lev S) (ih:PE W lev S n) (P:Pr W lev A frs s H) (F:Fits W frs env sc m H s.heap) {v:V} {x:Value} {nm:MName} {es:List Expr} {cs:List CE} (o:Expr) (apos pos:Pos) (hpos:(apos.endLine == pos.line)=true) (hlen:es.length < 29) (hp:es.all plainArg=true)
  (hc:mapO (sc.ce n) es=some cs) (ha:Abs W.clsA (W.D H) s.heap v x) (h:∃ κ,MOk H v nm κ/\wpEs S X cs m H fun vs H'=>WMeth H' Q S X κ v nm vs) :
  wpAny W.M A (methodCall o nm.str apos pos env x (es.length+0) (backTo pos (starEach es env)) (backToKw pos (keywordEach [] env))) (EPost W frs H s Q) (XPost W frs H s X) s:=by
 obtain ⟨κ,hok,h⟩:=h
 cases hb:κ.blt with
 | true =>
  have I:=methI P ha hok hb
  refine zeq (P:=fun _=>True) hpos hlen hp (fun pl Q' q=>getMethod_builtin I.ty I.pa I.sl I.td I.nd q) (fun h _=>(mEA .machine (.inr (.inl rfl)) (zcg I.kp)))
   (seqR (zeA ih P.rm pos es cs s H _ hp hc P.gd F h) fun ys vs s₁ HC st a q=>⟨trivial,?_⟩)
  exact zax st (methC ⟨P.rm,st.gd,(F.step st).size⟩ (st.abs ha) a.1 hb q)
 | false =>
  induction zjJ hok hb using UserP.casesOn with
  | @mk c a dx f fs hu hf =>
   refine zB (zif P ha hf) fun sl es' nn yD I af ho=>?_; obtain rfl:=yD
   refine oAA (O.gmeth c nm f hu) fun g1 g2 g3=>?_
   refine zeq (P:=fun h=>W.K.In h) hpos hlen hp (fun pl Q' q=>method_fn P.kin I (W.cok c).ga (W.cok c).hk g1 g2 ?_ q) (fun h X=>keeps_K g3 h X)
    (seqR (zeA ih P.rm pos es cs s H _ hp hc P.gd F h) fun ys vs s₁ HC st b q=>⟨fun b o e=>st.gd.rp.1 b o (O.kin b o e),zax st (SO f (.inst c a dx::vs) (.ref a::ys) A frs s₁ HC Q X P.rm st.gd (F.step st).size (AbsL.cons (st.abs ha) b.1) (ziw q f hu))⟩)
   unfold shadowIn
   dsimp only
   unfold lookIn
   dsimp only
   rw [zmc nm af]
   dsimp only
   rw [zir af]
   rfl
theorem sBin (P:Pr W lev A frs s H) {op:Operator} {a b:V} {x y:Value} (ha:Abs W.clsA (W.D H) s.heap a x) (hb:Abs W.clsA (W.D H) s.heap b y) (h:WBin H Q op a b) :
  wpAny W.M A (binaryOp op x y) (EPost W frs H s Q) E s:=lift (pBin P ha hb h)
theorem sRep (P:Pr W lev A frs s H) {l:Addr} {v:V} {x:Value} {u:V} {y:Value} (ha:Abs W.clsA (W.D H) s.heap v x) (hu:Abs W.clsA (W.D H) s.heap u y) (hl:s.heap.IsList l #[x]) (h:WRep H Q v u) :
  wpAny W.M A (binaryOp .Mult (.ref l) y) (EPost W frs H s Q) E s:=lift (pRep P ha hu hl h)
theorem sCmp (P:Pr W lev A frs s H) {op:CmpOp} {a b:V} {x y:Value} (ha:Abs W.clsA (W.D H) s.heap a x) (hb:Abs W.clsA (W.D H) s.heap b y) (h:WCmp H QB op a b) :
  wpAny W.M A (compareOp op x y) (RPost W frs H s BV QB) E s:=lift (pCmp P ha hb h)
theorem zmi (P:Pr W lev A frs s H) {a:V} {x:Value} (ha:Abs W.clsA (W.D H) s.heap a x) (h:WTru H QB a):wpAny W.M A (truthy x) (RPost W frs H s BR QB) E s:=lift (zmb P ha h)
theorem sSub (P:Pr W lev A frs s H) {a b:V} {x y:Value} (value slice:Expr) (hns:∀ lo hi st p,slice≠.Slice lo hi st p) (ha:Abs W.clsA (W.D H) s.heap a x) (hb:Abs W.clsA (W.D H) s.heap b y) (h:WSub H Q a b) :
  wpAny W.M A (subscriptTail value slice x y) (EPost W frs H s Q) E s:=lift (pSub P value slice hns ha hb h)
theorem zk8 {HA:AH} {sA:Shared} (st:Step W frs HA sA H s) (P:Pr W lev A frs s H) {a b c:V} {x y z:Value} (value:Expr) (lo hi:Option Expr) (p:Pos) (ha:Abs W.clsA (W.D H) s.heap a x) (hb:Abs W.clsA (W.D H) s.heap b y) (hc:Abs W.clsA (W.D H) s.heap c z) (h:WSlice H Q a b c) :
  wpAny W.M A (newFields "slice" [y,z,.none]) (fun i s₁=>wpAny W.M A (subscriptTail value (.Slice lo hi none p) x i) (EPost W frs HA sA Q) E s₁) E s:=lift (PySem.wpAny_mono (pSlice st P value lo hi p ha hb hc h) (fun _ _ z=>lift z) fun _ _ z=>z)
theorem sAttr (P:Pr W lev A frs s H) {a:V} {x:Value} {nm:At} (ha:Abs W.clsA (W.D H) s.heap a x) (h:WAttr H Q a nm):wpAny W.M A (getAttr x nm.str true) (EPost W frs H s Q) E s:=lift (pAttr P ha h)
theorem sIs (P:Pr W lev A frs s H) {f:BFn} {v:V} {x:Value} (hf:f=.isInt∨f=.isBool) (ha:Abs W.clsA (W.D H) s.heap v x) (h:WBcall H Q f [v]) :
  wpAny W.M A (call (.builtin "isinstance") [x,.type (isName f)]) (EPost W frs H s Q) E s:=lift (pIs P hf ha h)
theorem zm {α β:Type} {a:Option α} {f:α->Option β} {b:β} (h:(do let x <- a; f x)=some b):∃ x,a=some x/\f x=some b:=Option.bind_eq_some_iff.mp h
theorem zW {α β:Type} {a:Option α} {f:α->β} {b:β} (h:a.map f=some b):∃ x,a=some x/\f x=b:=Option.map_eq_some_iff.mp h
theorem Fits.pr (F:Fits W frs env sc m H s.heap) (R:Rm lev A frs) (G:Gd W frs H s.heap):Pr W lev A frs s H:=⟨R,G,F.size⟩
theorem zlM (ih:PE W lev S n) (R:Rm lev A frs) (pos:Pos) (op:BoolOp) (es:List Expr) (cs:List CE) (s:Shared) (H:AH) (Q:V->AH->Prop) (hc:mapO (sc.ce n) es=some cs) (G:Gd W frs H s.heap) (F:Fits W frs env sc m H s.heap) (h:wpBool S X (op == .And) cs m H Q) :
  wpAny W.M A (boolOp pos op (evalEach es env)) (EPost W frs H s Q) (XPost W frs H s X) s:=by
 induction es using List.rec generalizing cs s H with
 | nil=>obtain rfl:=zj hc; exact h.elim
 | cons e r ih' =>
  refine zd (zi hc) fun b bs yC hb hbs=>?_; obtain rfl:=yC
  induction r using List.casesOn with
  | nil =>
   obtain rfl:=zj hbs
   exact ih sc e b hb A frs env s m H Q X R G F h
  | cons e' r =>
   refine zd (zi (id hbs)) fun b' bs' yC _ _=>?_; obtain rfl:=yC
   have h:wpE S X b m H fun v H=>WTru H (fun c H=>(c=(op == .And)->wpBool S X (op == .And) (b'::bs') m H Q)/\(c≠(op == .And)->Q (.bool c) H)) v:=h
   refine wpAny_bind (seqR (ih sc e b hb A frs env s m H _ X R G F h) fun x v s₁ HC st a q=>?_)
   obtain ⟨q⟩:=q
   obtain rfl:=zfE a
   refine wpAny_bind (wpAny_standAt (wpAny_bind (wpAny_holding (wpAny_truthy_bool ?_))))
   have go:=fun q=>zax (X:=X) st (ih' (b'::bs') s₁ HC hbs st.gd (F.step st) q)
   induction op using BoolOp.casesOn <;> induction b_1 using Bool.casesOn
   all_goals first
    | exact go (q.1 (by decide))
    | exact wpAny_pure (endR st a (q.2 (by decide)))
theorem zae:∀ (ops:List CmpOp) (es:List Expr) (ts:List (Sem Value)),es.all notSet=true->markedEach ops es ts=ts
 | [],es,ts,_=>by unfold markedEach; rfl
 | [op],[],ts,_=>by unfold markedEach; rfl
 | [op],[e],[],_=>by unfold markedEach; rfl
 | [op],[e],[t],h=>by
  have he:behindInMarks op e=false:=by
   simp only [List.all_cons,List.all_nil,Bool.and_true] at h
   induction e using Expr.casesOn <;> first | rfl | exact absB h
  show [markedBehindIn op e t]=[t]
  unfold markedBehindIn
  rw [he]
 | [op],[e],t::t'::ts,h=>by
  show t::markedEach [] [] (t'::ts)=_
  rw [zae [] [] (t'::ts) rfl]
 | [op],e::e'::es,[],_=>by unfold markedEach; rfl
 | [op],e::e'::es,t::ts,h=>by
  have h':(e'::es).all notSet=true:=by simp only [List.all_cons,Bool.and_eq_true] at h ⊢; exact h.2
  show t::markedEach [] (e'::es) ts=_
  rw [zae [] (e'::es) ts h']
 | op::op'::ops,[],ts,_=>by unfold markedEach; rfl
 | op::op'::ops,e::es,[],_=>by unfold markedEach; rfl
 | op::op'::ops,e::es,t::ts,h=>by
  have h':es.all notSet=true:=by simp only [List.all_cons,Bool.and_eq_true] at h ⊢; exact h.2
  show t::markedEach (op'::ops) es ts=_
  rw [zae (op'::ops) es ts h']
theorem zd3 {l:V} {ops:List CmpOp} {Q:Bool->AH->Prop} (h:wpChain S X l ops [] m H Q):False:=by
 rcases ops with _ | ⟨op,_ | ⟨op',ops⟩⟩ <;> exact h
theorem zeL {l:V} {es:List CE} {Q:Bool->AH->Prop} (h:wpChain S X l [] es m H Q):False:=by induction es using List.casesOn <;> exact h
theorem zld (ih:PE W lev S n) (R:Rm lev A frs) (pos:Pos):∀ (es:List Expr) (ops:List CmpOp) (cs:List CE) (l:V) (x:Value) (s:Shared) (H:AH) (Q:Bool->AH->Prop),mapO (sc.ce n) es=some cs->Gd W frs H s.heap->Fits W frs env sc m H s.heap->Abs W.clsA (W.D H) s.heap l x ->
  wpChain S X l ops cs m H Q->wpAny W.M A (compareChain pos x ops (evalEach es env)) (RPost W frs H s BV Q) (XPost W frs H s X) s
 | [],_,_,_,_,_,_,_,hc,_,_,_,h=>by
  obtain rfl:=zj hc
  exact (zd3 h).elim
 | e::r,[],_,_,_,_,_,_,hc,_,_,_,h=>mapC (M:=(wpChain S X _ ([]) · m _ _)) hc h fun b bs hb hbs h=>(zeL h).elim
 | [e],[op],cs,l,x,s,H,Q,hc,G,F,a,h=>by
  refine mapC (M:=(wpChain S X _ ([op]) · m _ _)) hc h fun b bs hb hbs h=>?_
  obtain rfl:=zj hbs
  refine wpAny_bind (wpAny_holding (seqR (ih sc e b hb A frs env s m H _ X R G F h) fun y v s₁ HC st aC q=>?_))
  refine wpAny_bind (wpAny_standAt (wpAny_operate' ?_))
  exact zax st (sCmp ((F.step st).pr R st.gd) (st.abs a) aC q)
 | [e],op::op'::ops,_,_,_,_,_,_,hc,_,_,_,h=>mapC (M:=(wpChain S X _ (op::op'::ops) · m _ _)) hc h fun b bs hb hbs h=>by obtain rfl:=zj hbs; exact False.elim h
 | e::e'::r,[op],_,_,_,_,_,_,hc,_,_,_,h=>mapC (M:=(wpChain S X _ ([op]) · m _ _)) hc h fun b bs hb hbs h=>mapC (M:=fun cs=>wpChain S X _ ([op]) (b::cs) m _ _) hbs h fun b' bs' hb' hbs' h=>False.elim h
 | e::e'::r,op::op'::ops,cs,l,x,s,H,Q,hc,G,F,a,h=>by
  refine mapC (M:=(wpChain S X _ (op::op'::ops) · m _ _)) hc h fun b bs hb hbs h=>?_
  refine mapC (M:=fun cs=>wpChain S X _ (op::op'::ops) (b::cs) m _ _) hbs h fun b' bs' hb' hbs' h=>?_
  refine wpAny_bind (wpAny_holding (seqR (ih sc e b hb A frs env s m H _ X R G F h) fun y v s₁ HC st aC q=>?_))
  refine wpAny_bind (wpAny_standAt (wpAny_bind (wpAny_holding (zb3 st (seqR (sCmp ((F.step st).pr R st.gd) (st.abs a) aC q) fun z c sC HD stD aD qC=>?_)))))
  subst aD
  refine wpAny_bind (wpAny_release (wpAny_bind (wpAny_holding (wpAny_truthy_bool ?_))))
  induction c using Bool.casesOn with
  | true=>exact zax (st.trans stD) (zld ih R pos (e'::r) (op'::ops) (b'::bs') v y sC HD Q (zci hb' hbs') stD.gd ((F.step st).step stD) (stD.abs aC) (qC.1 rfl))
  | false=>exact wpAny_pure (endR (st.trans stD) rfl (qC.2 rfl))
theorem zF {x y:Str} (h:sc.isGlob x y=true):x=y/\sc.scope.names.lookup x=some .globalImplicit:=by
 unfold Sc.isGlob at h
 simp only [Bool.and_eq_true,beq_iff_eq] at h
 exact h
theorem zcw {x:Str} {g:G} (h:sc.glob x=some g):sc.scope.names.lookup x=some .globalImplicit/\globals.lookup x=some g:=by
 unfold Sc.glob at h
 generalize sc.scope.names.lookup x=o at h
 induction o using Option.casesOn with
 | none=>exact absN h
 | some k=>induction k using NameKind.casesOn <;> first | exact absN h | exact ⟨rfl,h⟩
theorem zbq {x:Str} {g:G} (h:globals.lookup x=some g):(x == ("__debug__" : Str))=false:=by
 cases q:x == ("__debug__" : Str) with
 | false=>rfl
 | true =>
  have:x="__debug__":=by simpa using q
  subst this
  exact absurd h (by rw [show globals.lookup ("__debug__" : Str)=none from by decide]; simp)
theorem zel {x:Str} {g:G} (h:globals.lookup x=some g):x≠"__name__":=by
 intro q; subst q
 exact absurd h (by rw [show globals.lookup ("__name__" : Str)=none from by decide]; simp)
theorem zbe {x:Str} {i:Nat} (h:sc.var x=some i) (hn:sc.names.all (· != ("__classdict__" : Str))=true):x≠"__classdict__":=by
 intro q
 have:=zai (zfU h)
 subst q
 have hm:=List.mem_of_getElem? this
 have:=List.all_eq_true.mp hn _ hm
 simp at this
theorem zU {es:List Expr} (h:okList es=true):es.all plainArg=true/\es.length<=sizeLine:=by
 unfold okList at h
 obtain ⟨a,b⟩:=Bool.and_eq_true_iff.mp h
 have:=of_decide_eq_true b
 exact ⟨a,Nat.le_trans this (by decide)⟩
theorem sList (ih:PE W lev S n) (R:Rm lev A frs) {pos:Pos} {es:List Expr} {cs:List CE} (hp:okList es=true) (hc:mapO (sc.ce n) es=some cs) (G:Gd W frs H s.heap) (F:Fits W frs env sc m H s.heap) {Q:List V->AH->Prop} (h:wpEs S X cs m H Q) :
  wpAny W.M A (eval (.List es pos) env) (fun x sC=>∃ vs xs HC s₁,Step W frs H s HC s₁∧AbsL W.clsA (W.D HC) s₁.heap vs xs∧Q vs HC∧x=.ref s₁.heap.objs.size∧sC={ s₁ with heap:=s₁.heap.push { cls:=.type "list",data:=.seq xs.toArray } }) (XPost W frs H s X) s:=by
 refine List_ (seqR (zeA ih R pos es cs s H Q (zU hp).1 hc G F h) fun xs vs s₁ HC st a q=>?_)
 exact wpAny_newList (zij vs xs HC s₁ st a.1 q rfl rfl) (by rw [a.2]; exact (zU hp).2)
theorem zgc {o:Expr} {nm:Str} {whole:Sem Value} (h:notCall o=true):attributeBase o nm env whole=whole:=by
 induction o using Expr.casesOn <;> first | rfl | exact absB h
theorem zmq:∀ {x:Str} {nm:MName},mnames.lookup x=some nm->x=nm.str:=by
 intro x nm h
 have:=List.lookup_eq_some_iff.mp h
 refine oEEA this fun l1 l2 e _=>?_
 have hm:(x,nm)∈mnames:=by rw [e]; simp
 have:∀ p∈mnames,p.1=p.2.str:=by decide
 exact this _ hm
theorem zfe:∀ {x:Str} {nm:At},ats.lookup x=some nm->x=nm.str:=by
 intro x nm h
 have:=List.lookup_eq_some_iff.mp h
 refine oEEA this fun l1 l2 e _=>?_
 have hm:(x,nm)∈ats:=by rw [e]; simp
 have:∀ p∈ats,p.1=p.2.str:=by decide
 exact this _ hm
noncomputable def bltOf (x:Str) (b:BFn):Bool:=(match b with
 | .isInt | .isBool=>false
 | _=>true)&&([("len" : Str),"max","min","sorted","sum","list","bytes","bytearray","isinstance","int","bool","range","enumerate","zip"] : List Str).contains x
def bltNow (p:Str×G):Prop:=∀ b,p.2=.blt b->bootBuiltins p.1=some (bval b)/\bltOf p.1 b=true
theorem zmd:∀ p∈globals,bltNow p:=by
 have e:∀ (x:Str) (f:Fn) (l:List (Str×G)),(∀ p∈l,bltNow p)->∀ p∈(x,G.fn f)::l,bltNow p:=fun x f l h p hp=>(List.mem_cons.mp hp).elim (fun z=>by rw [z]; exact fun b e=>(nomatch e)) (h p)
 have e2:∀ {x:Str} {b:BFn} {l:List (Str×G)},bootBuiltins x=some (bval b)->bltOf x b=true->(∀ p∈l,bltNow p)->∀ p∈(x,G.blt b)::l,bltNow p:=fun h1 h2 h p hp=>(List.mem_cons.mp hp).elim (fun z=>by rw [z]; exact fun b e=>by cases e; exact ⟨h1,h2⟩) (h p)
 unfold globals
 repeat refine e _ _ _ ?_
 refine e2 Boot.len ?_ (e2 Boot.max ?_ (e2 Boot.min ?_ (e2 Boot.sorted ?_ (e2 Boot.sum ?_ (e2 Boot.list ?_ (e2 Boot.bytes ?_ (e2 Boot.bytearray ?_ fun p hp=>(List.mem_singleton.mp hp) ▸ fun b e=>(nomatch e)))))))) <;> decide +kernel
theorem zjU {x:Str} {b:BFn} (h:globals.lookup x=some (.blt b)):bootBuiltins x=some (bval b)∧b≠.isInt∧b≠.isBool∧x∈([("len" : Str),"max","min","sorted","sum","list","bytes","bytearray","isinstance","int","bool","range","enumerate","zip"] : List Str):=by
 refine oEEA (List.lookup_eq_some_iff.mp h) fun l1 l2 e _=>?_
 obtain ⟨h1,h2⟩:=zmd (x,.blt b) (by rw [e]; exact List.mem_append_right _ (.head _)) b rfl
 obtain ⟨h2,h3⟩:=Bool.and_eq_true_iff.mp h2
 exact ⟨h1,fun z=>(by subst z; exact absB h2),fun z=>(by subst z; exact absB h2),List.contains_iff_mem.mp h3⟩
theorem zc7 (M:Model) (h:Heap) (b:BFn):∃ k,(k=Keeper.frame∨k=Keeper.machine∨k=Keeper.boundFrame)/\Looks M h (keeperOf (bval b)) k :=
 (mEA .machine (.inr (.inl rfl)) (zcg (by induction b using BFn.casesOn <;> rfl)))
theorem zlB (O:Wok W fnA) (SO:SpecsOk W fnA lev S) (ih:PE W lev S n) (R:Rm lev A frs) (G:Gd W frs H s.heap) (F:Fits W frs env sc m H s.heap) {x:Str} {np pos:Pos} {args:List Expr} {f:Fn} {cs:List CE}
  (hg:sc.glob x=some (.fn f)) (hp:args.all plainArg=true) (hc:mapO (sc.ce n) args=some cs) (h:wpEs S X cs m H fun vs H=>S f vs H Q X) :
  wpAny W.M A (eval (.Call (.Name x np) args [] pos) env) (EPost W frs H s Q) (XPost W frs H s X) s:=by
 obtain ⟨g1,g2⟩:=zcw hg
 obtain ⟨g3,g4⟩:=O.gfn x f g2
 refine wpAny_Call_ofName (zf1 O G F g1 g3 (zbq g2) ?_)
 refine zaN (P:=fun h=>W.K.In h) hp (fun h X=>keeps_K g4 h X) (seqR (zeA ih R pos args cs s H _ hp hc G F h) fun xs vs s₁ HC st a q=>⟨fun b o e=>st.gd.rp.1 b o (O.kin b o e),?_⟩)
 exact zax st (SO f vs xs A frs s₁ HC Q X R st.gd (F.step st).size a.1 q)
theorem zj1 (O:Wok W fnA) (ih:PE W lev S n) (R:Rm lev A frs) (G:Gd W frs H s.heap) (F:Fits W frs env sc m H s.heap) {x:Str} {np pos:Pos} {args:List Expr} {f:BFn} {cs:List CE}
  (hg:sc.glob x=some (.blt f)) (hp:args.all plainArg=true) (hc:mapO (sc.ce n) args=some cs) (h:wpEs S X cs m H fun vs H=>WBcall H Q f vs) :
  wpAny W.M A (eval (.Call (.Name x np) args [] pos) env) (EPost W frs H s Q) (XPost W frs H s X) s:=by
 obtain ⟨g1,g2⟩:=zcw hg
 refine oAAA (zjU g2) fun g3 g4 g5 g6=>?_
 refine wpAny_Call_ofName (zaQ O G F g1 (O.gblt x g6) g3 (zel g2) (zbq g2) ?_)
 refine zaN (P:=fun _=>True) hp (fun h _=>zc7 _ h f) (seqR (zeA ih R pos args cs s H _ hp hc G F h) fun xs vs s₁ HC st a q=>⟨trivial,?_⟩)
 exact zax st (sBcall ((F.step st).pr R st.gd) ⟨g4,g5⟩ a.1 q)
theorem pe_is (O:Wok W fnA) (ih:PE W lev S n) (R:Rm lev A frs) (G:Gd W frs H s.heap) (F:Fits W frs env sc m H s.heap) {x t:Str} {np tp pos:Pos} {e:Expr} {f:BFn} {c:CE}
  (hx:sc.isGlob x "isinstance"=true) (hf:f=.isInt∧sc.isGlob t "int"=true∨f=.isBool∧sc.isGlob t "bool"=true) (hp:plainArg e=true) (hc:sc.ce n e=some c) (h:wpE S X c m H fun v H=>WBcall H Q f [v]) :
  wpAny W.M A (eval (.Call (.Name x np) [e,.Name t tp] [] pos) env) (EPost W frs H s Q) (XPost W frs H s X) s:=by
 obtain ⟨rfl,g1⟩:=zF hx
 refine wpAny_Call_ofName (zaQ O G F g1 (O.gblt _ (by decide)) (v:=.builtin "isinstance") Boot.isinstance (by decide) (by decide) ?_)
 have hp2:[e,Expr.Name t tp].all plainArg=true:=by rw [List.all_cons,hp]; rfl
 refine zaN (P:=fun _=>True) hp2 (fun h _=>zc7 _ h .isInt) ?_
 rw [zp hp]
 refine spliced_cons (seqR (ih sc e c hc A frs env s m H _ X R G F h) fun y v s₁ HC st a q=>?_)
 have FC:=F.step st
 have tail:∀ {T:String},(∀ {Q':Value->Shared->Prop},Q' (.type T) s₁->wpAny W.M A (eval (.Name t tp) env) Q' (XPost W frs H s X) s₁)->T=isName f ->
   wpAny W.M A (spliced (backTo pos (starEach [Expr.Name t tp] env))) (fun vs s₁=>True∧wpAny W.M A (call (.builtin "isinstance") ([]++y::vs)) (EPost W frs H s Q) (XPost W frs H s X) s₁) (XPost W frs H s X) s₁:=by
  intro T hT e
  refine spliced_cons (hT (spliced_nil ⟨trivial,?_⟩))
  subst e
  exact zax st (sIs (FC.pr R st.gd) (by rcases hf with ⟨rfl,_⟩ | ⟨rfl,_⟩ <;> simp) a q)
 rcases hf with ⟨rfl,ht⟩ | ⟨rfl,ht⟩
 ·obtain ⟨rfl,t1⟩:=zF ht
  exact tail (fun q=>zaQ O st.gd FC t1 (O.gblt _ (by decide)) Boot.int (by decide) (by decide) q) rfl
 ·obtain ⟨rfl,t1⟩:=zF ht
  exact tail (fun q=>zaQ O st.gd FC t1 (O.gblt _ (by decide)) Boot.bool (by decide) (by decide) q) rfl
end
structure Stp (W:Wd) (frs:List Env) (own:List Addr) (H:AH) (s:Shared) (H':AH) (s':Shared):Prop where
 gd:Gd W frs H' s'.heap
 ext:Ext (frA frs) own H s.heap H' s'.heap
 os:s'.os=s.os
 gens:s'.gens=s.gens
noncomputable def ownOf (env:Env):List Addr:=env.locals::env.cells.map (·.2)
inductive SEnd (clsA:Cls->Addr) (D:Addr->Prop) (h:Heap) (N:Loc->AH->Prop) (R:V->AH->Prop) (m:Loc) (H:AH):Flow->Prop
 | next (q:N m H):SEnd clsA D h N R m H .next
 | ret {v:V} {x:Value} (a:Abs clsA D h v x) (q:R v H):SEnd clsA D h N R m H (.ret x)
def SPost (W:Wd) (frs:List Env) (env:Env) (sc:Sc) (H:AH) (s:Shared) (N:Loc->AH->Prop) (R:V->AH->Prop):Flow->Shared->Prop:=fun fl s' =>
 ∃ m' H',SEnd W.clsA (W.D H') s'.heap N R m' H' fl/\Stp W frs (ownOf env) H s H' s'/\Fits W frs env sc m' H' s'.heap
def SX (W:Wd) (frs:List Env) (env:Env) (sc:Sc) (H:AH) (s:Shared) (X:Loc->AH->Prop):Value->Shared->Prop:=fun e s' =>
 ∃ m' H',XAt W frs (ownOf env) H s H' e s'/\Fits W frs env sc m' H' s'.heap/\X m' H'
section
variable {fnA:Fn->Addr} {own:List Addr}
theorem Step.toO (st:Step W frs H s HC s₁) (own:List Addr):Stp W frs own H s HC s₁:=⟨st.gd,st.ext.own (fun _ _ _ _ z=>nomatch z),st.os,st.gens⟩
theorem Stp.trans {sC:Shared} (x:Stp W frs own H s HC s₁) (y:Stp W frs own HC s₁ HD sC):Stp W frs own H s HD sC:=⟨y.gd,x.ext.trans y.ext,y.os.trans x.os,y.gens.trans x.gens⟩
theorem Stp.refl (G:Gd W frs H s.heap):Stp W frs own H s H s:=⟨G,.refl _ _ _ _,rfl,rfl⟩
theorem SPost.of (st:Stp W frs (ownOf env) H s HC s₁) {fl:Flow} {s':Shared} (y:SPost W frs env sc HC s₁ NK RK fl s'):SPost W frs env sc H s NK RK fl s':=by
 refine zd y fun m' H' a b c=>?_
 exact zn m' H' a (st.trans b) c
theorem SX.of (st:Stp W frs (ownOf env) H s HC s₁) {e:Value} {s':Shared} (y:SX W frs env sc HC s₁ XS e s'):SX W frs env sc H s XS e s' :=
 zd y fun m' H' a b c=>(zn m' H' (a.trans st.ext st.os st.gens) b c)
theorem zcR (st:Stp W frs (ownOf env) H s HC s₁) (F:Fits W frs env sc m HC s₁.heap) (q:NK m HC):SPost W frs env sc H s NK RK .next s₁:=(zn m HC (.next q) st F)
theorem retS (st:Stp W frs (ownOf env) H s HC s₁) (F:Fits W frs env sc m HC s₁.heap) {v:V} {x:Value} (a:Abs W.clsA (W.D HC) s₁.heap v x) (q:RK v HC):SPost W frs env sc H s NK RK (.ret x) s₁:=(zn m HC (.ret a q) st F)
theorem ziI {h h' base:Heap} (k:∀ b o,h.get? b=some o->(∀ vs,o.data≠.fields vs)->∃ o',h'.get? b=some o'/\∀ vs,o'.data≠.fields vs):∀ {l:List Env},h.FunFrames base l->h'.FunFrames base l
 | [],_=>trivial
 | _::_,⟨hk,⟨L,o,hf,hn,ho,hd⟩,hr⟩=>oEA (k L o ho hd) fun o' a b=>⟨hk,(zx L o' hf hn a b),ziI k hr⟩
theorem Stp.one {a:Addr} {o o':Obj} {s':Shared} (G:Gd W frs H s.heap) (ha:a∈own) (hH:H a=none) (hb:W.base.objs.size<=a) (ho:s.heap.get? a=some o) (ho':s'.heap.get? a=some o') (hs:∀ b,b≠a->s'.heap.get? b=s.heap.get? b)
  (hv:¬ ValObj o) (hf:∀ vs,o'.data≠.fields vs) (hos:s'.os=s.os) (hg:s'.gens=s.gens):Stp W frs own H s H s'/\KeepV (W.D H) s.heap (W.D H) s'.heap:=by
 have kv:KeepV (W.D H) s.heap (W.D H) s'.heap:=fun b x e n v=>⟨⟨x.slots,by
  by_cases q:b=a
  ·subst q; rw [ho] at e; cases e; exact absurd v hv
  ·rw [hs b q]; exact e⟩,n⟩
 refine ⟨⟨⟨⟨fun b x e=>?_,fun b x e=>?_⟩,G.apart,ziI (fun b x e nf=>?_) G.ff,fun b p=>?_,G.fp⟩,⟨fun b x e n m f=>?_,fun b x e n f m=>?_,fun _ _ _ e=>e,fun b x e n=>?_⟩,hos,hg⟩,kv⟩
 ·rw [hs b (fun q=>absurd (Heap.lt_size e) (by rw [q]; exact Nat.not_lt.mpr hb))]; exact G.rp.1 b x e
 ·refine oAEA (G.rp.2 b x e) fun g1 ob g2 g3=>?_
  refine mAEA g1 ob ?_ (RepO.keeps kv x ob g3)
  rw [hs b (fun q=>by rw [q,hH] at e; exact absN e)]; exact g2
 ·by_cases q:b=a
  ·subst q; exact mEA o' ho' hf
  ·exact mEA x (by rw [hs b q]; exact e) nf
 ·refine oAE (G.pv b p) fun n x e=>?_
  by_cases q:b=a
  ·subst q; exact mAE n o' ho'
  ·exact mAE n x (by rw [hs b q]; exact e)
 ·rw [hs b (fun q=>m (q ▸ ha))]; exact e
 ·exact ⟨x.slots,by rw [hs b (fun q=>m (q ▸ ha))]; exact e⟩
 ·by_cases q:b=a
  ·subst q; exact ⟨o',ho'⟩
  ·exact ⟨x,by rw [hs b q]; exact e⟩
theorem zaY {x:Str} {i:Nat} (hi:sc.svar x=some i):sc.names[i]?=some x/\(sc.scope.names.lookup x=some .local∨sc.scope.names.lookup x=some .cell):=by
 exact ⟨zai (zfU (zdF hi).1),(zdF hi).2⟩
theorem zbv {m:Loc} {i:Nat} {v:V} (h:i < m.length):lget (m.set i (some v)) i=some v:=by unfold lget; simp [h]
theorem zR {m:Loc} {i j:Nat} {v:Option V} (h:i≠j):lget (m.set i v) j=lget m j:=by unfold lget; rw [List.getElem?_set_ne h]
theorem mem_of_lookup {l:List (Str×Addr)} {x:Str} {c:Addr} (h:l.lookup x=some c):c∈l.map (·.2):=by
 refine oEEA (List.lookup_eq_some_iff.mp h) fun a b e _=>?_
 rw [e]; simp
theorem zio {x:Str} {i:Nat} {v:V} {y:Value} (hown:∀ b,b=env.locals∨(sc.scope.names.lookup x=some .cell/\b∈ownOf env)->b∈own) (G:Gd W frs H s.heap) (F:Fits W frs env sc m H s.heap) (hi:sc.svar x=some i) (a:Abs W.clsA (W.D H) s.heap v y) {P:Unit->Shared->Prop}
  (k:∀ s',Stp W frs own H s H s'->Fits W frs env sc (m.set i (some v)) H s'.heap->P () s'):wpAny W.M A (storeName env x y) P E s:=by
 obtain ⟨hn,hk⟩:=zaY hi
 refine oEA F.vals fun mm hns hvs=>?_
 have hil:i < m.length:=by rw [F.len]; exact (List.getElem?_eq_some_iff.mp hn).1
 have hxi:∀ {j:Nat} {z:Str},sc.names[j]?=some z->z=x->j=i:=fun {j z} hz e=>by
  subst e
  exact (List.getElem?_inj (List.getElem?_eq_some_iff.mp hz).1 F.nodup).mp (hz.trans hn.symm)
 have hni:∀ {j:Nat} {z:Str},sc.names[j]?=some z->z≠x->i≠j:=fun {j z} hz e q=>by subst q; rw [hn] at hz; cases hz; exact e rfl
 rcases hk with hk | hk
 ·have hk':env.kindOf x=some .local:=by unfold Env.kindOf; rw [F.lk]; exact hk
  refine lift (wpAny_storeName_local hk' hns (fun h' hns' hsb=>?_) (by rw [F.kind]; rfl))
  refine zaP (id hns) fun o es ep ho hd hr=>?_
  refine zaP (id hns') fun o' es' ep' ho' hd' hr'=>?_
  obtain ⟨st,kv⟩:=Stp.one (own:=own) (s':={ s with heap:=h',toks:=s.toks+1 }) G (hown _ (.inl rfl)) F.apartL F.above ho ho' hsb.2 (by rintro (⟨xs,n,q⟩ | q) <;> rw [hd] at q <;> exact absD q rfl) (by intro vs q; rw [hd'] at q; exact absD q rfl) rfl rfl
  have other:∀ z c,(z,c)∈env.cells->c≠env.locals:=fun z c hc q=>by
   refine zK (F.cell z c hc) fun _ _ _ v0 oc hoc hdc=>?_
   rw [q,ho] at hoc; cases hoc; rw [hd] at hdc; exact absD hdc rfl
  refine k _ st ⟨F.kind,F.lk,F.glob,F.blt,F.above,F.apartL,F.nodup,F.nocd,by rw [List.length_set]; exact F.len,F.frame,fun z c hc=>?_,F.inj,F.has,_,hns',fun j z u hz hu=>?_⟩
  ·refine zK (F.cell z c hc) fun c1 c2 c3 v0 oc hoc hdc=>?_
   exact zdG c1 c2 c3 v0 oc ((hsb.2 c (other z c hc)).trans hoc) hdc
  ·by_cases e:z=x
   ·obtain rfl:=hxi hz e
    rw [zbv hil] at hu
    cases hu
    exact mEA y (Abs.keeps kv v y a) (.inl ⟨e ▸ hk',if_pos e⟩)
   ·rw [zR (hni hz e)] at hu
    refine oEA (hvs j z u hz hu) fun yu au hh=>?_
    refine mEA yu (Abs.keeps kv u yu au) ?_
    rcases hh with ⟨h1,h2⟩ | ⟨h1,c,hc,oc,hoc,hdc⟩
    ·exact .inl ⟨h1,(if_neg e).trans h2⟩
    ·exact .inr (zgn h1 c hc oc ((hsb.2 c (other z c (zN hc))).trans hoc) hdc)
 ·have hk':env.kindOf x=some .cell:=by unfold Env.kindOf; rw [F.lk]; exact hk
  obtain ⟨c,hc⟩:=F.has x hk'
  refine zK (F.cell x c (zN hc)) fun c1 c2 c3 v0 oc hoc hdc=>?_
  refine zaP (id hns) fun oL es ep hoL hdL hrL=>?_
  have cL:env.locals≠c:=fun q=>by rw [<- q,hoL] at hoc; cases hoc; rw [hdL] at hdc; exact absD hdc rfl
  refine lift (wpAny_storeName_cell F.kind hk' hc (mEA oc hoc hdc) (fun h' hcell hsb=>?_))
  refine oEA (id hcell) fun oc' hoc' hdc'=>?_
  obtain ⟨st,kv⟩:=Stp.one (own:=own) (s':={ s with heap:=h' }) G (hown _ (.inr ⟨hk,.tail _ (mem_of_lookup hc)⟩)) c2 c1 hoc hoc' hsb.2 (by rintro (⟨xs,n,q⟩ | q) <;> rw [hdc] at q <;> exact absD q rfl) (by intro vs q; rw [hdc'] at q; exact absD q rfl) rfl rfl
  refine k _ st ⟨F.kind,F.lk,F.glob,F.blt,F.above,F.apartL,F.nodup,F.nocd,by rw [List.length_set]; exact F.len,F.frame,fun z d hd=>?_,F.inj,F.has,mm,hns.sameBut hsb cL,fun j z u hz hu=>?_⟩
  ·by_cases e:d=c
   ·subst e; exact zhv c1 c2 c3 (some y) hcell
   ·refine zK (F.cell z d hd) fun d1 d2 d3 v1 od hod hdd=>?_
    exact zdG d1 d2 d3 v1 od ((hsb.2 d e).trans hod) hdd
  ·by_cases e:z=x
   ·obtain rfl:=hxi hz e
    rw [zbv hil] at hu
    cases hu
    exact mEA y (Abs.keeps kv v y a) (.inr (mAEA (.inl (e ▸ hk')) c (e ▸ hc) hcell))
   ·rw [zR (hni hz e)] at hu
    refine oEA (hvs j z u hz hu) fun yu au hh=>?_
    refine mEA yu (Abs.keeps kv u yu au) ?_
    rcases hh with ⟨h1,h2⟩ | ⟨h1,d,hd,od,hod,hdd⟩
    ·exact .inl ⟨h1,h2⟩
    ·exact .inr (zgn h1 d hd od ((hsb.2 d fun q=>e (F.inj z x c (q ▸ zN hd) (zN hc))).trans hod) hdd)
theorem zeI {x:Str} {i:Nat} {v:V} {y:Value} (G:Gd W frs H s.heap) (F:Fits W frs env sc m H s.heap) (hi:sc.svar x=some i) (a:Abs W.clsA (W.D H) s.heap v y) {P:Unit->Shared->Prop}
  (k:∀ s',Stp W frs (ownOf env) H s H s'->Fits W frs env sc (m.set i (some v)) H s'.heap->P () s'):wpAny W.M A (storeName env x y) P E s:=zio (fun b q=>q.elim (fun q=>q ▸ .head _) (·.2)) G F hi a k
def StoresBy (W:Wd) (frs:List Env) (env:Env) (sc:Sc) (own:List Addr) (f:Str->Option Nat):Prop:=∀ (A:Around) (E:Value->Shared->Prop) (s:Shared) (m:Loc) (H:AH) (x:Str) (i:Nat) (v:V) (y:Value) (P:Unit->Shared->Prop),Gd W frs H s.heap->Fits W frs env sc m H s.heap->f x=some i->Abs W.clsA (W.D H) s.heap v y ->
 (∀ s',Stp W frs own H s H s'->Fits W frs env sc (m.set i (some v)) H s'.heap->P () s')->wpAny W.M A (storeName env x y) P E s
theorem ziF:StoresBy W frs env sc (ownOf env) sc.svar:=fun _ _ _ _ _ _ _ _ _ _ G F hi a k=>zeI G F hi a k
theorem zcf {x:Str} {i:Nat} (h:sc.lvar x=some i):sc.svar x=some i/\sc.scope.names.lookup x=some .local:=by
 by_cases q:(sc.scope.names.lookup x == some .local)=true
 ·have h:sc.var x=some i:=(if_pos q).symm.trans h
  have q:=eq_of_beq q
  unfold Sc.var at h
  unfold Sc.svar
  rw [q] at h ⊢
  exact ⟨h,rfl⟩
 ·exact absN ((if_neg q).symm.trans h)
theorem zeY:StoresBy W frs env sc [env.locals] sc.lvar:=fun _ _ _ _ _ x _ _ _ _ G F hi a k=>zio (fun b q=>by
 rcases q with rfl | ⟨q,_⟩
 ·exact .head _
 ·rw [(zcf hi).2] at q; cases q) G F (zcf hi).1 a k
end
noncomputable def AbsO (own:Bool) (clsA:Cls->Addr) (D:Addr->Prop) (h:Heap) (v:V) (y:Value):Prop :=
 Abs clsA D h v y∨(own=true/\∃ vs a items,v=.tup vs/\y=.ref a/\h.IsTuple a (List.toArray items)/\AbsL clsA D h vs items)
noncomputable def Wd.withP (W:Wd) (ps:List Addr):Wd:={ W with priv:=fun a=>W.priv a∨a∈ps }
noncomputable def Wd.ofP (W:Wd) (q:Addr->Prop):Wd:={ W with priv:=q }
structure Iter (W:Wd) (frs:List Env) (A:Around) (own:Bool) (t:Expr) (I:Addr) (ps:List Addr) (items:List V) (guard:AH->Prop) (Inv:(Addr->Prop)->Heap->Prop) (St:Nat->Heap->Prop):Prop where
 kv:∀ D h D' h',KeepV D h D' h'->Inv D h->Inv D' h'
 frame:∀ i h h',St i h->(∀ b∈ps,∀ o,h.get? b=some o->h'.get? b=some o)->St i h'
 self:∀ i (s:Shared) (R:Value->Shared->Prop) (E:Value->Shared->Prop),St i s.heap->R (.ref I) s->wpAny W.M A (pyIter (.ref I)) R E s
 item:∀ (q:Addr->Prop),(∀ b∈ps,q b)->∀ i x (s:Shared) (H:AH) (P:Value->Shared->Prop) (Q:Option Value->Shared->Prop) (E:Value->Shared->Prop),Gd (W.ofP q) frs H s.heap->guard H->Inv ((W.ofP q).D H) s.heap->items[i]?=some x->St i s.heap ->
  (∀ y s',wpAny W.M A (letOwnedTupleGo t (.ref I) y) (fun _ s''=>P y s'') E s'->Q (some y) s') ->
  (∀ y h' tk,(∀ b o,b∉ps->s.heap.get? b=some o->h'.get? b=some o)->(∀ b∈ps,∃ o,h'.get? b=some o)->St (i+1) h'->AbsO own W.clsA ((W.ofP q).D H) h' x y->P y { s with heap:=h',toks:=tk }) ->
  wpAny W.M A (pyNext (.ref I)) Q E s
 done:∀ (q:Addr->Prop),(∀ b∈ps,q b)->∀ (s:Shared) (H:AH) (P:Option Value->Shared->Prop) (E:Value->Shared->Prop),Gd (W.ofP q) frs H s.heap->guard H->Inv ((W.ofP q).D H) s.heap->St items.length s.heap ->
  (∀ h' tk,(∀ b o,b∉ps->s.heap.get? b=some o->h'.get? b=some o)->P none { s with heap:=h',toks:=tk })->wpAny W.M A (pyNext (.ref I)) P E s
section
variable {fnA:Fn->Addr} {own:List Addr}
theorem withP_D {b:Addr}:¬ (W.withP ps).D H b ↔ ¬ W.D H b/\b∉ps:=by
 unfold Wd.D Wd.withP
 constructor
 ·intro h; exact ⟨fun q=>h (q.imp id .inl),fun q=>h (.inr (.inr q))⟩
 ·rintro ⟨h1,h2⟩ (q | q | q)
  ·exact h1 (.inl q)
  ·exact h1 (.inr q)
  ·exact h2 q
theorem zbJ {h h':Heap} (k:∀ b o,h.get? b=some o->h'.get? b=some o) (hp:∀ b∈ps,h.get? b=none):KeepV (W.D H) h ((W.withP ps).D H) h':=fun b o e n _ =>
 ⟨⟨o.slots,k b o e⟩,withP_D.mpr ⟨n,fun q=>by rw [hp b q] at e; exact absN e⟩⟩
theorem zbu {h:Heap}:KeepV ((W.withP ps).D H) h (W.D H) h:=fun b o e n _=>⟨⟨o.slots,e⟩,(withP_D.mp n).1⟩
theorem Gd.inP {h h':Heap} (G:Gd W frs H h) (k:∀ b o,h.get? b=some o->h'.get? b=some o) (hp:∀ b∈ps,h.get? b=none/\∃ o,h'.get? b=some o):Gd (W.withP ps) frs H h':=by
 have G':=G.keeps k
 refine ⟨⟨G'.rp.1,fun a o e=>?_⟩,G'.apart,G'.ff,fun a p=>?_,fun L hL=>.inl (G.fp L hL)⟩
 ·refine oAEA (G.rp.2 a o e) fun g1 ob g2 g3=>?_
  exact mAEA g1 ob (k _ _ g2) (RepO.keeps (zbJ k fun b q=>(hp b q).1) o ob g3)
 ·rcases p with p | p
  ·exact G'.pv a p
  ·refine ⟨?_,(hp a p).2⟩
   cases q:H a with
   | none=>rfl
   | some o=>refine oAEA (G.rp.2 a o q) fun _ ob g _=>?_; rw [(hp a p).1] at g; exact absN g
theorem Gd.outP {h:Heap} (G:Gd (W.withP ps) frs H h) (hf:∀ b∈ps,b∉frA frs):Gd W frs H h:=by
 refine ⟨⟨G.rp.1,fun a o e=>?_⟩,G.apart,G.ff,fun a p=>G.pv a (.inl p),fun L hL=>(G.fp L hL).resolve_right fun z=>hf L z hL⟩
 refine oAEA (G.rp.2 a o e) fun g1 ob g2 g3=>?_
 exact mAEA g1 ob g2 (RepO.keeps zbu o ob g3)
theorem Fits.inP {h h':Heap} (F:Fits W frs env sc m H h) (k:∀ b o,h.get? b=some o->h'.get? b=some o) (hp:∀ b∈ps,h.get? b=none):Fits (W.withP ps) frs env sc m H h':=by
 have F':=F.like (H':=H) (h':=h') fun b o e n=>⟨⟨o.slots,k b o e⟩,n⟩
 refine oEA F.vals fun mm hn hv=>?_
 refine ⟨F.kind,F.lk,F.glob,F.blt,F.above,F.apartL,F.nodup,F.nocd,F.len,F.frame,F'.cell,F.inj,F.has,mm,hn.keeps k,fun i x v e g=>?_⟩
 refine oEA (hv i x v e g) fun y a hh=>?_
 exact mEA y (Abs.keeps (zbJ k hp) v y a) (hh.imp id fun z9=>zlf z9 fun hk c hc oc hoc hdc=>(zgn hk c hc oc (k _ _ hoc) hdc))
theorem Fits.outP {h:Heap} (F:Fits (W.withP ps) frs env sc m H h):Fits W frs env sc m H h:=by
 refine oEA F.vals fun mm hn hv=>?_
 exact ⟨F.kind,F.lk,F.glob,F.blt,F.above,F.apartL,F.nodup,F.nocd,F.len,F.frame,F.cell,F.inj,F.has,mm,hn,fun i x v e g=>oEA (hv i x v e g) fun y a hh=>(mEA y (Abs.keeps zbu v y a) hh)⟩
theorem Rp.outP {h:Heap} (G:Rp (W.withP ps) H h):Rp W H h:=⟨G.1,fun a o e=>oAEA (G.2 a o e) fun g1 ob g2 g3=>(mAEA g1 ob g2 (RepO.keeps zbu o ob g3))⟩
theorem XAt.outP {H':AH} {e:Value} {s':Shared} (x:XAt (W.withP ps) frs own H s H' e s'):XAt W frs own H s H' e s':=by
 refine zB x.fly fun ea a0 b' he f r k=>?_
 exact ⟨(zS ea a0 b' he f r.outP k),x.apart,x.slots,x.new,x.there,x.os,x.gens⟩
theorem SEnd.outP {h:Heap} {fl:Flow} (a:SEnd W.clsA ((W.withP ps).D H) h NK RK m H fl):SEnd W.clsA (W.D H) h NK RK m H fl:=by
 induction a using SEnd.casesOn with
 | next q=>exact .next q
 | ret a q=>exact .ret (Abs.keeps zbu _ _ a) q
theorem Rp.sub {h:Heap} {H':AH} (G:Rp W H h) (hs:Sub H' H):Rp W H' h:=⟨G.1,fun a o e=>oAEA (G.2 a o (hs a o e)) fun g1 ob g2 g3=>⟨g1,ob,g2,RepO.keeps (fun b o e n _=>⟨⟨o.slots,e⟩,fun q=>n (q.imp (fun q=>by
  cases z:H' b with
  | none=>exact absurd z q
  | some o'=>rw [hs b o' z]; simp) id)⟩) o ob g3⟩⟩
theorem zL {H H':AH} (hs:Sub H' H) {a:Addr} (n:H a=none):H' a=none:=by
 cases z:H' a with
 | none=>rfl
 | some o=>rw [hs a o z] at n; exact absM n
theorem zbx {H H':AH} (hs:Sub H' H) (h:Heap):KeepH H h H' h:=fun b o e n=>⟨⟨o.slots,e⟩,zL hs n⟩
theorem Gd.sub {h:Heap} {H':AH} (G:Gd W frs H h) (hs:Sub H' H):Gd W frs H' h:=⟨G.rp.sub hs,fun L hL=>zL hs (G.apart L hL),G.ff,fun a p=>let ⟨n,e⟩:=G.pv a p; ⟨zL hs n,e⟩,G.fp⟩
theorem Ext.sub {fr:List Addr} {h h':Heap} {H' H'':AH} (x:Ext fr own H h H' h') (hs:Sub H'' H'):Ext fr own H h H'' h':=⟨x.keep,x.slots,fun b o e n=>zL hs (x.new b o e n),x.there⟩
theorem Stp.sub {H' H'':AH} {s':Shared} (x:Stp W frs own H s H' s') (hs:Sub H'' H'):Stp W frs own H s H'' s':=⟨x.gd.sub hs,x.ext.sub hs,x.os,x.gens⟩
theorem zaT {base h h':Heap}:∀ {frs:List Env},h.FunFrames base frs->(∀ L∈frA frs,∀ o,h.get? L=some o->h'.get? L=some o)->h'.FunFrames base frs
 | [],_,_=>trivial
 | env::l,g,k=>by
  refine oAA g fun hk yB hr=>?_; obtain ⟨L,o,hf,hn,ho,hd⟩:=yB
  have e:frA (env::l)=L::frA l:=by unfold frA; rw [List.filterMap_cons,hf]
  exact ⟨hk,(zx L o hf hn (k L (by rw [e]; exact .head _) o ho) hd),zaT hr fun L' hL'=>k L' (by rw [e]; exact .tail _ hL')⟩
theorem zdX {q p0:Addr->Prop} {sA:Shared} {HA:AH} {h':Heap} {tk:Nat} (hq:∀ b∈ps,q b) (GA:Gd (W.ofP p0) frs HA sA.heap) (hp:∀ b∈ps,sA.heap.get? b=none∨(b∈own/\W.base.get? b=none/\b∉frA frs)) (st:Stp (W.ofP q) frs own HA sA H s) (k:∀ b o,b∉ps->s.heap.get? b=some o->h'.get? b=some o) (hx:∀ b∈ps,∃ o,h'.get? b=some o) :
  Stp (W.ofP q) frs own HA sA H { s with heap:=h',toks:=tk }/\KeepV ((W.ofP q).D H) s.heap ((W.ofP q).D H) h':=by
 have kv:KeepV ((W.ofP q).D H) s.heap ((W.ofP q).D H) h':=fun b o e n _=>⟨⟨o.slots,k b o (fun z=>(zaq n).2 (hq b z)) e⟩,n⟩
 have np:∀ b o,sA.heap.get? b=some o->b∈own∨b∉ps:=fun b o e=>Classical.byContradiction fun q=>by
  obtain ⟨q1,q2⟩:=not_or.mp q
  rcases hp b (Classical.byContradiction q2) with h | h
  ·rw [h] at e; exact absN e
  ·exact q1 h.1
 have nb:∀ b o,W.base.get? b=some o->b∉ps:=fun b o e z=>by
  rcases hp b z with h | h
  ·rw [GA.rp.1 b o e] at h; exact absM h
  ·rw [h.2.1] at e; exact absN e
 have nf:∀ b,b∈frA frs->b∉ps:=fun b hb z=>by
  rcases hp b z with h | h
  ·refine oAEA (GA.ff.mem hb) fun _ o' ho _=>?_
   rw [ho] at h; exact absM h
  ·exact h.2.2 hb
 refine ⟨⟨⟨⟨fun b o e=>k b o (nb b o e) (st.gd.rp.1 b o e),fun a o e=>?_⟩,st.gd.apart,?_,fun a p=>?_,st.gd.fp⟩,⟨fun b o e n1 n2 n3=>k b o ((np b o e).resolve_left n2) (st.ext.keep b o e n1 n2 n3),fun b o e n1 n2 n3=>?_,st.ext.new,fun b o e n=>?_⟩,st.os,st.gens⟩,kv⟩
 ·refine oAEA (st.gd.rp.2 a o e) fun g1 ob g2 g3=>?_
  refine mAEA g1 ob (k a ob (fun z=>?_) g2) (RepO.keeps kv o ob g3)
  have:=(st.gd.pv a (hq a z)).1
  rw [e] at this; exact absM this
 ·exact zaT st.gd.ff fun L hL o e=>k L o (nf L hL) e
 ·by_cases z:a∈ps
  ·exact ⟨(st.gd.pv a p).1,hx a z⟩
  ·refine oAE (st.gd.pv a p) fun n o e=>?_
   exact mAE n o (k a o z e)
 ·obtain ⟨sl,e'⟩:=st.ext.slots b o e n1 n2 n3
  exact ⟨sl,k b _ (nf b n2) e'⟩
 ·obtain ⟨o',e'⟩:=st.ext.there b o e n
  by_cases z:b∈ps
  ·exact hx b z
  ·exact ⟨o',k b _ z e'⟩
theorem zbl {p0:Addr->Prop} {sA:Shared} {HA:AH} {h':Heap} {tk:Nat} (hdis:∀ a,W.priv a->a∉ps) (GA:Gd (W.ofP p0) frs HA sA.heap) (hp:∀ b∈ps,sA.heap.get? b=none) (st:Stp (W.withP ps) frs own HA sA H s) (k:∀ b o,b∉ps->s.heap.get? b=some o->h'.get? b=some o) :
  Stp W frs own HA sA H { s with heap:=h',toks:=tk }/\KeepV ((W.withP ps).D H) s.heap (W.D H) h':=by
 have kv:KeepV ((W.withP ps).D H) s.heap (W.D H) h':=fun b o e n _=>⟨⟨o.slots,k b o (withP_D.mp n).2 e⟩,(withP_D.mp n).1⟩
 have np:∀ b o,sA.heap.get? b=some o->b∉ps:=fun b o e q=>by rw [hp b q] at e; exact absN e
 refine ⟨⟨⟨⟨fun b o e=>k b o (np b o (GA.rp.1 b o e)) (st.gd.rp.1 b o e),fun a o e=>?_⟩,st.gd.apart,?_,fun a p=>?_,fun L hL=>(st.gd.fp L hL).resolve_right fun z=>(by refine oAEA (GA.ff.mem hL) fun _ o' ho _=>?_; exact np L o' ho z)⟩,⟨fun b o e n1 n2 n3=>k b o (np b o e) (st.ext.keep b o e n1 n2 n3),fun b o e n1 n2 n3=>?_,st.ext.new,fun b o e n=>?_⟩,st.os,st.gens⟩,kv⟩
 ·refine oAEA (st.gd.rp.2 a o e) fun g1 ob g2 g3=>?_
  refine mAEA g1 ob (k a ob (fun q=>?_) g2) (RepO.keeps kv o ob g3)
  have:=(st.gd.pv a (.inr q)).1
  rw [e] at this; exact absM this
 ·refine zaT st.gd.ff fun L hL o e=>k L o ?_ e
  refine oAEA (GA.ff.mem hL) fun _ o' ho _=>?_
  exact np L o' ho
 ·refine oAE (st.gd.pv a (.inl p)) fun n o e=>?_
  exact mAE n o (k a o (hdis a p) e)
 ·obtain ⟨sl,e'⟩:=st.ext.slots b o e n1 n2 n3
  exact ⟨sl,k b _ (np b o e) e'⟩
 ·obtain ⟨o',e'⟩:=st.ext.there b o e n
  exact ⟨o',k b _ (np b o e) e'⟩
theorem Stp.kv {H':AH} {s':Shared} (F:Fits W frs env sc m H s.heap) (st:Stp W frs own H s H' s') (hsub:∀ b∈own,b∈ownOf env):KeepV (W.D H) s.heap (W.D H') s'.heap:=fun b o e n v=>by
 obtain ⟨n1,n2⟩:=zaq n
 have hno:b∉own:=by
  intro hb
  replace hb:=hsub b hb
  rcases List.mem_cons.mp hb with rfl | hb
  ·refine oEA F.vals fun mm yB _=>?_; obtain ⟨oL,es,ep,hoL,hdL,_⟩:=yB
   rw [hoL] at e; cases e
   rcases v with ⟨xs,k,q⟩ | q <;> rw [hdL] at q <;> exact absD q rfl
  ·refine oEA (List.mem_map.mp hb) fun yA hm yC=>?_; obtain ⟨x,c⟩:=yA; obtain rfl:=yC
   refine zK (F.cell x c hm) fun _ _ _ v0 oc hoc hdc=>?_
   rw [hoc] at e; cases e
   rcases v with ⟨xs,k,q⟩ | q <;> rw [hdc] at q <;> exact absD q rfl
 refine ⟨?_,zch (st.ext.new b o e n1) n2⟩
 by_cases f:b∈frA frs
 ·exact st.ext.slots b o e n1 f hno
 ·exact ⟨o.slots,st.ext.keep b o e n1 hno f⟩
theorem SPost.ofP {HA:AH} {sA:Shared} {fl:Flow} {s':Shared} (y:SPost (W.withP ps) frs env sc HA sA NK RK fl s') (hf:∀ b∈ps,b∉frA frs):SPost W frs env sc HA sA NK RK fl s':=by
 refine zd y fun m' H' a b c=>?_
 exact zn m' H' a.outP ⟨b.gd.outP hf,b.ext,b.os,b.gens⟩ c.outP
theorem SX.ofP {HA:AH} {sA:Shared} {e:Value} {s':Shared} (y:SX (W.withP ps) frs env sc HA sA XS e s'):SX W frs env sc HA sA XS e s' :=
 zd y fun m' H' a b c=>(zn m' H' a.outP b.outP c)
theorem zjO {f:Str->Option Nat} (hst:StoresBy W frs env sc own f) (hsub:∀ b∈own,b∈ownOf env) (ts:List Expr) (is:List Nat) (vs:List V) (xs:List Value) (m m':Loc) (s:Shared) (P:Unit->Shared->Prop) (hi:mapO (fun e=>(nmOf e).bind f) ts=some is) (a:AbsL W.clsA (W.D H) s.heap vs xs) (hs:setAll m is vs=some m') (G:Gd W frs H s.heap) (F:Fits W frs env sc m H s.heap)
  (k:∀ s',Stp W frs own H s H s'->Fits W frs env sc m' H s'.heap->P () s'):wpAny W.M A (assignInOrder ((assignEach ts env).map (·.2)) xs) P E s:=by
 induction ts using List.rec generalizing is vs xs m s with
 | nil =>
  obtain rfl:=zj hi
  induction vs using List.casesOn with
  | nil =>
   obtain rfl:=Option.some.inj hs
   obtain rfl:xs=[]:=a
   exact wpAny_pure (k s (.refl G) F)
  | cons v vs=>exact absN hs
 | cons t ts ih =>
  refine zd (zi hi) fun i is' yC h1 h2=>?_; obtain rfl:=yC
  induction vs using List.casesOn with
  | nil=>exact absN hs
  | cons v vs =>
   refine zd a fun y ys e a1 a2=>?_; obtain rfl:=e
   refine oEA (Option.bind_eq_some_iff.mp h1) fun x hx hv=>?_
   obtain ⟨p,rfl⟩:=zbS hx
   show wpAny W.M A (do holding ys (assign (.Name x p) env y); assignInOrder ((assignEach ts env).map (·.2)) ys) P E s
   exact wpAny_bind (wpAny_holding (wpAny_assign_Name (hst _ _ _ _ _ _ _ _ _ _ G F hv a1 fun s' st F'=>ih is' vs ys (m.set i (some v)) s' h2 (AbsL.keeps (st.kv F hsub) _ _ a2) hs st.gd F' fun s'' st' F''=>k s'' (st.trans st') F'')))
theorem zcT (ts:List Expr):(assignEach ts env).length=ts.length:=by
 induction ts with
 | nil=>rfl
 | cons t ts ih =>
  have k:∃ b,assignEach (t::ts) env=b::assignEach ts env:=by induction t using Expr.casesOn <;> exact ⟨_,rfl⟩
  exact k.elim fun b e=>(congrArg List.length e).trans (congrArg Nat.succ ih)
theorem zb7 {f:Str->Option Nat} (ts:List Expr) (is:List Nat) (h:mapO (fun e=>(nmOf e).bind f) ts=some is):List.findIdx? (fun x=>x.1) (assignEach ts env)=none:=by
 induction ts using List.rec generalizing is with
 | nil=>rfl
 | cons t ts ih =>
  refine zd (zi h) fun i is' _ h1 h2=>oEA (Option.bind_eq_some_iff.mp h1) fun x hx _=>?_
  obtain ⟨p,rfl⟩:=zbS hx
  show List.findIdx? (fun x=>x.1) ((false,assign (.Name x p) env)::assignEach ts env)=none
  rw [List.findIdx?_cons,ih is' h2]; rfl
theorem zgb {α β:Type} {f:α->Option β} {l:List α} {r:List β} (h:mapO f l=some r):r.length=l.length:=by
 induction l using List.rec generalizing r with
 | nil=>obtain rfl:=zj h; rfl
 | cons a l ih=>refine zd (zi h) fun b bs yC _ h2=>?_; obtain rfl:=yC; exact congrArg Nat.succ (ih h2)
theorem zc5 {is:List Nat} {vs:List V} {m m':Loc} (h:setAll m is vs=some m'):is.length=vs.length:=by
 induction is using List.rec generalizing vs m with
 | nil=>induction vs using List.casesOn with
  | nil=>rfl
  | cons=>exact absN h
 | cons i is ih=>induction vs using List.casesOn with
  | nil=>exact absN h
  | cons v vs=>exact congrArg Nat.succ (ih (vs:=vs) h)
theorem zf8 {f:Str->Option Nat} (hst:StoresBy W frs env sc own f) (hsub:∀ b∈own,b∈ownOf env) (hq:A.handled=none) {ts:List Expr} {k:Nat} {pos:Pos} {is:List Nat} {vs:List V} {a:Addr} {items:List Value} {m m':Loc} {P:Unit->Shared->Prop} (hi:mapO (fun e=>(nmOf e).bind f) ts=some is) (ht:s.heap.IsTuple a items.toArray)
  (al:AbsL W.clsA (W.D H) s.heap vs items) (hs:setAll m is vs=some m') (G:Gd W frs H s.heap) (F:Fits W frs env sc m H s.heap) (kk:∀ s',Stp W frs own H s H s'->Fits W frs env sc m' H s'.heap->P () s') :
  wpAny W.M A (assign (.Tuple ts k pos) env (.ref a)) P E s:=by
 refine wpAny_assign_Tuple hq ht ?_ (zb7 ts is hi) fun h' he=>?_
 ·rw [zcT,List.size_toArray,al.length,<- zc5 hs,zgb hi]
 ·have kp:∀ b o,s.heap.get? b=some o->h'.get? b=some o:=fun b o e=>he b o (Nat.ne_of_lt (Heap.lt_size e)) e
  have st:Step W frs H s H { s with heap:=h' }:=Step.of_keeps G kp rfl rfl
  refine zjO hst hsub ts is vs items m m' { s with heap:=h' } P hi (st.absL al) hs st.gd (F.step st) fun s' st' F'=>kk s' ((st.toO _).trans st') F'
theorem zlE (hq:A.handled=none) {ts:List Expr} {k:Nat} {pos:Pos} {is:List Nat} {vs:List V} {a:Addr} {items:List Value} {m m':Loc} {P:Unit->Shared->Prop} (hi:mapO (fun e=>(nmOf e).bind sc.svar) ts=some is) (ht:s.heap.IsTuple a items.toArray)
  (al:AbsL W.clsA (W.D H) s.heap vs items) (hs:setAll m is vs=some m') (G:Gd W frs H s.heap) (F:Fits W frs env sc m H s.heap) (kk:∀ s',Stp W frs (ownOf env) H s H s'->Fits W frs env sc m' H s'.heap->P () s') :
  wpAny W.M A (assign (.Tuple ts k pos) env (.ref a)) P E s:=zf8 ziF (fun _ z=>z) hq hi ht al hs G F kk
theorem sTgtL (hq:A.handled=none) {t:Expr} {tg:Tgt} {v:V} {y:Value} {k:Loc->Prop} {P:Unit->Shared->Prop} (ht:sc.tgt t=some tg) (h:WTgt m k tg v) {ow:Bool} (a:AbsO ow W.clsA (W.D H) s.heap v y) (G:Gd W frs H s.heap) (F:Fits W frs env sc m H s.heap)
  (kk:∀ m' s',Stp W frs [env.locals] H s H s'->Fits W frs env sc m' H s'.heap->k m'->P () s') (hplain:∀ i,tg=.var i->ow=false):wpAny W.M A (assign t env y) P E s:=by
 induction zfd ht using TgtI.casesOn with
 | @var x p i hi =>
  obtain ⟨h⟩:=h
  exact wpAny_assign_Name (zeY _ _ _ _ _ _ _ _ _ _ G F hi (a.elim id fun q=>by have:=hplain i rfl; rw [q.1] at this; exact absC this) fun s' st F'=>kk _ s' st F' h)
 | @tup ts j p is hi =>
  cases h with
  | @tup _ vs m' hs h =>
   have:∃ b items,y=.ref b/\s.heap.IsTuple b (List.toArray items)/\AbsL W.clsA (W.D H) s.heap vs items:=by
    rcases a with a | ⟨_,vs',b,items,e,h1,h2,h3⟩
    ·refine zu (zc3 a) fun b items h1 _ h2 h3=>?_
     exact zn b items h1 h2 h3
    ·cases e; exact zn b items h1 h2 h3
   refine zd this fun b items yC h2 h3=>?_; obtain rfl:=yC
   exact zf8 zeY (fun b z=>by obtain rfl:=List.mem_singleton.mp z; exact .head _) hq hi h2 h3 hs G F fun s' st F'=>kk m' s' st F' h
theorem Stp.wide {H':AH} {s':Shared} (st:Stp W frs [env.locals] H s H' s'):Stp W frs (ownOf env) H s H' s':=⟨st.gd,st.ext.own (fun b _ _ _ z=>by obtain rfl:=List.mem_singleton.mp z; exact .head _),st.os,st.gens⟩
theorem sTgt (hq:A.handled=none) {t:Expr} {tg:Tgt} {v:V} {y:Value} {k:Loc->Prop} {P:Unit->Shared->Prop} (ht:sc.tgt t=some tg) (h:WTgt m k tg v) {ow:Bool} (a:AbsO ow W.clsA (W.D H) s.heap v y) (G:Gd W frs H s.heap) (F:Fits W frs env sc m H s.heap)
  (kk:∀ m' s',Stp W frs (ownOf env) H s H s'->Fits W frs env sc m' H s'.heap->k m'->P () s') (hplain:∀ i,tg=.var i->ow=false):wpAny W.M A (assign t env y) P E s:=sTgtL hq ht h a G F (fun m' s' st=>kk m' s' st.wide) hplain
theorem zV {W':Wd} {h h':Heap} {H':AH} (hw:W'.base=W.base) (hc:W'.clsA=W.clsA) (F:Fits W frs env sc m H h) (kv:KeepV (W.D H) h (W'.D H') h') (hH:∀ b,H b=none->H' b=none) (hL:∀ o,h.get? env.locals=some o->h'.get? env.locals=some o) (hC:∀ x c,(x,c)∈env.cells->∀ o,h.get? c=some o->h'.get? c=some o):Fits W' frs env sc m H' h':=by
 refine oEA F.vals fun mm hn hv=>?_
 refine ⟨F.kind,F.lk,F.glob,F.blt,hw ▸ F.above,hH _ F.apartL,F.nodup,F.nocd,F.len,F.frame,fun x c hc=>?_,F.inj,F.has,mm,ziX hn fun o e=>⟨o.slots,hL o e⟩,fun j x v e g=>?_⟩
 ·refine zK (F.cell x c hc) fun c1 c2 c3 v0 oc hoc hdc=>?_
  exact zdG (hw ▸ c1) (hH _ c2) c3 v0 oc (hC x c hc oc hoc) hdc
 ·refine oEA (hv j x v e g) fun y ay hh=>?_
  exact mEA y (hc ▸ Abs.keeps kv v y ay) (hh.imp id fun z9=>zlf z9 fun q1 c hc oc hoc hdc=>(zgn q1 c hc oc (hC x c (zN hc) oc hoc) hdc))
def SS (W:Wd) (lev:Nat) (t:Env->Sem Flow) (sc:Sc) (w:(Loc->AH->Prop)->Loc->AH->(Loc->AH->Prop)->(V->AH->Prop)->Prop):Prop:=∀ (A:Around) (frs:List Env) (env:Env) (s:Shared) (m:Loc) (H:AH) (NK:Loc->AH->Prop) (RK:V->AH->Prop) (XS:Loc->AH->Prop) (E:Value->Shared->Prop),
 Rm lev A frs->frs.head?=some env->Gd W frs H s.heap->Fits W frs env sc m H s.heap->PassesOwn W.M A env E->(∀ e s',SX W frs env sc H s XS e s'->E e s')->w XS m H NK RK->wpAny W.M A (t env) (SPost W frs env sc H s NK RK) E s
theorem SS.nil:SS W lev (execs []) sc fun XS m H N R=>wpSs S XS [] m H N R:=fun A frs env s m H _ _ XS E _ hh G F hE hX h=>wpAny_execs_nil (zcR (.refl G) F h)
theorem SS.cons {st:Stmt} {rest:List Stmt} {c:CS} {cs:List CS} (h1:SS W lev (exec st) sc fun XS m H N R=>wpS S XS c m H N R) (h2:SS W lev (execs rest) sc fun XS m H N R=>wpSs S XS cs m H N R) :
  SS W lev (execs (st::rest)) sc fun XS m H N R=>wpSs S XS (c::cs) m H N R:=fun A frs env s m H NK RK XS E R hh G F hE hX h=>by
 refine wpAny_execs_cons (wpAny_mono (h1 A frs env s m H _ RK XS E R hh G F hE hX h) (fun fl s₁ z=>?_) fun _ _ z=>z)
 refine zd z fun mB HC a st FC=>?_
 induction a using SEnd.casesOn with
 | next q=>exact wpAny_mono (h2 A frs env s₁ mB HC NK RK XS E R hh st.gd FC hE (fun e s' z=>hX e s' (z.of st)) q) (fun _ _ z=>z.of st) fun _ _ z=>z
 | ret a q=>exact retS st FC a q
theorem zjT {body:List Stmt} {cs:List CS} {t:Expr} {tg:Tgt} {ow:Bool} {I:Addr} {items:List V} {guard:AH->Prop} {Inv:(Addr->Prop)->Heap->Prop} {St:Nat->Heap->Prop} {sC:Shared} (ht:sc.tgt t=some tg) (hb:SS (W.withP ps) lev (execs body) sc fun XS m H N R=>wpSs S XS cs m H N R)
  (R:Rm lev A frs) (hh:frs.head?=some env) (G:Gd W frs H s.heap) (F:Fits W frs env sc m H s.heap) (hE:PassesOwn W.M A env E) (hX:∀ e s',SX W frs env sc H s XS e s'->E e s') (k:∀ b o,s.heap.get? b=some o->sC.heap.get? b=some o) (ho:sC.os=s.os) (hg:sC.gens=s.gens)
  (hp:∀ b∈ps,s.heap.get? b=none/\∃ o,sC.heap.get? b=some o) (It:Iter W frs A ow t I ps items guard Inv St) (hSt:St 0 sC.heap) (hInv:Inv (W.D H) s.heap)
  (hpl:∀ i,tg=.var i->ow=false)
  (J:Nat->Loc->AH->Prop) (j0:J 0 m H)
  (jt:∀ i x mC HD,items[i]?=some x->J i mC HD->guard HD/\WTgt mC (fun mD=>wpSs S XS cs mD HD (Wk (J (i+1))) RK) tg x)
  (jd:∀ mC HD,J items.length mC HD->guard HD/\NK mC HD) :
  codeAny W.M A (.forLoop t (.ref I) body [] env) (fun r s'=>match r with
   | .ok f=>SPost W frs env sc H s NK RK f s'
   | .error e=>cameBackBy W.M A env E e s') sC:=by
 have hp1:∀ b∈ps,s.heap.get? b=none:=fun b hb=>(hp b hb).1
 have GC:Gd (W.withP ps) frs H sC.heap:=G.inP k hp
 have FD:Fits (W.withP ps) frs env sc m H sC.heap:=F.inP k hp1
 have stD:Stp (W.withP ps) frs (ownOf env) H s H sC:=⟨GC,.of_keeps k,ho,hg⟩
 have hps':∀ b∈ps,b∉ownOf env/\b∉frA frs:=fun b hb=>by
  refine ⟨fun ho=>?_,fun hf=>?_⟩
  ·rcases List.mem_cons.mp ho with rfl | ho
   ·refine oEA F.vals fun mm yB _=>?_; obtain ⟨oL,es,ep,hoL,hdL,_⟩:=yB
    rw [hp1 _ hb] at hoL; exact absN hoL
   ·refine oEA (List.mem_map.mp ho) fun yA hm yC=>?_; obtain ⟨x,c⟩:=yA; obtain rfl:=yC
    refine zK (F.cell x c hm) fun _ _ _ v0 oc hoc hdc=>?_
    rw [hp1 _ hb] at hoc; exact absN hoc
  ·refine oAEA (G.ff.mem hf) fun _ o ho _=>?_
   rw [hp1 _ hb] at ho; exact absN ho
 have stand:∀ {i:Nat} {sa sb:Shared} {Ha Hb:AH},St i sa.heap->Gd (W.withP ps) frs Ha sa.heap->Stp (W.withP ps) frs (ownOf env) Ha sa Hb sb->St i sb.heap:=fun {i sa sb Ha Hb} h Ga st =>
  It.frame i _ _ h fun b hb o e=>st.ext.keep b o e (Ga.pv b (.inr hb)).1 (hps' b hb).1 (hps' b hb).2
 have inv:∀ {sa:Shared} {Ha:AH},Stp (W.withP ps) frs (ownOf env) H s Ha sa->Inv ((W.withP ps).D Ha) sa.heap:=fun {sa Ha} st =>
  It.kv _ _ _ _ (Stp.kv (W:=W.withP ps) (F.inP (fun b o e=>e) hp1) st fun _ z=>z) (It.kv _ _ _ _ (zbJ (fun b o e=>e) hp1) hInv)
 refine codeAny_forLoop_any (fun n s'=>∃ i mC HD,n=items.length+1 - i/\i<=items.length/\J i mC HD/\St i s'.heap/\Stp (W.withP ps) frs (ownOf env) H s HD s'/\Fits (W.withP ps) frs env sc mC HD s'.heap) ?_ (items.length+1) (zaU 0 m H rfl (Nat.zero_le _) j0 hSt stD FD)
 have hL:env.locals∉ps:=fun q=>(hps' _ q).1 (.head _)
 have hC:∀ x c,(x,c)∈env.cells->c∉ps:=fun x c hm q=>(hps' _ q).1 (.tail _ (List.mem_map_of_mem (f:=Prod.snd) hm))
 intro n s' hI
 refine zd7 hI fun i mC HD hn hi hJ hS st F'=>?_
 subst hn
 by_cases hlt:i < items.length
 ·have hx:items[i]?=some items[i]:=List.getElem?_eq_getElem hlt
  obtain ⟨hgd,ht'⟩:=jt i _ mC HD hx hJ
  refine It.item (fun a=>W.priv a∨a∈ps) (fun b hb=>.inr hb) i _ s' HD _ _ _ st.gd hgd (inv st) hx hS (fun y s'' h=>h) fun y h' tk hk hx' hS' a=>?_
  ·obtain ⟨st',kv⟩:=zdX (W:=W) (q:=fun a=>W.priv a∨a∈ps) (p0:=W.priv) (h':=h') (tk:=tk) (fun b hb=>.inr hb) G (fun b hb=>.inl (hp1 b hb)) st hk hx'
   have F'':Fits (W.withP ps) frs env sc mC HD h':=zV (W':=W.withP ps) rfl rfl F' kv (fun _ e=>e) (fun o e=>hk _ o hL e) (fun x c hm o e=>hk _ o (hC x c hm) e)
   refine sTgt (W:=W.withP ps) (s:={ s' with heap:=h',toks:=tk }) R.quiet ht ht' a st'.gd F'' (fun mD sb stb Fb hw=>?_) hpl
   have stE:=st'.trans stb
   refine wpAny_passesOwn hE (wpAny_mono (hb A frs env sb mD HD _ RK XS E R hh stE.gd Fb hE (fun e se z=>hX e se ((z.of stE).ofP)) hw) (fun f sc' hf=>?_) fun _ _ z=>z)
   refine zd hf fun mE HF fa stF FF=>?_
   have stG:=stE.trans stF
   have hSE:St (i+1) sc'.heap:=stand (stand (sa:={ s' with heap:=h',toks:=tk }) hS' st'.gd stb) stb.gd stF
   induction fa using SEnd.casesOn with
   | next q =>
    refine oEA q fun HG hs hj=>?_
    exact zck (items.length+1 - (i+1)) (by exact #[0x7621007341051241051411051471345100631041105124105110411105110416134515421,_,_,_,_] hlt (subO _ _) (subO _ _)) (i+1) mE HG rfl hlt hj hSE (stG.sub hs) (FF.like (zbx hs _))
   | ret av q=>exact SPost.ofP (retS stG FF av q) fun b hb=>(hps' b hb).2
 ·have he:i=items.length:=by exact #[0x5431542615411,_,_] hi hlt
  subst he
  obtain ⟨hgd,hq⟩:=jd mC HD hJ
  refine It.done (fun a=>W.priv a∨a∈ps) (fun b hb=>.inr hb) s' HD _ _ st.gd hgd (inv st) hS fun h' tk hk=>?_
  obtain ⟨st',kv⟩:=zbl (p0:=W.priv) (h':=h') (tk:=tk) (fun a pa z=>by refine oAE (G.pv a pa) fun _ o e=>?_; rw [hp1 a z] at e; exact absN e) G hp1 st hk
  have F'':Fits W frs env sc mC HD h':=zV (W:=W.withP ps) (W':=W) rfl rfl F' kv (fun _ e=>e) (fun o e=>hk _ o hL e) (fun x c hm o e=>hk _ o (hC x c hm) e)
  exact wpAny_execs_nil (zcR st' F'' hq)
end
set_option backward.match.sparseCases true
noncomputable def MkI (W:Wd) (frs:List Env) (A:Around) (t:Expr) (tg:Tgt) (H:AH) (s:Shared) (items:List V) (guard:AH->Prop) (I:Addr) (sC:Shared):Prop :=
 ∃ (ps:List Addr) (ow:Bool) (Inv:(Addr->Prop)->Heap->Prop) (St:Nat->Heap->Prop),(∀ b o,s.heap.get? b=some o->sC.heap.get? b=some o)/\sC.os=s.os/\sC.gens=s.gens /\
  (∀ b∈ps,s.heap.get? b=none/\∃ o,sC.heap.get? b=some o)/\Iter W frs A ow t I ps items guard Inv St/\St 0 sC.heap/\Inv (W.D H) s.heap/\(∀ i,tg=.var i->ow=false)
theorem zmu {W:Wd} {ps:List Addr} {q:Addr->Prop} (hq:∀ b∈ps,q b) {H:AH} {h h':Heap} (k:∀ b o,b∉ps->h.get? b=some o->h'.get? b=some o):KeepV ((W.ofP q).D H) h ((W.ofP q).D H) h':=fun b o e n _=>⟨⟨o.slots,k b o (fun z=>(zaq n).2 (hq b z)) e⟩,n⟩
section
variable {M:Model} {Q:Unit->Shared->Prop}
theorem zaH {t:Expr} {I:Addr} {y:Value} {o:Obj} {T:String} (ho:s.heap.get? I=some o) (hc:o.cls=.type T) (hT:["enumerate","zip","dict_itemiterator","dict_reverseitemiterator","odict_iterator","itertools.zip_longest","itertools.pairwise"].contains T=false) (h:Q () s) :
  PySem.wpAny M A (letOwnedTupleGo t (.ref I) y) Q E s:=by
 have key:PySem.wpAny M A (do
   let (.ref r,.ref a):=((Value.ref I,y):Value×Value) | return
   let o <- load r
   match o.cls,o.data with
   | .type n,.fields vs =>
    if ["enumerate","zip","dict_itemiterator","dict_reverseitemiterator","odict_iterator","itertools.zip_longest","itertools.pairwise"].contains n&&vs[0]? == some (rawInt a) then
     rule "for.unpacks-the-owned-tuple"
     updateField r 0 .none
   | _,_=>pure ()) Q E s:=by
  induction y using Value.casesOn with
  | ref a =>
   dsimp only
   refine PySem.wpAny_bind (PySem.wpAny_load ho ?_)
   rw [hc]
   induction o.data using PySem.Data.casesOn with
   | fields vs=>dsimp only; rw [hT]; exact PySem.wpAny_pure h
   | _=>exact PySem.wpAny_pure h
  | _=>exact PySem.wpAny_pure h
 unfold letOwnedTupleGo
 induction t using Expr.casesOn <;> first | exact key | exact PySem.wpAny_pure h
end
section
variable {t:Expr} {R:Value->Shared->Prop}
theorem za5 {I:Addr} {ps:List Addr} (hI:I∈ps) {h h':Heap} (hs:Heap.SameBut I h h'):∀ b o,b∉ps->h.get? b=some o->h'.get? b=some o:=fun b o n e=>(hs.2 b fun q=>n (q ▸ hI)).trans e
theorem zbp {I:Addr} {ps:List Addr} (hI:I∈ps) {h h':Heap} (hs:Heap.ExtBut I h h'):∀ b o,b∉ps->h.get? b=some o->h'.get? b=some o:=fun b o n e=>hs b o (fun q=>n (q ▸ hI)) e
set_option backward.match.sparseCases false in
theorem zlb (P:Pr W lev A frs s H) {v:V} {x:Value} {xs:List V} {guard:AH->Prop} (hv:v=.lst xs/\guard=(fun _=>True)∨∃ a,v=.ref a/\guard=(fun H'=>H' a=some (.list xs))/\guard H) (ha:Abs W.clsA (W.D H) s.heap v x)
  (k:∀ I sC,MkI W frs A t tg H s xs guard I sC->R (.ref I) sC):wpAny W.M A (pyIter x) R E s:=by
 have hl:listOf H v=some xs:=by
  rcases hv with ⟨rfl,_⟩ | ⟨a,rfl,rfl,hg⟩
  ·rfl
  ·show (match H a with | some (.list xs)=>some xs | _=>none)=_
   rw [hg]
 refine zd (zat P.gd ha hl) fun b items yC o al=>?_; obtain rfl:=yC
 refine lift (wpAny_pyIter_list (zk o) (k _ _ (zaa ([s.heap.objs.size]) false (fun D h=>v=.lst xs->Abs W.clsA D h (.lst xs) (.ref b)) (fun i h=>h.IsListIter s.heap.objs.size b i) (fun _ _ e=>Heap.get?_push_of_some _ e) rfl rfl (fun c hc=>?_) ?_ ((mEAA _ (Heap.get?_push_size _ rfl) rfl rfl)) (fun q=>q ▸ ha) (fun _ _=>rfl))))
 ·obtain rfl:=List.mem_singleton.mp hc
  exact mAE (Heap.get?_none_of_le (Nat.le_refl _)) _ (Heap.get?_push_size _ rfl)
 ·-- what the list holds now
  have now:∀ {q:Addr->Prop} {s:Shared} {H:AH},Gd (W.ofP q) frs H s.heap->guard H->(v=.lst xs->Abs W.clsA ((W.ofP q).D H) s.heap (.lst xs) (.ref b))->∃ items,s.heap.IsList b (List.toArray items)/\AbsL W.clsA ((W.ofP q).D H) s.heap xs items:=fun {q s H} G hg hi=>by
   rcases hv with ⟨rfl,_⟩ | ⟨a,rfl,rfl,_⟩
   ·refine zu (zbc (hi rfl)) fun b' items e _ o al=>?_
    cases e
    exact mEA items (zk o) al
   ·cases zI ha
    refine zcp (G.rp.2 _ _ hg) fun _ ob g2 c1 c2 items j c3 c4=>?_
    exact mEA items ((zfg ob g2 c1 j c3)) c4
  refine ⟨fun D h D' h' kv q e=>Abs.keeps kv _ _ (q e),fun i h h' ⟨o,ho,r⟩ kk=>(mEA o (kk _ (List.mem_singleton.mpr rfl) o ho) r),fun i s R E hit h=>lift (wpAny_pyIter_listiter hit h),fun q hq i y s H P' Q E G hg hi hx hit h1 h2=>?_,fun q hq s H P' E G hg hi hit h=>?_⟩
  ·refine oEA (now G hg hi) fun items il al=>?_
   refine oEA (al.get hx) fun z hz az=>?_
   refine lift (wpAny_pyNext_list_item hit il (by simpa using hz) fun h' hit' hs=>h1 z _ (lift ?_))
   refine oEAA (id hit') fun oi hoi hci _=>?_
   have kk:=za5 (List.mem_singleton.mpr rfl) hs
   exact zaH (s:={ s with heap:=h' }) hoi hci (by decide) (h2 z h' s.toks kk (fun b hb=>by obtain rfl:=List.mem_singleton.mp hb; exact ⟨oi,hoi⟩) hit' (.inl (Abs.keeps (zmu hq kk) _ _ az)))
  ·refine oEA (now G hg hi) fun items il al=>?_
   exact lift (wpAny_pyNext_list_end P.rm.quiet hit il (by rw [List.getElem?_toArray,List.getElem?_eq_none (by rw [al.length]; exact Nat.le_refl _)]) fun h' he=>h h' s.toks (zbp (List.mem_singleton.mpr rfl) he))
end
set_option backward.match.sparseCases false
theorem zah {a b c:Nat} (hc:0 < c):Builtin.Range.rangeSize (Int.ofNat a) (Int.ofNat b) (Int.ofNat c)=Int.ofNat ((b+c - 1 - a) / c):=by
 unfold Builtin.Range.rangeSize
 rw [if_pos (show Int.ofNat c > 0 from Int.ofNat_lt.mpr hc)]
 by_cases h:a < b
 ·rw [if_pos (show Int.ofNat a < Int.ofNat b from Int.ofNat_lt.mpr h),show b+c - 1 - a=b - a - 1+c by rw [Nat.sub_sub,Nat.add_comm 1 a,Nat.sub_sub]; exact Nat.sub_add_comm h,Nat.add_div_right _ hc,show Int.ofNat b - Int.ofNat a - 1=Int.ofNat (b - a - 1) from (by show (b:Int) - (a:Int) - 1=((b - a - 1:Nat):Int); rw [Int.ofNat_sub (Nat.sub_pos_of_lt h),Int.ofNat_sub (Nat.le_of_lt h)]; rfl)]
  rfl
 ·rw [if_neg (show ¬ Int.ofNat a < Int.ofNat b from fun q=>h (Int.ofNat_lt.mp q)),Nat.div_eq_of_lt (by exact #[0x4821008357247517581345100731046124461101461107134516526140021,c,a,b,b+c - 1,b+c - 1 - a] hc h (subO _ _) (subO _ _))]; rfl
theorem zco {a b c:Nat} (ha:a < 2 ^ 62) (hb:b < 2 ^ 62) (hc:0 < c) (hc2:c < 2 ^ 62):Builtin.Range.small (Int.ofNat a) (Int.ofNat b) (Int.ofNat c)=true:=by
 have fit:∀ {n:Nat},n < 2 ^ 63->Builtin.Range.rangeFitsLong (Int.ofNat n)=true:=fun {n} h=>by
  unfold Builtin.Range.rangeFitsLong
  rw [Bool.and_eq_true,decide_eq_true_eq,decide_eq_true_eq]
  exact ⟨Int.le_trans (by decide) (Int.natCast_nonneg n),Int.ofNat_lt.mpr h⟩
 have hq:(b+c - 1 - a) / c<=b+c - 1 - a:=Nat.div_le_self _ _
 unfold Builtin.Range.small
 rw [zah hc,if_pos (show Int.ofNat c > 0 from Int.ofNat_lt.mpr hc),fit (by exact #[0x188888888888888888888804214888888888888888888880421,_] ha),fit (by exact #[0x188888888888888888888804214888888888888888888880421,_] hb),fit (by exact #[0x188888888888888888888804214888888888888888888880421,_] hc2),fit (by exact #[0x1888888888888888888888062100739824891897134510083105412454110154110813451761148888888888888888888805214888888888888888888880421,_,_,_,_,_,_] hb hc2 hq (subO _ _) (subO _ _)),show Int.ofNat b+(Int.ofNat c - 1)=Int.ofNat (b+(c - 1)) from (Int.ofNat_sub (show 1<=c from hc) ▸ rfl),fit (by exact #[0x1888888888888888888888064121006310524510151061345148888888888888888888805214888888888888888888880421,_,_,_] hb hc2 (subO _ _)),Bool.or_true]
 rfl
section
variable {t:Expr} {R:Value->Shared->Prop}
theorem zg1 {a k c i:Nat} {x:V} (h:(il (List.range' a k c))[i]?=some x):x=iv (a+c*i)/\i < k:=by
 rw [List.getElem?_map] at h
 refine oEA (Option.map_eq_some_iff.mp h) fun y hy yC=>?_; obtain rfl:=yC
 obtain ⟨h1,h2⟩:=List.getElem?_eq_some_iff.mp hy
 rw [List.getElem_range'] at h2
 rw [List.length_range'] at h1
 exact ⟨congrArg iv h2.symm,h1⟩
theorem zfb (P:Pr W lev A frs s H) {s₁:Shared} {r:Addr} {a n c:Nat} {b:Int} {tB tC tD:Tok} (kp:∀ b o,s.heap.get? b=some o->s₁.heap.get? b=some o) (ho:s₁.os=s.os) (hg:s₁.gens=s.gens) (hr:IsRange s₁.heap r (Int.ofNat a) b (Int.ofNat c) tB tC tD) (hsz:s.heap.objs.size<=s₁.heap.objs.size)
  (hn:Builtin.Range.rangeSize (Int.ofNat a) b (Int.ofNat c)=Int.ofNat n) (hs:Builtin.Range.small (Int.ofNat a) b (Int.ofNat c)=true) (k:∀ I sC,MkI W frs A t tg H s (il (List.range' a n c)) (fun _=>True) I sC->R (.ref I) sC):wpAny W.M A (pyIter (.ref r)) R E s₁:=by
 refine lift (wpAny_pyIter_range hr hs (k _ _ (zaa ([s₁.heap.objs.size]) false (fun _ _=>True) (fun i h=>IsRangeIter h s₁.heap.objs.size (Int.ofNat (a+c*i)) (Int.ofNat n - Int.ofNat i) (Int.ofNat c)) (fun _ _ e=>Heap.get?_push_of_some _ (kp _ _ e)) ho hg (fun c hc=>?_) ?_ ?_ trivial (fun _ _=>rfl))))
 ·obtain rfl:=List.mem_singleton.mp hc
  exact mAE (Heap.get?_none_of_le hsz) _ (Heap.get?_push_size _ rfl)
 ·refine ⟨fun D h D' h' kv q=>q,fun i h h' e kk=>kk _ (List.mem_singleton.mpr rfl) _ e,fun i s R E hit h=>lift (wpAny_pyIter_rangeiter hit h),fun q hq i y s H P' Q E G hg hi hx hit h1 h2=>?_,fun q hq s H P' E G hg hi hit h=>?_⟩
  ·obtain ⟨rfl,hlt⟩:=zg1 hx
   refine lift (wpAny_pyNext_range_item hit (Int.sub_pos.mpr (Int.ofNat_lt.mpr hlt)) fun h' hit' hs=>h1 _ _ (lift ?_))
   have kk:=za5 (List.mem_singleton.mpr rfl) hs
   have hit2:IsRangeIter h' s₁.heap.objs.size (Int.ofNat (a+c*(i+1))) (Int.ofNat n - Int.ofNat (i+1)) (Int.ofNat c):=by
    have e1:Int.ofNat (a+c*(i+1))=Int.ofNat (a+c*i)+Int.ofNat c:=congrArg Int.ofNat (Nat.add_assoc a (c*i) c).symm
    have e2:Int.ofNat n - Int.ofNat (i+1)=Int.ofNat n - Int.ofNat i - 1:=(Int.sub_sub (Int.ofNat n) (Int.ofNat i) 1).symm
    rw [e1,e2]; exact hit'
   exact zaH (s:={ s with heap:=h',toks:=_ }) hit' rfl (by decide) (h2 _ h' _ kk (fun b hb=>by obtain rfl:=List.mem_singleton.mp hb; exact ⟨_,hit'⟩) hit2 (.inl (zh _ _)))
  ·rw [List.length_map,List.length_range',Int.sub_self] at hit
   exact lift (wpAny_pyNext_range_end P.rm.quiet hit (by decide) fun h' he=>h h' s.toks (zbp (List.mem_singleton.mpr rfl) he))
 ·show IsRangeIter _ _ _ _ _
  rw [show Int.ofNat n - Int.ofNat 0=Int.ofNat n from Int.sub_zero _,<- hn]
  exact Heap.get?_push_size _ rfl
theorem zl3 (P:Pr W lev A frs s H) {b:List UInt8} {u:Tok} (k:∀ I sC,MkI W frs A t tg H s (il (b.map (·.toNat))) (fun _=>True) I sC->R (.ref I) sC):wpAny W.M A (pyIter (.bytes b.toArray u)) R E s:=by
 rw [show il (b.map (·.toNat))=b.map fun x=>V.int (x.toNat:Int) from List.map_map ..] at k
 refine lift (KBw.pyIter_bytes (k _ _ (zaa ([s.heap.objs.size]) false (fun _ _=>True) (fun i h=>KBw.IsBytesIter h s.heap.objs.size b.toArray u i) (fun _ _ e=>Heap.get?_push_of_some _ e) rfl rfl (fun c hc=>?_) ?_ ((mEAA _ (Heap.get?_push_size _ rfl) rfl rfl)) trivial (fun _ _=>rfl))))
 ·obtain rfl:=List.mem_singleton.mp hc
  exact mAE (Heap.get?_none_of_le (Nat.le_refl _)) _ (Heap.get?_push_size _ rfl)
 ·refine ⟨fun D h D' h' kv q=>q,fun i h h' ⟨o,ho,r⟩ kk=>(mEA o (kk _ (List.mem_singleton.mpr rfl) _ ho) r),fun i s R E hit h=>lift (KBw.pyIter_self hit h),fun q hq i y s H P' Q E G hg hi hx hit h1 h2=>?_,fun q hq s H P' E G hg hi hit h=>?_⟩
  ·rw [List.getElem?_map] at hx
   refine oEA (Option.map_eq_some_iff.mp hx) fun c hc yC=>?_; obtain rfl:=yC
   refine lift (KBw.next_item hit (c:=c) (by simpa using hc) fun h' hit' hs=>h1 _ _ (lift ?_))
   have kk:=za5 (List.mem_singleton.mpr rfl) hs
   refine oEAA (id hit') fun oi hoi hci _=>?_
   exact zaH (s:={ s with heap:=h',toks:=_ }) hoi hci (by decide) (h2 _ h' _ kk (fun b hb=>by obtain rfl:=List.mem_singleton.mp hb; exact ⟨_,hoi⟩) hit' (.inl (zh _ _)))
  ·exact lift (KBw.next_end P.rm.quiet hit (by simp) fun h' he=>h h' s.toks (zbp (List.mem_singleton.mpr rfl) he))
theorem zfj {W:Wd} {frs:List Env} {H:AH} {h:Heap} {a:Addr} {kvs:List (Int×V)} (G:Gd W frs H h) (hH:H a=some (.dict kvs)):∃ xs:List (Int×Value),h.DictAt (intKind W.prog W.w) a xs xs.length/\xs.map (·.1)=kvs.map (·.1):=by
 refine zfm (G.rp.2 _ _ hH) fun _ ob g2 c1 ps yF c3=>?_; obtain ⟨es,d1,d2,d3,d4,d5⟩:=yF
 refine mEA ps ((zY ob es g2 d1 ?_ d3 d4 d5)) (zh6 c3)
 rw [d2,<- d4.length,Array.length_toList]
theorem mkDict (P:Pr W lev A frs s H) {a:Addr} {kvs:List (Int×V)} (hH:H a=some (.dict kvs)) (k:∀ I sC,MkI W frs A t tg H s (kvs.map fun p=>.int p.1) (fun H'=>H' a=some (.dict kvs)) I sC->R (.ref I) sC):wpAny W.M A (pyIter (.ref a)) R E s:=by
 refine oEA (zfj P.gd hH) fun xs hat hks=>?_
 have hlen:∀ {ys:List (Int×Value)},ys.map (·.1)=kvs.map (·.1)->ys.length=kvs.length:=fun e=>by rw [<- List.length_map (f:=(·.1)),e,List.length_map]
 rw [hlen hks] at hat
 refine lift (wpAny_pyIter_dict (P.notSys hH) hat (k _ _ (zaa ([s.heap.objs.size]) false (fun _ _=>True) (fun i h=>h.IsKeyIter s.heap.objs.size a i kvs.length kvs.length) (fun _ _ e=>Heap.get?_push_of_some _ e) rfl rfl (fun c hc=>?_) ?_ ((mEAA _ (Heap.get?_push_size _ rfl) rfl (by rw [hlen hks]; rfl))) trivial (fun _ _=>rfl))))
 ·obtain rfl:=List.mem_singleton.mp hc
  exact mAE (Heap.get?_none_of_le (Nat.le_refl _)) _ (Heap.get?_push_size _ rfl)
 ·refine ⟨fun D h D' h' kv q=>q,fun i h h' ⟨o,ho,r⟩ kk=>(mEA o (kk _ (List.mem_singleton.mpr rfl) _ ho) r),fun i s R E hit h=>lift (wpAny_pyIter_keyiter hit h),fun q hq i y s H P' Q E G hg hi hx hit h1 h2=>?_,fun q hq s H P' E G hg hi hit h=>?_⟩
  ·refine oEA (zfj G hg) fun ys dat hys=>?_
   have hly:=hlen hys
   rw [hly] at dat
   rw [List.getElem?_map] at hx
   refine oEA (Option.map_eq_some_iff.mp hx) fun yA hc yC=>?_; obtain ⟨c,cv⟩:=yA; obtain rfl:=yC
   have hc2:(ys.map (·.1))[i]?=some c:=by rw [hys,List.getElem?_map,hc]; rfl
   rw [List.getElem?_map] at hc2
   refine oEA (Option.map_eq_some_iff.mp hc2) fun yA hy' yC=>?_; obtain ⟨c',y'⟩:=yA; obtain rfl:=yC
   refine lift (wpAny_pyNext_dict_item (by rw [hly]; exact hit) dat hy' fun key h' hkey hit' hs=>h1 _ _ (lift ?_))
   obtain ⟨tk,rfl⟩:=Value.isInt_shape hkey
   have kk:=za5 (List.mem_singleton.mpr rfl) hs
   refine oEAA (id hit') fun oi hoi hci _=>?_
   exact zaH (s:={ s with heap:=h' }) hoi hci (by decide) (h2 _ h' s.toks kk (fun b hb=>by obtain rfl:=List.mem_singleton.mp hb; exact ⟨_,hoi⟩) (by rw [hly] at hit'; exact hit') (.inl (zh _ _)))
  ·refine oEA (zfj G hg) fun ys dat hys=>?_
   have hly:=hlen hys
   rw [hly] at dat
   rw [List.length_map] at hit
   exact lift (wpAny_pyNext_dict_end P.rm.quiet (by rw [hly]; exact hit) dat (by rw [List.getElem?_eq_none (by exact #[0x54115431,_,_] hly)]) fun h' he=>h h' s.toks (zbp (List.mem_singleton.mpr rfl) he))
end
section
variable {prog:Program} {w:World} {b:Array UInt8} {t:Tok}
theorem zbI {it:Addr} {i:Nat} {c:UInt8} {Q:Value->Shared->Prop} (hit:KBw.IsBytesIter s.heap it b t i) (hx:b[i]?=some c)
  (hQ:∀ h',KBw.IsBytesIter h' it b t (i+1)->Heap.SameBut it s.heap h'->Q (.int (c.toNat:Int) s.toks) { s with heap:=h',toks:=s.toks+1 }):PySem.wpAny (model prog w) A (Builtin.SmallTypes.nextOf (.ref it)) Q E s:=by
 refine oEAA (id hit) fun o ho hc hd=>?_
 unfold Builtin.SmallTypes.nextOf
 refine PySem.wpAny_bind (wpAny_callSpecial?_slot (name:=PySem.Str.ofString "__next__") (KBw.iter_typeIs hit) KBw.slot_next (wpAny_call_entry KBw.slot_next (KBw.iter_typeIs hit) KBw.entry_next ?_ (KBw.args_next _)))
 show PySem.wpAny _ _ (field (.ref it) 0 >>= _) _ _ s
 refine PySem.wpAny_bind (wpAny_field ho hd (x:=.bytes b t) rfl ?_)
 show PySem.wpAny _ _ (if (Value.bytes b t == Value.none)=true then _ else _) _ _ s
 rw [if_neg (show ¬ ((Value.bytes b t == Value.none)=true) from Bool.false_ne_true)]
 show PySem.wpAny _ _ (field (.ref it) 1 >>= _) _ _ s
 refine PySem.wpAny_bind (wpAny_field ho hd (x:=.int i 0) rfl (PySem.wpAny_bind (wpAny_of_eq (a:=b) rfl ?_)))
 simp only [Int.toNat_natCast,hx]
 refine PySem.wpAny_bind (wpAny_setField ho hd (by simp) (PySem.wpAny_bind (wpAny_mkInt (PySem.wpAny_pure (mEA _ rfl (PySem.wpAny_pure (hQ _ ?_ (Heap.SameBut.update ..))))))))
 exact mEAA _ (Heap.get?_update_self _ ho (Obj.isFreed_of_fields (Obj.data_mapFields hd _))) ((Obj.cls_mapFields ..).trans hc) (by rw [Obj.data_mapFields hd]; simp [rawInt])
theorem zb6 {it:Addr} {i:Nat} {Q:Value->Shared->Prop} (hh:A.handled=none) (hit:KBw.IsBytesIter s.heap it b t i) (hx:b[i]?=none)
  (hE:∀ h' e,Heap.ExtBut it s.heap h'→(∃ o,h'.get? e=some o∧o.cls=.type "StopIteration")→E (.ref e) { s with heap:=h' }):PySem.wpAny (model prog w) A (Builtin.SmallTypes.nextOf (.ref it)) Q E s:=by
 refine oEAA (id hit) fun o ho hc hd=>?_
 unfold Builtin.SmallTypes.nextOf
 refine PySem.wpAny_bind (wpAny_callSpecial?_slot (name:=PySem.Str.ofString "__next__") (KBw.iter_typeIs hit) KBw.slot_next (wpAny_call_entry KBw.slot_next (KBw.iter_typeIs hit) KBw.entry_next ?_ (KBw.args_next _)))
 show PySem.wpAny _ _ (field (.ref it) 0 >>= _) _ _ s
 refine PySem.wpAny_bind (wpAny_field ho hd (x:=.bytes b t) rfl ?_)
 show PySem.wpAny _ _ (if (Value.bytes b t == Value.none)=true then _ else _) _ _ s
 rw [if_neg (show ¬ ((Value.bytes b t == Value.none)=true) from Bool.false_ne_true)]
 show PySem.wpAny _ _ (field (.ref it) 1 >>= _) _ _ s
 refine PySem.wpAny_bind (wpAny_field ho hd (x:=.int i 0) rfl (PySem.wpAny_bind (wpAny_of_eq (a:=b) rfl ?_)))
 simp only [Int.toNat_natCast,hx]
 refine PySem.wpAny_bind (PySem.wpAny_rule (PySem.wpAny_bind (wpAny_setField ho hd (by simp) ?_)))
 show PySem.wpAny _ _ (newExc (.type "StopIteration") [] >>= _) _ _ _
 refine PySem.wpAny_bind ?_
 simp only [newExc,newTuple]
 refine PySem.wpAny_bind (wpAny_newObj_type ?_ (by size_fits))
 refine PySem.wpAny_bind (m:=firstArgMember _ _) (wpAny_of_eq (a:=Value.none) (by first | rfl | (simp only [firstArgMember]; rfl)) ?_)
 refine wpAny_newObj_type ?_ (by size_fits)
 unfold raiseNew
 refine PySem.wpAny_bind (wpAny_handled ?_)
 first | rw [show A.in1.handled=none from hh] | rw [hh]
 refine PySem.wpAny_bind (PySem.wpAny_pure (PySem.wpAny_throw ?_))
 exact hE _ _ (((Heap.SameBut.update ..).extBut.push _).push _) (mEA _ (Heap.get?_push_size _ rfl) rfl)
end
theorem zgZ {prog:Program} {w:World} {A:Around} (hh:A.handled=none) (it:Addr) (b:Array UInt8) (t:Tok) :
  Draws prog w A it [it] b.size (fun i v=>∃ c u,b[i]?=some c/\v=.int (c.toNat:Int) u) (fun i h=>KBw.IsBytesIter h it b t i) where
 live:=fun _ _ st=>oEA st fun o ho _=>⟨o,ho⟩
 frame:=fun _ _ _ st hk=>oEA st fun o ho r=>(mEA o (hk it (by simp) o ho) r)
 item:=fun i s Q E hi st hQ=>zbI st (c:=b[i]) (by simp [hi]) fun h' hit' hs'=>hQ _ h' (s.toks+1) (mEEA _ _ (by simp [hi]) rfl) hit' hs'
 done:=fun s Q E st hE=>zb6 hh st (by simp) hE
theorem zj3 {prog:Program} {w:World} {A:Around} {α:Type} {Q:α->Shared->Prop} {E:Value->Shared->Prop} {s:Shared} {a:α} (h:∀ a,Q a s):PySem.wpAny (model prog w) A (pure a) Q E s:=PySem.wpAny_pure (h a)
set_option maxHeartbeats 1000000 in
theorem zfx (x:Array UInt8) (t:Tok) :
  Meets (Builtin.«enumerate.__new__» ⟨[.type "enumerate",.bytes x t],[]⟩) (fun _ R s =>
   R (.ok (.ret (.ref (s.heap.push { cls:=.type "bytes_iterator",data:=.fields #[.bytes x t,.int 0 0] }).objs.size)))
    { s with heap:=(s.heap.push { cls:=.type "bytes_iterator",data:=.fields #[.bytes x t,.int 0 0] }).push { cls:=.type "enumerate",data:=.fields #[.none,.bool false,.ref s.heap.objs.size,rawInt 0,.none,.none] } }) :=
 .of_wp fun prog w A R s h=>by
  obtain ⟨hp,g,d,tk,os⟩:=s
  have hsub:=sub_enumerate
  wp_walk
  refine wpAny_stack_any fun st=>zj3 fun b=>?_
  induction b using Bool.casesOn
  ·wp_walk using KBw.pyIter_bytes
   exact mEA _ rfl h
  ·wp_walk using KBw.pyIter_bytes
   exact mEA _ rfl h
section
variable {prog:Program} {w:World}
theorem zgH {x:Array UInt8} {t:Tok} {Q:Value->Shared->Prop}
  (h:∀ h',IsEnum h' (s.heap.objs.size+1) s.heap.objs.size 0 .none->KBw.IsBytesIter h' s.heap.objs.size x t 0->(∀ b o,s.heap.get? b=some o->h'.get? b=some o)->Q (.ref (s.heap.objs.size+1)) { s with heap:=h' }) :
  PySem.wpAny (model prog w) A (call (.type "enumerate") [.bytes x t]) Q E s:=by
 refine callType_new F.called_enumerate (by decide) (F.typeCall_enumerate_1 _) (F.newCall_enumerate_1 _) (fun obj=>F.args_object_init_2 obj _) F.entry_enumerate_new (zfx x t) ?_
 have hz:(s.heap.push { cls:=.type "bytes_iterator",data:=.fields #[.bytes x t,.int 0 0] }).objs.size=s.heap.objs.size+1:=Heap.size_push ..
 have he:=Heap.get?_push_size (s.heap.push { cls:=.type "bytes_iterator",data:=.fields #[.bytes x t,.int 0 0] }) (o:={ cls:=.type "enumerate",data:=.fields #[.none,.bool false,.ref s.heap.objs.size,rawInt 0,.none,.none] }) rfl
 show _/\_
 rw [hz] at he ⊢
 exact ⟨(mEA _ he rfl),h _ he (mEAA _ (Heap.get?_push_of_some _ (Heap.get?_push_size _ rfl)) rfl rfl) fun b o y=>Heap.get?_push_of_some _ (Heap.get?_push_of_some _ y)⟩
end
section
variable {es:List Expr} {cx:Nat} {pp:Pos} {R:Value->Shared->Prop}
theorem zjZ {xs:List V} {i:Nat} {x:V} (h:(xs.zipIdx.map fun p=>V.tup [.int (p.2:Int),p.1])[i]?=some x):∃ v,xs[i]?=some v/\x=.tup [.int i,v]:=by
 rw [List.getElem?_map,List.getElem?_zipIdx] at h
 refine oEA (Option.map_eq_some_iff.mp h) fun y hy yC=>?_; obtain rfl:=yC
 refine oEA (Option.map_eq_some_iff.mp hy) fun v hv yC=>?_; obtain rfl:=yC
 exact mEA v hv (by simp)
theorem ane {a b:Nat} (h:a < b∨b < a):(a:Addr)≠b:=fun q=>by have q:(a:Nat)=b:=q; exact #[0x1543145254251,_,_] h q
theorem zgQ {n b:Nat} (h:b < n):(n+1:Addr)∉[(n:Addr),b]:=fun q=>by
 rcases List.mem_cons.mp q with q | q
 ·exact ane (.inr (Nat.lt_succ_self n)) q
 ·exact ane (.inr (Nat.lt_succ_of_lt h)) (List.mem_singleton.mp q)
theorem zfo {n:Nat}:(n+1:Addr)∉[(n:Addr)]:=fun q=>ane (.inr (Nat.lt_succ_self n)) (List.mem_singleton.mp q)
theorem zky {n l1 l2:Nat} (h1:l1 < n) (h2:l2 < n):ZipApart (n+4) (n+2) (n+3) n (n+1) l1 l2:=⟨ane (by exact #[0x20414041240412041251,_] ),ane (by exact #[0x30414041240413041251,_] ),ane (by exact #[0x44041240414251,_] ),ane (by exact #[0x10414041240411041251,_] ),ane (by exact #[0x20413041230412041251,_] ),ane (by exact #[0x20414242041251,_] ),ane (by exact #[0x20411041210412041251,_] ),ane (by exact #[0x30414243041251,_] ),ane (by exact #[0x30411041210413041251,_] ),ane (by exact #[0x41041210414251,_] ),ane (by exact #[0x440512405142515421,_,_] h1),ane (by exact #[0x430512305142515421,_,_] h1),ane (by exact #[0x452542515421,_,_] h1),ane (by exact #[0x410512105142515421,_,_] h1),ane (by exact #[0x440512405142515421,_,_] h2),ane (by exact #[0x430512305142515421,_,_] h2),ane (by exact #[0x452542515421,_,_] h2),ane (by exact #[0x410512105142515421,_,_] h2)⟩
theorem zhs (G:Gd W frs H s.heap) {h':Heap} {v u:V} {x y:Value} (k:KeepV (W.D H) s.heap (W.D H) h') (hp:h'.IsTuple s.heap.objs.size #[x,y]) (a:Abs W.clsA (W.D H) s.heap v x) (b:Abs W.clsA (W.D H) s.heap u y):Abs W.clsA (W.D H) h' (.tup [v,u]) (.ref s.heap.objs.size):=by
 exact zx _ ([x,y]) rfl (zcs G) hp (AbsL.cons (Abs.keeps k _ _ a) (AbsL.cons (Abs.keeps k _ _ b) AbsL.nil))
theorem zgm (hh:A.handled=none) {e it:Addr} (hne:e≠it) {xs:List V} {guard:AH->Prop} {Inv:(Addr->Prop)->Heap->Prop} {St:Nat->Heap->Prop} (kv:∀ D h D' h',KeepV D h D' h'->Inv D h->Inv D' h')
  (fr:∀ i h h',St i h->(∀ o,h.get? it=some o->h'.get? it=some o)->St i h') (lv:∀ i h,St i h->∃ o,h.get? it=some o)
  (src:∀ (q:Addr->Prop),(∀ b∈[e,it],q b)->∀ i (s:Shared) (H:AH),Gd (W.ofP q) frs H s.heap->guard H->Inv ((W.ofP q).D H) s.heap->St i s.heap->∃ fp P St',Draws W.prog W.w A.in1 it fp xs.length P St'/\St' i s.heap/\e∉fp/\(∀ j h',St' j h'->St j h')/\(∀ y x,P i y->xs[i]?=some x->Abs W.clsA ((W.ofP q).D H) s.heap x y)) :
  Iter W frs A false (.Tuple es cx pp) e [e,it] (xs.zipIdx.map fun p=>.tup [.int (p.2:Int),p.1]) guard Inv (fun i h=>∃ old,IsEnum h e it i old/\St i h):=by
 have me:e∈[e,it]:=.head _
 have mi:it∈[e,it]:=.tail _ (.head _)
 refine ⟨kv,fun i h h' ⟨old,he,st⟩ kk=>(mEA old (kk _ me _ he) (fr i h h' st (kk _ mi))),fun i s R E ⟨old,he,st⟩ h=>lift (wpAny_pyIter_enum he h),fun q hq i x s H P' Q E G hg hi hx ⟨old,he,st⟩ h1 h2=>?_,fun q hq s H P' E G hg hi ⟨old,he,st⟩ h=>?_⟩
 ·refine oEA (zjZ hx) fun v hv yC=>?_; obtain rfl:=yC
  refine zam (src q hq i s H G hg hi st) fun fp P St' D st' hf back ab=>?_
  refine lift (wpAny_pyNext_enum_itemD D he st' (List.getElem?_eq_some_iff.mp hv).1 hne hf fun y h' tk hP heo hst ht hz hk=>h1 _ _ (lift (wpAny_letOwnedTupleGo_enum heo fun h'' he'' hs=>?_)))
  have hs:Heap.SameBut e h' h'':=hs
  have sz:s.heap.objs.size≠e:=fun q=>absurd (Heap.lt_size he) (by rw [q]; exact Nat.lt_irrefl _)
  have kk:∀ b o,b∉[e,it]->s.heap.get? b=some o->h''.get? b=some o:=fun b o n hb=>by
   have n1:b≠e:=fun q=>n (q ▸ me)
   exact (hs.2 b n1).trans (hk b o n1 (fun q=>n (q ▸ mi)) hb)
  have st2:St' (i+1) h'':=D.frame _ _ _ hst fun b hb o e=>(hs.2 b fun q=>hf (q ▸ hb)).trans e
  refine h2 _ h'' _ kk (fun b hb=>?_) (mEA y he'' (back _ _ st2)) (.inl (zhs G (zmu hq kk) (zfg _ ((hs.2 _ sz).trans ht) rfl _ rfl) (zh _ _) (ab y v hP hv)))
  rcases List.mem_cons.mp hb with rfl | hb
  ·exact ⟨_,he''⟩
  ·cases List.mem_singleton.mp hb
   exact lv _ _ (back _ _ st2)
 ·refine zam (src q hq _ s H G hg hi st) fun fp P St' D st' hf back ab=>?_
  rw [List.length_map,List.length_zipIdx] at st' he
  exact lift (wpAny_pyNext_enum_endD D he st' fun h' hk=>h h' s.toks fun b o n e=>hk b o (fun q=>n (q ▸ mi)) e)
theorem zlq (P:Pr W lev A frs s H) {v:V} {x:Value} {xs:List V} {guard:AH->Prop} (hv:v=.lst xs/\guard=(fun _=>True)∨∃ a,v=.ref a/\guard=(fun H'=>H' a=some (.list xs))/\guard H) (ha:Abs W.clsA (W.D H) s.heap v x)
  (k:∀ I sC,MkI W frs A (.Tuple es cx pp) tg H s (xs.zipIdx.map fun p=>.tup [.int (p.2:Int),p.1]) guard I sC→R (.ref I) sC):wpAny W.M A (call (.type "enumerate") [x]) (fun y sC=>wpAny W.M A (pyIter y) R E sC) E s:=by
 have hl:listOf H v=some xs:=by
  rcases hv with ⟨rfl,_⟩ | ⟨a,rfl,rfl,hg⟩
  ·rfl
  ·show (match H a with | some (.list xs)=>some xs | _=>none)=_
   rw [hg]
 refine zd (zat P.gd ha hl) fun b items yC o al=>?_; obtain rfl:=yC
 have hbs:b < s.heap.objs.size:=oEA o fun _ h _=>Heap.lt_size h
 refine lift (call_enumerate_list (zk o) fun h' he hit hsz kk=>lift (wpAny_pyIter_enum (s:={ s with heap:=h' }) he (k _ _ ⟨[s.heap.objs.size+1,s.heap.objs.size],false,fun D h=>v=.lst xs->Abs W.clsA D h (.lst xs) (.ref b),_,kk,rfl,rfl,fun c hc=>?_,
  zgm (St:=fun i h=>h.IsListIter s.heap.objs.size b i) P.rm.quiet (Nat.succ_ne_self _) (fun D h D' h' kv q e=>Abs.keeps kv _ _ (q e)) (fun i h h' ⟨o,ho,r⟩ kk=>(mEA o (kk _ ho) r)) (fun i h z9=>oEA z9 fun o ho _=>⟨o,ho⟩) (fun q hq i s' H' G hg hi st=>?_),(mEA _ he hit),fun q=>q ▸ ha,fun _ _=>rfl⟩)))
 ·rcases List.mem_cons.mp hc with rfl | hc
  ·exact mAE (Heap.get?_none_of_le (Nat.le_succ _)) _ he
  ·cases List.mem_singleton.mp hc
   refine oEA hit fun oi hoi _=>?_
   exact mAE (Heap.get?_none_of_le (Nat.le_refl _)) _ hoi
 ·obtain ⟨items,il,al⟩:∃ items,s'.heap.IsList b (List.toArray items)/\AbsL W.clsA ((W.ofP q).D H') s'.heap xs items:=by
   rcases hv with ⟨rfl,_⟩ | ⟨a,rfl,rfl,_⟩
   ·refine zu (zbc (hi rfl)) fun b' items e _ o al=>?_
    cases e
    exact mEA items (zk o) al
   ·cases zI ha
    refine zcp (G.rp.2 _ _ hg) fun _ ob g2 c1 c2 items j c3 c4=>?_
    exact mEA items ((zfg ob g2 c1 j c3)) c4
  have D:=Draws.list (prog:=W.prog) (w:=W.w) (A:=A.in1) P.rm.quiet s.heap.objs.size b (Nat.ne_of_lt hbs) items.toArray
  rw [show items.toArray.size=xs.length by rw [List.size_toArray,al.length]] at D
  refine za7 _ _ _ D ⟨st,il⟩ (fun q=>?_) (fun j h' q=>q.1) (fun y x hy hx=>?_)
  ·exact zgQ hbs q
  ·refine oEA (al.get hx) fun z hz az=>?_
   rw [List.getElem?_toArray,hz] at hy
   cases hy
   exact az
theorem zmg (P:Pr W lev A frs s H) {b:List UInt8} {u:Tok} (k:∀ I sC,MkI W frs A (.Tuple es cx pp) tg H s ((b.map fun x=>V.int (x.toNat:Int)).zipIdx.map fun p=>.tup [.int (p.2:Int),p.1]) (fun _=>True) I sC->R (.ref I) sC) :
  wpAny W.M A (call (.type "enumerate") [.bytes b.toArray u]) (fun y sC=>wpAny W.M A (pyIter y) R E sC) E s:=by
 refine lift (zgH fun h' he hit kk=>lift (wpAny_pyIter_enum (s:={ s with heap:=h' }) he (k _ _ ⟨[s.heap.objs.size+1,s.heap.objs.size],false,fun D h=>True,_,kk,rfl,rfl,fun c hc=>?_,
  zgm (St:=fun i h=>KBw.IsBytesIter h s.heap.objs.size b.toArray u i) P.rm.quiet (Nat.succ_ne_self _) (fun D h D' h' kv q=>q) (fun i h h' ⟨o,ho,r⟩ kk=>(mEA o (kk _ ho) r)) (fun i h z9=>oEA z9 fun o ho _=>⟨o,ho⟩) (fun q hq i s' H' G hg hi st=>?_),(mEA _ he hit),trivial,fun _ _=>rfl⟩)))
 ·rcases List.mem_cons.mp hc with rfl | hc
  ·exact mAE (Heap.get?_none_of_le (Nat.le_succ _)) _ he
  ·cases List.mem_singleton.mp hc
   refine oEA hit fun oi hoi _=>?_
   exact mAE (Heap.get?_none_of_le (Nat.le_refl _)) _ hoi
 ·have D:=zgZ (prog:=W.prog) (w:=W.w) (A:=A.in1) P.rm.quiet s.heap.objs.size b.toArray u
  rw [show b.toArray.size=(b.map fun x=>V.int (x.toNat:Int)).length by rw [List.size_toArray,List.length_map]] at D
  refine za7 _ _ _ D st (fun q=>?_) (fun j h' q=>q) (fun y x hy hx=>?_)
  ·exact zfo q
  ·refine oEEA hy fun c u' hc yD=>?_; obtain rfl:=yD
   rw [List.getElem?_map] at hx
   refine oEA (Option.map_eq_some_iff.mp hx) fun c' hc' yC=>?_; obtain rfl:=yC
   rw [List.getElem?_toArray,hc'] at hc
   cases hc
   exact zh _ _
theorem zme {xs ys:List V} {i:Nat} {x:V} (h:((xs.zip ys).map fun p=>V.tup [p.1,p.2])[i]?=some x):∃ v u,xs[i]?=some v/\ys[i]?=some u/\x=.tup [v,u]:=by
 rw [List.getElem?_map] at h
 refine oEA (Option.map_eq_some_iff.mp h) fun yA hy yC=>?_; obtain ⟨v,u⟩:=yA; obtain rfl:=yC
 obtain ⟨h1,h2⟩:=List.getElem?_zip_eq_some.mp hy
 exact zn v u h1 h2 rfl
theorem all5 {P:Addr->Prop} {a b c d e:Addr} (h1:P a) (h2:P b) (h3:P c) (h4:P d) (h5:P e):∀ x∈[a,b,c,d,e],P x:=fun x hx=>by
 simp only [List.mem_cons,List.not_mem_nil,or_false] at hx
 rcases hx with rfl | rfl | rfl | rfl | rfl <;> assumption
theorem not5 {x a b c d e:Addr} (h:x∉[a,b,c,d,e]):x≠a/\x≠b/\x≠c/\x≠d/\x≠e:=by
 simpa only [List.mem_cons,List.not_mem_nil,or_false,not_or] using h
structure ZipAt (n l1 l2:Nat) (i:Nat) (h:Heap):Prop where
 z:IsZip h (n+4) (n+2) (n+3) .none
 p:IsPair h (n+2) (.ref n) (.ref (n+1))
 r:∃ a b,IsPair h (n+3) a b
 i1:h.IsListIter n l1 i
 i2:h.IsListIter (n+1) l2 i
theorem ZipAt.keeps {n l1 l2 i:Nat} {h h':Heap} (e:ZipAt n l1 l2 i h) (q:∀ b∈[n+4,n+3,n,n+1,n+2],∀ o,h.get? b=some o->h'.get? b=some o):ZipAt n l1 l2 i h':=by
 have q4:=q (n+4) (.head _)
 have q3:=q (n+3) (.tail _ (.head _))
 have q0:=q n (.tail _ (.tail _ (.head _)))
 have q1:=q (n+1) (.tail _ (.tail _ (.tail _ (.head _))))
 have q2:=q (n+2) (.tail _ (.tail _ (.tail _ (.tail _ (.head _)))))
 exact ⟨q4 _ e.z,q2 _ e.p,oEE e.r fun a b r=>mEE a b (q3 _ r),oEA e.i1 fun o g r=>mEA o (q0 _ g) r,oEA e.i2 fun o g r=>mEA o (q1 _ g) r⟩
theorem ZipAt.there {n l1 l2 i:Nat} {h:Heap} (e:ZipAt n l1 l2 i h):∀ b∈[n+4,n+3,n,n+1,n+2],∃ o,h.get? b=some o :=
 all5 ⟨_,e.z⟩ (oEE e.r fun _ _ r=>⟨_,r⟩) (oEA e.i1 fun o g _=>⟨o,g⟩) (oEA e.i2 fun o g _=>⟨o,g⟩) ⟨_,e.p⟩
theorem n4 {n:Nat}:(n+2:Addr)≠n+4/\(n+3:Addr)≠n+4/\(n:Addr)≠n+4/\(n+1:Addr)≠n+4/\(n+2:Addr)≠n+3/\(n+2:Addr)≠n/\(n+2:Addr)≠n+1:=by
 exact ⟨ane (by exact #[0x20414041240412041251,_] ),ane (by exact #[0x30414041240413041251,_] ),ane (by exact #[0x44041240414251,_] ),ane (by exact #[0x10414041240411041251,_] ),ane (by exact #[0x20413041230412041251,_] ),ane (by exact #[0x20414242041251,_] ),ane (by exact #[0x20411041210412041251,_] )⟩
theorem mkZip (P:Pr W lev A frs s H) {x y:Value} {xs ys:List V} (ha:Abs W.clsA (W.D H) s.heap (.lst xs) x) (hb:Abs W.clsA (W.D H) s.heap (.lst ys) y)
  (k:∀ I sC,MkI W frs A (.Tuple es cx pp) tg H s ((xs.zip ys).map fun p=>.tup [p.1,p.2]) (fun _=>True) I sC→R (.ref I) sC):wpAny W.M A (call (.type "zip") [x,y]) (fun y sC=>wpAny W.M A (pyIter y) R E sC) E s:=by
 refine zu (zbc ha) fun l1 is1 yC _ o1 al1=>?_; obtain rfl:=yC
 refine zu (zbc hb) fun l2 is2 yC _ o2 al2=>?_; obtain rfl:=yC
 have b1:l1 < s.heap.objs.size:=oEA o1 fun _ h _=>Heap.lt_size h
 have b2:l2 < s.heap.objs.size:=oEA o2 fun _ h _=>Heap.lt_size h
 generalize hn:s.heap.objs.size=n at b1 b2
 refine lift (call_zip_2 (zk o1) (zk o2) fun h' hz hTI hTO hi1 hi2 hsz kk=>?_)
 rw [hn] at hz hTI hTO hi1 hi2 ⊢
 have D:=zky b1 b2
 have Z0:ZipAt n l1 l2 0 h':=⟨hz,hTI,mEE _ _ hTO,hi1,hi2⟩
 have fresh:∀ {a:Nat},n<=a->s.heap.get? a=none:=fun h=>Heap.get?_none_of_le (hn ▸ h)
 refine lift (wpAny_pyIter_zip (s:={ s with heap:=h' }) hz (k _ _ ⟨[n+4,n+3,n,n+1,n+2],false,fun D h=>Abs W.clsA D h (.lst xs) (.ref l1)/\Abs W.clsA D h (.lst ys) (.ref l2),ZipAt n l1 l2,
  kk,rfl,rfl,fun c hc=>⟨all5 (P:=fun c=>s.heap.get? c=none) (fresh (Nat.le_add_right ..)) (fresh (Nat.le_add_right ..)) (fresh (Nat.le_refl _)) (fresh (Nat.le_add_right ..)) (fresh (Nat.le_add_right ..)) c hc,Z0.there c hc⟩,
  ⟨fun D h D' h' kv q=>⟨Abs.keeps kv _ _ q.1,Abs.keeps kv _ _ q.2⟩,fun i h h' e kk=>e.keeps kk,fun i s R E z h=>lift (wpAny_pyIter_zip z.z h),?_,?_⟩,Z0,⟨ha,hb⟩,fun _ _=>rfl⟩))
 ·intro q hq i x s H P' Q E G hg q12 hx e h1 h2
  refine zd (zme hx) fun v u hv hu yE=>?_; obtain rfl:=yE
  refine zu (zbc q12.1) fun l1' is1 e1 _ o1 al1=>?_; obtain rfl:=Value.ref.inj e1
  refine zu (zbc q12.2) fun l2' is2 e2 _ o2 al2=>?_; obtain rfl:=Value.ref.inj e2
  refine oEA (al1.get hv) fun xv hxv ax=>?_
  refine oEA (al2.get hu) fun xu hxu au=>?_
  refine oEE e.r fun a b e3=>?_
  refine lift (wpAny_pyNext_zip_item D e.z e.p e3 e.i1 e.i2 (zk o1) (zk o2) (x:=xv) (y:=xu) (by simpa using hxv) (by simpa using hxu) fun h' z1 z2 z3 z4 z5 z6 z7=>h1 _ _ (lift (wpAny_letOwnedTupleGo_zip z1 fun h'' z8 z9=>?_)))
  have z9:Heap.SameBut (n+4) h' h'':=z9
  have kk:∀ b o,b∉[n+4,n+3,n,n+1,n+2]->s.heap.get? b=some o->h''.get? b=some o:=fun b o nb hb=>have N:=not5 nb; (z9.2 b N.1).trans (z7 b o N.1 N.2.1 N.2.2.1 N.2.2.2.1 hb)
  have lt4:n+4 < s.heap.objs.size:=Heap.lt_size e.z
  have w3:IsPair h'' (n+3) xv xu:=(z9.2 _ n4.2.1).trans z2
  have Z:ZipAt n l1 l2 (i+1) h'':=⟨z8,(z9.2 _ n4.1).trans (z7 _ _ n4.1 n4.2.2.2.2.1 n4.2.2.2.2.2.1 n4.2.2.2.2.2.2 e.p),mEE _ _ w3,oEA z3 fun o f r=>mEA o ((z9.2 n n4.2.2.1).trans f) r,oEA z4 fun o f r=>mEA o ((z9.2 (n+1) n4.2.2.2.1).trans f) r⟩
  refine h2 _ h'' s.toks kk (fun b hb=>Z.there b hb) Z (.inl (zhs G (zmu hq kk) ?_ ax au))
  exact zfg _ ((z9.2 _ (ane (.inr lt4))).trans z5) rfl _ rfl
 ·intro q hq s H P' E G hg q12 e h
  refine zu (zbc q12.1) fun l1' is1 e1 _ o1 al1=>?_; obtain rfl:=Value.ref.inj e1
  refine zu (zbc q12.2) fun l2' is2 e2 _ o2 al2=>?_; obtain rfl:=Value.ref.inj e2
  have i1:=e.i1
  have i2:=e.i2
  rw [List.length_map,List.length_zip] at i1 i2
  refine oEE e.r fun a b e3=>?_
  refine lift (wpAny_pyNext_zip_end P.rm.quiet D e.z e.p e3 i1 i2 (zk o1) (zk o2) ?_ fun h' z=>h h' s.toks fun b o nb e=>have N:=not5 nb; z b o N.1 N.2.1 N.2.2.1 N.2.2.2.1 e)
  rw [List.getElem?_toArray,List.getElem?_toArray,List.getElem?_eq_none_iff,List.getElem?_eq_none_iff,al1.length,al2.length]; exact #[0x651641515634524463541451,_,_,_] (minO _ _)
end
section
variable {fnA:Fn->Addr} {R:Value->Shared->Prop} {K:List V->(AH->Prop)->AH->Prop} {t:Expr}
noncomputable def SrcK (W:Wd) (frs:List Env) (A:Around) (t:Expr) (tg:Tgt) (H:AH) (s:Shared) (K:List V->(AH->Prop)->AH->Prop) (R:Value->Shared->Prop):Prop :=
 ∀ I items guard HC s₁ sC,Step W frs H s HC s₁->MkI W frs A t tg HC s₁ items guard I sC->K items guard HC->R (.ref I) sC
theorem srcSeq (ih:PE W lev S n) (P:Pr W lev A frs s H) (F:Fits W frs env sc m H s.heap) {it:Expr} {c:CE} (hc:sc.ce n it=some c) (h:wpSrc S X (.seq c) m H K) (hE:∀ e s',XPost W frs H s X e s'->E e s') (k:SrcK W frs A t tg H s K R) :
  wpAny W.M A (eval it env) (fun x s₁=>wpAny W.M A (pyIter x) R E s₁) E s:=by
 refine wpAny_mono (ih sc it c hc A frs env s m H _ X P.rm P.gd F h) (fun x s₁ z=>?_) hE
 refine zv z fun v HC a g e o ge q=>?_
 have st:Step W frs H s HC s₁:=⟨g,e,o,ge⟩
 have PB:=(F.step st).pr P.rm g
 induction q using WSeq.casesOn with
 | lst q=>exact zlb PB (.inl ⟨rfl,rfl⟩) a fun I sC mk=>k I _ _ _ _ _ st mk q
 | bytes q =>
  obtain ⟨u,rfl⟩:=zX a
  exact zl3 PB fun I sC mk=>k I _ _ _ _ _ st mk q
 | list h q=>exact zlb PB (.inr (mEAA _ rfl rfl h)) a fun I sC mk=>k I _ _ _ _ _ st mk q
 | dict h q =>
  obtain rfl:=zI a
  exact mkDict PB h fun I sC mk=>k I _ _ _ _ _ st mk q
theorem srcCall (O:Wok W fnA) (ih:PE W lev S n) (P:Pr W lev A frs s H) (F:Fits W frs env sc m H s.heap) {x:Str} {np pos:Pos} {T:String} {args:List Expr} {cs:List CE} {Q:List V->AH->Prop} {Y:Value->Shared->Prop} (g1:sc.scope.names.lookup x=some .globalImplicit)
  (hx:x∈([("len" : Str),"max","min","sorted","sum","list","bytes","bytearray","isinstance","int","bool","range","enumerate","zip"] : List Str)) (hb:bootBuiltins x=some (.type T)) (hn:x≠"__name__") (hd:(x == ("__debug__" : Str))=false)
  (hp:args.all plainArg=true) (hc:mapO (sc.ce n) args=some cs) (h:wpEs S X cs m H Q) (hE:∀ e s',XPost W frs H s X e s'->E e s')
  (k:∀ vs xs HC s₁,Step W frs H s HC s₁->AbsL W.clsA (W.D HC) s₁.heap vs xs->Q vs HC->wpAny W.M A (call (.type T) xs) Y E s₁):wpAny W.M A (eval (.Call (.Name x np) args [] pos) env) Y E s:=by
 refine wpAny_Call_ofName (zaQ O P.gd F g1 (O.gblt _ hx) hb hn hd ?_)
 refine zaN (P:=fun _=>True) hp (fun h _=>(mEA .machine (.inr (.inl rfl)) (zcg rfl))) (wpAny_mono (zeA ih P.rm pos args cs s H _ hp hc P.gd F h) (fun xs s₁ z=>⟨trivial,?_⟩) hE)
 refine zv z fun vs HC a g e o ge q=>?_
 exact k vs xs HC s₁ ⟨g,e,o,ge⟩ a.1 q
theorem zig {is:List Nat} (h:sc.tgt t=some (.tup is)):∃ es cx p,t=.Tuple es cx p:=by
 generalize hg:Tgt.tup is=g at h
 induction zfd h using TgtI.casesOn with
 | var=>cases hg
 | @tup es k p=>exact mEEE es k p rfl
theorem zkr {D:Addr->Prop} {h:Heap} {vs:List V} {xs:List Value} {v:V} (a:AbsL W.clsA D h (v::vs) xs):∃ y ys,xs=y::ys/\Abs W.clsA D h v y/\AbsL W.clsA D h vs ys:=a
theorem zmj {D:Addr->Prop} {h:Heap} {xs:List Value} (a:AbsL W.clsA D h [] xs):xs=[]:=a
theorem zjX (O:Wok W fnA) (ih:PE W lev S n) (P:Pr W lev A frs s H) (F:Fits W frs env sc m H s.heap) {x:Str} {np pos:Pos} {args:List Expr} {cs:List CE} (hx:sc.isGlob x "range"=true) (hp:args.all plainArg=true) (hc:mapO (sc.ce n) args=some cs)
  (h:wpSrc S X (.range cs) m H K) (hE:∀ e s',XPost W frs H s X e s'->E e s') (k:SrcK W frs A t tg H s K R):wpAny W.M A (eval (.Call (.Name x np) args [] pos) env) (fun x s₁=>wpAny W.M A (pyIter x) R E s₁) E s:=by
 obtain ⟨rfl,g1⟩:=zF hx
 refine srcCall O ih P F g1 (by decide) (T:="range") Boot.range (by decide) (by decide) hp hc h hE fun vs xs HC s₁ st a q=>?_
 have PB:=(F.step st).pr P.rm st.gd
 induction q using WRange.casesOn with
 | @one n h q =>
  refine oEA (abs1 a) fun y yB a1=>?_; obtain rfl:=yB
  obtain ⟨t1,rfl⟩:=zg a1
  have hn:=zah (a:=0) (b:=n) (c:=1) Nat.one_pos
  rw [Nat.div_one] at hn
  rw [List.range_eq_range'] at q
  exact lift (call_range_1 (zfb (a:=0) (n:=n) (c:=1) (s:=s₁) PB (fun _ _ e=>Heap.get?_push_of_some _ e) rfl rfl (IsRange.new ..) (by rw [Heap.size_push]; exact Nat.le_succ _) hn (zco (by decide) h (by decide) (by decide)) fun I sC mk=>k I _ _ _ _ _ st mk q))
 | @two i j ha hb q =>
  refine zd (abs2 a) fun y z yC a1 a2=>?_; obtain rfl:=yC
  obtain ⟨t1,rfl⟩:=zg a1
  obtain ⟨t2,rfl⟩:=zg a2
  have hn:=zah (a:=i) (b:=j) (c:=1) Nat.one_pos
  rw [Nat.div_one] at hn
  exact lift (call_range_2 (zfb (a:=i) (n:=j - i) (c:=1) (s:=s₁) PB (fun _ _ e=>Heap.get?_push_of_some _ e) rfl rfl (IsRange.new ..) (by rw [Heap.size_push]; exact Nat.le_succ _) hn (zco ha hb (by decide) (by decide)) fun I sC mk=>k I _ _ _ _ _ st mk q))
 | @three i j l ha hb h0 hc q =>
  refine zd (zkr a) fun y1 ys1 yC a1 b1=>?_; obtain rfl:=yC
  refine zd (abs2 b1) fun y2 y3 yC a2 a3=>?_; obtain rfl:=yC
  obtain ⟨t1,rfl⟩:=zg a1
  obtain ⟨t2,rfl⟩:=zg a2
  obtain ⟨t3,rfl⟩:=zg a3
  refine lift (call_range_3 (fun z=>absurd (Int.ofNat.inj z) (Nat.ne_of_gt h0)) (zfb (a:=i) (c:=l) (s:=s₁) PB (fun _ _ e=>Heap.get?_push_of_some _ e) rfl rfl (IsRange.new ..) (by rw [Heap.size_push]; exact Nat.le_succ _) (zah h0) (zco ha hb h0 hc) fun I sC mk=>k I _ _ _ _ _ st mk q) (.inl ?_))
  exact Bool.eq_false_iff.mpr (zf7 hc)
theorem zl1 (O:Wok W fnA) (ih:PE W lev S n) (P:Pr W lev A frs s H) (F:Fits W frs env sc m H s.heap) {x:Str} {np pos:Pos} {a:Expr} {c:CE} (hx:sc.isGlob x "enumerate"=true) (hp:plainArg a=true) (hc:sc.ce n a=some c)
  (h:wpSrc S X (.enum c) m H K) {es:List Expr} {cx:Nat} {pp:Pos} (ht:t=.Tuple es cx pp) (hE:∀ e s',XPost W frs H s X e s'->E e s') (k:SrcK W frs A t tg H s K R):wpAny W.M A (eval (.Call (.Name x np) [a] [] pos) env) (fun x s₁=>wpAny W.M A (pyIter x) R E s₁) E s:=by
 obtain ⟨rfl,g1⟩:=zF hx
 subst ht
 have hcs:mapO (sc.ce n) [a]=some [c]:=by unfold mapO; rw [hc]; rfl
 have h:wpEs S X [c] m H (fun vs H=>match vs with
  | [v]=>WEnum H K v
  | _=>False):=h
 refine srcCall O ih P F g1 (by decide) (T:="enumerate") Boot.enumerate (by decide) (by decide) (by rw [List.all_cons,hp]; rfl) hcs h hE fun vs xs HC s₁ st a q=>?_
 have PB:=(F.step st).pr P.rm st.gd
 induction vs using List.casesOn with
 | nil=>exact q.elim
 | cons v vs =>
  induction vs using List.casesOn with
  | cons _ _=>exact q.elim
  | nil =>
   obtain ⟨y,ys,rfl,a1,a⟩:=zkr a
   obtain rfl:=zmj a
   induction q using WEnum.casesOn with
   | lst hl q=>exact zlq PB (.inl ⟨rfl,rfl⟩) a1 fun I sC mk=>k I _ _ _ _ _ st mk q
   | @bytes b hl q =>
    obtain ⟨u,rfl⟩:=zX a1
    have e:((b.map fun x=>V.int (x.toNat:Int)).zipIdx.map fun p=>V.tup [.int (p.2:Int),p.1])=b.zipIdx.map fun p=>.tup [iv p.2,iv p.1.toNat]:=by rw [List.zipIdx_map,List.map_map]; rfl
    exact zmg PB fun I sC mk=>k I _ _ _ _ _ st mk (e ▸ q)
theorem srcZip (O:Wok W fnA) (ih:PE W lev S n) (P:Pr W lev A frs s H) (F:Fits W frs env sc m H s.heap) {x:Str} {np pos:Pos} {a b:Expr} {c d:CE} (hx:sc.isGlob x "zip"=true) (hp:plainArg a=true) (hp2:plainArg b=true) (hc:sc.ce n a=some c) (hd:sc.ce n b=some d)
  (h:wpSrc S X (.zip c d) m H K) {es:List Expr} {cx:Nat} {pp:Pos} (ht:t=.Tuple es cx pp) (hE:∀ e s',XPost W frs H s X e s'->E e s') (k:SrcK W frs A t tg H s K R):wpAny W.M A (eval (.Call (.Name x np) [a,b] [] pos) env) (fun x s₁=>wpAny W.M A (pyIter x) R E s₁) E s:=by
 obtain ⟨rfl,g1⟩:=zF hx
 subst ht
 have hcs:mapO (sc.ce n) [a,b]=some [c,d]:=by unfold mapO; rw [hc]; unfold mapO; rw [hd]; rfl
 have h:wpEs S X [c,d] m H (fun vs H=>match vs with
  | [v,u]=>WZip H K v u
  | _=>False):=h
 refine srcCall O ih P F g1 (by decide) (T:="zip") Boot.zip (by decide) (by decide) (by rw [List.all_cons,List.all_cons,hp,hp2]; rfl) hcs h hE fun vs xs HC s₁ st a q=>?_
 have PB:=(F.step st).pr P.rm st.gd
 rcases vs with _ | ⟨v,_ | ⟨u,_ | ⟨z,vs⟩⟩⟩
 ·exact q.elim
 ·exact q.elim
 ·refine zd (zkr a) fun y1 ys1 yC a1 b1=>?_; obtain rfl:=yC
  refine zd (zkr b1) fun y2 ys2 yC a2 b2=>?_; obtain rfl:=yC
  obtain rfl:=zmj b2
  obtain ⟨q⟩:=q
  exact mkZip PB a1 a2 fun I sC mk=>k I _ _ _ _ _ st mk q
 ·exact q.elim
theorem zfK {it:Expr} (h:notSet it=true) (x:Value):foldedSetIterable it env x=pure x:=by
 induction it using Expr.casesOn <;> first | rfl | exact absB h
theorem sSrc (O:Wok W fnA) (ih:PE W lev S n) (P:Pr W lev A frs s H) (F:Fits W frs env sc m H s.heap) {it:Expr} {src:Src} (hs:sc.srcBy (sc.ce n) it=some src) (h:wpSrc S X src m H K) {sc':Sc} (ht:sc'.tgt t=some tg) (hok:src.okT tg=true)
  (hE:∀ e s',XPost W frs H s X e s'->E e s') (k:SrcK W frs A t tg H s K R) :
  wpAny W.M A (eval it env) (fun x s₁=>wpAny W.M A (foldedSetIterable it env x) (fun x s₁=>wpAny W.M A (pyIter x) R E s₁) E s₁) E s:=by
 have fin:notSet it=true->wpAny W.M A (eval it env) (fun x s₁=>wpAny W.M A (pyIter x) R E s₁) E s->wpAny W.M A (eval it env) (fun x s₁=>wpAny W.M A (foldedSetIterable it env x) (fun x s₁=>wpAny W.M A (pyIter x) R E s₁) E s₁) E s:=fun hn q =>
  wpAny_mono q (fun x s₁ z=>by rw [zfK hn]; exact wpAny_pure z) fun _ _ z=>z
 have seq:notSet it=true->(sc.ce n it).map Src.seq=some src->wpAny W.M A (eval it env) (fun x s₁=>wpAny W.M A (foldedSetIterable it env x) (fun x s₁=>wpAny W.M A (pyIter x) R E s₁) E s₁) E s:=fun hn q=>by
  refine oEA (zW q) fun c hc yC=>?_; obtain rfl:=yC
  exact fin hn (srcSeq ih P F hc h hE k)
 have tup:(∀ i,src.okT (.var i)=false)->∃ es cx pp,t=.Tuple es cx pp:=fun hv=>by
  induction tg using Tgt.casesOn with
  | var i=>rw [hv i] at hok; exact absB hok
  | tup is=>exact zig ht
 unfold Sc.srcBy at hs
 cases q:nmCall it with
 | none =>
  rw [q] at hs
  cases hn:notSet it with
  | true=>rw [hn] at hs; exact seq hn hs
  | false=>rw [hn] at hs; exact absN hs
 | some r =>
  rw [q] at hs
  obtain ⟨x,args⟩:=r
  obtain ⟨p1,p2,rfl⟩:=zcy q
  have hs:sc.srcCall (sc.ce n) _ x args=some src:=hs
  unfold Sc.srcCall at hs
  split at hs
  ·rename_i hx
   split at hs
   ·rename_i hp
    refine oEA (zW hs) fun cs hc yC=>?_; obtain rfl:=yC
    exact fin rfl (zjX O ih P F hx hp hc h hE k)
   ·exact absN hs
  ·split at hs
   ·rename_i hx
    refine oEA (Option.bind_eq_some_iff.mp hs) fun a ha hs2=>?_
    obtain rfl:=zcb ha
    split at hs2
    ·rename_i hp
     refine oEA (zW hs2) fun c hc yC=>?_; obtain rfl:=yC
     obtain ⟨es,cx,pp,ht⟩:=tup fun _=>rfl
     exact fin rfl (zl1 O ih P F hx hp hc h ht hE k)
    ·exact absN hs2
   ·split at hs
    ·rename_i hx
     refine oEA (Option.bind_eq_some_iff.mp hs) fun a ha hs2=>?_
     obtain rfl:=zh7 ha
     split at hs2
     ·rename_i hp
      obtain ⟨hp1,hp2⟩:=Bool.and_eq_true_iff.mp hp
      refine oEA (zm hs2) fun c hc hs3=>?_
      refine oEA (zm hs3) fun d hd hs4=>?_
      obtain rfl:=Option.some.inj hs4
      obtain ⟨es,cx,pp,ht⟩:=tup fun _=>rfl
      exact fin rfl (srcZip O ih P F hx hp1 hp2 hc hd h ht hE k)
     ·exact absN hs2
    ·exact seq rfl hs
end
section
variable {prog:Program} {w:World}
theorem zdH {M:Model} {α:Type} {c:Prop} [Decidable c] {pos:Pos} {k:PUnit->Sem α} {Q:α->Shared->Prop} (h:wpAny M A (k ()) Q E s):wpAny M A (if c then (standAt pos >>= k) else k ()) Q E s:=by
 split
 ·exact wpAny_bind (wpAny_standAt h)
 ·exact h
noncomputable def cPost (M:Model) (A:Around) (E:Value->Shared->Prop) (use:Option (Value->Sem Unit)) (Q:Value->Shared->Prop) (acc:Value) (C:Addr) (r:Result) (s':Shared):Prop :=
 match r,use with
 | .ok _,none=>∃ m,s'.heap.Ns C m/\∀ h' m',h'.Ns C m'->Heap.SameBut C s'.heap h'->Q acc { s' with heap:=h' }
 | .ok _,some u=>wpAny M A (u acc) (fun _ s''=>∃ m,s''.heap.Ns C m/\∀ h' m',h'.Ns C m'->Heap.SameBut C s''.heap h'->Q .none { s'' with heap:=h' }) E s'
 | .error _,_=>False
theorem compW {e:Expr} {scope:Scope} {pos:Pos} {newAcc first:Sem Value} {g:Comprehension} {gs:List Comprehension} {use:Option (Value->Sem Unit)} {Q:Value->Shared->Prop}
  (hcl:clausesOf e=g::gs) (hkind:scope.kind=.function) (hnames:∀ x∈scope.names,x.2=.local->scope.names.lookup x.1=some .local)
  (h:wpAny (model prog w) A first (fun x s₁=>wpAny (model prog w) A (foldedSetIterable g.iter env x) (fun x s₁=>wpAny (model prog w) A (pyIter x) (fun it sC=>wpAny (model prog w) A newAcc (fun acc sD=>wpAny (model prog w) A (closureFor scope env) (fun cl sD =>
   wpAny (model prog w) A (newFunctionEnv scope env.globals cl [] env.qual none .none (some env)) (fun cenv sE =>
    codeAny (model prog w) A (.compStart e 0 it acc { cenv with scope:=relabel scope env }) (cPost (model prog w) A E use Q acc cenv.locals) sE) E sD) E sD) E sC) E s₁) E s₁) E s) :
  wpAny (model prog w) A (comprehension e scope env pos newAcc false first use) Q E s:=by
 unfold comprehension
 rw [hcl]
 refine wpAny_bind (wpAny_mono h (fun x s₁ hF=>wpAny_bind (wpAny_standAt (wpAny_bind (wpAny_mono hF (fun x s₁ hF=>wpAny_bind (wpAny_holding (wpAny_mono hF (fun it sC hG =>
  zdH (wpAny_bind (wpAny_mono hG (fun acc sD hO=>wpAny_bind (wpAny_mono hO (fun cl sD hO=>wpAny_bind (wpAny_mono hO (fun cenv sE hU=>?_) fun _ _ h'=>h')) fun _ _ h'=>h')) fun _ _ h'=>h')))
   fun _ _ h'=>h'))) fun _ _ h'=>h')))) fun _ _ h'=>h')
 dsimp only
 have hv:∀ x∈(scope.names.filter fun x=>(x.2 == .local || x.2 == .cell)&&x.1 != (".0" : Str)).reverse,x.2=.local →
   Env.kindOf { cenv with scope:=relabel scope env } x.1=some .local:=fun x hx hl=>lookup_relabel_local (hnames x (List.mem_filter.mp (List.mem_reverse.mp hx)).1 hl)
 have hv':∀ x∈(scope.names.filter fun x=>(x.2 == .local || x.2 == .cell)&&x.1 != (".0" : Str)).reverse.drop 1++(scope.names.filter fun x=>(x.2 == .local || x.2 == .cell)&&x.1 != (".0" : Str)).reverse.take 1,
   x.2=.local->Env.kindOf { cenv with scope:=relabel scope env } x.1=some .local:=fun x hx hl=>by
  rcases List.mem_append.mp hx with h1 | h1
  ·exact hv x (List.mem_of_mem_drop h1) hl
  ·exact hv x (List.mem_of_mem_take h1) hl
 refine wpAny_holding (wpAny_bind (wpAny_attempt (wpAny_holding (wpAny_run (codeAny_mono hU fun r s' hr=>?_) fun x=>absN x))))
 induction r using Except.casesOn with
 | ok f =>
  induction use using Option.casesOn with
  | none =>
   refine oEA hr fun m hn hr=>?_
   exact wpAny_bind (wpAny_holding (lift (wpAny_comp_letGo (cenv:={ cenv with scope:=relabel scope env }) hkind _ s' m hv hn fun h' m' hn' hs'=>wpAny_pure (hr h' m' hn' hs'))))
  | some u =>
   refine wpAny_bind (wpAny_rule (wpAny_bind (wpAny_holding (wpAny_mono hr (fun _ s'' hr=>?_) fun _ _ h'=>h'))))
   refine oEA hr fun m hn hr=>?_
   exact wpAny_bind (lift (wpAny_comp_letGo (cenv:={ cenv with scope:=relabel scope env }) hkind _ s'' m hv' hn fun h' m' hn' hs'=>wpAny_pure (hr h' m' hn' hs')))
 | error x=>induction use using Option.casesOn <;> exact hr.elim
theorem zbE {M:Model} {Q:List (Str×Addr)->Shared->Prop}:∀ (l:List (Str×NameKind)) (cs:List (Str×Addr)),(∀ p∈l,p.2=.free->∃ c,env.cells.lookup p.1=some c) ->
  (∀ cl,(∀ p∈cl,p∈cs∨env.cells.lookup p.1=some p.2)->(∀ p∈cs,p∈cl)->(∀ p∈l,p.2=.free->∃ c,(p.1,c)∈cl)->Q cl s) ->
  PySem.wpAny M A (forIn l cs fun x r=>match x with
   | (name,kind)=>if (kind == NameKind.free)=true then do let c <- cellOf env name; pure (ForInStep.yield ((name,c)::r)) else pure (ForInStep.yield r)) Q E s
 | [],cs,h,k=>PySem.wpAny_pure (k cs (fun p hp=>.inl hp) (fun p hp=>hp) fun p hp=>nomatch hp)
 | (x,kd)::r,cs,h,k=>by
  rw [List.forIn_cons]
  by_cases hk:kd=.free
  ·subst hk
   obtain ⟨c,hc⟩:=h (x,.free) (.head _) rfl
   refine PySem.wpAny_bind ?_
   dsimp only
   rw [if_pos (show (NameKind.free == NameKind.free)=true by decide)]
   refine PySem.wpAny_bind (wpAny_cellOf hc (PySem.wpAny_pure ?_))
   refine zbE r ((x,c)::cs) (fun p hp=>h p (.tail _ hp)) fun cl k1 k2 k3=>k cl (fun p hp=>?_) (fun p hp=>k2 p (.tail _ hp)) fun p hp hf=>?_
   ·rcases k1 p hp with q | q
    ·rcases List.mem_cons.mp q with rfl | q
     ·exact .inr hc
     ·exact .inl q
    ·exact .inr q
   ·rcases List.mem_cons.mp hp with rfl | hp
    ·exact ⟨c,k2 _ (.head _)⟩
    ·exact k3 p hp hf
  ·refine PySem.wpAny_bind ?_
   dsimp only
   rw [if_neg (by simpa using hk)]
   refine PySem.wpAny_pure (zbE r cs (fun p hp=>h p (.tail _ hp)) fun cl k1 k2 k3=>k cl k1 k2 fun p hp hf=>?_)
   rcases List.mem_cons.mp hp with rfl | hp
   ·exact absurd hf hk
   ·exact k3 p hp hf
theorem zjx {M:Model} {scope:Scope} {Q:List (Str×Addr)->Shared->Prop} (h:∀ p∈scope.names,p.2=.free->∃ c,env.cells.lookup p.1=some c)
  (k:∀ cl,(∀ p∈cl,env.cells.lookup p.1=some p.2)->(∀ p∈scope.names,p.2=.free->∃ c,(p.1,c)∈cl)->Q cl s):PySem.wpAny M A (closureFor scope env) Q E s:=by
 unfold closureFor
 exact PySem.wpAny_bind (zbE scope.names [] h fun cl k1 _ k3=>PySem.wpAny_pure (k cl (fun p hp=>(k1 p hp).elim (fun q=>nomatch q) id) k3))
end
theorem turn1 (elt target iter:Expr) (ifs:List Expr) (scope:Scope) (pos:Pos) (it acc:Value) (env:Env) :
  compTurn (.ListComp elt [⟨target,iter,ifs,0⟩] scope pos) 0 it acc env=(standAt iter.pos >>= fun _=>pyNext it >>= fun r=>match r with
   | none=>pure (.done .next)
   | some v=>letOwnedTupleGo target it v >>= fun _=>assign target env v >>= fun _=>(do
    let mut ok:=true
    for c in ifs do
     if ok then ok <- isTrue c env (eval c env)
    if ok then
     (do let _ ← call (.builtin "list.append") [acc,← eval elt env])
    again (.compLoop (.ListComp elt [⟨target,iter,ifs,0⟩] scope pos) 0 it acc env))):=by rfl
theorem turn2 (elt t iter t' iter':Expr) (scope:Scope) (pos:Pos) (it acc:Value) (env:Env) :
  compTurn (.ListComp elt [⟨t,iter,[],0⟩,⟨t',iter',[],0⟩] scope pos) 0 it acc env=(standAt iter.pos >>= fun _=>pyNext it >>= fun r=>match r with
   | none=>pure (.done .next)
   | some v=>letOwnedTupleGo t it v >>= fun _=>assign t env v >>= fun _=>(eval iter' env >>= fun x=>standAt iter'.pos >>= fun _=>foldedSetIterable iter' env x >>= fun x=>holding [x] (pyIter x) >>= fun i =>
    runOwn (.compStart (.ListComp elt [⟨t,iter,[],0⟩,⟨t',iter',[],0⟩] scope pos) 1 i acc env) env >>= fun _=>again (.compLoop (.ListComp elt [⟨t,iter,[],0⟩,⟨t',iter',[],0⟩] scope pos) 0 it acc env))):=by rfl
theorem turn3 (elt t iter t' iter':Expr) (scope:Scope) (pos:Pos) (it acc:Value) (env:Env) :
  compTurn (.ListComp elt [⟨t,iter,[],0⟩,⟨t',iter',[],0⟩] scope pos) 1 it acc env=(standAt iter'.pos >>= fun _=>pyNext it >>= fun r=>match r with
   | none=>pure (.done .next)
   | some v=>letOwnedTupleGo t' it v >>= fun _=>assign t' env v >>= fun _=>((eval elt env >>= fun x=>call (.builtin "list.append") [acc,x] >>= fun _=>pure ()) >>= fun _ =>
    again (.compLoop (.ListComp elt [⟨t,iter,[],0⟩,⟨t',iter',[],0⟩] scope pos) 1 it acc env))):=by rfl
structure Rl (fr dd:List Addr) (D1:Addr->Prop) (H:AH) (h:Heap) (D2:Addr->Prop) (H':AH) (h':Heap):Prop where
 kv:KeepV D1 h D2 h'
 keep:∀ b o,h.get? b=some o->H b=none->b∉fr->b∉dd->h'.get? b=some o/\H' b=none
theorem KeepV.trans {D1 D2 D3:Addr->Prop} {h1 h2 h3:Heap} (x:KeepV D1 h1 D2 h2) (y:KeepV D2 h2 D3 h3):KeepV D1 h1 D3 h3:=fun b o e n v=>by
 obtain ⟨⟨sl,e1⟩,n1⟩:=x b o e n v
 obtain ⟨⟨sl2,e2⟩,n2⟩:=y b _ e1 n1 v
 exact ⟨⟨sl2,e2⟩,n2⟩
theorem KeepV.refl {D1:Addr->Prop} {h1:Heap}:KeepV D1 h1 D1 h1:=fun b o e n v=>⟨⟨o.slots,e⟩,n⟩
theorem Rl.trans {fr dd:List Addr} {D1 D2 D3:Addr->Prop} {H1 H2 H3:AH} {h1 h2 h3:Heap} (x:Rl fr dd D1 H1 h1 D2 H2 h2) (y:Rl fr dd D2 H2 h2 D3 H3 h3):Rl fr dd D1 H1 h1 D3 H3 h3 :=
 ⟨x.kv.trans y.kv,fun b o e n f d=>let ⟨e1,n1⟩:=x.keep b o e n f d; y.keep b o e1 n1 f d⟩
theorem Rl.refl {fr dd:List Addr} {D1:Addr->Prop} {H1:AH} {h1:Heap}:Rl fr dd D1 H1 h1 D1 H1 h1:=⟨.refl,fun _ _ e n _ _=>⟨e,n⟩⟩
theorem Rl.mono {fr dd dd':List Addr} {D1 D2:Addr->Prop} {H1 H2:AH} {h1 h2:Heap} (x:Rl fr dd D1 H1 h1 D2 H2 h2) (s:∀ b o,h1.get? b=some o->H1 b=none->b∈dd->b∈dd'):Rl fr dd' D1 H1 h1 D2 H2 h2 :=
 ⟨x.kv,fun b o e n f d=>x.keep b o e n f fun z=>d (s b o e n z)⟩
def LD (clsA:Cls->Addr) (D:Addr) (DD:Addr->Prop) (h:Heap) (acc:List V):Prop:=∃ arr:List Value,h.PlainList D arr.toArray/\AbsL clsA DD h acc arr
theorem LD.mv {clsA:Cls->Addr} {D:Addr} {D1 D2:Addr->Prop} {h h':Heap} {acc:List V} (x:LD clsA D D1 h acc) (kv:KeepV D1 h D2 h') (k:∀ o,h.get? D=some o->h'.get? D=some o):LD clsA D D2 h' acc :=
 oEA x fun arr p a=>(mEA arr (p.at k) (AbsL.keeps kv _ _ a))
section
variable {fnA:Fn->Addr} {own:List Addr}
theorem Fits.less {m':Loc} {h:Heap} (F:Fits W frs env sc m H h) (hl:m'.length=m.length) (hs:∀ i v,lget m' i=some v->lget m i=some v):Fits W frs env sc m' H h:=by
 refine oEA F.vals fun mm hn hv=>?_
 exact ⟨F.kind,F.lk,F.glob,F.blt,F.above,F.apartL,F.nodup,F.nocd,hl.trans F.len,F.frame,F.cell,F.inj,F.has,mm,hn,fun j x v e g=>hv j x v e (hs j v g)⟩
theorem zcX:∀ {is:List Nat} {vs:List V} {m m':Loc},setAll m is vs=some m'->m'.length=m.length/\∀ i v,(∀ j∈is,j≠i)->lget m i=some v->lget m' i=some v
 | [],[],_,_,h=>by cases h; exact ⟨rfl,fun _ _ _ e=>e⟩
 | [],_::_,_,_,h=>by exact absN h
 | _::_,[],_,_,h=>by exact absN h
 | i::is,v::vs,m,m',h=>by
  obtain ⟨h1,h2⟩:=zcX (is:=is) (vs:=vs) (m:=m.set i (some v)) h
  exact ⟨h1.trans (List.length_set ..),fun j u hj e=>h2 j u (fun k hk=>hj k (.tail _ hk)) (by rw [zR (hj i (.head _))]; exact e)⟩
theorem zc6:∀ {is:List Nat} {vs:List V} {m m':Loc},setAll m is vs=some m'->∀ i,i∉is->lget m' i=lget m i
 | [],[],_,_,h,_,_=>by cases h; rfl
 | [],_::_,_,_,h,_,_=>by exact absN h
 | _::_,[],_,_,h,_,_=>by exact absN h
 | i::is,v::vs,m,m',h,j,hj=>by
  rw [zc6 (is:=is) (vs:=vs) (m:=m.set i (some v)) h j (fun q=>hj (.tail _ q)),zR (i:=i) (j:=j) (fun q=>hj (by rw [q]; exact .head _))]
theorem ziR {tg:Tgt} {x:V} {k:Loc->Prop} (h:WTgt m k tg x):WTgt m (fun m'=>k m'/\∀ i,i∉tg.idx->lget m' i=lget m i) tg x:=by
 induction h using WTgt.casesOn with
 | var q=>exact .var ⟨q,fun j hj=>zR fun q=>hj (List.mem_singleton.mpr q.symm)⟩
 | tup hs q=>exact .tup hs ⟨q,zc6 hs⟩
theorem ziP {tg:Tgt} {x:V} {k:Loc->Prop} (hd:∀ i∈tg.idx,lget m i=none) (h:WTgt m k tg x):WTgt m (fun m'=>k m'/\m.length=m'.length/\∀ i v,lget m i=some v->lget m' i=some v) tg x:=by
 induction h using WTgt.casesOn with
 | var q=>exact .var ⟨q,(List.length_set ..).symm,fun j u e=>by rw [zR (fun q=>by subst q; rw [hd _ (.head _)] at e; exact absN e)]; exact e⟩
 | tup hs q =>
  obtain ⟨h1,h2⟩:=zcX hs
  exact .tup hs ⟨q,h1.symm,fun i v e=>h2 i v (fun j hj q=>by subst q; rw [hd _ hj] at e; exact absN e) e⟩
theorem zbV {tg:Tgt} {x:V} {k k':Loc->Prop} (hk:∀ m',k m'->k' m') (h:WTgt m k tg x):WTgt m k' tg x:=by
 induction h using WTgt.casesOn with
 | var q=>exact .var (hk _ q)
 | tup hs q=>exact .tup hs (hk _ q)
structure CAt (W1:Wd) (frs:List Env) (env:Env) (sc:Sc) (C D:Addr) (HB:AH) (sB:Shared) (mc:Loc) (acc:List V) (H:AH) (s:Shared):Prop where
 stp:Stp W1 frs [C,D] HB sB H s
 fits:Fits W1 frs env sc mc H s.heap
 ld:LD W1.clsA D (W1.D H) s.heap acc
structure CFix (W:Wd) (frs:List Env) (env:Env) (C D:Addr):Prop where
 loc:env.locals=C
 Cfr:C∉frA frs
 Dfr:D∉frA frs
 Db:W.base.get? D=none
 DC:D≠C
 cells:∀ x c,(x,c)∈env.cells->c≠D
theorem zbC {W1:Wd} {C:Addr} {dd:List Addr} (F:Fits W1 frs env sc m H s.heap) (hloc:env.locals=C) (st:Stp W1 frs [C] H s HC s₁) (hC:C∈dd):Rl (frA frs) dd (W1.D H) H s.heap (W1.D HC) HC s₁.heap :=
 ⟨Stp.kv F st (fun b z=>by obtain rfl:=List.mem_singleton.mp z; rw [<- hloc]; exact .head _),fun b o e n f d=>⟨st.ext.keep b o e n (fun z=>by obtain rfl:=List.mem_singleton.mp z; exact d hC) f,st.ext.new b o e n⟩⟩
theorem Stp.wid2 {W1:Wd} {C D:Addr} (st:Stp W1 frs [C] H s HC s₁):Stp W1 frs [C,D] H s HC s₁:=⟨st.gd,st.ext.own (fun b _ _ _ z=>by obtain rfl:=List.mem_singleton.mp z; exact .head _),st.os,st.gens⟩
theorem CAt.step {W1:Wd} {C D:Addr} {HB:AH} {sB:Shared} {mc mc':Loc} {acc:List V} (X:CFix W frs env C D) (hD:W1.priv D) (c:CAt W1 frs env sc C D HB sB mc acc H s) (st:Stp W1 frs [C] H s HC s₁) (F:Fits W1 frs env sc mc' HC s₁.heap):CAt W1 frs env sc C D HB sB mc' acc HC s₁ :=
 ⟨c.stp.trans st.wid2,F,c.ld.mv (zbC c.fits X.loc st (.head _:C∈[C])).kv fun o e=>st.ext.keep _ o e (c.stp.gd.pv _ hD).1 (fun z=>X.DC (List.mem_singleton.mp z)) X.Dfr⟩
theorem CAt.sub {W1:Wd} {C D:Addr} {HB:AH} {sB:Shared} {mc:Loc} {acc:List V} (c:CAt W1 frs env sc C D HB sB mc acc H s) (hs:Sub HC H):CAt W1 frs env sc C D HB sB mc acc HC s :=
 ⟨c.stp.sub hs,c.fits.like (zbx hs _),c.ld.mv (KeepH.v (zbx hs _)) fun _ e=>e⟩
theorem Rl.sub {W1:Wd} {fr dd:List Addr} {h:Heap} (hs:Sub HC H):Rl fr dd (W1.D H) H h (W1.D HC) HC h:=⟨KeepH.v (zbx hs _),fun b o e n _ _=>⟨e,zL hs n⟩⟩
theorem zl0 {p:Addr->Prop} {e:Expr} {d:Nat} {t:Expr} {tg:Tgt} {pos:Pos} {I D C:Addr} {B:Sem Fin} {ow:Bool} {items:List V} {guard:AH->Prop} {Inv:(Addr->Prop)->Heap->Prop} {St:Nat->Heap->Prop} {HB:AH} {sB:Shared} {mc:Loc} {J:Nat->List V->AH->Prop} {PT:Nat->V->List V->AH->Loc->Prop} {acc0:List V} {H0:AH} {s0:Shared}
  (hq:(Code.compLoop e d (.ref I) (.ref D) env).quiet=true) (hcl:cleanC (Code.compLoop e d (.ref I) (.ref D) env)=true) (hA:A.under (.compLoop e d (.ref I) (.ref D) env)=A)
  (hden:W.M.den (.compLoop e d (.ref I) (.ref D) env)=(compTurn e d (.ref I) (.ref D) env).onRaise (fun x=>do noteFrame x env; theTreesLotGoes x))
  (hturn:compTurn e d (.ref I) (.ref D) env=(standAt pos >>= fun _=>pyNext (.ref I) >>= fun r=>match r with
   | none=>pure (.done .next)
   | some v=>letOwnedTupleGo t (.ref I) v >>= fun _=>assign t env v >>= fun _=>B))
  (hh:A.handled=none) (Y:CFix W frs env C D) {p0:Addr->Prop} (hGB:Gd (W.ofP p0) frs HB sB.heap) (hcp:∀ x c,(x,c)∈env.cells->c∉ps) (hps:∀ b∈ps,sB.heap.get? b=none/\b≠C/\b≠D) (hpD:p D) (hdis:∀ a,p a->a∉ps)
  (ht:sc.tgt t=some tg) (hd:∀ i∈tg.idx,lget mc i=none) (hpl:∀ i,tg=.var i->ow=false) (It:Iter W frs A ow t I ps items guard Inv St)
  (c0:CAt (W.ofP fun a=>p a∨a∈ps) frs env sc C D HB sB mc acc0 H0 s0) (hSt:St 0 s0.heap) (hInv:Inv ((W.ofP fun a=>p a∨a∈ps).D H0) s0.heap) (j0:J 0 acc0 H0)
  (jt:∀ i x acc H,items[i]?=some x->J i acc H->guard H/\WTgt mc (fun mD=>PT i x acc H mD) tg x) (jd:∀ acc H,J items.length acc H->guard H)
  (hB:∀ i x acc H s mD,items[i]?=some x->PT i x acc H mD->CAt (W.ofP fun a=>p a∨a∈ps) frs env sc C D HB sB mD acc H s->wpAny W.M A B (fun fin s'=>fin=.again (.compLoop e d (.ref I) (.ref D) env)/\∃ acc' H',J (i+1) acc' H' /\
   CAt (W.ofP fun a=>p a∨a∈ps) frs env sc C D HB sB mD acc' H' s'/\Rl (frA frs) [C,D] ((W.ofP fun a=>p a∨a∈ps).D H) H s.heap ((W.ofP fun a=>p a∨a∈ps).D H') H' s'.heap) (fun _ _=>False) s) :
  codeAny W.M A (.compLoop e d (.ref I) (.ref D) env) (fun r s'=>match r with
   | .ok _=>∃ acc H',J items.length acc H'/\CAt (W.ofP p) frs env sc C D HB sB mc acc H' s'/\Rl (frA frs) (C::D::ps) ((W.ofP fun a=>p a∨a∈ps).D H0) H0 s0.heap ((W.ofP p).D H') H' s'.heap
   | .error _=>False) s0:=by
 have hp1:∀ b∈ps,sB.heap.get? b=none:=fun b hb=>(hps b hb).1
 have hCp:C∉ps:=fun z=>(hps C z).2.1 rfl
 have hDp:D∉ps:=fun z=>(hps D z).2.2 rfl
 have hfr:∀ b∈ps,b∉frA frs:=fun b hb q=>by
  refine oAEA (hGB.ff.mem q) fun _ o ho _=>?_
  rw [hp1 b hb] at ho; exact absN ho
 refine codeAny_loopG hcl hq (fun n s'=>∃ i acc H,n=items.length+1 - i/\i<=items.length/\J i acc H/\St i s'.heap/\Inv ((W.ofP fun a=>p a∨a∈ps).D H) s'.heap/\CAt (W.ofP fun a=>p a∨a∈ps) frs env sc C D HB sB mc acc H s' /\
  Rl (frA frs) (C::D::ps) ((W.ofP fun a=>p a∨a∈ps).D H0) H0 s0.heap ((W.ofP fun a=>p a∨a∈ps).D H) H s'.heap) ?_ (items.length+1) (za2 0 acc0 H0 rfl (Nat.zero_le _) j0 hSt hInv c0 .refl)
 intro n s' Q E hI hdone hagain herr
 refine za4 hI fun i acc H hn hi hJ hS inv c rl=>?_
 rw [hA,hden]
 refine wpAny_noted ?_
 rw [hturn]
 refine wpAny_bind (wpAny_standAt (wpAny_bind ?_))
 by_cases hlt:i < items.length
 ·have hx:items[i]?=some items[i]:=List.getElem?_eq_getElem hlt
  obtain ⟨hgd,ht'⟩:=jt i _ acc H hx hJ
  refine It.item (fun a=>p a∨a∈ps) (fun b hb=>.inr hb) i _ s' H _ _ _ c.stp.gd hgd inv hx hS (fun y s'' h=>wpAny_bind h) fun y h' tk hk hx' hS' a=>?_
  obtain ⟨st',kv⟩:=zdX (W:=W) (q:=fun a=>p a∨a∈ps) (p0:=p0) (h':=h') (tk:=tk) (fun b hb=>.inr hb) hGB (fun b hb=>.inl (hp1 b hb)) c.stp hk hx'
  have c1:CAt (W.ofP fun a=>p a∨a∈ps) frs env sc C D HB sB mc acc H { s' with heap:=h',toks:=tk } :=
   ⟨st',zV (W':=W.ofP fun a=>p a∨a∈ps) rfl rfl c.fits kv (fun _ e=>e) (fun o e=>hk _ o (Y.loc ▸ hCp) e) (fun x c hc o e=>hk _ o (hcp x c hc) e),c.ld.mv kv fun o e=>hk _ o hDp e⟩
  refine wpAny_bind (sTgtL (W:=W.ofP fun a=>p a∨a∈ps) (s:={ s' with heap:=h',toks:=tk }) hh ht (ziP hd ht') a c1.stp.gd c1.fits (fun mD sb stb Fb hw=>?_) hpl)
  refine oAA hw fun hw hl hsub=>?_
  rw [Y.loc] at stb
  have c2:CAt (W.ofP fun a=>p a∨a∈ps) frs env sc C D HB sB mD acc H sb:=CAt.step Y (.inl hpD) c1 stb Fb
  have r1:Rl (frA frs) (C::D::ps) ((W.ofP fun a=>p a∨a∈ps).D H) H s'.heap ((W.ofP fun a=>p a∨a∈ps).D H) H h':=⟨kv,fun b o e n f dd=>⟨hk b o (fun z=>dd (.tail _ (.tail _ z))) e,n⟩⟩
  have r2:Rl (frA frs) [C] ((W.ofP fun a=>p a∨a∈ps).D H) H h' ((W.ofP fun a=>p a∨a∈ps).D H) H sb.heap:=zbC c1.fits Y.loc stb (.head _)
  refine wpAny_mono (hB i _ acc H sb mD hx hw c2) (fun fin s'' hf=>?_) fun _ _ z=>z.elim
  refine oAEEAA hf fun yA acc' H' hJ' c3 r3=>?_; obtain rfl:=yA
  refine hagain (items.length+1 - (i+1)) _ (hn ▸ by exact #[0x7621007341051241051411051471345100631041105124105110411105110416134515421,_,_,_,_] hlt (subO _ _) (subO _ _)) (za2 (i+1) acc' H' rfl hlt hJ' ?_ ?_ ⟨c3.stp,c3.fits.less hl hsub,c3.ld⟩ ?_)
  ·refine It.frame _ _ _ hS' fun b hb o e=>?_
   refine oAE (st'.gd.pv b (.inr hb)) fun n1 o1 e1=>?_
   have nf:=hfr b hb
   obtain ⟨e2,n2⟩:=r2.keep b o e n1 nf (fun z=>(hps b hb).2.1 (List.mem_singleton.mp z))
   exact (r3.keep b o e2 n2 nf (fun z=>by
    rcases List.mem_cons.mp z with z | z
    ·exact (hps b hb).2.1 z
    ·exact (hps b hb).2.2 (List.mem_singleton.mp z))).1
  ·exact It.kv _ _ _ _ (kv.trans (r2.kv.trans r3.kv)) inv
  ·refine rl.trans (r1.trans ((r2.mono fun b o e _ z=>?_).trans (r3.mono fun b o e _ z=>?_)))
   ·cases List.mem_singleton.mp z; exact .head _
   ·rcases List.mem_cons.mp z with rfl | z
    ·exact .head _
    ·cases List.mem_singleton.mp z; exact .tail _ (.head _)
 ·have he:i=items.length:=by exact #[0x5431542615411,_,_] hi hlt
  subst he
  refine It.done (fun a=>p a∨a∈ps) (fun b hb=>.inr hb) s' H _ _ c.stp.gd (jd acc H hJ) inv hS fun h' tk hk=>?_
  obtain ⟨st',kv⟩:=zbl (W:=W.ofP p) (p0:=p0) (h':=h') (tk:=tk) hdis hGB hp1 c.stp hk
  refine wpAny_pure (hdone _ _ (zn acc H hJ ⟨st',zV (W:=W.ofP fun a=>p a∨a∈ps) (W':=W.ofP p) rfl rfl c.fits kv (fun _ e=>e) (fun o e=>hk _ o (Y.loc ▸ hCp) e) (fun x c hc o e=>hk _ o (hcp x c hc) e),c.ld.mv kv fun o e=>hk _ o hDp e⟩ ⟨rl.kv.trans kv,fun b o e n f dd=>?_⟩))
  obtain ⟨e1,n1⟩:=rl.keep b o e n f dd
  exact ⟨hk b o (fun z=>dd (.tail _ (.tail _ z))) e1,n1⟩
theorem cPush {q:Addr->Prop} {D C:Addr} {HB:AH} {sB:Shared} {mc:Loc} {acc:List V} {v:V} {x:Value} {E:Value->Shared->Prop} {P:Value->Shared->Prop} {p0:Addr->Prop} (hGB:Gd (W.ofP p0) frs HB sB.heap) (Y:CFix W frs env C D) (hq:q D) (c:CAt (W.ofP q) frs env sc C D HB sB mc acc H s) (a:Abs W.clsA ((W.ofP q).D H) s.heap v x) (hsz:acc.length<=sizeLine)
  (k:∀ s',CAt (W.ofP q) frs env sc C D HB sB mc (acc++[v]) H s'→Rl (frA frs) [C,D] ((W.ofP q).D H) H s.heap ((W.ofP q).D H) H s'.heap→P .none s'):wpAny W.M A (call (.builtin "list.append") [.ref D,x]) P E s:=by
 refine oEA c.ld fun arr hp al=>?_
 refine lift (wpAny_list_append_plain hp (fun h' hp' hs=>k _ ?_ ?_) (by rw [List.size_toArray,al.length]; exact hsz))
 all_goals
  have hk:∀ b o,b∉[D]->s.heap.get? b=some o->h'.get? b=some o:=fun b o n e=>(hs.2 b fun z=>n (List.mem_singleton.mpr z)).trans e
  obtain ⟨st',kv⟩:=zdX (W:=W) (q:=q) (p0:=p0) (ps:=[D]) (h':=h') (tk:=s.toks) (fun b hb=>by cases List.mem_singleton.mp hb; exact hq) hGB (fun b hb=>by cases List.mem_singleton.mp hb; exact .inr ⟨.tail _ (.head _),Y.Db,Y.Dfr⟩) c.stp hk
   (fun b hb=>by cases List.mem_singleton.mp hb; obtain ⟨n,e⟩:=hp'; exact ⟨_,e⟩)
 ·refine ⟨st',zV (W':=W.ofP q) rfl rfl c.fits kv (fun _ e=>e) (fun o e=>hk _ o (fun z=>Y.DC ((List.mem_singleton.mp z).symm.trans Y.loc)) e) (fun x c hc o e=>hk _ o (fun z=>Y.cells x c hc (List.mem_singleton.mp z)) e),(mEA (arr++[x]) (by rw [<- List.push_toArray]; exact hp') (AbsL.append (AbsL.keeps kv _ _ al) (AbsL.cons (Abs.keeps kv _ _ a) AbsL.nil)))⟩
 ·exact ⟨kv,fun b o e n f d=>⟨hk b o (fun z=>d (.tail _ z)) e,n⟩⟩
end
theorem zhV {prog:Program} {w:World} {A:Around} {R:Result->Shared->Prop} {s:Shared} {elt:Expr} {gens:List Comprehension} {g:Comprehension} {scope:Scope} {pos:Pos} {d:Nat} {it acc:Value} {env:Env} (hg:gens[d]?=some g) (ha:g.is_async=0)
  (h0:codeAny (model prog w) A (.compLoop (.ListComp elt gens scope pos) d it acc env) R s)
  (hi:wpAny (model prog w) A (pyIter it) (fun it' s'=>codeAny (model prog w) A (.compLoop (.ListComp elt gens scope pos) d it' acc env) R s') (fun _ _=>False) s) :
  codeAny (model prog w) A (.compStart (.ListComp elt gens scope pos) d it acc env) R s:=by
 refine codeAny_of_tree rfl ?_
 show wpAny _ _ ((compStart (.ListComp elt gens scope pos) d it acc env).onRaise (fun x=>do noteFrame x env; standAt theWindowsPlace)) _ _ s
 have key:wpAny (model prog w) A (compStart (.ListComp elt gens scope pos) d it acc env) (fun fin s'=>match fin with
   | .done f=>R (.ok f) s'
   | .again c'=>c'.quiet=true/\codeAny (model prog w) A c' R s') (fun _ _=>False) s:=by
  unfold compStart
  have hc:(clausesOf (.ListComp elt gens scope pos))[d]?=some g:=hg
  rw [hc]
  simp only [Option.elim_some,ha,bne_self_eq_false,Bool.false_eq_true,if_false]
  show wpAny _ _ (ask >>= _) _ _ s
  refine wpAny_bind (lift (wpAny_askSetting ?_))
  split
  ·first
    | exact wpAny_bind (wpAny_pure (wpAny_pure ⟨rfl,h0⟩))
    | exact wpAny_pure ⟨rfl,h0⟩
  ·first
    | exact wpAny_bind (wpAny_rule (wpAny_bind (wpAny_standAt (wpAny_bind (wpAny_mono hi (fun it' s' h'=>wpAny_pure ⟨rfl,h'⟩) fun _ _ z=>z)))))
    | (refine wpAny_bind (wpAny_rule ?_); show wpAny _ _ (standAt g.iter.pos >>= _) _ _ s; exact wpAny_bind (wpAny_standAt (wpAny_bind (wpAny_mono hi (fun it' s' h'=>wpAny_pure ⟨rfl,h'⟩) fun _ _ z=>z))))
 exact wpAny_onRaise (wpAny_mono key (fun _ _ z=>z) fun _ _ z=>z.elim)
structure CompOk (sc:Sc) (scope:Scope):Prop where
 kind:scope.kind=.function
 nocell:∀ p∈scope.names,p.2≠.cell
 loc:∀ p∈scope.names,p.2=.local->scope.names.lookup p.1=some .local
 free:∀ p∈scope.names,p.2=.free->sc.scope.names.lookup p.1=some .cell/\scope.names.lookup p.1=some .free
 nocd:∀ p∈scope.names,p.1≠"__classdict__"
 nodup:(ownNames scope).Nodup
theorem zgi {sc:Sc} {scope:Scope} (h:sc.fitsComp scope=true):CompOk sc scope:=by
 unfold Sc.fitsComp at h
 obtain ⟨h,h6⟩:=Bool.and_eq_true_iff.mp h
 obtain ⟨h,h5⟩:=Bool.and_eq_true_iff.mp h
 obtain ⟨h,h4⟩:=Bool.and_eq_true_iff.mp h
 obtain ⟨h,h3⟩:=Bool.and_eq_true_iff.mp h
 obtain ⟨h1,h2⟩:=Bool.and_eq_true_iff.mp h
 refine ⟨by simpa using h1,fun p hp q=>?_,fun p hp q=>?_,fun p hp q=>?_,fun p hp q=>?_,of_decide_eq_true h6⟩
 ·have:=List.all_eq_true.mp h2 p hp
  rw [q] at this; exact absB this
 ·have:=List.all_eq_true.mp h3 p hp
  simpa [q] using this
 ·have:=List.all_eq_true.mp h4 p hp
  simpa [q] using this
 ·have:=List.all_eq_true.mp h5 p hp
  simp [q] at this
theorem zdc (g:Str->Bool):∀ (l:List (Str×NameKind)) (x:Str),(l.map fun p=>if (p.2 == .free&&g p.1)=true then (p.1,NameKind.cell) else p).lookup x=(l.lookup x).map fun k=>if (k == .free&&g x)=true then .cell else k
 | [],x=>rfl
 | (y,k)::r,x=>by
  have ih:=zdc g r x
  refine (?_:List.lookup x ((if (k == .free&&g y)=true then (y,NameKind.cell) else (y,k))::r.map _)=(List.lookup x ((y,k)::r)).map _)
  cases e:x == y with
  | true =>
   have:x=y:=by simpa using e
   subst this
   by_cases c:(k == .free&&g x)=true
   ·rw [if_pos c]; simp only [List.lookup_cons,e,Option.map_some]; rw [if_pos c]
   ·rw [if_neg c]; simp only [List.lookup_cons,e,Option.map_some]; rw [if_neg c]
  | false =>
   by_cases c:(k == .free&&g y)=true
   ·rw [if_pos c]; simp only [List.lookup_cons,e]; exact ih
   ·rw [if_neg c]; simp only [List.lookup_cons,e]; exact ih
section
variable {fnA:Fn->Addr} {own:List Addr}
theorem zd4 (F:Fits W frs env sc m H s.heap):(relabel scope env).names=(sc.inner scope).scope.names:=by
 refine (?_:scope.names.map _=scope.names.map _)
 refine List.map_congr_left fun p hp=>?_
 obtain ⟨x,k⟩:=p
 refine (?_:(if (k == .free&&env.scope.kind == .function&&env.kindOf x == some .cell)=true then (x,NameKind.cell) else (x,k))=if (k == .free&&sc.scope.names.lookup x == some .cell)=true then (x,NameKind.cell) else (x,k))
 rw [F.kind,show env.kindOf x=sc.scope.names.lookup x by unfold Env.kindOf; rw [F.lk]]
 simp
theorem zaR (x:Str):(sc.inner scope).scope.names.lookup x=(scope.names.lookup x).map fun k=>if (k == .free&&sc.scope.names.lookup x == some .cell)=true then .cell else k:=zdc (fun y=>sc.scope.names.lookup y == some .cell) scope.names x
theorem zf2 {i:Nat} {v:V} (h:lget (capsOf m (sc.caps scope)) i=some v):∃ x j,(ownNames scope)[i]?=some x/\scope.names.lookup x=some .free/\sc.names.findIdx? (· == x)=some j/\lget m j=some v:=by
 unfold lget capsOf Sc.caps at h
 rw [List.map_map,List.getElem?_map] at h
 cases e:(ownNames scope)[i]? with
 | none=>rw [e] at h; exact absN h
 | some x =>
  rw [e] at h
  simp only [Option.map_some,Option.getD_some,Function.comp] at h
  by_cases c:(scope.names.lookup x == some .free)=true
  ·rw [if_pos c] at h
   cases q:sc.names.findIdx? (· == x) with
   | none=>rw [q] at h; exact absN h
   | some j=>rw [q] at h; exact zx x j rfl (by simpa using c) q h
  ·rw [if_neg c] at h; exact absN h
theorem zec {x:Str} {i:Nat} (h:(sc.inner scope).lvar x=some i):lget (capsOf m (sc.caps scope)) i=none:=by
 obtain ⟨h1,h2⟩:=zcf h
 obtain ⟨h3,_⟩:=zaY h1
 cases q:lget (capsOf m (sc.caps scope)) i with
 | none=>rfl
 | some v =>
  refine zu (zf2 q) fun y j e1 e2 _ _=>?_
  have h3:(ownNames scope)[i]?=some x:=h3
  rw [e1] at h3
  cases h3
  rw [zaR,e2] at h2
  simp only [Option.map_some,Option.some.injEq] at h2
  split at h2 <;> cases h2
theorem zdO {t:Expr} {tg:Tgt} (h:(sc.inner scope).tgt t=some tg):∀ i∈tg.idx,lget (capsOf m (sc.caps scope)) i=none:=by
 induction zfd h using TgtI.casesOn with
 | @var x p i hi =>
  intro j hj
  obtain rfl:=List.mem_singleton.mp hj
  exact zec hi
 | @tup ts k p is hi =>
  intro j hj
  have hj:j∈is:=hj
  clear h
  refine oEA (zge hi hj) fun t _ h1=>oEA (Option.bind_eq_some_iff.mp h1) fun x _ hv=>zec hv
theorem zh9 (K:CompOk sc scope) (F:Fits W frs env sc m H s.heap) {W1:Wd} {C:Addr} {cl:List (Str×Addr)} {h':Heap} (hw:W1.base=W.base) (hwc:W1.clsA=W.clsA) (kv:KeepV (W.D H) s.heap (W1.D H) h') (kk:∀ b o,s.heap.get? b=some o->h'.get? b=some o)
  (hC:W.base.objs.size<=C) (hCH:H C=none) (hn:h'.Ns C fun _=>none) (k1:∀ p∈cl,env.cells.lookup p.1=some p.2) (k2:∀ p∈scope.names,p.2=.free->∃ c,(p.1,c)∈cl) :
  Fits W1 frs (compEnvC scope cl C env) (sc.inner scope) (capsOf m (sc.caps scope)) H h':=by
 have lk:∀ x,(compEnvC scope cl C env).kindOf x=(sc.inner scope).scope.names.lookup x:=fun x=>by
  refine (?_:(relabel scope env).names.lookup x=_)
  rw [zd4 F]
 refine ⟨K.kind,zd4 F,F.glob,F.blt,hw ▸ hC,hCH,K.nodup,?_,by show (List.map _ (List.map _ _)).length=_; rw [List.length_map,List.length_map]; rfl,F.frame,fun x c hc=>?_,fun x y c h1 h2=>?_,fun x hx=>?_,_,hn,fun i x v hx hv=>?_⟩
 ·refine List.all_eq_true.mpr fun x hx=>?_
  have hx:x∈ownNames scope:=hx
  unfold ownNames at hx
  refine oEA (List.mem_map.mp hx) fun p hp yC=>?_; obtain rfl:=yC
  simpa using K.nocd p (List.mem_filter.mp hp).1
 ·refine zK (F.cell x c (zN (k1 _ hc))) fun c1 c2 c3 v o ho hd=>?_
  exact zdG (hw ▸ c1) c2 c3 v o (kk _ _ ho) hd
 ·exact F.inj x y c (zN (k1 _ h1)) (zN (k1 _ h2))
 ·rw [lk,zaR] at hx
  cases e:scope.names.lookup x with
  | none=>rw [e] at hx; exact absN hx
  | some k =>
   have hm:=PySem.mem_of_lookup e
   rw [e] at hx
   simp only [Option.map_some,Option.some.injEq] at hx
   have hf:k=.free:=by
    split at hx
    ·rename_i q; simp at q; exact q.1
    ·exact absurd hx (K.nocell _ hm)
   obtain ⟨c,hc⟩:=k2 _ hm hf
   cases q:cl.lookup x with
   | some c'=>exact ⟨c',q⟩
   | none=>exact absurd hc (by
     intro hc
     have:=List.lookup_eq_none_iff.mp q _ hc
     simp at this)
 ·refine zu (zf2 hv) fun x' j e1 e2 e3 e4=>?_
  have hx:(ownNames scope)[i]?=some x:=hx
  rw [hx] at e1; cases e1
  refine oEA F.vals fun mm _ hvs=>?_
  refine oEA (hvs j x v (zai e3) e4) fun y ay hh=>?_
  obtain ⟨f1,f2⟩:=K.free _ (PySem.mem_of_lookup e2) rfl
  have hk:env.kindOf x=some .cell:=by unfold Env.kindOf; rw [F.lk]; exact f1
  refine mEA y (hwc ▸ Abs.keeps kv v y ay) (.inr ⟨.inl ?_,?_⟩)
  ·rw [lk,zaR,e2]
   simp [f1]
  ·rcases hh with ⟨q,_⟩ | ⟨_,c,hc,o,ho,hd⟩
   ·rw [hk] at q; cases q
   ·obtain ⟨c',hc'⟩:=k2 _ (PySem.mem_of_lookup e2) rfl
    cases q:cl.lookup x with
    | none=>exact absurd hc' (by
      intro hc
      have:=List.lookup_eq_none_iff.mp q _ hc
      simp at this)
    | some c2 =>
     have:=k1 _ (zN q)
     rw [hc] at this
     cases this
     exact ⟨_,q,o,kk _ _ ho,hd⟩
structure CBeg (W:Wd) (frs:List Env) (A:Around) (t:Expr) (tg:Tgt) (cenv:Env) (sc':Sc) (mc:Loc) (HC:AH) (s₁:Shared) (I C D:Addr) (ps:List Addr) (ow:Bool) (items:List V) (guard:AH->Prop) (Inv:(Addr->Prop)->Heap->Prop) (St:Nat->Heap->Prop) (sE:Shared):Prop where
 fix:CFix W frs cenv C D
 hcp:∀ x c,(x,c)∈cenv.cells->c∉ps
 hps:∀ b∈ps,s₁.heap.get? b=none/\b≠C/\b≠D
 nC:s₁.heap.get? C=none
 nD:s₁.heap.get? D=none
 hpl:∀ i,tg=.var i->ow=false
 It:Iter W frs A ow t I ps items guard Inv St
 c0:CAt (W.ofP fun a=>(W.priv a∨a∈[D])∨a∈ps) frs cenv sc' C D HC s₁ mc [] HC sE
 st0:St 0 sE.heap
 inv:Inv ((W.ofP fun a=>(W.priv a∨a∈[D])∨a∈ps).D HC) sE.heap
theorem zk7 (O:Wok W fnA) (ih:PE W lev S n) (P:Pr W lev A frs s H) (F:Fits W frs env sc m H s.heap) {e t it:Expr} {ifs:List Expr} {ia:Nat} {gs:List Comprehension} {pos:Pos} {src:Src} {tg:Tgt} {K:List V->(AH->Prop)->AH->Prop} {use:Option (Value->Sem Unit)} {QV:Value->Shared->Prop} {E:Value->Shared->Prop}
  (hcl:clausesOf e=⟨t,it,ifs,ia⟩::gs) (hsc:CompOk sc scope) (hok:src.okT tg=true) (ht:(sc.inner scope).tgt t=some tg) (hs:sc.srcBy (sc.ce n) it=some src) (h:wpSrc S X src m H K) (hE:∀ e s',XPost W frs H s X e s'->E e s')
  (k:∀ I C D ps ow items guard Inv St HC s₁ sE cl,Step W frs H s HC s₁->K items guard HC->CBeg W frs A t tg (compEnvC scope cl C env) (sc.inner scope) (capsOf m (sc.caps scope)) HC s₁ I C D ps ow items guard Inv St sE ->
   codeAny W.M A (.compStart e 0 (.ref I) (.ref D) (compEnvC scope cl C env)) (cPost W.M A E use QV (.ref D) C) sE) :
  wpAny W.M A (comprehension e scope env pos (newList []) false (eval it env) use) QV E s:=by
 refine compW hcl hsc.kind hsc.loc (sSrc O ih P F hs h ht hok hE fun I items guard HC s₁ sC st mk hK=>?_)
 refine zap mk fun ps ow Inv St kp ho hg hp It hSt hInv hpl=>?_
 have FC:=F.step st
 refine wpAny_newList ?_ (Nat.zero_le _)
 refine lift (zjx (fun p hp hf=>FC.has p.1 (by unfold Env.kindOf; rw [FC.lk]; exact (hsc.free p hp hf).1)) fun cl k1 k2=>lift (PySem.wpAny_newFunctionEnv (closure:=cl) (binds:=[]) hsc.nocell (fun y hy=>nomatch hy) (fun hF hns hsb=>?_) hsc.kind))
 dsimp only at hns hsb ⊢
 generalize hH2:sC.heap.push { cls:=.type "list",dict:=none,data:=.seq ([] : List Value).toArray }=H2 at hns hsb ⊢
 have hC:H2.objs.size=sC.heap.objs.size+1:=by rw [<- hH2,Heap.size_push]
 have old:∀ b o,sC.heap.get? b=some o->hF.get? b=some o:=fun b o e=>by
  have lt:=Heap.lt_size e
  exact hsb.extBut b o (by rw [hC]; exact ane (.inl (Nat.lt_succ_of_lt lt))) (Heap.get?_push_of_some _ (hH2 ▸ Heap.get?_push_of_some _ e))
 have hDC:(sC.heap.objs.size:Addr)≠H2.objs.size:=by rw [hC]; exact ane (.inl (Nat.lt_succ_self _))
 have ld:hF.PlainList sC.heap.objs.size (List.toArray []):=⟨_,hsb.extBut _ _ hDC (Heap.get?_push_of_some _ (hH2 ▸ Heap.get?_push_size _ rfl))⟩
 have old1:∀ b o,s₁.heap.get? b=some o->hF.get? b=some o:=fun b o e=>old b o (kp b o e)
 have none2:∀ a,sC.heap.objs.size<=a->sC.heap.get? a=none:=fun a ha=>Heap.get?_none_of_le ha
 have none1:∀ a,sC.heap.objs.size<=a->s₁.heap.get? a=none:=fun a ha=>by
  cases q:s₁.heap.get? a with
  | none=>rfl
  | some o=>have:=kp a o q; rw [none2 a ha] at this; exact absN this
 have nD:=none1 sC.heap.objs.size (Nat.le_refl _)
 have nC:s₁.heap.get? H2.objs.size=none:=none1 _ (by rw [hC]; exact Nat.le_succ _)
 have nfr:∀ b,s₁.heap.get? b=none->b∉frA frs:=fun b hb q=>by
  refine oAEA (st.gd.ff.mem q) fun _ o ho _=>?_
  rw [hb] at ho; exact absN ho
 have nH:∀ b,s₁.heap.get? b=none->HC b=none:=fun b hb=>by
  cases q:HC b with
  | none=>rfl
  | some o=>refine oAEA (st.gd.rp.2 b o q) fun _ ob g _=>?_; rw [hb] at g; exact absN g
 have hps:∀ b∈ps,s₁.heap.get? b=none/\b≠H2.objs.size/\b≠sC.heap.objs.size:=fun b hb=>by
  refine oAE (hp b hb) fun n1 o e=>?_
  have lt:=Heap.lt_size e
  exact ⟨n1,by rw [hC]; exact ane (.inl (Nat.lt_succ_of_lt lt)),ane (.inl lt)⟩
 have cells:∀ x c,(x,c)∈cl->∃ o,s₁.heap.get? c=some o:=fun x c hc=>by
  refine zK (FC.cell x c (zN (k1 _ hc))) fun _ _ _ v o ho _=>?_
  exact ⟨o,ho⟩
 have hall:∀ b∈sC.heap.objs.size::ps,s₁.heap.get? b=none/\∃ o,hF.get? b=some o:=fun b hb=>by
  rcases List.mem_cons.mp hb with rfl | hb
  ·obtain ⟨k,e⟩:=ld; exact mAE nD _ e
  ·refine oAE (hp b hb) fun n1 o e=>?_; exact mAE n1 o (old b o e)
 have pe:(W.withP (sC.heap.objs.size::ps))=W.ofP fun a=>(W.priv a∨a∈[sC.heap.objs.size])∨a∈ps:=by
  show Wd.mk _ _ _ _ _ _ _ _ _ _=Wd.mk _ _ _ _ _ _ _ _ _ _
  congr 1
  funext a
  apply propext
  simp only [List.mem_cons,List.not_mem_nil,or_false,or_assoc]
 have G4:=st.gd.inP old1 hall
 have kv4:KeepV (W.D HC) s₁.heap ((W.withP (sC.heap.objs.size::ps)).D HC) hF:=zbJ old1 fun b hb=>(hall b hb).1
 rw [pe] at G4 kv4
 refine k I H2.objs.size sC.heap.objs.size ps ow items guard Inv St HC s₁ { sC with heap:=hF,toks:=sC.toks+([] : List (Str×Value)).length } cl st hK
  ⟨⟨rfl,nfr _ nC,nfr _ nD,?_,hDC,fun x c hc q=>(by obtain ⟨o,ho⟩:=cells x c hc; rw [q,nD] at ho; exact absN ho)⟩,fun x c hc q=>(by obtain ⟨o,ho⟩:=cells x c hc; rw [(hp c q).1] at ho; exact absN ho),hps,nC,nD,hpl,It,⟨⟨G4,.of_keeps old1,ho,hg⟩,?_,(mEA ([]) ld AbsL.nil)⟩,It.frame _ _ _ hSt fun b _ o e=>old b o e,It.kv _ _ _ _ kv4 hInv⟩
 ·cases q:W.base.get? sC.heap.objs.size with
  | none=>rfl
  | some o=>have:=st.gd.rp.1 _ o q; rw [nD] at this; exact absN this
 ·refine zh9 hsc FC rfl rfl kv4 old1 ?_ (nH _ nC) hns k1 k2
  refine oEA FC.vals fun mm hn1 _=>?_
  have l1:env.locals < s₁.heap.objs.size:=hn1.lt
  have l2:(H2.objs.size:Nat)=sC.heap.objs.size+1:=hC
  refine zgK hn1 fun oL es ep hoL _=>?_
  have l3:env.locals < sC.heap.objs.size:=Heap.lt_size (kp _ _ hoL)
  have l4:W.base.objs.size<=env.locals:=FC.above
  show W.base.objs.size<=H2.objs.size
  rw [l2]
  exact Nat.le_trans l4 (Nat.le_trans (Nat.le_of_lt l3) (Nat.le_succ _))
theorem cFin {C D:Addr} {env':Env} {sc':Sc} {mc:Loc} {acc:List V} {s':Shared} {H':AH} (GB:Gd W frs HC s₁.heap) (Y:CFix W frs env' C D) (nC:s₁.heap.get? C=none) (nD:s₁.heap.get? D=none) (c:CAt (W.ofP fun a=>W.priv a∨a∈[D]) frs env' sc' C D HC s₁ mc acc H' s') :
  Step W frs HC s₁ H' s'/\Abs W.clsA (W.D H') s'.heap (.lst acc) (.ref D)/\W.base.objs.size<=C/\H' C=none/\∃ mm,s'.heap.Ns C mm:=by
 have npD:¬ W.priv D:=fun q=>by refine oAE (GB.pv D q) fun _ o e=>?_; rw [nD] at e; exact absN e
 obtain ⟨st',kv⟩:=zbl (W:=W) (ps:=[D]) (p0:=W.priv) (h':=s'.heap) (tk:=s'.toks) (fun a pa z=>npD (List.mem_singleton.mp z ▸ pa)) GB (fun b hb=>by cases List.mem_singleton.mp hb; exact nD) c.stp fun _ _ _ e=>e
 refine oEA c.ld fun arr yB al=>?_; obtain ⟨k,hl⟩:=yB
 refine oEA c.fits.vals fun mm hn _=>?_
 refine ⟨⟨st'.gd,st'.ext.own fun b o e n z=>?_,st'.os,st'.gens⟩,?_,Y.loc ▸ c.fits.above,Y.loc ▸ c.fits.apartL,mm,Y.loc ▸ hn⟩
 ·rcases List.mem_cons.mp z with rfl | z
  ·rw [nC] at e; exact absN e
  ·cases List.mem_singleton.mp z; rw [nD] at e; exact absN e
 ·exact zx D arr rfl (zch (c.stp.gd.pv D (.inr (.head _))).1 npD) ((zbX _ hl rfl rfl k rfl)) (AbsL.keeps kv _ _ al)
theorem cEnd {C:Addr} {h':Heap} {mm mm':Str->Option Value} {v:V} {y:Value} (G:Gd W frs H s.heap) (hb:W.base.objs.size<=C) (hH:H C=none) (hf:C∉frA frs) (hn:s.heap.Ns C mm) (hn':h'.Ns C mm') (hs:Heap.SameBut C s.heap h') :
  Stp W frs [C] H s H { s with heap:=h' }/\KeepV (W.D H) s.heap (W.D H) h':=by
 refine zaP hn fun o es ep ho hd _=>?_
 refine zaP hn' fun o' es' ep' ho' hd' _=>?_
 exact Stp.one (own:=[C]) (s':={ s with heap:=h' }) G (.head _) hH hb ho ho' hs.2 (by rintro (⟨xs,n,q⟩ | q) <;> rw [hd] at q <;> exact absD q rfl) (by intro vs q; rw [hd'] at q; exact absD q rfl) rfl rfl
theorem cBack {C D:Addr} {env':Env} {sc':Sc} {mc:Loc} {acc:List V} {s':Shared} {H':AH} {E:Value->Shared->Prop} (st:Step W frs H s HC s₁) (Y:CFix W frs env' C D) (nC:s₁.heap.get? C=none) (nD:s₁.heap.get? D=none) (c:CAt (W.ofP fun a=>W.priv a∨a∈[D]) frs env' sc' C D HC s₁ mc acc H' s') (q:Q (.lst acc) H') (f:Flow) :
  cPost W.M A E none (EPost W frs H s Q) (.ref D) C (.ok f) s':=by
 refine zlh (cFin st.gd Y nC nD c) fun st' a hb hH mm hn=>?_
 refine mEA mm hn (fun h' mm' hn' hs=>?_)
 obtain ⟨st2,kv⟩:=cEnd (v:=.lst acc) (y:=.ref D) st'.gd hb hH Y.Cfr hn hn' hs
 have st3:=(st'.toO [C]).trans st2
 exact endR (st.trans ⟨st3.gd,st3.ext.own fun b o e n z=>(by cases List.mem_singleton.mp z; rw [nC] at e; exact absN e),st3.os,st3.gens⟩) (Abs.keeps kv _ _ a) q
end
theorem Wok.ofP {W:Wd} {fnA:Fn->Addr} (O:Wok W fnA) (q:Addr->Prop):Wok (W.ofP q) fnA:=⟨O.kin,O.top,O.nolimit,O.gfn,O.gnum,O.gblt,O.gcut,O.gexc,O.gcutO,O.gmeth⟩
section
variable {fnA:Fn->Addr} {own:List Addr}
theorem noX {s':Shared} {e:Value} (z:XPost W frs H s (fun _=>False) e s'):False:=oEA z fun _ _ z=>z
theorem cConds (ihT:PT W lev S n) (R:Rm lev A frs) (G:Gd W frs H s.heap) (F:Fits W frs env sc m H s.heap) {ifs:List Expr} {cs:List CE} {QB:Bool->AH->Prop} (hc:mapO (sc.ce n) ifs=some cs) (h:wpConds S (fun _=>False) cs m H QB) :
  wpAny W.M A (forIn ifs true fun c r=>if r=true then do let ok <- isTrue c env (eval c env); pure (ForInStep.yield ok) else pure (ForInStep.yield r)) (RPost W frs H s BR QB) (fun _ _=>False) s:=by
 rcases ifs with _ | ⟨e,_ | ⟨e',r⟩⟩
 ·obtain rfl:=zj hc
  exact wpAny_pure (end0 G rfl h)
 ·refine zd (zi hc) fun c cs' yC h1 h2=>?_; obtain rfl:=yC
  obtain rfl:=zj h2
  simp only [List.forIn_cons,List.forIn_nil,if_true]
  exact wpAny_bind (wpAny_bind (wpAny_mono (ihT sc e c h1 A frs env s m H QB _ R G F h) (fun b s' hb=>wpAny_pure (wpAny_pure hb)) fun _ _ z=>noX z))
 ·refine zd (zi hc) fun c cs' yC h1 h2=>?_; obtain rfl:=yC
  refine zd (zi h2) fun c' cs'' yC h3 h4=>?_; obtain rfl:=yC
  exact h.elim
theorem cElt {q p0:Addr->Prop} {C D:Addr} {HB:AH} {sB:Shared} {acc:List V} {elt:Expr} {c:CE} {J:List V->AH->Prop} {P:Unit->Shared->Prop} (ih:PE (W.ofP q) lev S n) (R:Rm lev A frs) (hGB:Gd (W.ofP p0) frs HB sB.heap) (Y:CFix W frs env C D) (hq:q D) (ca:CAt (W.ofP q) frs env sc C D HB sB m acc H s) (hsz:acc.length<=sizeLine)
  (hc:sc.ce n elt=some c) (h:wpE S (fun _=>False) c m H fun v HF=>∃ HG,Sub HG HF/\J (acc++[v]) HG)
  (k:∀ acc' H' s',J acc' H'->acc'.length=acc.length+1->CAt (W.ofP q) frs env sc C D HB sB m acc' H' s'->Rl (frA frs) [C,D] ((W.ofP q).D H) H s.heap ((W.ofP q).D H') H' s'.heap->P () s') :
  wpAny W.M A (do let _ ← call (.builtin "list.append") [.ref D,← eval elt env]) P (fun _ _=>False) s:=by
 refine wpAny_bind (wpAny_mono (ih sc elt c hc A frs env s m H _ _ R ca.stp.gd ca.fits h) (fun x s₁ z=>?_) fun _ _ z=>noX z)
 refine zhg z fun v HF a g e o ge HG hs hJ=>?_
 have st:Step (W.ofP q) frs H s HF s₁:=⟨g,e,o,ge⟩
 have c1:CAt (W.ofP q) frs env sc C D HB sB m acc HF s₁:=CAt.step Y hq ca (st.toO _) (ca.fits.step st)
 have r1:Rl (frA frs) [C,D] ((W.ofP q).D H) H s.heap ((W.ofP q).D HF) HF s₁.heap:=(zbC ca.fits Y.loc (st.toO _) (.head _:C∈[C])).mono fun b o e n z=>by obtain rfl:=List.mem_singleton.mp z; exact .head _
 refine wpAny_bind (cPush hGB Y hq c1 a hsz fun s' c2 r2=>wpAny_pure (k _ _ _ hJ (by rw [List.length_append]; rfl) (c2.sub hs) (r1.trans (r2.trans (Rl.sub hs)))))
theorem cRun1 (O:Wok W fnA) (ih:∀ q,PE (W.ofP q) lev S n) (ihT:∀ q,PT (W.ofP q) lev S n) (P:Pr W lev A frs s H) (F:Fits W frs env sc m H s.heap) {elt t it:Expr} {ifs:List Expr} {pos pp:Pos} {c:CE} {tg:Tgt} {src:Src} {cs:List CE} {use:Option (Value->Sem Unit)} {QV:Value->Shared->Prop} {E:Value->Shared->Prop}
  (hsc:CompOk sc scope) (hok:src.okT tg=true) (h1:(sc.inner scope).ce n elt=some c) (h2:(sc.inner scope).tgt t=some tg) (h3:sc.srcBy (sc.ce n) it=some src) (h4:mapO ((sc.inner scope).ce n) ifs=some cs) (h:wpE S X (.comp1 c tg src cs (sc.caps scope)) m H Q) (hE:∀ e s',XPost W frs H s X e s'->E e s')
  (hfin:∀ C D env' sc' mc acc HC s₁ H' s' f,Step W frs H s HC s₁->CFix W frs env' C D->s₁.heap.get? C=none->s₁.heap.get? D=none->CAt (W.ofP fun a=>W.priv a∨a∈[D]) frs env' sc' C D HC s₁ mc acc H' s'->Q (.lst acc) H'->cPost W.M A E use QV (.ref D) C (.ok f) s') :
  wpAny W.M A (comprehension (.ListComp elt [⟨t,it,ifs,0⟩] scope pos) scope env pp (newList []) false (eval it env) use) QV E s:=by
 refine zk7 O (ih W.priv) P F rfl hsc hok h2 h3 h hE fun I C D ps ow items guard Inv St HC s₁ sE cl st hK b=>?_
 obtain ⟨hbig,J,j0,jt,jd⟩:=hK
 have hbs:items.length<=sizeLine:=zE hbig
 have loop:=zl0 (A:=A) (e:=.ListComp elt [⟨t,it,ifs,0⟩] scope pos) (d:=0) (p:=fun a=>W.priv a∨a∈[D]) (J:=fun i acc H=>acc.length<=i/\J i acc H)
  (PT:=fun i x acc H mD=>acc.length<=i/\wpConds S (fun _=>False) cs mD H fun b HE=>(b=true->wpE S (fun _=>False) c mD HE fun v HF=>∃ HG,Sub HG HF/\J (i+1) (acc++[v]) HG)/\(b=false->∃ HG,Sub HG HE/\J (i+1) acc HG))
  rfl rfl rfl rfl (turn1 ..) P.rm.quiet b.fix (p0:=W.priv) st.gd b.hcp b.hps (.inr (.head _)) (fun a pa z=>?_) h2 (zdO h2) b.hpl b.It b.c0 b.st0 b.inv ⟨Nat.zero_le _,j0⟩ (fun i x acc H hx hj=>?_) (fun acc H hj=>(jd acc H hj.2).1) (fun i x acc H s mD hx hw ca=>?_)
 ·refine codeAny_mono (zhV (g:=⟨t,it,ifs,0⟩) rfl rfl loop (b.It.self 0 sE _ _ b.st0 loop)) fun r s' z=>?_
  induction r using Except.casesOn with
  | error e=>exact z.elim
  | ok f =>
   refine zd z fun acc H' yC ca _=>?_; obtain ⟨_,hj⟩:=yC
   exact hfin _ _ _ _ _ _ _ _ _ _ f st b.fix b.nC b.nD ca (jd acc H' hj).2
 ·rcases pa with pa | pa
  ·refine oAE (st.gd.pv a pa) fun _ o e=>?_
   rw [(b.hps a z).1] at e; exact absN e
  ·exact (b.hps a z).2.2 (List.mem_singleton.mp pa)
 ·obtain ⟨g1,g2⟩:=jt i x acc H hx hj.2
  exact ⟨g1,zbV (fun mD z=>⟨hj.1,z⟩) g2⟩
 ·obtain ⟨hl,hw⟩:=hw
  have hi:i < items.length:=(List.getElem?_eq_some_iff.mp hx).1
  refine wpAny_bind (wpAny_mono (cConds (ihT _) P.rm ca.stp.gd ca.fits h4 hw) (fun y s₁ z=>?_) fun _ _ z=>z)
  refine zv z fun u HE a g e o ge q=>?_
  have a:y=u:=a
  subst a
  have st1:Step (W.ofP fun a=>(W.priv a∨a∈[D])∨a∈ps) frs H s HE s₁:=⟨g,e,o,ge⟩
  have c1:=CAt.step (W1:=W.ofP fun a=>(W.priv a∨a∈[D])∨a∈ps) b.fix (.inl (.inr (.head _))) ca (st1.toO _) (ca.fits.step st1)
  have r1:Rl (frA frs) [C,D] _ H s.heap _ HE s₁.heap:=(zbC ca.fits b.fix.loc (st1.toO _) (.head _:C∈[C])).mono fun b o e n z=>by obtain rfl:=List.mem_singleton.mp z; exact .head _
  induction y using Bool.casesOn with
  | false =>
   refine oEA (q.2 rfl) fun HG hs hj=>?_
   exact wpAny_pure (zeC rfl acc HG ⟨Nat.le_succ_of_le hl,hj⟩ (c1.sub hs) (r1.trans (Rl.sub hs)))
  | true =>
   refine wpAny_bind (cElt (ih _) P.rm (p0:=W.priv) st.gd b.fix (.inl (.inr (.head _))) c1 (Nat.le_trans hl (Nat.le_trans (Nat.le_of_lt hi) hbs)) h1 (q.1 rfl) fun acc' H' s' hj hlen c2 r2=>?_)
   exact wpAny_pure (zeC rfl acc' H' ⟨by exact #[0x105161110416315411,_,_,_] hl hlen,hj⟩ c2 (r1.trans r2))
theorem cInner {elt t it t' it':Expr} {pos:Pos} {D C:Addr} {q:Addr->Prop} {HC:AH} {s₁:Shared} {mD:Loc} {acc:List V} {c:CE} {tg':Tgt} {src':Src} {I:Addr} {JJ:List V->AH->Prop} {bnd:Nat} (O:Wok W fnA) (ih:∀ q,PE (W.ofP q) lev S n) (R:Rm lev A frs) (Y:CFix W frs env C D) (hqD:q D)
  (h1:sc.ce n elt=some c) (h4:sc.tgt t'=some tg') (h5:sc.srcBy (sc.ce n) it'=some src') (hok:src'.okT tg'=true) (hd:∀ i∈tg'.idx,lget mD i=none) (hbnd:acc.length<=bnd) (hb2:bnd+1000<=sizeLine) (ca:CAt (W.ofP q) frs env sc C D HC s₁ mD acc H s)
  (h:wpSrc S (fun _=>False) src' mD H fun items' guard' HE=>Gath tg' items' guard' mD (fun mF HF acc' K'=>wpE S (fun _=>False) c mF HF fun v HH=>K' (acc'++[v]) HH) 1000 acc (fun acc' HF=>∃ HG,Sub HG HF/\JJ acc' HG) HE)
  {QF:Fin->Shared->Prop} (hQ:∀ acc' H' s',acc'.length<=bnd+1000->JJ acc' H'->CAt (W.ofP q) frs env sc C D HC s₁ mD acc' H' s'->Rl (frA frs) [C,D] ((W.ofP q).D H) H s.heap ((W.ofP q).D H') H' s'.heap->QF (.again (.compLoop (.ListComp elt [⟨t,it,[],0⟩,⟨t',it',[],0⟩] scope pos) 0 (.ref I) (.ref D) env)) s') :
  wpAny W.M A (eval it' env >>= fun x=>standAt it'.pos >>= fun _=>foldedSetIterable it' env x >>= fun x=>holding [x] (pyIter x) >>= fun i =>
    runOwn (.compStart (.ListComp elt [⟨t,it,[],0⟩,⟨t',it',[],0⟩] scope pos) 1 i (.ref D) env) env >>= fun _=>again (.compLoop (.ListComp elt [⟨t,it,[],0⟩,⟨t',it',[],0⟩] scope pos) 0 (.ref I) (.ref D) env))
   QF (fun _ _=>False) s:=by
 refine wpAny_bind (wpAny_mono (sSrc (W:=W.ofP q) (O.ofP q) (ih q) (ca.fits.pr R ca.stp.gd) ca.fits h5 h h4 hok (E:=fun _ _=>False) (R:=fun x sE=>wpAny W.M A (runOwn (.compStart (.ListComp elt [⟨t,it,[],0⟩,⟨t',it',[],0⟩] scope pos) 1 x (.ref D) env) env >>= fun _=>again (.compLoop (.ListComp elt [⟨t,it,[],0⟩,⟨t',it',[],0⟩] scope pos) 0 (.ref I) (.ref D) env)) _ (fun _ _=>False) sE) (fun e s' z=>noX z) fun I' items' guard' HE sD sE st mk hK=>?_)
  (fun x s₁ hF=>wpAny_bind (wpAny_standAt (wpAny_bind (wpAny_mono hF (fun x s₁ hF=>wpAny_bind (wpAny_holding hF)) fun _ _ z=>z)))) fun _ _ z=>z)
 refine zap mk fun ps' ow' Inv' St' kp ho hg hp It' hSt hInv hpl=>?_
 obtain ⟨hbig,J,j0,jt,jd⟩:=hK
 have FE:=ca.fits.step st
 have c3:CAt (W.ofP q) frs env sc C D HC s₁ mD acc HE sD:=CAt.step Y hqD ca (st.toO _) FE
 have hp1:∀ b∈ps',sD.heap.get? b=none:=fun b hb=>(hp b hb).1
 have kin:KeepV ((W.ofP q).D HE) sD.heap (((W.ofP q).withP ps').D HE) sE.heap:=zbJ kp hp1
 have Y1:CFix (W.ofP q) frs env C D:=⟨Y.loc,Y.Cfr,Y.Dfr,Y.Db,Y.DC,Y.cells⟩
 have loop:=zl0 (W:=W.ofP q) (A:=A) (e:=.ListComp elt [⟨t,it,[],0⟩,⟨t',it',[],0⟩] scope pos) (d:=1) (p:=q) (ps:=ps') (J:=fun j acc' H=>acc'.length<=acc.length+j/\J j acc' H)
  (PT:=fun j y acc' H mF=>acc'.length<=acc.length+j/\wpE S (fun _=>False) c mF H fun v HH=>∃ HG,Sub HG HH/\J (j+1) (acc'++[v]) HG) (acc0:=acc) (H0:=HE) (s0:=sE)
  rfl rfl rfl rfl (turn3 ..) R.quiet Y1 (p0:=q) st.gd (fun x cc hc z=>?_) (fun b hb=>⟨hp1 b hb,?_,?_⟩) hqD (fun a pa z=>?_) h4 hd hpl It' ⟨⟨st.gd.inP kp hp,.of_keeps kp,ho,hg⟩,FE.inP kp hp1,c3.ld.mv kin fun o e=>kp _ o e⟩ hSt (It'.kv _ _ _ _ kin hInv) ⟨Nat.le_refl _,j0⟩ (fun j y acc' HF hy hj=>?_) (fun acc' HF hj=>(jd acc' HF hj.2).1) (fun j y acc' HF sF mF hy hw c5=>?_)
 ·refine wpAny_bind (wpAny_runOwn (codeAny_mono (zhV (g:=⟨t',it',[],0⟩) rfl rfl loop (It'.self 0 sE _ _ hSt loop)) fun r s' z=>?_) fun x=>absN x)
  induction r using Except.casesOn with
  | error e=>exact z.elim
  | ok f =>
   refine zd z fun acc' H' yC c6 r6=>?_; obtain ⟨hl,hj⟩:=yC
   refine oAEA (jd acc' H' hj) fun _ HG hs hJ=>?_
   have c7:CAt (W.ofP q) frs env sc C D HC s₁ mD acc' H' s':=⟨c3.stp.trans c6.stp,c6.fits,c6.ld⟩
   refine wpAny_pure (hQ acc' HG _ (by exact #[0x1fd80517116417111fd806115411,_,_,_,_] hbnd hbig hl) hJ (c7.sub hs) ?_)
   have r1:Rl (frA frs) (C::D::ps') ((W.ofP q).D H) H s.heap ((W.ofP q).D HE) HE sD.heap:=(zbC ca.fits Y.loc (st.toO _) (.head _:C∈[C])).mono fun b o e n z=>by cases List.mem_singleton.mp z; exact .head _
   have r2:Rl (frA frs) (C::D::ps') ((W.ofP q).D HE) HE sD.heap (((W.ofP q).withP ps').D HE) HE sE.heap:=⟨kin,fun b o e n _ _=>⟨kp b o e,n⟩⟩
   refine (r1.trans (r2.trans (r6.trans (Rl.sub hs)))).mono fun b o e n z=>?_
   rcases List.mem_cons.mp z with rfl | z
   ·exact .head _
   rcases List.mem_cons.mp z with rfl | z
   ·exact .tail _ (.head _)
   obtain ⟨o',e'⟩:=st.ext.there b o e n
   rw [hp1 b z] at e'; exact absN e'
 ·refine zK (FE.cell x cc hc) fun _ _ _ v o e _=>?_
  rw [hp1 cc z] at e; exact absN e
 ·rintro rfl
  refine oEA FE.vals fun mm yB _=>?_; obtain ⟨o,es,ep,e,_⟩:=yB
  rw [Y.loc,hp1 _ hb] at e; exact absN e
 ·rintro rfl
  refine oEA c3.ld fun arr yB _=>?_; obtain ⟨k,e⟩:=yB
  rw [hp1 _ hb] at e; exact absN e
 ·refine oAE (st.gd.pv a pa) fun _ o e=>?_
  rw [hp1 a z] at e; exact absN e
 ·obtain ⟨g1,g2⟩:=jt j y acc' HF hy hj.2
  exact ⟨g1,zbV (fun mF z=>⟨hj.1,z⟩) g2⟩
 ·obtain ⟨hl,hw⟩:=hw
  have hj:j < items'.length:=(List.getElem?_eq_some_iff.mp hy).1
  refine wpAny_bind (cElt (W:=W.ofP q) (q:=fun a=>q a∨a∈ps') (ih fun a=>q a∨a∈ps') R (p0:=q) st.gd Y1 (.inl hqD) c5 (by exact #[0x681179219418111fd8071161fd8051115411,_,_,sizeLine,_,_,_] hbnd hb2 hbig hl hj) h1 hw fun acc'' H'' s'' hj' hlen c6 r6=>?_)
  exact wpAny_pure (zeC rfl acc'' H'' ⟨by exact #[0x1061517111041731651411,_,_,_,_] hl hlen,hj'⟩ c6 r6)
theorem cRun2 (O:Wok W fnA) (ih:∀ q,PE (W.ofP q) lev S n) (P:Pr W lev A frs s H) (F:Fits W frs env sc m H s.heap) {elt t it t' it':Expr} {pos pp:Pos} {c:CE} {tg tg':Tgt} {src src':Src} {use:Option (Value->Sem Unit)} {QV:Value->Shared->Prop} {E:Value->Shared->Prop}
  (hsc:CompOk sc scope) (hok:(src.okT tg&&src'.okT tg'&&tg.apart tg')=true) (h1:(sc.inner scope).ce n elt=some c) (h2:(sc.inner scope).tgt t=some tg) (h3:sc.srcBy (sc.ce n) it=some src) (h4:(sc.inner scope).tgt t'=some tg') (h5:(sc.inner scope).srcBy ((sc.inner scope).ce n) it'=some src')
  (h:wpE S X (.comp2 c tg src tg' src' (sc.caps scope)) m H Q) (hE:∀ e s',XPost W frs H s X e s'->E e s')
  (hfin:∀ C D env' sc' mc acc HC s₁ H' s' f,Step W frs H s HC s₁->CFix W frs env' C D->s₁.heap.get? C=none->s₁.heap.get? D=none->CAt (W.ofP fun a=>W.priv a∨a∈[D]) frs env' sc' C D HC s₁ mc acc H' s'->Q (.lst acc) H'->cPost W.M A E use QV (.ref D) C (.ok f) s') :
  wpAny W.M A (comprehension (.ListComp elt [⟨t,it,[],0⟩,⟨t',it',[],0⟩] scope pos) scope env pp (newList []) false (eval it env) use) QV E s:=by
 obtain ⟨hok,hap⟩:=Bool.and_eq_true_iff.mp hok
 obtain ⟨hok1,hok2⟩:=Bool.and_eq_true_iff.mp hok
 refine zk7 O (ih W.priv) P F rfl hsc hok1 h2 h3 h hE fun I C D ps ow items guard Inv St HC s₁ sE cl st hK b=>?_
 obtain ⟨hbig,J,j0,jt,jd⟩:=hK
 have loop:=zl0 (A:=A) (e:=.ListComp elt [⟨t,it,[],0⟩,⟨t',it',[],0⟩] scope pos) (d:=0) (p:=fun a=>W.priv a∨a∈[D]) (J:=fun i acc H=>acc.length<=1000*i/\J i acc H)
  (PT:=fun i x acc H mD=>(acc.length<=1000*i/\wpSrc S (fun _=>False) src' mD H fun items' guard' HE=>Gath tg' items' guard' mD (fun mF HF acc' K'=>wpE S (fun _=>False) c mF HF fun v HH=>K' (acc'++[v]) HH) 1000 acc (fun acc' HF=>∃ HG,Sub HG HF/\J (i+1) acc' HG) HE)/\∀ i,i∉tg.idx->lget mD i=lget (capsOf m (sc.caps scope)) i)
  rfl rfl rfl rfl (turn2 ..) P.rm.quiet b.fix (p0:=W.priv) st.gd b.hcp b.hps (.inr (.head _)) (fun a pa z=>?_) h2 (zdO h2) b.hpl b.It b.c0 b.st0 b.inv ⟨Nat.zero_le _,j0⟩ (fun i x acc H hx hj=>?_) (fun acc H hj=>(jd acc H hj.2).1) (fun i x acc H s mD hx hw ca=>?_)
 ·refine codeAny_mono (zhV (g:=⟨t,it,[],0⟩) rfl rfl loop (b.It.self 0 sE _ _ b.st0 loop)) fun r s' z=>?_
  induction r using Except.casesOn with
  | error e=>exact z.elim
  | ok f =>
   refine zd z fun acc H' yC ca _=>?_; obtain ⟨_,hj⟩:=yC
   exact hfin _ _ _ _ _ _ _ _ _ _ f st b.fix b.nC b.nD ca (jd acc H' hj).2
 ·rcases pa with pa | pa
  ·refine oAE (st.gd.pv a pa) fun _ o e=>?_
   rw [(b.hps a z).1] at e; exact absN e
  ·exact (b.hps a z).2.2 (List.mem_singleton.mp pa)
 ·obtain ⟨g1,g2⟩:=jt i x acc H hx hj.2
  exact ⟨g1,zbV (fun mD z=>⟨⟨hj.1,z.1⟩,z.2⟩) (ziR g2)⟩
 ·obtain ⟨⟨hl,hw⟩,hout⟩:=hw
  have hi:i < items.length:=(List.getElem?_eq_some_iff.mp hx).1
  have hd:∀ j∈tg'.idx,lget mD j=none:=fun j hj=>by
   rw [hout j (fun q=>by have:=List.all_eq_true.mp hap j hj; simp [q] at this)]
   exact zdO h4 j hj
  exact cInner (q:=fun a=>(W.priv a∨a∈[D])∨a∈ps) (JJ:=fun acc' HG=>J (i+1) acc' HG) (bnd:=1000*i) O ih P.rm b.fix (.inl (.inr (.head _))) h1 h4 h5 hok2 hd hl (by rw [sizeLine_eq]; exact #[0x18888888801fd8051fd8211145211fd80411,_,_] hbig hi) ca hw (fun acc' H' s' l' hj c6 r6=>zeC rfl acc' H' ⟨by exact #[0x10511fd824111fd8051fd821411,_,_] l',hj⟩ c6 r6)
theorem sComp1 (O:Wok W fnA) (ih:∀ q,PE (W.ofP q) lev S n) (ihT:∀ q,PT (W.ofP q) lev S n) (P:Pr W lev A frs s H) (F:Fits W frs env sc m H s.heap) {elt t it:Expr} {ifs:List Expr} {pos:Pos} {c:CE} {tg:Tgt} {src:Src} {cs:List CE}
  (hsc:sc.fitsComp scope=true) (hok:src.okT tg=true) (h1:(sc.inner scope).ce n elt=some c) (h2:(sc.inner scope).tgt t=some tg) (h3:sc.srcBy (sc.ce n) it=some src) (h4:mapO ((sc.inner scope).ce n) ifs=some cs) (h:wpE S X (.comp1 c tg src cs (sc.caps scope)) m H Q) :
  wpAny W.M A (eval (.ListComp elt [⟨t,it,ifs,0⟩] scope pos) env) (EPost W frs H s Q) (XPost W frs H s X) s:=by
 rw [eval_ListComp]
 exact cRun1 O ih ihT P F (zgi hsc) hok h1 h2 h3 h4 h (fun _ _ z=>z) fun C D env' sc' mc acc HC s₁ H' s' f st Y nC nD ca q=>cBack st Y nC nD ca q f
theorem sComp2 (O:Wok W fnA) (ih:∀ q,PE (W.ofP q) lev S n) (P:Pr W lev A frs s H) (F:Fits W frs env sc m H s.heap) {elt t it t' it':Expr} {pos:Pos} {c:CE} {tg tg':Tgt} {src src':Src}
  (hsc:sc.fitsComp scope=true) (hok:(src.okT tg&&src'.okT tg'&&tg.apart tg')=true) (h1:(sc.inner scope).ce n elt=some c) (h2:(sc.inner scope).tgt t=some tg) (h3:sc.srcBy (sc.ce n) it=some src) (h4:(sc.inner scope).tgt t'=some tg') (h5:(sc.inner scope).srcBy ((sc.inner scope).ce n) it'=some src')
  (h:wpE S X (.comp2 c tg src tg' src' (sc.caps scope)) m H Q) :
  wpAny W.M A (eval (.ListComp elt [⟨t,it,[],0⟩,⟨t',it',[],0⟩] scope pos) env) (EPost W frs H s Q) (XPost W frs H s X) s:=by
 rw [eval_ListComp]
 exact cRun2 O ih P F (zgi hsc) hok h1 h2 h3 h4 h5 h (fun _ _ z=>z) fun C D env' sc' mc acc HC s₁ H' s' f st Y nC nD ca q=>cBack st Y nC nD ca q f
end
section
variable {fnA:Fn->Addr}
theorem zfA {o i:Expr} {pos:Pos} {Q:Value->Shared->Prop} (h:wpAny W.M A (eval o env) (fun x s₁=>wpAny W.M A (eval i env) (fun y sC=>wpAny W.M A (subscriptTail o i x y) Q E sC) E s₁) E s):wpAny W.M A (eval (.Subscript o i pos) env) Q E s:=Subscript_ h
theorem zlG (O:Wok W fnA) (G:Gd W frs H s.heap) (F:Fits W frs env sc m H s.heap) {x:Str} {p:Pos} {c:CE} (hc:sc.nameCE x=some c) (h:wpE S X c m H Q):wpAny W.M A (eval (.Name x p) env) (EPost W frs H s Q) E s:=by
 unfold Sc.nameCE at hc
 split at hc
 ·exact absN hc
 ·rename_i hd
  have hd:(x == ("__debug__" : Str))=false:=by simpa using hd
  split at hc
  ·rename_i i hi
   obtain rfl:=Option.some.inj hc
   have h:(match lget m i with | some v=>Q v H | none=>False):=h
   cases hv:lget m i with
   | none=>rw [hv] at h; exact h.elim
   | some v =>
    rw [hv] at h
    exact wpAny_Name (sVar G F hi hv (zbe hi F.nocd) fun y a=>end0 G a h) hd
  ·split at hc
   ·rename_i i hg
    obtain rfl:=Option.some.inj hc
    obtain ⟨g1,g2⟩:=zcw hg
    obtain ⟨t,g3⟩:=O.gnum x i g2
    exact zf1 O G F g1 g3 hd (end0 G (zh _ _) h)
   ·exact absN hc
theorem zja {l x:Expr} (h:soleOf l=some x):plainArg x=true/\∃ p,l=.List [x] p:=by
 induction l using Expr.casesOn with
 | List es p =>
  rcases es with _ | ⟨y,_ | ⟨z,r⟩⟩
  ·exact absN h
  ·have h:(if plainArg y then some y else none)=some x:=h
   split at h
   ·cases h; exact mAE (by assumption) p rfl
   ·exact absN h
  ·exact absN h
 | _=>exact absN h
set_option tactic.hygienic true in
theorem pe_bin (ih:PE W lev S n) (R:Rm lev A frs) (G:Gd W frs H s.heap) (F:Fits W frs env sc m H s.heap) {l r:Expr} {op:Operator} {p:Pos} {c:CE} (hc:binCE (sc.ce n) l op r=some c) (h:wpE S X c m H Q) :
  wpAny W.M A (eval (.BinOp l op r p) env) (EPost W frs H s Q) (XPost W frs H s X) s:=by
 unfold binCE at hc
 split at hc
 ·rename_i x hs
  split at hs
  ·rename_i hop
   have hop:op=.Mult:=by induction op using Operator.casesOn <;> first | rfl | exact absB hop
   subst hop
   refine oAE (zja hs) fun hp lp yC=>?_; obtain rfl:=yC
   refine zy hc fun cx h1 hc=>?_
   refine zy hc fun cr h2 hc=>?_
   obtain rfl:=Option.some.inj hc
   refine wpAny_BinOp ?_
   refine List_ ?_
   rw [zp hp]
   refine spliced_cons (seqR (ih sc x cx h1 A frs env s m H _ X R G F h) fun y v s₁ HC st a1 q=>spliced_nil (wpAny_newList ?_ (Nat.le_of_ble_eq_true rfl)))
   have stC:=st.trans (Step.push st.gd { cls:=.type "list",data:=.seq [y].toArray })
   refine zb3 stC (seqR (ih sc r cr h2 A frs env _ m HC _ X R stC.gd (F.step stC) q) fun z u sC HD stD aD qC=>?_)
   have st':=stC.trans stD
   refine zax st' (sRep ((F.step st').pr R st'.gd) (stD.abs ((Step.push st.gd _).abs a1)) aD ?_ qC)
   obtain ⟨sl,hq⟩:=(stD.ext.toKeep s₁.heap.objs.size _ (Heap.get?_push_size s₁.heap (o:={ cls:=.type "list",data:=.seq [y].toArray }) rfl) (zQ st.gd)).1
   exact zfg _ hq rfl 0 rfl
  ·exact absN hs
 ·refine zy hc fun cl h2 hc=>?_
  refine zy hc fun cr h3 hc=>?_
  obtain rfl:=Option.some.inj hc
  refine wpAny_BinOp (seqR (ih sc l cl h2 A frs env s m H _ X R G F h) fun x v s₁ HC st a q=>?_)
  refine zb3 st (seqR (ih sc r cr h3 A frs env s₁ m HC _ X R st.gd (F.step st) q) fun y u sC HD stD aD qC=>?_)
  have st':=st.trans stD
  exact zax st' (sBin ((F.step st').pr R st'.gd) (stD.abs a) aD qC)
theorem pe_neg (ih:PE W lev S n) (R:Rm lev A frs) (G:Gd W frs H s.heap) (F:Fits W frs env sc m H s.heap) {x:Expr} {op:UnaryOp} {p:Pos} {c:CE} (hc:unCE (sc.ce n) x op=some c) (h:wpE S X c m H Q) :
  wpAny W.M A (eval (.UnaryOp op x p) env) (EPost W frs H s Q) (XPost W frs H s X) s:=by
 induction op using UnaryOp.casesOn with
 | Not=>refine mapS (o:=sc.ce n x) (f:=CE.not) hc fun cx h1 yC=>?_; obtain rfl:=yC; exact h.elim
 | USub =>
  refine mapS (o:=sc.ce n x) (f:=CE.neg) hc fun cx h1 yC=>?_; obtain rfl:=yC
  refine wpAny_UnaryOp (seqR (ih sc x cx h1 A frs env s m H _ X R G F h) fun y v s₁ HC st a q=>?_)
  obtain ⟨q⟩:=q
  obtain ⟨t,rfl⟩:=zg a
  exact lift (neg_int (endR (s₁:={ s₁ with toks:=s₁.toks+1 }) ⟨st.gd,st.ext,st.os,st.gens⟩ (zh _ _) q))
 | _=>exact absN hc
set_option tactic.hygienic true in
theorem pe_fun (O:Wok W fnA) (SO:SpecsOk W fnA lev S) (ih:PE W lev S n) (R:Rm lev A frs) (G:Gd W frs H s.heap) (F:Fits W frs env sc m H s.heap) {x:Str} {np pos:Pos} {args:List Expr} {c:CE} (hc:sc.funCE (sc.ce n) x args=some c) (h:wpE S X c m H Q) :
  wpAny W.M A (eval (.Call (.Name x np) args [] pos) env) (EPost W frs H s Q) (XPost W frs H s X) s:=by
 unfold Sc.funCE at hc
 split at hc
 ·rename_i hp
  split at hc
  ·rename_i g hg
   refine mapS hc fun cs h1 yC=>?_; obtain rfl:=yC
   exact zlB O SO ih R G F hg hp h1 h
  ·rename_i b hg
   refine mapS hc fun cs h1 yC=>?_; obtain rfl:=yC
   exact zj1 O ih R G F hg hp h1 h
  ·split at hc
   ·rename_i hx
    rcases args with _ | ⟨e,_ | ⟨t,_ | ⟨z,r⟩⟩⟩
    ·exact absN hc
    ·exact absN hc
    ·have hpe:plainArg e=true:=by simp only [List.all_cons,Bool.and_eq_true] at hp; exact hp.1
     replace hc:sc.isCE (sc.ce n) e t=some c:=hc
     unfold Sc.isCE at hc
     split at hc
     ·rename_i t' ht'
      obtain ⟨tp,rfl⟩:=zbS ht'
      split at hc
      ·rename_i ht
       refine mapS hc fun c' h1 yC=>?_; obtain rfl:=yC
       exact pe_is O ih R G F hx (.inl ⟨rfl,ht⟩) hpe h1 h
      ·split at hc
       ·rename_i ht
        refine mapS hc fun c' h1 yC=>?_; obtain rfl:=yC
        exact pe_is O ih R G F hx (.inr ⟨rfl,ht⟩) hpe h1 h
       ·exact absN hc
     ·exact absN hc
    ·exact absN hc
   ·exact absN hc
 ·exact absN hc
theorem zmN (O:Wok W fnA) (SO:SpecsOk W fnA lev S) (ih:PE W lev S n) (R:Rm lev A frs) (G:Gd W frs H s.heap) (F:Fits W frs env sc m H s.heap) {o:Expr} {nm:Str} {apos pos:Pos} {args:List Expr} {c:CE} (hc:methCE (sc.ce n) o nm apos args pos=some c) (h:wpE S X c m H Q) :
  wpAny W.M A (eval (.Call (.Attribute o nm apos) args [] pos) env) (EPost W frs H s Q) (XPost W frs H s X) s:=by
 unfold methCE at hc
 split at hc
 ·rename_i hq
  simp only [Bool.and_eq_true] at hq
  obtain ⟨⟨⟨q1,q2⟩,q3⟩,q4⟩:=hq
  refine zy hc fun co h1 hc=>?_
  refine zy hc fun nm' h2 hc=>?_
  refine zy hc fun cs h3 hc=>?_
  obtain rfl:=Option.some.inj hc
  obtain rfl:=zmq h2
  refine (?_:wpAny W.M A (do
   let ov <- attributeBase o nm'.str env (eval o env)
   standAt apos.atName
   methodCall o nm'.str apos pos env ov (args.length+([] : List Keyword).length) (backTo pos (starEach args env)) (backToKw pos (keywordEach [] env))) _ _ _)
  rw [zgc q3]
  refine wpAny_bind (seqR (ih sc o co h1 A frs env s m H _ X R G F h) fun x v s₁ HC st a q=>wpAny_bind (wpAny_standAt ?_))
  exact zax st (sMeth O SO ih ((F.step st).pr R st.gd) (F.step st) o apos pos q1 (of_decide_eq_true q2) q4 h3 a q)
 ·exact absN hc
theorem zlx (ih:PE W lev S n) (R:Rm lev A frs) (G:Gd W frs H s.heap) (F:Fits W frs env sc m H s.heap) {o:Expr} {nm:Str} {p:Pos} {c:CE} (hc:(if notCall o then do return .attr (<- sc.ce n o) (<- ats.lookup nm) else none)=some c) (h:wpE S X c m H Q) :
  wpAny W.M A (eval (.Attribute o nm p) env) (EPost W frs H s Q) (XPost W frs H s X) s:=by
 split at hc
 ·rename_i hq
  refine zy hc fun co h1 hc=>?_
  refine zy hc fun nm' h2 hc=>?_
  obtain rfl:=Option.some.inj hc
  obtain rfl:=zfe h2
  refine (?_:wpAny W.M A (do
   let o' <- attributeBase o nm'.str env (eval o env)
   standAt p.atName
   let r <- holding [o'] (getAttr o' nm'.str true)
   letTemporaryGo o o' r
   pure r) _ _ _)
  rw [zgc hq]
  refine wpAny_bind (seqR (ih sc o co h1 A frs env s m H _ X R G F h) fun x v s₁ HC st a q=>wpAny_bind (wpAny_standAt ?_))
  refine wpAny_bind (wpAny_holding (zb3 st (seqR (sAttr ((F.step st).pr R st.gd) a q) fun y u sC HD stD aD qC=>?_)))
  exact wpAny_bind (wpAny_letTemporaryGo (wpAny_pure (endR (st.trans stD) aD qC)))
 ·exact absN hc
theorem zjo (ih:PE W lev S n) (R:Rm lev A frs) (G:Gd W frs H s.heap) (F:Fits W frs env sc m H s.heap) {o:Expr} {lo hi st:Option Expr} {sp p:Pos} {c:CE} (hc:sliceCE (sc.ce n) o lo hi st=some c) (h:wpE S X c m H Q) :
  wpAny W.M A (eval (.Subscript o (.Slice lo hi st sp) p) env) (EPost W frs H s Q) (XPost W frs H s X) s:=by
 induction st using Option.casesOn with
 | some _=>exact absN hc
 | none =>
  induction lo using Option.casesOn with
  | none =>
   induction hi using Option.casesOn with
   | none=>exact absN hc
   | some hi =>
    have hc:(do return CE.slice (<- sc.ce n o) (.lit .none) (<- sc.ce n hi):Option CE)=some c:=hc
    refine zy hc fun co h1 hc=>?_
    refine zy hc fun ch h2 hc=>?_
    obtain rfl:=Option.some.inj hc
    refine zfA (seqR (ih sc o co h1 A frs env s m H _ X R G F h) fun x v s₁ HC st a q=>?_)
    refine (?_:wpAny W.M A (do
     let l <- valueOrNone none
     let u <- holding [l] (valueOrNone (some (eval hi env)))
     let s <- holding [l,u] (valueOrNone none)
     newFields "slice" [l,u,s]) _ _ _)
    refine wpAny_bind (wpAny_pure (wpAny_bind (wpAny_holding (zb3 st (seqR (ih sc hi ch h2 A frs env s₁ m HC _ X R st.gd (F.step st) q) fun y u sC HD stD aD qC=>wpAny_bind (wpAny_holding (wpAny_pure ?_)))))))
    have st':=st.trans stD
    exact zk8 st' ((F.step st').pr R st'.gd) o none (some hi) sp (stD.abs a) zO aD qC
  | some lo =>
   induction hi using Option.casesOn with
   | some _=>exact absN hc
   | none =>
    have hc:(do return CE.slice (<- sc.ce n o) (<- sc.ce n lo) (.lit .none):Option CE)=some c:=hc
    refine zy hc fun co h1 hc=>?_
    refine zy hc fun ch h2 hc=>?_
    obtain rfl:=Option.some.inj hc
    refine zfA (seqR (ih sc o co h1 A frs env s m H _ X R G F h) fun x v s₁ HC st a q=>?_)
    refine (?_:wpAny W.M A (do
     let l <- valueOrNone (some (eval lo env))
     let u <- holding [l] (valueOrNone none)
     let s <- holding [l,u] (valueOrNone none)
     newFields "slice" [l,u,s]) _ _ _)
    refine wpAny_bind (zb3 st (seqR (ih sc lo ch h2 A frs env s₁ m HC _ X R st.gd (F.step st) q) fun y u sC HD stD aD qC=>wpAny_bind (wpAny_holding (wpAny_pure (wpAny_bind (wpAny_holding (wpAny_pure ?_)))))))
    have st':=st.trans stD
    exact zk8 st' ((F.step st').pr R st'.gd) o (some lo) none sp (stD.abs a) aD zO qC
theorem zl5 (ih:PE W lev S n) (R:Rm lev A frs) (G:Gd W frs H s.heap) (F:Fits W frs env sc m H s.heap) {o i:Expr} {p:Pos} {c:CE} (hns:∀ lo hi st p,i≠.Slice lo hi st p) (hc:(do return CE.sub (<- sc.ce n o) (<- sc.ce n i):Option CE)=some c) (h:wpE S X c m H Q) :
  wpAny W.M A (eval (.Subscript o i p) env) (EPost W frs H s Q) (XPost W frs H s X) s:=by
 refine zy hc fun co h1 hc=>?_
 refine zy hc fun ci h2 hc=>?_
 obtain rfl:=Option.some.inj hc
 refine zfA (seqR (ih sc o co h1 A frs env s m H _ X R G F h) fun x v s₁ HC st a q=>?_)
 refine zb3 st (seqR (ih sc i ci h2 A frs env s₁ m HC _ X R st.gd (F.step st) q) fun y u sC HD stD aD qC=>?_)
 have st':=st.trans stD
 exact zax st' (sSub ((F.step st').pr R st'.gd) o i hns (stD.abs a) aD qC)
theorem zgf {f:Expr->Option CE} {o i:Expr} {c:CE} (hc:subCE f o i=some c):(∃ lo hi st p,i=.Slice lo hi st p/\sliceCE f o lo hi st=some c)∨((∀ lo hi st p,i≠.Slice lo hi st p)/\(do return CE.sub (<- f o) (<- f i):Option CE)=some c):=by
 by_cases q:∃ lo hi st p,i=.Slice lo hi st p
 ·obtain ⟨lo,hi,st,p,rfl⟩:=q
  exact .inl ⟨lo,hi,st,p,rfl,hc⟩
 ·refine .inr ⟨fun lo hi st p e=>q (mEEEE lo hi st p e),?_⟩
  induction i using Expr.casesOn <;> first | exact hc | exact absurd (mEEEE _ _ _ _ rfl) q
inductive CompI (sc:Sc) (f:Sc->Expr->Option CE) (elt:Expr) (scope:Scope):List Comprehension->CE->Prop
 | one {t it:Expr} {ifs:List Expr} {tg:Tgt} {sr:Src} {cs:List CE} {c0:CE} (hs:sc.fitsComp scope=true) (hok:Src.okT sr tg=true) (k1:f (sc.inner scope) elt=some c0) (k2:(sc.inner scope).tgt t=some tg) (k3:sc.srcBy (f sc) it=some sr) (k4:mapO (f (sc.inner scope)) ifs=some cs):CompI sc f elt scope [⟨t,it,ifs,0⟩] (.comp1 c0 tg sr cs (sc.caps scope))
 | two {t it t' it':Expr} {tg tg':Tgt} {sr sr':Src} {c0:CE} (hs:sc.fitsComp scope=true) (hok:(Src.okT sr tg&&Src.okT sr' tg'&&tg.apart tg')=true) (k1:f (sc.inner scope) elt=some c0) (k2:(sc.inner scope).tgt t=some tg) (k3:sc.srcBy (f sc) it=some sr) (k4:(sc.inner scope).tgt t'=some tg') (k5:(sc.inner scope).srcBy (f (sc.inner scope)) it'=some sr'):CompI sc f elt scope [⟨t,it,[],0⟩,⟨t',it',[],0⟩] (.comp2 c0 tg sr tg' sr' (sc.caps scope))
theorem zet {f:Sc->Expr->Option CE} {elt:Expr} {gens:List Comprehension} {scope:Scope} {c:CE} (h:sc.compCE f elt gens scope=some c):CompI sc f elt scope gens c:=by
 unfold Sc.compCE at h
 split at h
 ·rename_i hs
  rcases gens with _ | ⟨g,_ | ⟨g',_ | ⟨g3,r⟩⟩⟩
  ·exact absN h
  ·have h:sc.comp1CE f elt g scope=some c:=h
   unfold Sc.comp1CE at h
   obtain ⟨t,it,ifs,a⟩:=g
   split at h
   ·rename_i ha
    replace ha:a=0:=ha
    subst ha
    refine zy h fun tg h2 h=>?_
    refine zy h fun sr h3 h=>?_
    refine zy h fun c1 h1 h=>?_
    refine zy h fun cs h4 h=>?_
    split at h
    ·rename_i hok
     obtain rfl:=Option.some.inj h
     exact .one hs hok h1 h2 h3 h4
    ·exact absN h
   ·exact absN h
  ·have h:sc.comp2CE f elt g g' scope=some c:=h
   unfold Sc.comp2CE at h
   obtain ⟨t,it,ifs,a⟩:=g
   obtain ⟨t',it',ifs',a'⟩:=g'
   split at h
   ·rename_i ha
    refine oAAA ha fun ha ha' hi hi'=>?_
    replace ha:a=0:=ha
    replace ha':a'=0:=ha'
    replace hi:ifs=[]:=by simpa using hi
    replace hi':ifs'=[]:=by simpa using hi'
    subst ha
    subst ha'
    subst hi
    subst hi'
    refine zy h fun tg h2 h=>?_
    refine zy h fun sr h3 h=>?_
    refine zy h fun c1 h1 h=>?_
    refine zy h fun tg' h4 h=>?_
    refine zy h fun sr' h5 h=>?_
    split at h
    ·rename_i hok
     obtain rfl:=Option.some.inj h
     exact .two hs hok h1 h2 h3 h4 h5
    ·exact absN h
   ·exact absN h
  ·exact absN h
 ·exact absN h
inductive CeI (n:Nat) (sc:Sc):Expr->CE->Prop
 | lit {cc:Const} {k:Nat} {p:Pos} {c:CE} (h:constCE cc=some c):CeI n sc (.Constant cc k p) c
 | name {x:Str} {p:Pos} {c:CE} (h:sc.nameCE x=some c):CeI n sc (.Name x p) c
 | boolop {op:BoolOp} {es:List Expr} {p:Pos} {cs:List CE} (h:mapO (sc.ce n) es=some cs):CeI n sc (.BoolOp op es p) (.boolop (op == .And) cs)
 | bin {l:Expr} {op:Operator} {r:Expr} {p:Pos} {c:CE} (h:binCE (sc.ce n) l op r=some c):CeI n sc (.BinOp l op r p) c
 | un {op:UnaryOp} {x:Expr} {p:Pos} {c:CE} (h:unCE (sc.ce n) x op=some c):CeI n sc (.UnaryOp op x p) c
 | ite {t b o:Expr} {p:Pos} {ct cb co:CE} (h1:sc.ce n t=some ct) (h2:sc.ce n b=some cb) (h3:sc.ce n o=some co):CeI n sc (.IfExp t b o p) (.ite ct cb co)
 | list {es:List Expr} {p:Pos} {cs:List CE} (hp:okList es=true) (h1:mapO (sc.ce n) es=some cs):CeI n sc (.List es p) (.flist cs)
 | tup {es:List Expr} {k:Nat} {p:Pos} {cs:List CE} (hp:okList es=true) (h1:mapO (sc.ce n) es=some cs):CeI n sc (.Tuple es k p) (.tup cs)
 | dict {p:Pos}:CeI n sc (.Dict [] [] p) .dict0
 | cmp {l:Expr} {ops:List CmpOp} {cs':List Expr} {p:Pos} {cl:CE} {cc:List CE} (hp:cs'.all notSet=true) (h1:sc.ce n l=some cl) (h2:mapO (sc.ce n) cs'=some cc):CeI n sc (.Compare l ops cs' p) (.cmp cl ops cc)
 | fn {x:Str} {np:Pos} {args:List Expr} {pos:Pos} {c:CE} (h:sc.funCE (sc.ce n) x args=some c):CeI n sc (.Call (.Name x np) args [] pos) c
 | meth {o:Expr} {nm:Str} {apos:Pos} {args:List Expr} {pos:Pos} {c:CE} (h:methCE (sc.ce n) o nm apos args pos=some c):CeI n sc (.Call (.Attribute o nm apos) args [] pos) c
 | attr {o:Expr} {nm:Str} {p:Pos} {c:CE} (h:(if notCall o then do return CE.attr (<- sc.ce n o) (<- ats.lookup nm) else none)=some c):CeI n sc (.Attribute o nm p) c
 | sub {o i:Expr} {p:Pos} {c:CE} (h:subCE (sc.ce n) o i=some c):CeI n sc (.Subscript o i p) c
 | comp {elt:Expr} {gens:List Comprehension} {scope:Scope} {p:Pos} {c:CE} (h:CompI sc (fun sc=>sc.ce n) elt scope gens c):CeI n sc (.ListComp elt gens scope p) c
theorem zhO {e:Expr} {c:CE} (hc:sc.ce (n+1) e=some c):CeI n sc e c:=by
 induction e using Expr.casesOn with
 | Constant cc k p=>exact .lit hc
 | Name x p=>exact .name hc
 | BoolOp op es p =>
  refine mapS (o:=mapO (sc.ce n) es) (f:=CE.boolop (op == .And)) hc fun cs h1 yC=>?_
  exact yC ▸ .boolop h1
 | BinOp l op r p=>exact .bin hc
 | UnaryOp op x p=>exact .un hc
 | IfExp t b o p =>
  have hc:(do return CE.ite (<- sc.ce n t) (<- sc.ce n b) (<- sc.ce n o):Option CE)=some c:=hc
  refine zy hc fun ct h1 hc=>?_
  refine zy hc fun cb h2 hc=>?_
  refine zy hc fun co h3 hc=>?_
  exact Option.some.inj hc ▸ .ite h1 h2 h3
 | List es p =>
  have hc:(if okList es then (mapO (sc.ce n) es).map .flist else none)=some c:=hc
  split at hc
  ·rename_i hp
   exact mapS hc fun cs h1 z=>z ▸ .list hp h1
  ·exact absN hc
 | Tuple es k p =>
  have hc:(if okList es then (mapO (sc.ce n) es).map .tup else none)=some c:=hc
  split at hc
  ·rename_i hp
   exact mapS hc fun cs h1 z=>z ▸ .tup hp h1
  ·exact absN hc
 | Dict ks vs p =>
  have hc:(if ks.isEmpty&&vs.isEmpty then some CE.dict0 else none)=some c:=hc
  split at hc
  ·rename_i hp
   obtain ⟨p1,p2⟩:=Bool.and_eq_true_iff.mp hp
   obtain rfl:=List.isEmpty_iff.mp p1
   obtain rfl:=List.isEmpty_iff.mp p2
   exact Option.some.inj hc ▸ .dict
  ·exact absN hc
 | Compare l ops cs' p =>
  have hc:(if cs'.all notSet then do return .cmp (<- sc.ce n l) ops (<- mapO (sc.ce n) cs') else none)=some c:=hc
  split at hc
  ·rename_i hp
   refine zy hc fun cl h1 hc=>?_
   refine zy hc fun cc h2 hc=>?_
   exact Option.some.inj hc ▸ .cmp hp h1 h2
  ·exact absN hc
 | Call f args kws pos =>
  induction kws using List.casesOn with
  | cons _ _=>exact absN hc
  | nil =>
   induction f using Expr.casesOn with
   | Name x np=>exact .fn hc
   | Attribute o nm apos=>exact .meth hc
   | _=>exact absN hc
 | Attribute o nm p=>exact .attr hc
 | Subscript o i p=>exact .sub hc
 | ListComp elt gens scope p=>exact .comp (zet hc)
 | _=>exact absN hc
theorem ze0 {e:Expr} {c:CE} (hl:isListComp e=true) (hc:sc.ce n e=some c):∃ elt gens scope p,e=.ListComp elt gens scope p:=by
 induction n using Nat.casesOn with
 | zero=>exact absN hc
 | succ n =>
  have k:=zhO hc
  clear hc
  induction k with
  | comp=>exact ⟨_,_,_,_,rfl⟩
  | _=>exact absB hl
noncomputable def callLike:CE->Bool
 | .call .. | .bcall ..=>true
 | _=>false
theorem zkU {f:Expr->Option CE} {x:Str} {args:List Expr} {c:CE} (hc:sc.funCE f x args=some c):callLike c=true:=by
 unfold Sc.funCE at hc
 split at hc
 ·split at hc
  ·exact mapS hc fun cs h1 z=>z ▸ rfl
  ·exact mapS hc fun cs h1 z=>z ▸ rfl
  ·split at hc
   ·rcases args with _ | ⟨e,_ | ⟨t,_ | ⟨z,r⟩⟩⟩
    ·exact absN hc
    ·exact absN hc
    ·replace hc:sc.isCE f e t=some c:=hc
     unfold Sc.isCE at hc
     split at hc
     ·split at hc
      ·exact mapS hc fun cs h1 z=>z ▸ rfl
      ·split at hc
       ·exact mapS hc fun cs h1 z=>z ▸ rfl
       ·exact absN hc
     ·exact absN hc
    ·exact absN hc
   ·exact absN hc
 ·exact absN hc
theorem pe_lit (G:Gd W frs H s.heap) {cc:Const} {k:Nat} {p:Pos} {c:CE} (hc:constCE cc=some c) (h:wpE S X c m H Q):wpAny W.M A (eval (.Constant cc k p) env) (EPost W frs H s Q) E s:=by
 induction cc using Const.casesOn with
 | none=>exact wpAny_pure (end0 G zO (zjP (M:=(wpE S X · m H Q)) hc h id))
 | bool b=>exact wpAny_pure (end0 G (zaz _) (zjP (M:=(wpE S X · m H Q)) hc h id))
 | int i=>exact wpAny_Constant_int (endT G _ (zh _ _) (zjP (M:=(wpE S X · m H Q)) hc h id))
 | str x=>exact Constant_str (endT G _ (zbD x.cps.toList _) (zjP (M:=(wpE S X · m H Q)) hc h id))
 | _=>exact absN hc
theorem pe_sub (ih:PE W lev S n) (R:Rm lev A frs) (G:Gd W frs H s.heap) (F:Fits W frs env sc m H s.heap) {o i:Expr} {p:Pos} {c:CE} (hc:subCE (sc.ce n) o i=some c) (h:wpE S X c m H Q) :
  wpAny W.M A (eval (.Subscript o i p) env) (EPost W frs H s Q) (XPost W frs H s X) s:=by
 rcases zgf hc with ⟨lo,hi,st,sp,rfl,hc⟩ | ⟨hns,hc⟩
 ·exact zjo ih R G F hc h
 ·exact zl5 ih R G F hns hc h
theorem zh2 (O:Wok W fnA) (SO:SpecsOk W fnA lev S) (ihA:∀ q,PE (W.ofP q) lev S n) (ihTA:∀ q,PT (W.ofP q) lev S n):PE W lev S (n+1):=by
 have ih:PE W lev S n:=ihA W.priv
 have ihT:PT W lev S n:=ihTA W.priv
 intro sc e c hc A frs env s m H Q X R G F h
 have k:=zhO hc
 clear hc
 revert h
 induction k with
 | @lit cc k p _ hc=>exact fun h=>pe_lit G hc h
 | name hc=>exact fun h=>zlG O G F hc h
 | boolop h1=>exact fun h=>zlM ih R _ _ _ _ s H Q h1 G F h
 | bin hc=>exact fun h=>pe_bin ih R G F hc h
 | un hc=>exact fun h=>pe_neg ih R G F hc h
 | ite h1 h2 h3 =>
  intro h
  refine wpAny_IfExp (seqR (ihT sc _ _ h1 A frs env s m H _ X R G F h) fun x v s₁ HC st a q=>?_)
  subst a
  induction x using Bool.casesOn with
  | true=>exact zax st (ih sc _ _ h2 A frs env s₁ m HC Q X R st.gd (F.step st) (q.1 rfl))
  | false=>exact zax st (ih sc _ _ h3 A frs env s₁ m HC Q X R st.gd (F.step st) (q.2 rfl))
 | list hp h1 =>
  intro h
  refine wpAny_mono (sList ih R hp h1 G F h) (fun y sC hy=>?_) fun _ _ z=>z
  refine zcD hy fun vs xs HC s₁ st a q yH yI=>?_; obtain rfl:=yH; obtain rfl:=yI
  exact endR (st.trans (Step.push st.gd _)) (zeo st.gd a) q
 | tup hp h1 =>
  intro h
  refine Tuple_ (seqR (zeA ih R _ _ _ s H _ (zU hp).1 h1 G F h) fun xs vs s₁ HC st a q=>?_)
  exact wpAny_newTuple (endR (st.trans (Step.push st.gd _)) (zcr st.gd a.1) q) (by rw [a.2]; exact (zU hp).2)
 | dict =>
  intro h
  refine wpAny_Dict_empty (endR (za9 G F.size rfl ?_) (zcc _) (h _ (zQ G)))
  exact mAEA rfl ([]) ((zcv (#[]) ⟨rfl,rfl,rfl⟩ rfl (by intro e he; simp at he) (by first | exact .nil | exact rfl | trivial) (by simp))) (rfl)
 | @cmp l ops cs' p cl cc hp h1 h2 =>
  intro h
  refine wpAny_bind (seqR (ih sc l cl h1 A frs env s m H _ X R G F h) fun x v s₁ HC st a q=>?_)
  rw [zae ops cs' _ hp]
  refine zb3 st (seqR (zld ih R p cs' ops cc v x s₁ HC _ h2 st.gd (F.step st) a q) fun z b sC HD stD aD qC=>?_)
  subst aD
  exact endR (st.trans stD) (zaz _) qC
 | fn hc=>exact fun h=>pe_fun O SO ih R G F hc h
 | meth hc=>exact fun h=>zmN O SO ih R G F hc h
 | attr hc=>exact fun h=>zlx ih R G F hc h
 | sub hc=>exact fun h=>pe_sub ih R G F hc h
 | comp hk =>
  induction hk with
  | one hs hokk k1 k2 k3 k4=>exact fun h=>sComp1 O ihA ihTA (F.pr R G) F hs hokk k1 k2 k3 k4 h
  | two hs hokk k1 k2 k3 k4 k5=>exact fun h=>sComp2 O ihA (F.pr R G) F hs hokk k1 k2 k3 k4 k5 h
set_option backward.match.sparseCases true in
theorem sTs (ihT:PT W lev S n) (R:Rm lev A frs) (op:BoolOp):∀ (es:List Expr) (cs:List CE) (s:Shared) (H:AH) (Q:Bool->AH->Prop),mapO (sc.ce n) es=some cs->Gd W frs H s.heap->Fits W frs env sc m H s.heap->wpTs S X (op == .And) cs m H Q ->
  wpAny W.M A (allTrue op es env) (RPost W frs H s BR Q) (XPost W frs H s X) s
 | [],cs,s,H,Q,hc,G,F,h=>by obtain rfl:=zj hc; exact wpAny_pure (end0 G rfl h)
 | e::r,cs,s,H,Q,hc,G,F,h=>by
  refine zd (zi hc) fun b bs yC hb hbs=>?_; obtain rfl:=yC
  refine (?_:wpAny W.M A (do match op,<- isTrue e env (eval e env) with
   | .And,false=>pure false
   | .Or,true=>pure true
   | _,_=>allTrue op r env) _ _ _)
  refine wpAny_bind (seqR (ihT sc e b hb A frs env s m H _ X R G F h) fun x v s₁ HC st a q=>?_)
  subst a
  induction op using BoolOp.casesOn <;> induction x using Bool.casesOn <;> dsimp only at q ⊢
  all_goals first
   | exact wpAny_pure (endR st rfl (q.2 (by decide)))
   | exact zax st (sTs ihT R _ r bs s₁ HC Q hbs st.gd (F.step st) (q.1 (by decide)))
theorem zh1 (ih:PE W lev S n) (R:Rm lev A frs) (pos:Pos):∀ (es:List Expr) (ops:List CmpOp) (cs:List CE) (l:V) (x:Value) (s:Shared) (H:AH) (Q:Bool->AH->Prop),mapO (sc.ce n) es=some cs->Gd W frs H s.heap->Fits W frs env sc m H s.heap->Abs W.clsA (W.D H) s.heap l x ->
  wpChain S X l ops cs m H Q->wpAny W.M A (testChain pos x ops (evalEach es env)) (RPost W frs H s BR Q) (XPost W frs H s X) s
 | [],_,_,_,_,_,_,_,hc,_,_,_,h=>by
  obtain rfl:=zj hc
  exact (zd3 h).elim
 | e::r,[],_,_,_,_,_,_,hc,_,_,_,h=>mapC (M:=(wpChain S X _ ([]) · m _ _)) hc h fun b bs hb hbs h=>(zeL h).elim
 | [e],[op],cs,l,x,s,H,Q,hc,G,F,a,h=>by
  refine mapC (M:=(wpChain S X _ ([op]) · m _ _)) hc h fun b bs hb hbs h=>?_
  obtain rfl:=zj hbs
  refine wpAny_bind (wpAny_holding (seqR (ih sc e b hb A frs env s m H _ X R G F h) fun y v s₁ HC st aC q=>?_))
  refine wpAny_bind (wpAny_standAt (wpAny_bind (wpAny_operate' (zb3 st (seqR (sCmp ((F.step st).pr R st.gd) (st.abs a) aC q) fun z c sC HD stD aD qC=>?_)))))
  subst aD
  exact wpAny_holding (wpAny_truthy_bool (endR (st.trans stD) rfl qC))
 | [e],op::op'::ops,_,_,_,_,_,_,hc,_,_,_,h=>mapC (M:=(wpChain S X _ (op::op'::ops) · m _ _)) hc h fun b bs hb hbs h=>by obtain rfl:=zj hbs; exact False.elim h
 | e::e'::r,[op],_,_,_,_,_,_,hc,_,_,_,h=>mapC (M:=(wpChain S X _ ([op]) · m _ _)) hc h fun b bs hb hbs h=>mapC (M:=fun cs=>wpChain S X _ ([op]) (b::cs) m _ _) hbs h fun b' bs' hb' hbs' h=>False.elim h
 | e::e'::r,op::op'::ops,cs,l,x,s,H,Q,hc,G,F,a,h=>by
  refine mapC (M:=(wpChain S X _ (op::op'::ops) · m _ _)) hc h fun b bs hb hbs h=>?_
  refine mapC (M:=fun cs=>wpChain S X _ (op::op'::ops) (b::cs) m _ _) hbs h fun b' bs' hb' hbs' h=>?_
  refine wpAny_bind (wpAny_holding (seqR (ih sc e b hb A frs env s m H _ X R G F h) fun y v s₁ HC st aC q=>?_))
  refine wpAny_bind (wpAny_standAt (wpAny_bind (wpAny_holding (zb3 st (seqR (sCmp ((F.step st).pr R st.gd) (st.abs a) aC q) fun z c sC HD stD aD qC=>?_)))))
  subst aD
  refine wpAny_bind (wpAny_release (wpAny_bind (wpAny_holding (wpAny_truthy_bool ?_))))
  induction c using Bool.casesOn with
  | true=>exact zax (st.trans stD) (zh1 ih R pos (e'::r) (op'::ops) (b'::bs') v y sC HD Q (zci hb' hbs') stD.gd ((F.step st).step stD) (stD.abs aC) (qC.1 rfl))
  | false=>exact wpAny_pure (endR (st.trans stD) rfl (qC.2 rfl))
theorem zdC (O:Wok W fnA) (ihS:PE W lev S (n+1)) {e:Expr} {c:CE} (hc:sc.ce (n+1) e=some c) (R:Rm lev A frs) (G:Gd W frs H s.heap) (F:Fits W frs env sc m H s.heap) (h:wpE S X c m H fun v H=>WTru H QB v)
  (he:PySem.isTrue e env (eval e env)=(do let v <- eval e env; standAt e.pos; holding [v] (truthy v))):wpAny W.M A (isTrue e env (eval e env)) (RPost W frs H s BR QB) (XPost W frs H s X) s:=by
 rw [he]
 refine wpAny_bind (seqR (ihS sc e c hc A frs env s m H _ X R G F h) fun x v s₁ HC st a q=>wpAny_bind (wpAny_standAt (wpAny_holding ?_)))
 exact zax st (zmi ((F.step st).pr R st.gd) a q)
theorem zmf (O:Wok W fnA) (ihS:PE W lev S (n+1)) (R:Rm lev A frs) (G:Gd W frs H s.heap) (F:Fits W frs env sc m H s.heap) {x:Str} {p:Pos} {c:CE} (hc':sc.ce (n+1) (.Name x p)=some c) (h:wpT S X c m H QB):wpAny W.M A (isTrue (.Name x p) env (eval (.Name x p) env)) (RPost W frs H s BR QB) (XPost W frs H s X) s:=by
 have hc:sc.nameCE x=some c:=hc'
 unfold Sc.nameCE at hc
 split at hc
 ·exact absN hc
 ·split at hc
  ·rename_i i hi
   obtain rfl:=Option.some.inj hc
   refine zdC O ihS hc' R G F ?_ rfl
   refine (?_:(match lget m i with | some v=>_ | none=>False))
   exact h
  ·split at hc
   ·obtain rfl:=Option.some.inj hc; exact h.elim
   ·exact absN hc
theorem pt_sub (O:Wok W fnA) (ihS:PE W lev S (n+1)) (R:Rm lev A frs) (G:Gd W frs H s.heap) (F:Fits W frs env sc m H s.heap) {o i:Expr} {p:Pos} {c:CE} (hc':sc.ce (n+1) (.Subscript o i p)=some c) (h:wpT S X c m H QB):wpAny W.M A (isTrue (.Subscript o i p) env (eval (.Subscript o i p) env)) (RPost W frs H s BR QB) (XPost W frs H s X) s:=by
 rcases zgf (f:=sc.ce n) (o:=o) (i:=i) hc' with ⟨lo,hi,st,sp,rfl,hc⟩ | ⟨hns,hc⟩
 ·have:∃ a b d,c=.slice a b d:=by
   rcases st with _ | _ <;> rcases lo with _ | lo <;> rcases hi with _ | hi <;> first | (exact absN hc; done) | skip
   ·have hc:(do return CE.slice (<- sc.ce n o) (.lit .none) (<- sc.ce n hi):Option CE)=some c:=hc
    refine zy hc fun co h1 hc=>?_
    refine zy hc fun ch h2 hc=>?_
    obtain rfl:=Option.some.inj hc; exact mEEE _ _ _ rfl
   ·have hc:(do return CE.slice (<- sc.ce n o) (<- sc.ce n lo) (.lit .none):Option CE)=some c:=hc
    refine zy hc fun co h1 hc=>?_
    refine zy hc fun ch h2 hc=>?_
    obtain rfl:=Option.some.inj hc; exact mEEE _ _ _ rfl
  obtain ⟨_,_,_,rfl⟩:=this
  exact h.elim
 ·refine zy hc fun co h1 hc=>?_
  refine zy hc fun ci h2 hc=>?_
  obtain rfl:=Option.some.inj hc
  exact zdC O ihS hc' R G F h rfl
noncomputable def tst (c:CE):Bool:=[1,5,6,7,8,13,14,17].contains c.ctorIdx
theorem zeP {c:CE} (h:wpT S X c m H QB):tst c=true:=by
 induction c using CE.casesOn <;> first | rfl | exact False.elim h
theorem absT {b:Bool} {P:Prop} (h:b=true) (k:b=false):P:=by rw [k] at h; exact absB h
theorem lit_no {cc:Const} {c:CE} (h:constCE cc=some c):tst c=false:=by
 induction cc using Const.casesOn <;> first | exact Option.some.inj h ▸ rfl | exact absN h
theorem zca {α β:Type} {a:Option α} {b:Option β} {f:α->β->CE} {c:CE} (k:∀ x y,tst (f x y)=false) (h:(a.bind fun x=>b.bind fun y=>some (f x y))=some c):tst c=false :=
 zy h fun x _ h=>zy h fun y _ h=>Option.some.inj h ▸ k x y
theorem bin_no {f:Expr->Option CE} {l r:Expr} {op:Operator} {c:CE} (h:binCE f l op r=some c):tst c=false:=by
 unfold binCE at h
 revert h
 induction (if isMult op=true then soleOf l else none) using Option.casesOn with
 | none=>exact zca fun _ _=>rfl
 | some x=>exact zca fun _ _=>rfl
theorem zmm {f:Expr->Option CE} {o:Expr} {nm:Str} {apos pos:Pos} {args:List Expr} {c:CE} (h:methCE f o nm apos args pos=some c):tst c=false :=
 ifS h fun _ h=>zy h fun x _ h=>zca (f:=fun y z=>.meth x y z) (fun _ _=>rfl) h
theorem zlr {p:Prop} [Decidable p] {a:Option CE} {b:Option At} {c:CE} (h:(if p then do return .attr (<- a) (<- b) else none)=some c):tst c=false :=
 ifS h fun _ h=>zca (f:=fun y z=>.attr y z) (fun _ _=>rfl) h
theorem zlZ {f:Sc->Expr->Option CE} {elt:Expr} {gens:List Comprehension} {scope:Scope} {c:CE} (h:CompI sc f elt scope gens c):tst c=false:=by induction h using CompI.casesOn <;> rfl
theorem zfG {c:CE} (k:callLike c=true) (h:wpT S X c m H QB):wpE S X c m H fun v H=>WTru H QB v:=by
 revert k h
 induction c using CE.casesOn with
 | call=>exact fun _ h=>h
 | bcall=>exact fun _ h=>h
 | _=>exact fun k=>absB k
theorem pt_un (ihT:PT W lev S n) (R:Rm lev A frs) (G:Gd W frs H s.heap) (F:Fits W frs env sc m H s.heap) {x:Expr} {op:UnaryOp} {p:Pos} {c:CE} (hc:unCE (sc.ce n) x op=some c) (h:wpT S X c m H QB):wpAny W.M A (isTrue (.UnaryOp op x p) env (eval (.UnaryOp op x p) env)) (RPost W frs H s BR QB) (XPost W frs H s X) s:=by
 induction op using UnaryOp.casesOn with
 | Not =>
  refine mapH (M:=(wpT S X · m H QB)) (o:=sc.ce n x) (f:=CE.not) hc h fun cx h1 h=>?_
  refine wpAny_isTrue_Not (seqR (ihT sc x cx h1 A frs env s m H _ X R G F h) fun y v s₁ HC st a q=>?_)
  subst a
  exact endR st rfl q
 | USub=>exact mapH (M:=(wpT S X · m H QB)) (o:=sc.ce n x) (f:=CE.neg) hc h fun cx h1 h=>False.elim h
 | _=>exact absN hc
theorem zl2 (O:Wok W fnA) (SO:SpecsOk W fnA lev S) (ihA:∀ q,PE (W.ofP q) lev S n) (ihTA:∀ q,PT (W.ofP q) lev S n):PT W lev S (n+1):=by
 have ihS:=zh2 O SO ihA ihTA
 have ih:PE W lev S n:=ihA W.priv
 have ihT:PT W lev S n:=ihTA W.priv
 intro sc e c hc A frs env s m H Q X R G F h
 have k:=zhO hc
 revert hc h
 induction k with
 | lit k=>exact fun hc h=>absT (zeP h) (lit_no k)
 | name=>exact fun hc h=>zmf O ihS R G F hc h
 | boolop h1=>exact fun hc h=>wpAny_isTrue_BoolOp (sTs ihT R _ _ _ s H Q h1 G F h)
 | bin k=>exact fun hc h=>absT (zeP h) (bin_no k)
 | @un op x p _ k=>exact fun hc h=>pt_un ihT R G F k h
 | @ite t b o p ct cb co h1 h2 h3 =>
  intro hc h
  refine wpAny_bind (seqR (ihT sc t ct h1 A frs env s m H _ X R G F h) fun x v s₁ HC st a q=>?_)
  subst a
  induction x using Bool.casesOn with
  | true=>exact zax st (ihT sc b cb h2 A frs env s₁ m HC Q X R st.gd (F.step st) (q.1 rfl))
  | false=>exact zax st (ihT sc o co h3 A frs env s₁ m HC Q X R st.gd (F.step st) (q.2 rfl))
 | list=>exact fun hc h=>False.elim h
 | tup=>exact fun hc h=>False.elim h
 | dict=>exact fun hc h=>False.elim h
 | @cmp l ops cs' p cl cc hp h1 h2 =>
  intro hc h
  refine wpAny_bind (seqR (ih sc l cl h1 A frs env s m H _ X R G F h) fun x v s₁ HC st a q=>?_)
  refine zax st ?_
  rw [zae ops cs' _ hp]
  exact zh1 ih R p cs' ops cc v x s₁ HC _ h2 st.gd (F.step st) a q
 | fn hk=>exact fun hc h=>zdC O ihS hc R G F (zfG (zkU hk) h) rfl
 | meth k=>exact fun hc h=>absT (zeP h) (zmm k)
 | attr k=>exact fun hc h=>absT (zeP h) (zlr k)
 | sub=>exact fun hc h=>pt_sub O ihS R G F hc h
 | comp k=>exact fun hc h=>absT (zeP h) (zlZ k)
theorem zb0 (O:Wok W fnA) (SA:∀ q,SpecsOk (W.ofP q) fnA lev S):∀ n q,PE (W.ofP q) lev S n/\PT (W.ofP q) lev S n
 | 0,_=>⟨(by intro _ _ _ h; exact absN h),(by intro _ _ _ h; exact absN h)⟩
 | n+1,q=>⟨zh2 (W:=W.ofP q) (O.ofP q) (SA q) (fun q'=>(zb0 O SA n q').1) fun q'=>(zb0 O SA n q').2,zl2 (W:=W.ofP q) (O.ofP q) (SA q) (fun q'=>(zb0 O SA n q').1) fun q'=>(zb0 O SA n q').2⟩
end
section
variable {M:Model} {base:Heap} {outer:List Env} {L e:Addr} {cls a0:Value} {Q:Unit->Shared->Prop}
theorem zhh (hfr:A.frames=some (env::outer)) (hf:env.frame=some L) (hfl:FlyU base (env::outer) e cls a0 s.heap)
  (hQ:∀ h',FlyU base outer e cls a0 h'->s.heap.UpToSlots h'->Q () { s with heap:=h' }):PySem.wpAny M A (leaving env (.ref e)) Q E s:=by
 obtain ⟨f1,f2,f3,f4 | ⟨oe,vs,he,hc,hd,h1,h0⟩⟩:=hfl
 ·exact wpAny_leaving_nextW hfr f3 hf f4 f1 f2 fun h' ⟨k1,⟨_,_,k2⟩,k3,k4⟩=>hQ h' ⟨k1,f2,k2,.inl k3⟩ k4
 ·subst hc
  exact wpAny_leaving_firstW hfr f3 hf he f1 f2 hd h1 h0 fun h' ⟨k1,⟨_,_,k2⟩,k3,k4⟩=>hQ h' ⟨k1,f2,k2,.inl k3⟩ k4
theorem ziz (hfr:A.frames=some (env::outer)) (hf:env.frame=some L) (hfl:FlyU base (env::outer) e cls a0 s.heap)
  (hQ:∀ h',Heap.HeldW base (env::outer) e cls a0 L h'->s.heap.UpToSlots h'->Q () { s with heap:=h' }):PySem.wpAny M A (noteFrame (.ref e) env) Q E s:=by
 obtain ⟨f1,f2,f3,f4 | ⟨oe,vs,he,hc,hd,h1,h0⟩⟩:=hfl
 ·exact wpAny_looks_onW hfr hf ⟨f1,f2,f3,f4⟩ hQ
 ·subst hc
  unfold noteFrame
  simp only [hf]
  refine PySem.wpAny_bind (PySem.wpAny_field he hd h1 ?_)
  rw [if_neg (by decide)]
  exact wpAny_entryW hfr f3 hf he f1 f2 hd (Array.getElem?_eq_some_iff.mp h1).1 h0 fun h' ⟨k1,k2,k3,k4⟩=>hQ h' ⟨k1,f2,k2,k3⟩ k4
end
section
variable {fnA:Fn->Addr} {own:List Addr}
theorem sWhile (O:Wok W fnA) (SO:SpecsOk W fnA lev S) (ihT:PT W lev S n) (P:Pr W lev A frs s H) (hh:frs.head?=some env) (F:Fits W frs env sc m H s.heap) {t:Expr} {b:List Stmt} {pos:Pos} {ct:CE} {cs:List CS} (h1:sc.ce n t=some ct) (hb:SS W lev (execs b) sc fun XS m H N R=>wpSs S XS cs m H N R)
  (h:wpS S XS (.whiles ct cs) m H NK RK):wpAny W.M A (exec (.While t b [] pos) env) (SPost W frs env sc H s NK RK) E s:=by
 obtain ⟨I,⟨n0,h0⟩,turn⟩:=h
 refine wpAny_While (codeAny_whileLoop (fun k s'=>∃ mC HD,I k mC HD/\Stp W frs (ownOf env) H s HD s'/\Fits W frs env sc mC HD s'.heap) (fun k s' z9=>zd z9 fun mC HD hI st F'=>?_) n0 (zn m H h0 (.refl P.gd) F))
 have t2:=turn k mC HD hI
 refine wpAny_mono (ihT sc t ct h1 A frs env s' mC HD _ _ P.rm st.gd F' t2) (fun y sC z9=>zv z9 fun u HE a gD eD oE nE q=>?_) fun _ _ z9=>oEA z9 fun _ _ z=>z.elim
 have a:y=u:=a
 subst a
 have st3:Step W frs HD s' HE sC:=⟨gD,eD,oE,nE⟩
 have FE:=F'.step st3
 have st':=st.trans (st3.toO _)
 induction y using Bool.casesOn with
 | true =>
  refine wpAny_mono (hb A frs env sC mC HE _ RK (fun _ _=>False) (fun _ _=>False) P.rm hh gD FE PassesOwn.never (fun _ _ z9=>zd z9 fun _ _ _ _ z=>z.elim) (q.1 rfl)) (fun fl sD z=>?_) fun _ _ z=>z.elim
  refine zd z fun mE HF fa stF FF=>?_
  have st5:=st'.trans stF
  induction fa using SEnd.casesOn with
  | next q =>
   refine oEAEA q fun k' hk HG hs hj=>?_
   exact zmD k' hk mE HG hj (st5.sub hs) (FF.like (zbx hs _))
  | ret av q=>exact retS st5 FF av q
 | false=>exact wpAny_execs_nil (zcR st' FE (q.2 rfl))
theorem zjW {D:Addr->Prop} {h h':Heap} (k:h.UpToSlots h'):KeepV D h D h':=fun b o e n v=>⟨k b o e (fun vs q=>by rcases v with ⟨xs,j,z⟩ | z <;> (rw [q] at z; exact absD z rfl)),n⟩
theorem Fits.up {h h':Heap} (F:Fits W frs env sc m H h) (k:h.UpToSlots h'):Fits W frs env sc m H h':=by
 refine oEA F.vals fun mm hn hv=>?_
 have kc:∀ {c v},h.IsCell c v->h'.IsCell c v:=fun {c v} z9=>oEA z9 fun o ho hd=>by
  obtain ⟨sl,q⟩:=k c o ho fun vs q=>by rw [hd] at q; exact absD q rfl
  exact mEA _ q hd
 refine ⟨F.kind,F.lk,F.glob,F.blt,F.above,F.apartL,F.nodup,F.nocd,F.len,F.frame,fun x c e=>?_,F.inj,F.has,mm,k.ns hn,fun i x v e g=>?_⟩
 ·obtain ⟨c1,c2,c3,v,hc⟩:=F.cell x c e
  exact zhv c1 c2 c3 v (kc hc)
 ·refine oEA (hv i x v e g) fun y ha hh=>?_
  exact mEA y (Abs.keeps (zjW k) v y ha) (hh.imp id fun z9=>oAEA z9 fun hk c hc hi=>(mAEA hk c hc (kc hi)))
theorem Fits.own_plain {h:Heap} (F:Fits W frs env sc m H h):∀ b∈ownOf env,∃ o,h.get? b=some o/\∀ vs,o.data≠.fields vs:=fun b hb=>by
 rcases List.mem_cons.mp hb with rfl | hb
 ·refine oEA F.vals fun mm yB _=>?_; obtain ⟨oL,es,ep,hoL,hdL,_⟩:=yB
  exact mEA oL hoL (fun vs q=>by rw [hdL] at q; exact absD q rfl)
 ·refine oEA (List.mem_map.mp hb) fun yA hm yC=>?_; obtain ⟨x,c⟩:=yA; obtain rfl:=yC
  refine zK (F.cell x c hm) fun _ _ _ v0 oc hoc hdc=>?_
  exact mEA oc hoc (fun vs q=>by rw [hdc] at q; exact absD q rfl)
theorem XAt.landed {e:Value} {s':Shared} {h':Heap} (hown:∀ b∈own,∃ o,s'.heap.get? b=some o/\∀ vs,o.data≠.fields vs) (x:XAt W frs own H s H' e s') (up:s'.heap.UpToSlots h') {ea:Addr} {a0:Value} {b':Heap} (he:e=.ref ea) (f:FlyU b' frs ea (.ref W.cut) a0 s'.heap) (r:Rp W H' b')
  (k:∀ b o,s.heap.get? b=some o->H b=none->b∉own->b∉frA frs->b'.get? b=some o) (f':FlyU b' frs ea (.ref W.cut) a0 h'):XAt W frs own H s H' e { s' with heap:=h' }:=by
 refine ⟨(zS ea a0 b' he f' r k),x.apart,fun b o q n g m=>?_,x.new,fun b o q n=>?_,x.os,x.gens⟩
 ·obtain ⟨sl,e1⟩:=x.slots b o q n g m
  refine oAEA (f.2.2.1.mem g) fun _ o2 ho2 nf=>?_
  obtain ⟨sl2,e3⟩:=up b _ e1 (by rw [e1] at ho2; obtain rfl:=Option.some.inj ho2; exact nf)
  exact ⟨sl2,e3⟩
 ·by_cases m:b∈own
  ·refine oEA (hown b m) fun o2 e2 nf=>?_
   obtain ⟨sl,e3⟩:=up b o2 e2 nf
   exact ⟨_,e3⟩
  ·by_cases g:b∈frA frs
   ·refine oAEA (f.2.2.1.mem g) fun _ o2 ho2 nf=>?_
    obtain ⟨sl,e3⟩:=up b o2 ho2 nf
    exact ⟨_,e3⟩
   ·exact ⟨o,f'.1 b o (k b o q n m g)⟩
theorem zhI {x:Str} {i:Nat} (h:sc.hvar x=some i):(x == "__debug__")=false∧sc.var x=some i:=by
 by_cases q:(x == "__debug__")=true
 ·exact absN ((if_pos q).symm.trans h)
 ·exact ⟨eq_false_of_ne_true q,(if_neg q).symm.trans h⟩
theorem pNames {pos:Pos} (F:Fits W frs env sc m H s.heap) (es:List Expr) (xs:List Nat) (vs:List V) (Q:List Value->Shared->Prop) (h1:mapO (fun e=>(nmOf e).bind sc.hvar) es=some xs) (h2:xs.mapM (fun i=>lget m i)=some vs)
  (k:∀ ys,AbsL W.clsA (W.D H) s.heap vs ys->ys.length=es.length->Q ys s):PySem.wpAny W.M A (spliced (backTo pos (starEach es env))) Q E s:=by
 induction es using List.rec generalizing xs vs Q with
 | nil =>
  obtain rfl:=zj h1
  obtain rfl:=Option.some.inj h2
  exact PySem.wpAny_pure (k [] AbsL.nil rfl)
 | cons e es ih =>
  refine zd (zi h1) fun i xs' yC e1 e2=>?_; obtain rfl:=yC
  rw [List.mapM_cons] at h2
  refine oEA (Option.bind_eq_some_iff.mp h2) fun v hv h2=>?_
  refine oEA (Option.bind_eq_some_iff.mp h2) fun vs' hvs h2=>?_
  obtain rfl:=Option.some.inj h2
  refine oEA (Option.bind_eq_some_iff.mp e1) fun x hx hi=>?_
  obtain ⟨p,rfl⟩:=zbS hx
  obtain ⟨hnd,hi⟩:=zhI hi
  rw [zp (e:=.Name x p) rfl]
  refine PySem.Calls.spliced_cons ?_
  rw [eval_Name env x p hnd]
  exact PySem.wpAny_bind (PySem.wpAny_standAt (pVar F hi hv (zbe hi F.nocd) fun y a=>ih xs' vs' _ e2 hvs fun ys as hl=>k _ (AbsL.cons a as) (congrArg Nat.succ hl)))
theorem FlyU.of {b':Heap} {ea:Addr} {cls a0:Value} {h':Heap} (f:Heap.FlyingW b' frs ea cls a0 h'):FlyU b' frs ea cls a0 h':=⟨f.1,f.2.1,f.2.2.1,.inl f.2.2.2⟩
theorem zdN {M:Model} {b:Sem Flow} {hd:ExceptHandler} {hs:List ExceptHandler} {Q:Flow->Shared->Prop} (h:wpAny M A b Q (fun e s'=>PySem.wpAny M A (noteFrame e env) (fun _ sC=>PySem.wpAny M A (setFlight e none) (fun _ sD=>PySem.wpAny M A (handleBy e env (hd::hs)) Q (fun _ _=>False) sD) (fun _ _=>False) sC) (fun _ _=>False) s') s) :
  wpAny M A (tryStmt false b (hd::hs) (execs [] env) [] env) Q E s:=by
 refine wpAny_bind (wpAny_attempt (wpAny_mono h (fun fl s₁ z=>?_) fun e s₁ z=>?_))
 ·induction fl using PySem.Flow.casesOn with
  | next=>exact wpAny_execs_nil z
  | _=>exact wpAny_pure z
 ·refine wpAny_bind (wpAny_mono (lift z) (fun _ sC z₂=>?_) fun _ _ y=>y.elim)
  exact wpAny_bind (wpAny_mono (lift z₂) (fun _ sD z₃=>wpAny_mono (lift z₃) (fun _ _ y=>y) fun _ _ y=>y.elim) fun _ _ y=>y.elim)
theorem sTry (O:Wok W fnA) (P:Pr W lev A frs s H) (hh:frs.head?=some env) (F:Fits W frs env sc m H s.heap) {b:List Stmt} {hs:List ExceptHandler} {pos:Pos} {cs:List CS} {xs:List Nat} (hb:SS W lev (execs b) sc fun XS m H N R=>wpSs S XS cs m H N R) (hhd:sc.hdl hs=some xs)
  (h:wpS S XS (.tryCut cs xs) m H NK RK):wpAny W.M A (exec (.Try b hs [] [] pos) env) (SPost W frs env sc H s NK RK) E s:=by
 obtain ⟨x,p1,es,k,p2,p3,p4,rfl,hx,hh2⟩:=zjk hhd
 obtain ⟨hx,hlen⟩:=Bool.and_eq_true_iff.mp hx
 have hlen:=of_decide_eq_true hlen
 obtain ⟨rfl,g1⟩:=zF hx
 obtain ⟨outer,rfl⟩:∃ outer,frs=env::outer:=by
  induction frs using List.casesOn with
  | nil=>exact absN hh
  | cons a l=>cases hh; exact ⟨l,rfl⟩
 refine oEA F.frame fun L hfL _=>?_
 rw [arm_exec_Try]
 refine wpAny_bind (wpAny_standAt ?_)
 refine zdN (hb A (env::outer) env s m H NK RK _ _ P.rm hh P.gd F PassesOwn.looking (fun e s' z=>?_) h)
 ·refine zd z fun mC HD xa FD q=>?_
  refine zB (id xa.fly) fun ea a0 b' yD f r kp=>?_; obtain rfl:=yD
  refine ziz P.rm.frames hfL f fun h4 held4 up4=>?_
  refine wpAny_landsW (s:={ s' with heap:=h4 }) held4 fun h5 fly5 up5=>?_
  have kin:W.K.In h5:=fun b o e=>fly5.1 b o (r.1 b o (O.kin b o e))
  have FG:=(FD.up up4).up up5
  refine oEA fly5.there fun oe hoe hoc=>?_
  refine wpAny_handleBy_cons (codeAny_handlers_test (zfC (H:=HD) (m:=mC) (sc:=sc) (s:={ s' with heap:=h5 }) O (fun b o e=>fly5.1 b o (r.1 b o e)) FG g1 O.gcut (by decide) ?_)) (by intro z; cases z)
  refine (exm_one (M:=W.M) kin ((Looks.ld hoe).andThen (by rw [hoc]; exact .now)) O.gexc).here (s:={ s' with heap:=h5 }) ?_
  refine codeAny_handlers_suite (lands_againW (s:={ s' with heap:=h5 }) fly5 fun h6 fly6 up6=>?_)
  have up:=(up4.trans up5).trans up6
  have x6:XAt W (env::outer) (ownOf env) H s HD (.ref ea) { s' with heap:=h6 }:=xa.landed FD.own_plain up rfl f r kp (FlyU.of fly6)
  have G6:Gd W (env::outer) HD h6:=x6.gd P.gd
  have FH:=FG.up up6
  cases hv:xs.mapM (fun i=>lget mC i) with
  | none=>unfold Caught at q; rw [hv] at q; exact q.elim
  | some vs =>
   unfold Caught at q
   rw [hv] at q
   refine PySem.wpAny_execs_cons (PySem.wpAny_Return_some ?_)
   show PySem.wpAny _ _ (do standAt p2; newTuple (<- spliced (backTo p2 (starEach es env)))) _ _ _
   refine PySem.wpAny_bind (PySem.wpAny_standAt (PySem.wpAny_bind (pNames (s:={ s' with heap:=h6 }) FH es xs vs _ hh2 hv fun ys as hl=>?_)))
   refine PySem.wpAny_newTuple ?_ (by rw [hl,sizeLine_eq]; exact #[0x18888888804111cc0411,_] hlen)
   have stp:=Step.push (s:={ s' with heap:=h6 }) G6 { cls:=.type "tuple",data:=.seq ys.toArray }
   exact retS (Stp.trans (s₁:={ s' with heap:=h6 }) ⟨G6,x6.ext,x6.os,x6.gens⟩ (stp.toO _)) (FH.step stp) (zcr (s:={ s' with heap:=h6 }) G6 as) q
end
section
variable {fnA:Fn->Addr}
theorem zei {x y:Str} (h:sc.isGlob x y=true):x=y/\sc.scope.names.lookup x=some .globalImplicit:=by
 unfold Sc.isGlob at h
 simpa using h
theorem zgS (R:Rm lev A frs) {C:Addr} {rest:List Value} {kw:List (Str×Value)}:(A.under (.builtin "type.__call__" ⟨.ref C::rest,kw⟩)).depth < recursionLimit:=by
 have hw:(Code.builtin "type.__call__" ⟨.ref C::rest,kw⟩).weight≤1:=by
  unfold Code.weight
  have h1:(Code.builtin "type.__call__" ⟨.ref C::rest,kw⟩).frames=0:=rfl
  have h2:(Code.builtin "type.__call__" ⟨.ref C::rest,kw⟩).isCreation=true:=rfl
  have h3:(Code.builtin "type.__call__" ⟨.ref C::rest,kw⟩).isGuard=false:=by show guardIds.contains "type.__call__"=false; decide +kernel
  have h4:(Code.builtin "type.__call__" ⟨.ref C::rest,kw⟩).isCaller=false:=rfl
  rw [h1,h2,h3,h4]; decide
 refine Nat.lt_of_le_of_lt ?_ R.depth
 show A.depth+_<=_; exact #[0x2c061825114511110411,_,_,_] hw
theorem pRaise (O:Wok W fnA) (P:Pr W lev A frs s H) (F:Fits W frs env sc m H s.heap) {x:Str} {np cp pos:Pos} {txt:Str} {kd:Nat} {cpp:Pos} (hx:sc.isGlob x "CutShort"=true)
  {K:Flow->Shared->Prop} {E:Value->Shared->Prop}
  (hE:∀ e a0 dx h' tk,s.heap.get? e=none->(∀ b o,s.heap.get? b=some o->h'.get? b=some o)->h'.get? e=some { cls:=.ref W.cut,dict:=some dx,data:=.fields #[.ref a0,.none,.none,.none,.bool false,.none] }->E (.ref e) { s with heap:=h',toks:=tk }) :
  PySem.wpAny W.M A (exec (.Raise (some (.Call (.Name x np) [.Constant (.str txt) kd cpp] [] cp)) none pos) env) K E s:=by
 obtain ⟨rfl,hxg⟩:=zei hx
 obtain ⟨nm,q,N,bs,C',sn,sub,ab,col,dd,k0,k1,k2,k3,k5,fI,ob,fd,vN,sN,rN,aN,hC,hin,hty,hsa,hna,hfo,hfd,hcd,D,hns,hbb,hnn,hbi⟩:=O.gcutO
 have KI:W.K.In s.heap:=fun b o e=>P.gd.rp.1 b o (O.kin b o e)
 refine zd O.top fun mg mb h1 h2 h3=>?_
 rw [arm_exec_Raise]
 refine PySem.wpAny_bind (PySem.wpAny_standAt ?_)
 refine zhM (A:=A) (C:=W.cut) (nm:=nm) (q:=q) (N:=N) (bs:=bs) (bm:=.ref C'::veTail) (hdct:=true) (sn:=sn) (sub:=sub) (ab:=ab) (col:=col) (dd:=dd) (k0:=k0) (k1:=k1) (k2:=k2) (k3:=k3) (k5:=k5) (newId:="ValueError.__new__") (by rfl) P.rm.quiet ?_
 refine PySem.wpAny_bind ?_
 refine PySem.wpAny_Call_ofName (zfC O P.gd.rp.1 F hxg O.gcut (by decide) ?_)
 obtain ⟨h,g,d,t,os⟩:=s
 unfold callWith
 refine PySem.wpAny_bind (PySem.wpAny_holding ?_)
 refine PySem.Calls.evalArgs_plain (PySem.Calls.spliced_cons (PySem.wpAny_Constant_str (k:=kd) (pos:=cpp) (PySem.Calls.spliced_nil ?_)))
 refine PySem.wpAny_bind (PySem.wpAny_standAt ?_)
 have hC':=KI _ _ hC
 show PySem.wpAny W.M A (keeperOf (.ref W.cut) >>= _) _ _ _
 refine PySem.wpAny_bind (wpAny_keeperOf_exc hC' ?_)
 refine PySem.wpAny_bind (zjK PySem.F.excBase_ValueError (by rfl) (by rfl) (by rfl) hC' (looks_findIn KI hin) (fun self=>bind_fn KI self hty) (by rw [sizeLine_eq]; exact Nat.le_of_ble_eq_true rfl) fun h' e hm=>?_)
 refine oEAA hm.there fun a0 he _ _=>?_
 have K':W.K.In h':=fun b o z=>hm.keeps _ _ (KI b o z)
 have heK:W.K.lookup e=none:=by
  cases z:W.K.lookup e with
  | none=>rfl
  | some o=>have:=KI _ _ z; rw [hm.new] at this; exact absN this
 have bs:W.base.StaysIn h':=fun b o z=>hm.keeps _ _ (P.gd.rp.1 b o z)
 refine zj8 D PySem.F.excBase_ValueError (by rfl) PySem.F.store_ValueError (zgS P.rm) (K' _ _ hfo) hfd (codeRec_of K' hcd) (hbi _ _ _ K') (O.nolimit.keeps bs) (h1.keeps bs) (mg_none_of O.kin h1 hns) (h2.keeps bs) ((h3 _ hnn).trans hbb) K' (K' _ _ hC) he hsa hna heK fun h2 tk dx a1 k1 k2=>⟨rfl,?_⟩
 refine PySem.wpAny_bind (PySem.wpAny_holding (PySem.wpAny_point (PySem.wpAny_pure ?_)))
 have keeps:∀ b o,h.get? b=some o->h2.get? b=some o:=fun b o z=>k1 b o (fun y=>by rw [y,hm.new] at z; exact absN z) (hm.keeps b o z)
 refine PySem.wpAny_bind (PySem.wpAny_standAt (PySem.wpAny_pure ?_))
 exact zgs e a1 (some dx) (#[]) rfl (keeps _ _ hC') k2 (hE e a1 dx h2 tk hm.new keeps k2)
end
section
variable {fnA:Fn->Addr} {own:List Addr}
theorem zjH (P:Pr W lev A frs s H) {c:Cls} {a dx:Addr} {x y:Value} {v:V} {nm:At} {fs:List (At×V)} {K:Unit->Shared->Prop} (ha:Abs W.clsA (W.D H) s.heap (.inst c a dx) x) (hf:H dx=some (.fields fs)) (hz:fs.length<=100) (hv:Abs W.clsA (W.D H) s.heap v y)
  (k:∀ s',Step W frs H s (H.set dx (.fields (fput fs nm v))) s'->K () s'):wpAny W.M A (setAttr x nm.str y) K E s:=lift (zke P ha hf hz hv k)
theorem zkx (P:Pr W lev A frs s H) {a:Addr} {i:Int} {t:Tok} {y:Value} {v:V} {xs:List V} {K:Unit->Shared->Prop} (hl:H a=some (.list xs)) (h0:0<=i) (h1:i < xs.length) (h2:xs.length<=big) (hv:Abs W.clsA (W.D H) s.heap v y)
  (k:∀ s',Step W frs H s (H.set a (.list (xs.set i.toNat v))) s'->K () s'):wpAny W.M A (setItem (.ref a) (.int i t) y) K E s:=lift (zkK P hl h0 h1 h2 hv k)
theorem zkP (P:Pr W lev A frs s H) {a:Addr} {i:Int} {t:Tok} {y:Value} {v:V} {kvs:List (Int×V)} {K:Unit->Shared->Prop} (hl:H a=some (.dict kvs)) (h2:kvs.length<=big) (hv:Abs W.clsA (W.D H) s.heap v y)
  (k:∀ s',Step W frs H s (H.set a (.dict (dput kvs i v))) s'->K () s'):wpAny W.M A (setItem (.ref a) (.int i t) y) K E s:=lift (zjq P hl h2 hv k)
theorem sAug (P:Pr W lev A frs s H) {op:Operator} {a b:V} {x y:Value} (ha:Abs W.clsA (W.D H) s.heap a x) (hb:Abs W.clsA (W.D H) s.heap b y) (h:WAug H Q op a b) :
  wpAny W.M A (inplaceOp op x y) (EPost W frs H s Q) E s:=lift (pAug P ha hb h)
theorem zjm (P:Pr W lev A frs s H) {a b:V} {x y:Value} (ha:Abs W.clsA (W.D H) s.heap a x) (hb:Abs W.clsA (W.D H) s.heap b y) (h:WSub H Q a b):wpAny W.M A (getItem x y) (EPost W frs H s Q) E s:=lift (zka P ha hb h)
theorem ff_re {h h' base b':Heap} (k:∀ b o,h.get? b=some o->h'.get? b=some o):∀ {l:List Env},(∀ L∈frA l,b'.get? L=none)->h.FunFrames base l->h'.FunFrames b' l
 | [],_,_=>trivial
 | env::l,n,⟨hk,⟨L,o,hf,hn,ho,hd⟩,hr⟩=>by
  have e:frA (env::l)=L::frA l:=by unfold frA; rw [List.filterMap_cons,hf]
  rw [e] at n
  exact ⟨hk,(zx L o hf (n L List.mem_cons_self) (k _ _ ho) hd),ff_re k (fun x hx=>n x (List.mem_cons_of_mem _ hx)) hr⟩
theorem zlC (G:Gd W frs H s.heap) {e a0 dx:Addr} {h':Heap} {tk:Nat} (hn:s.heap.get? e=none) (k:∀ b o,s.heap.get? b=some o->h'.get? b=some o) (he:h'.get? e=some { cls:=.ref W.cut,dict:=some dx,data:=.fields #[.ref a0,.none,.none,.none,.bool false,.none] }) :
  XAt W frs own H s H (.ref e) { s with heap:=h',toks:=tk }:=by
 have cl:∀ a,¬ a∈frA frs->(blank s.heap (·∈frA frs)).get? a=s.heap.get? a:=fun a n=>zgT n
 have cn:∀ a,a∈frA frs->(blank s.heap (·∈frA frs)).get? a=none:=fun a n=>zhj n
 have sub:∀ b o,(blank s.heap (·∈frA frs)).get? b=some o->s.heap.get? b=some o:=fun b o z=>by
  by_cases q:b∈frA frs
  ·rw [cn b q] at z; exact absN z
  ·rwa [cl b q] at z
 refine ⟨(zS e (.ref a0) _ rfl ⟨fun b o z=>k b o (sub b o z),?_,ff_re k cn G.ff,.inr (zdp _ _ he rfl rfl rfl rfl)⟩ ⟨fun b o z=>?_,fun a o z=>?_⟩ (fun b o z _ _ nf=>by rw [cl b nf]; exact z)),G.apart,fun b o z _ _ _=>⟨o.slots,k b o z⟩,fun _ _ _ z=>z,fun b o z _=>⟨o,k b o z⟩,rfl,rfl⟩
 ·cases z:(blank s.heap (·∈frA frs)).get? e with
  | none=>rfl
  | some o=>have:=sub _ _ z; rw [hn] at this; exact absN this
 ·rw [cl b (fun q=>by rw [zjp G.ff q] at z; exact absN z)]; exact G.rp.1 b o z
 ·refine oAEA (G.rp.2 a o z) fun g1 ob g2 g3=>?_
  refine mAEA g1 ob ?_ (RepO.keeps (fun b x y nD _=>⟨⟨x.slots,?_⟩,nD⟩) o ob g3)
  ·rw [cl a (fun q=>by rw [G.apart a q] at z; exact absN z)]; exact g2
  ·rw [cl b (fun q=>nD (.inr (G.fp b q)))]; exact y
theorem sRaise (O:Wok W fnA) (P:Pr W lev A frs s H) (F:Fits W frs env sc m H s.heap) {x:Str} {np cp pos:Pos} {txt:Str} {kd:Nat} {cpp:Pos} (hx:sc.isGlob x "CutShort"=true) (h:XS m H)
  {K:Flow->Shared->Prop} (hX:∀ e s',SX W frs env sc H s XS e s'->E e s'):wpAny W.M A (exec (.Raise (some (.Call (.Name x np) [.Constant (.str txt) kd cpp] [] cp)) none pos) env) K E s :=
 lift (pRaise O P F hx fun e a0 dx h' tk hn k he=>hX _ _ (zn m H (zlC P.gd hn k he) (F.like fun b o z n=>⟨⟨o.slots,k b o z⟩,n⟩) h))
end
section
variable {α β:Type} {f:α->Option β}
theorem zi0 {a:α} {b:β} (h:f a=some b) {l:List α} {r:List β} (e:mapO f l=some r):mapO f (l++[a])=some (r++[b]):=by
 induction l using List.rec generalizing r with
 | nil=>obtain rfl:=zj e; exact zci h rfl
 | cons x l ih =>
  obtain ⟨y,ys,rfl,e1,e2⟩:=zi e
  exact zci e1 (ih e2)
theorem zjA {l:List α} {r:List β} (e:mapO f l=some r):mapO f l.reverse=some r.reverse:=by
 induction l using List.rec generalizing r with
 | nil=>obtain rfl:=zj e; rfl
 | cons x l ih =>
  obtain ⟨y,ys,rfl,e1,e2⟩:=zi e
  rw [List.reverse_cons,List.reverse_cons]
  exact zi0 e1 (ih e2)
theorem zhi (inj:∀ {x y:α} {i:β},f x=some i->f y=some i->x=y) {l:List α} {r:List β} (e:mapO f l=some r) (h:l.Nodup):r.Nodup:=by
 induction l using List.rec generalizing r with
 | nil=>obtain rfl:=zj e; exact List.nodup_nil
 | cons x l ih =>
  obtain ⟨y,ys,rfl,e1,e2⟩:=zi e
  obtain ⟨h1,h2⟩:=List.nodup_cons.mp h
  exact List.nodup_cons.mpr ⟨fun hy=>oEA (zge e2 hy) fun a m1 m2=>h1 (inj m2 e1 ▸ m1),ih e2 h2⟩
theorem zhZ {g:β->Option Nat} {nm:α->Option β} {f:α->Option β} (hf:∀ {t x},f t=some x->nm t=some x) {l:List α} {is:List Nat} (e:mapO (fun e=>(nm e).bind g) l=some is) (h:(l.filterMap f).length=l.length):mapO g (l.filterMap f)=some is:=by
 induction l using List.rec generalizing is with
 | nil=>obtain rfl:=zj e; rfl
 | cons x l ih =>
  obtain ⟨y,ys,rfl,e1,e2⟩:=zi e
  cases c:f x with
  | none =>
   rw [List.filterMap_cons_none c] at h
   exact absurd (h ▸ List.length_filterMap_le f l) (Nat.not_succ_le_self _)
  | some z =>
   rw [List.filterMap_cons_some c] at h ⊢
   rw [hf c] at e1
   exact zci e1 (ih e2 (Nat.succ.inj h))
end
theorem zj2 {W:Wd} {D:Addr->Prop} {h:Heap} {vs:List V} {xs:List Value} (a:AbsL W.clsA D h vs xs):AbsL W.clsA D h vs.reverse xs.reverse:=by
 induction vs using List.rec generalizing xs with
 | nil=>obtain rfl:xs=[]:=a; exact AbsL.nil
 | cons v vs ih =>
  refine zd a fun y ys e a1 a2=>?_; obtain rfl:=e
  rw [List.reverse_cons,List.reverse_cons]
  exact (ih a2).append (AbsL.cons a1 AbsL.nil)
theorem ze5 {i:Nat} {v:V} {is:List Nat} {vs:List V} {m m':Loc} (e:setAll m is vs=some m'):setAll m (is++[i]) (vs++[v])=some (m'.set i (some v)):=by
 induction is using List.rec generalizing vs m with
 | nil=>induction vs using List.casesOn with
  | nil=>obtain rfl:=Option.some.inj e; rfl
  | cons=>exact absN e
 | cons j is ih=>induction vs using List.casesOn with
  | nil=>exact absN e
  | cons u vs=>exact ih (m:=m.set j (some u)) e
theorem zgM {i:Nat} {v:V} {is:List Nat} {vs:List V} {m m':Loc} (n:i∉is) (e:setAll (m.set i (some v)) is vs=some m'):∃ m'',setAll m is vs=some m''/\m''.set i (some v)=m':=by
 induction is using List.rec generalizing vs m with
 | nil=>induction vs using List.casesOn with
  | nil=>exact ⟨m,rfl,Option.some.inj e⟩
  | cons=>exact absN e
 | cons j is ih=>induction vs using List.casesOn with
  | nil=>exact absN e
  | cons u vs =>
   have e:setAll ((m.set i (some v)).set j (some u)) is vs=some m':=e
   rw [List.set_comm _ _ (show i≠j from fun q=>n (by rw [q]; exact .head _))] at e
   exact ih (m:=m.set j (some u)) (fun z=>n (.tail _ z)) e
theorem zgU {is:List Nat} {vs:List V} {m m':Loc} (n:is.Nodup) (e:setAll m is vs=some m'):setAll m is.reverse vs.reverse=some m':=by
 induction is using List.rec generalizing vs m m' with
 | nil=>induction vs using List.casesOn with
  | nil=>exact e
  | cons=>exact absN e
 | cons i is ih=>induction vs using List.casesOn with
  | nil=>exact absN e
  | cons v vs =>
   obtain ⟨n1,n2⟩:=List.nodup_cons.mp n
   refine oEA (zgM (m:=m) n1 e) fun m'' e1 e2=>?_
   rw [List.reverse_cons,List.reverse_cons,<- e2]
   exact ze5 (ih n2 e1)
section
variable {fnA:Fn->Addr} {own:List Addr}
noncomputable def swapName (env:Env) (line:Nat):Expr->Option Str
 | .Name id pos=>if env.kindOf id == some .local&&pos.line == line then some id else none
 | _=>none
def SwapP (env:Env) (t:Expr) (r:Option (List Str)):Prop:=∀ names,r=some names->∃ ts k p,t=.Tuple ts k p/\names.length=ts.length/\(ts.length=2∨ts.length=3)/\(∃ line,names=ts.filterMap (swapName env line))/\names.eraseDups.length=names.length
theorem zaO {t:Expr}:SwapP env t none:=fun _ e=>absN e
theorem swIf {c:Prop} [Decidable c] {x:Sem (Option (List Str))} {t:Expr} (k:¬ c->∃ r,x=pure r/\SwapP env t r):∃ r,(if c then pure none else x)=pure r/\SwapP env t r :=
 iteInduction (motive:=fun x:Sem (Option (List Str))=>∃ r,x=pure r/\SwapP env t r) (fun _=>mEA none rfl zaO) k
theorem zeE (F:Fits W frs env sc m H s.heap) (t v:Expr) {d:Dst} (hd:sc.dst n t=some d) (h:swapOk t v=true):∃ r,swappedStores [t] v env=pure r/\SwapP env t r:=by
 induction ze9 hd using DstI.casesOn with
 | @tup ts k p is hi =>
  induction v using Expr.casesOn with
  | Tuple vs k' p' =>
   refine swIf fun h1=>swIf fun _=>swIf fun h3=>swIf fun h4=>⟨_,if_neg fun h5=>h4 (Eq.mp (congrArg (fun b=>(!b || vs.all (foldedForSure 8))=true) h5) h),fun names e=>?_⟩
   obtain rfl:=Option.some.inj e
   have hl:(ts.length == 2 || ts.length == 3)=true:=Classical.byContradiction fun z=>h1 (by rw [eq_false_of_ne_true z]; rfl)
   exact za7 ts k p rfl (Classical.byContradiction fun z=>h3 (by rw [bne_iff_ne.mpr z]; rfl)) ((Bool.or_eq_true_iff.mp hl).imp beq_iff_eq.mp beq_iff_eq.mp) ⟨(Option.map (fun x=>x.pos.line) ts.head?).getD 0,congrArg (fun f=>List.filterMap f ts) (funext fun x=>by induction x using Expr.casesOn <;> rfl)⟩ (Classical.byContradiction fun z=>h3 (by rw [bne_iff_ne.mpr z,Bool.or_true]))
  | _=>exact mEA none rfl zaO
 | var=>exact mEA none rfl zaO
 | attr=>exact mEA none rfl zaO
 | sub=>exact mEA none rfl zaO
theorem zeG:∀ (k:Nat) (l:List Str),l.length=k->l.eraseDups.length<=l.length:=by
 intro k
 induction k using Nat.strongRecOn with
 | ind k ih =>
  intro l h
  induction l using List.casesOn with
  | nil=>exact Nat.le_refl _
  | cons a r =>
   have h1:(r.filter fun b=>!b == a).length<=r.length:=List.length_filter_le _ _
   rw [List.eraseDups_cons,List.length_cons,List.length_cons]
   have:=ih (r.filter fun b=>!b == a).length (by simp only [List.length_cons] at h; exact #[0x562146115104131,_,_,_] h h1) _ rfl
   exact #[0x105110611146115411,_,_,_] h1 this
theorem zbs:∀ {l:List Str},l.eraseDups.length=l.length->l.Nodup:=by
 intro l
 induction h:l.length using Nat.strongRecOn generalizing l with
 | ind k ih =>
  intro e
  induction l using List.casesOn with
  | nil=>exact .nil
  | cons a r =>
   rw [List.eraseDups_cons,List.length_cons] at e
   have h1:(r.filter fun b=>!b == a).length<=r.length:=List.length_filter_le _ _
   have h2:(r.filter fun b=>!b == a).eraseDups.length<=(r.filter fun b=>!b == a).length:=by
    exact zeG _ _ rfl
   have h3:(r.filter fun b=>!b == a).length=r.length:=by simp only [List.length_cons] at h; exact #[0x47317611471151061315104131,_,_,_,_] h e h1 h2
   have h4:r.filter (fun b=>!b == a)=r:=List.filter_eq_self.mpr (List.length_filter_eq_length_iff.mp h3)
   rw [h4] at e
   refine List.nodup_cons.mpr ⟨fun hm=>?_,ih r.length (by simp only [List.length_cons] at h; exact #[0x54215104131,_,_] h) rfl (by simp only [List.length_cons] at h; exact #[0x463151061315104131,_,_,_] h e)⟩
   have:=List.filter_eq_self.mp h4 a hm
   simp at this
theorem zi9 (ns:List Str) (is:List Nat) (vs:List V) (xs:List Value) (m m':Loc) (s:Shared) (P:Unit->Shared->Prop) (hi:mapO sc.svar ns=some is) (a:AbsL W.clsA (W.D H) s.heap vs xs) (hs:setAll m is vs=some m') (G:Gd W frs H s.heap) (F:Fits W frs env sc m H s.heap)
  (k:∀ s',Stp W frs (ownOf env) H s H s'->Fits W frs env sc m' H s'.heap->P () s'):wpAny W.M A (assignInOrder (ns.map fun n=>bindName env n) xs) P E s:=by
 induction ns using List.rec generalizing is vs xs m s with
 | nil =>
  obtain rfl:=zj hi
  induction vs using List.casesOn with
  | nil =>
   obtain rfl:=Option.some.inj hs
   obtain rfl:xs=[]:=a
   exact wpAny_pure (k s (.refl G) F)
  | cons v vs=>exact absN hs
 | cons x ns ih =>
  refine zd (zi hi) fun i is' yC h1 h2=>?_; obtain rfl:=yC
  induction vs using List.casesOn with
  | nil=>exact absN hs
  | cons v vs =>
   refine zd a fun y ys e a1 a2=>?_; obtain rfl:=e
   show wpAny W.M A (do holding ys (bindName env x y); assignInOrder (ns.map fun n=>bindName env n) ys) P E s
   exact wpAny_bind (wpAny_holding (wpAny_bindName (zeI G F h1 a1 fun s' st F'=>ih is' vs ys (m.set i (some v)) s' h2 (AbsL.keeps (st.kv F fun _ z=>z) _ _ a2) hs st.gd F' fun s'' st' F''=>k s'' (st.trans st') F'')))
theorem zj4 (hq:A.handled=none) {ts:List Expr} {names:List Str} {line:Nat} {is:List Nat} {vs:List V} {a:Addr} {items:List Value} {m m':Loc} {P:Flow->Shared->Prop} (hi:mapO (fun e=>(nmOf e).bind sc.svar) ts=some is) (hn:names=ts.filterMap (swapName env line)) (hlen:names.length=ts.length)
  (hd:names.Nodup) (ht:s.heap.IsTuple a items.toArray) (al:AbsL W.clsA (W.D H) s.heap vs items) (hs:setAll m is vs=some m') (G:Gd W frs H s.heap) (F:Fits W frs env sc m H s.heap)
  (kk:∀ s',Stp W frs (ownOf env) H s H s'->Fits W frs env sc m' H s'.heap->P .next s') :
  wpAny W.M A (do
   rule "assign.swapped-stores"
   let items <- unpackItems (.ref a) names.length none
   assignInOrder (names.reverse.map fun n=>bindName env n) items.reverse
   pure Flow.next) P E s:=by
 have hsz:names.length=items.toArray.size:=by rw [hlen,List.size_toArray,al.length,<- zc5 hs,zgb hi]
 refine wpAny_bind (wpAny_rule (wpAny_bind ?_))
 rw [hsz]
 refine lift (wpAny_unpackItems_tuple hq ht fun h' he=>?_)
 have kp:∀ b o,s.heap.get? b=some o->h'.get? b=some o:=fun b o e=>he b o (Nat.ne_of_lt (Heap.lt_size e)) e
 have st:Step W frs H s H { s with heap:=h' }:=Step.of_keeps G kp rfl rfl
 have hm:mapO sc.svar names=some is:=hn ▸ zhZ (nm:=nmOf) (fun {t x} h=>by
  induction t using Expr.casesOn with
  | Name z p =>
   have h:(if env.kindOf z == some .local&&p.line == line then some z else none)=some x:=h
   split at h
   ·exact h
   ·exact absN h
  | _=>exact absN h) hi (hn ▸ hlen)
 have hdi:is.Nodup:=zhi (fun {x y i} a b=>Option.some.inj ((zaY a).1.symm.trans (zaY b).1)) hm hd
 show wpAny W.M A (do assignInOrder (names.reverse.map fun n=>bindName env n) items.reverse; pure Flow.next) P E { s with heap:=h' }
 exact wpAny_bind (zi9 names.reverse is.reverse vs.reverse items.reverse m m' _ _ (zjA hm) (zj2 (st.absL al)) (zgU hdi hs) st.gd (F.step st) fun s' st' F''=>wpAny_pure (kk s' ((st.toO _).trans st') F''))
theorem seqF {α β:Type} {t:Sem α} {R:(Addr->Prop)->Heap->β->α->Prop} {Q:β->AH->Prop} {P:α->Shared->Prop} (F:Fits W frs env sc m H s.heap) (hX:∀ e s',SX W frs env sc H s XS e s'->E e s') (h:wpAny W.M A t (RPost W frs H s R Q) (XPost W frs H s (XS m)) s)
  (k:∀ x v s₁ HC,Step W frs H s HC s₁->Fits W frs env sc m HC s₁.heap->R (W.D HC) s₁.heap v x->Q v HC->P x s₁):wpAny W.M A t P E s :=
 wpAny_mono h (fun x s₁ z9=>zv z9 fun v HC a b c d e f=>k x v s₁ HC ⟨b,c,d,e⟩ (F.step ⟨b,c,d,e⟩) a f) fun e s₁ z9=>oEA z9 fun H' a b=>hX e s₁ (zn m H' (a.own (fun _ _ _ _ z=>nomatch z)) (F.like a.ext.toKeep) b)
theorem zkV (ih:PE W lev S n) (R:Rm lev A frs) {pos:Pos} {es:List Expr} {cs:List CE} (hp:okList es=true) (hc:mapO (sc.ce n) es=some cs) (G:Gd W frs H s.heap) (F:Fits W frs env sc m H s.heap) (h:wpE S X (.mlist cs) m H Q) :
  wpAny W.M A (eval (.List es pos) env) (EPost W frs H s Q) (XPost W frs H s X) s:=by
 refine wpAny_mono (sList ih R hp hc G F h) (fun y sC hy=>?_) fun _ _ z=>z
 refine zcD hy fun vs xs HC s₁ st a q yH yI=>?_; obtain rfl:=yH; obtain rfl:=yI
 refine endR (st.trans (za9 st.gd (F.step st).size (ao:=.list vs) rfl ?_)) (zcc _) (q _ (zQ st.gd))
 exact zd6 rfl rfl xs 0 rfl (AbsL.keeps zbO _ _ a)
theorem zfY (ih:PE W lev S n) (R:Rm lev A frs) (pos:Pos):∀ (es:List Expr) (cs:List CE) (s:Shared) (H:AH) (Q:List V->AH->Prop),es.all plainArg=true->mapO (fun e=>match e with
  | .List fs _=>if okList fs then (mapO (sc.ce n) fs).map CE.mlist else none
  | e=>sc.ce n e) es=some cs->Gd W frs H s.heap->Fits W frs env sc m H s.heap->wpEs S X cs m H Q ->
  wpAny W.M A (spliced (backTo pos (starEach es env))) (RPost W frs H s (fun D h vs xs=>AbsL W.clsA D h vs xs/\xs.length=es.length) Q) (XPost W frs H s X) s
 | [],cs,s,H,Q,hp,hc,G,F,h=>by
  obtain rfl:=zj hc
  exact spliced_nil (end0 G ⟨AbsL.nil,rfl⟩ h)
 | e::r,cs,s,H,Q,hp,hc,G,F,h=>by
  refine zd (zi hc) fun b bs yC hb hbs=>?_; obtain rfl:=yC
  simp only [List.all_cons,Bool.and_eq_true] at hp
  rw [zp hp.1]
  have h1:wpAny W.M A (eval e env) (EPost W frs H s fun v H=>wpEs S X bs m H fun vs H=>Q (v::vs) H) (XPost W frs H s X) s:=by
   induction e using Expr.casesOn with
   | List fs p =>
    have hb:(if okList fs then (mapO (sc.ce n) fs).map CE.mlist else none)=some b:=hb
    split at hb
    ·rename_i hok
     refine oEA (zW hb) fun cs' h2 yC=>?_; obtain rfl:=yC
     exact zkV ih R hok h2 G F h
    ·exact absN hb
   | _=>exact ih sc _ b hb A frs env s m H _ X R G F h
  refine spliced_cons (seqR h1 fun x v s₁ HC st a q=>?_)
  refine zb3 st (seqR (zfY ih R pos r bs s₁ HC _ hp.2 hbs st.gd (F.step st) q) fun xs vs sC HD stD as qC=>?_)
  exact endR (st.trans stD) ⟨AbsL.cons (stD.abs a) as.1,by rw [List.length_cons,List.length_cons,as.2]⟩ qC
theorem sRhs (ih:PE W lev S n) (R:Rm lev A frs) {v:Expr} {c:CE} (hc:sc.rhs n v=some c) (G:Gd W frs H s.heap) (F:Fits W frs env sc m H s.heap) (h:wpE S X c m H Q):wpAny W.M A (eval v env) (EPost W frs H s Q) (XPost W frs H s X) s:=by
 induction v using Expr.casesOn with
 | List es p =>
  have hc:(if okList es then (mapO (sc.ce n) es).map CE.mlist else none)=some c:=hc
  split at hc
  ·rename_i hok
   refine oEA (zW hc) fun cs' h2 yC=>?_; obtain rfl:=yC
   exact zkV ih R hok h2 G F h
  ·exact absN hc
 | Tuple es k p =>
  have hc:(if okList es then (mapO (fun e=>match e with
   | .List fs _=>if okList fs then (mapO (sc.ce n) fs).map CE.mlist else none
   | e=>sc.ce n e) es).map CE.tup else none)=some c:=hc
  split at hc
  ·rename_i hok
   refine oEA (zW hc) fun cs' h2 yC=>?_; obtain rfl:=yC
   refine Tuple_ (seqR (zfY ih R p es cs' s H _ (zU hok).1 h2 G F h) fun xs vs s₁ HC st a q=>?_)
   exact wpAny_newTuple (endR (st.trans (Step.push st.gd _)) (zcr st.gd a.1) q) (by rw [a.2]; exact (zU hok).2)
  ·exact absN hc
 | _=>exact ih sc _ c hc A frs env s m H _ X R G F h
theorem sPutA (P:Pr W lev A frs s H) {v u:V} {x y:Value} {nm:At} {k:AH->Prop} {K:Unit->Shared->Prop} (ha:Abs W.clsA (W.D H) s.heap v x) (hv:Abs W.clsA (W.D H) s.heap u y) (h:WPutA H u k v nm)
  (kk:∀ H' s',Step W frs H s H' s'->k H'->K () s'):wpAny W.M A (setAttr x nm.str y) K E s:=by
 induction h using WPutA.casesOn with
 | mk h hl q=>exact zjH P ha h hl hv fun s' st=>kk _ s' st q
theorem sPutS (P:Pr W lev A frs s H) {v j u:V} {x i y:Value} {k:AH->Prop} {K:Unit->Shared->Prop} (ha:Abs W.clsA (W.D H) s.heap v x) (hi:Abs W.clsA (W.D H) s.heap j i) (hv:Abs W.clsA (W.D H) s.heap u y) (h:WPutS H u k v j)
  (kk:∀ H' s',Step W frs H s H' s'->k H'->K () s'):wpAny W.M A (setItem x i y) K E s:=by
 induction h using WPutS.casesOn with
 | list h h1 hl q =>
  obtain ⟨tk,rfl⟩:=zg hi
  obtain rfl:=zI ha
  exact zkx P h (Int.natCast_nonneg _) (Int.ofNat_lt.mpr h1) hl hv fun s' st=>kk _ s' st q
 | dict h hl q =>
  obtain ⟨tk,rfl⟩:=zg hi
  obtain rfl:=zI ha
  exact zkP P h hl hv fun s' st=>kk _ s' st q
theorem sDst (ih:PE W lev S n) (R:Rm lev A frs) {t:Expr} {d:Dst} {v:V} {y:Value} {k:Loc->AH->Prop} {P:Unit->Shared->Prop} (hd:sc.dst n t=some d) (h:wpDst S XS d v m H k) (a:Abs W.clsA (W.D H) s.heap v y) (G:Gd W frs H s.heap) (F:Fits W frs env sc m H s.heap)
  (hX:∀ e s',SX W frs env sc H s XS e s'->E e s') (kk:∀ m' H' s',Stp W frs (ownOf env) H s H' s'->Fits W frs env sc m' H' s'.heap->k m' H'->P () s'):wpAny W.M A (assign t env y) P E s:=by
 induction ze9 hd using DstI.casesOn with
 | @var x p i hi =>
  exact wpAny_assign_Name (zeI G F hi a fun s' st F'=>kk _ H s' st F' h)
 | @tup ts j p is hi =>
  have h:WTgt m (fun m=>k m H) (.tup is) v:=h
  cases h with
  | tup hs hk =>
   refine zu (zc3 a) fun b items yC _ h2 h3=>?_; obtain rfl:=yC
   exact zlE R.quiet hi h2 h3 hs G F fun s' st F'=>kk _ H s' st F' hk
 | @attr o nm p co nm' h1 h2 =>
  obtain rfl:=zfe h2
  show wpAny W.M A (do
   let ov <- holding [y] (eval o env)
   standAt p.atName
   holding [y,ov] (setAttr ov nm'.str y)
   release [y,ov] []) P E s
  refine wpAny_bind (wpAny_holding (seqF F hX (ih sc o co h1 A frs env s m H _ _ R G F h) fun x u s₁ HC st FC aC q=>wpAny_bind (wpAny_standAt (wpAny_bind (wpAny_holding ?_)))))
  exact sPutA (FC.pr R st.gd) aC (st.abs a) q fun H' s' st' q'=>wpAny_release (kk m _ s' ((st.trans st').toO _) (FC.step st') q')
 | @sub o i p co ci h0 h1 h2 =>
  obtain ⟨rl,hrl⟩:∃ rl:Value->Value->List Value,assign (.Subscript o i p) env y=(do
   let ov <- holding [y] (eval o env)
   let iv <- holding [y,ov] (eval i env)
   standAt p
   holding [y,ov,iv] (setItem ov iv y)
   release (rl ov iv) []):=⟨_,rfl⟩
  rw [hrl]
  refine wpAny_bind (wpAny_holding (seqF F hX (ih sc o co h1 A frs env s m H _ _ R G F h) fun x u s₁ HC st FC aC q=>?_))
  refine wpAny_bind (wpAny_holding (seqF FC (fun e s' z=>hX e s' (z.of (st.toO _))) (ih sc i ci h2 A frs env s₁ m HC _ _ R st.gd FC q) fun z w sC HD stD FD aD qC=>wpAny_bind (wpAny_standAt (wpAny_bind (wpAny_holding ?_)))))
  exact sPutS (FD.pr R stD.gd) (stD.abs aC) aD ((st.trans stD).abs a) qC fun H' s' st3 q'=>wpAny_release (kk m _ s' (((st.trans stD).trans st3).toO _) (FD.step st3) q')
def PS (W:Wd) (lev:Nat) (S:Specs) (n:Nat):Prop:=∀ (sc:Sc) (st:Stmt) (c:CS),sc.cs n st=some c->∀ q:Addr->Prop,SS (W.ofP q) lev (exec st) sc fun XS m H N R=>wpS S XS c m H N R
theorem zbf (ih:PS W lev S n) (q:Addr->Prop):∀ (b:List Stmt) (cs:List CS),mapO (sc.cs n) b=some cs->SS (W.ofP q) lev (execs b) sc fun XS m H N R=>wpSs S XS cs m H N R
 | [],cs,h=>by obtain rfl:=zj h; exact SS.nil
 | st::r,cs,h=>by
  refine zd (zi h) fun c cs' yC h1 h2=>?_; obtain rfl:=yC
  exact SS.cons (ih sc st c h1 q) (zbf ih q r cs' h2)
theorem zgv {x:Str} {i:Nat} (h:sc.svar x=some i):sc.var x=some i:=(zdF h).1
theorem ze1 {v:Expr} (hl:isListComp v=false) (t:Option Expr) (l:Nat):swapsWith v t l env=pure false:=by
 induction v using Expr.casesOn <;> first | rfl | exact absC hl
theorem zfn {t v:Expr} {pos:Pos} (hsw:swapsWithSole [t] v pos.line env=pure false) {P:Flow->Shared->Prop} (h:wpAny W.M A (eval v env) (fun x s₁=>wpAny W.M A (do assignStores env x (<- swappedStores [t] v env) ((assignEach [t] env).map (·.2))) P E s₁) E s) :
  wpAny W.M A (exec (.Assign [t] v pos) env) P E s:=by
 rw [exec_Assign_arm]
 refine wpAny_bind (wpAny_standAt ?_)
 rw [hsw]
 refine wpAny_bind (wpAny_pure ?_)
 rw [if_neg (by decide)]
 exact wpAny_bind h
theorem zcN (t:Expr) (ht:∀ e p,t≠.Starred e p):((assignEach [t] env).map (·.2))=[assign t env]:=by
 induction t using Expr.casesOn <;> first | rfl | exact absurd rfl (ht _ _)
theorem ziE {t:Expr} {d:Dst} (h:sc.dst n t=some d):∀ e p,t≠.Starred e p:=fun e p q=>by subst q; exact absN h
theorem zhH (ih:PE W lev S n) (R:Rm lev A frs) {t v:Expr} {pos:Pos} {c:CE} {d:Dst} (hok:swapOk t v=true) (hsw:swapsWithSole [t] v pos.line env=pure false) (hc:sc.rhs n v=some c) (hd:sc.dst n t=some d)
  (G:Gd W frs H s.heap) (F:Fits W frs env sc m H s.heap) (hX:∀ e s',SX W frs env sc H s XS e s'->E e s')
  (h:wpS S XS (.assign d c) m H NK RK):wpAny W.M A (exec (.Assign [t] v pos) env) (SPost W frs env sc H s NK RK) E s:=by
 refine zfn hsw (seqF F hX (sRhs ih R hc G F h) fun y u s₁ HC st FC a q=>?_)
 refine oEA (zeE FC t v hd hok) fun r hr hn=>?_
 rw [hr]
 refine wpAny_bind (wpAny_pure ?_)
 induction r using Option.casesOn with
 | none =>
  rw [zcN t (ziE hd)]
  show wpAny W.M A (do assignAll y [assign t env]; pure Flow.next) _ _ _
  refine wpAny_bind (sDst ih R hd q a st.gd FC (fun e s' z=>hX e s' (z.of (st.toO _))) fun m' H' s' st' F' k=>wpAny_pure ?_)
  exact zcR ((st.toO _).trans st') F' k
 | some names =>
  refine zam (hn names rfl) fun ts k p yD h1 h2 yG h4=>?_; obtain rfl:=yD; obtain ⟨line,h3⟩:=yG
  obtain ⟨is,hi,rfl⟩:=zW (a:=mapO (fun e=>(nmOf e).bind sc.svar) ts) (f:=Dst.tup) hd
  have q:WTgt m (fun m=>NK m HC) (.tup is) u:=q
  cases q with
  | tup hs qk =>
   refine zu (zc3 a) fun b items yC _ i2 i3=>?_; obtain rfl:=yC
   exact zj4 R.quiet hi h3 h1 (zbs h4) i2 i3 hs st.gd FC fun s' st' F'=>zcR ((st.toO _).trans st') F' qk
theorem ziT {i:Expr} (h:notSlice i=true) (ov iv new:Value):augStore i ov iv new=(do holding [new,ov,iv] (setItem ov iv new); release [new,ov,iv] []; pure .next):=by
 induction i using Expr.casesOn with
 | Slice=>exact absB h
 | _=>rfl
theorem sAugS (ih:PE W lev S n) (R:Rm lev A frs) {t v:Expr} {op:Operator} {pos:Pos} {c:CE} {d:Dst} (h1:augOk t=true)
  (hc:sc.ce n v=some c) (hd:sc.dst n t=some d)
  (G:Gd W frs H s.heap) (F:Fits W frs env sc m H s.heap) (hX:∀ e s',SX W frs env sc H s XS e s'->E e s')
  (h:wpS S XS (.aug d op c) m H NK RK):wpAny W.M A (exec (.AugAssign t op v pos) env) (SPost W frs env sc H s NK RK) E s:=by
 induction ze9 hd using DstI.casesOn with
 | tup=>exact absB h1
 | @var x p i hi =>
  have h:(match lget m i with
   | some u=>wpE S (XS m) c m H fun v H=>WAug H (fun r H=>NK (m.set i (some r)) H) op u v
   | none=>False):=h
  cases hm:lget m i with
  | none=>rw [hm] at h; exact h.elim
  | some u =>
   rw [hm] at h
   refine wpAny_AugAssign_Name (sVar G F (zgv hi) hm (zbe (zgv hi) F.nocd) fun y a=>?_)
   refine seqF F hX (ih sc v c hc A frs env s m H _ _ R G F h) fun z w s₁ HC st FC aC q=>?_
   refine wpAny_mono (sAug (FC.pr R st.gd) (st.abs a) aC q) (E:=fun _ _=>False) (fun r sC z9=>zv z9 fun vr HD ar g2 e2 o2 n2 q2=>?_) fun _ _ z=>z.elim
   have st2:Step W frs HC s₁ HD sC:=⟨g2,e2,o2,n2⟩
   exact zeI (FC.step st2 |> fun _=>g2) (FC.step st2) hi ar fun s' st' F'=>zcR (((st.trans st2).toO _).trans st') F' q2
 | @attr o nm p co nm' hA hB =>
  obtain rfl:=zfe hB
  refine wpAny_AugAssign_AttributeAny (seqF F hX (ih sc o co hA A frs env s m H _ _ R G F h) fun y u s₁ HC st FC a q=>?_)
  refine wpAny_mono (sAttr (FC.pr R st.gd) a q) (E:=fun _ _=>False) (fun r sC z9=>zv z9 fun vr HD ar g2 e2 o2 n2 q2=>?_) fun _ _ z=>z.elim
  have st2:Step W frs HC s₁ HD sC:=⟨g2,e2,o2,n2⟩
  have st2':=st.trans st2
  refine seqF (FC.step st2) (fun e s' z=>hX e s' (z.of (st2'.toO _))) (ih sc v c hc A frs env sC m HD _ _ R g2 (FC.step st2) q2) fun z w sD HE st3 FE a3 q3=>?_
  refine wpAny_mono (sAug (FE.pr R st3.gd) (st3.abs ar) a3 q3) (E:=fun _ _=>False) (fun r sE z9=>zv z9 fun vr' HF ar' g4 e4 o4 n4 q4=>?_) fun _ _ z=>z.elim
  have st4:Step W frs HE sD HF sE:=⟨g4,e4,o4,n4⟩
  have st5:=st2.trans (st3.trans st4)
  exact sPutA ((FE.step st4).pr R g4) (st5.abs a) ar' q4 fun H' s' st' q'=>zcR ((st.trans (st5.trans st')).toO _) (FC.step (st5.trans st')) q'
 | @sub o i p co ci h0 hA hB =>
  refine wpAny_AugAssign_SubscriptAny (seqF F hX (ih sc o co hA A frs env s m H _ _ R G F h) fun y u s₁ HC st FC a q=>?_) (ziT h0)
  refine seqF FC (fun e s' z=>hX e s' (z.of (st.toO _))) (ih sc i ci hB A frs env s₁ m HC _ _ R st.gd FC q) fun z w sC HD st2 FD aD qC=>?_
  refine wpAny_mono (zjm (FD.pr R st2.gd) (st2.abs a) aD qC) (E:=fun _ _=>False) (fun r sD z9=>zv z9 fun vr HE ar g3 e3 o3 n3 q3=>?_) fun _ _ z=>z.elim
  have st3:Step W frs HD sC HE sD:=⟨g3,e3,o3,n3⟩
  have FE:=FD.step st3
  refine seqF FE (fun e s' z=>hX e s' (z.of ((st.trans (st2.trans st3)).toO _))) (ih sc v c hc A frs env sD m HE _ _ R g3 FE q3) fun x4 v4 sE HF st4 FF a4 q4=>?_
  refine wpAny_mono (sAug (FF.pr R st4.gd) (st4.abs ar) a4 q4) (E:=fun _ _=>False) (fun r5 sF z9=>zv z9 fun v5 HG a5 g5 e5 o5 n5 q5=>?_) fun _ _ z=>z.elim
  have st5:Step W frs HF sE HG sF:=⟨g5,e5,o5,n5⟩
  have stA:=st2.trans (st3.trans (st4.trans st5))
  have stB:=st3.trans (st4.trans st5)
  exact sPutS ((FF.step st5).pr R g5) (stA.abs a) (stB.abs aD) a5 q5 fun H' s' st' q'=>zcR ((st.trans (stA.trans st')).toO _) (FC.step (stA.trans st')) q'
theorem swapB (t:Expr) {elt:Expr} {gens:List Comprehension} {vp:Pos} {l:Nat}:∃ b,swapsWithSole [t] (.ListComp elt gens scope vp) l env=pure b/\(b=true->∃ x p,t=.Name x p):=by
 induction t using Expr.casesOn with
 | Name x p=>exact mEA _ rfl (fun _=>(mEE x p rfl))
 | _=>exact mEA false rfl (fun q=>nomatch q)
theorem zfq (O:Wok W fnA) (ihA:∀ k q,PE (W.ofP q) lev S k) (ihTA:∀ k q,PT (W.ofP q) lev S k) (P:Pr W lev A frs s H) {t v:Expr} {pos:Pos} {c:CE} {d:Dst} (hok:swapOk t v=true) (hl:isListComp v=true) (hc:sc.ce n v=some c) (hd:sc.dst n t=some d) (F:Fits W frs env sc m H s.heap)
  (hX:∀ e s',SX W frs env sc H s XS e s'->E e s') (h:wpS S XS (.assign d c) m H NK RK):wpAny W.M A (exec (.Assign [t] v pos) env) (SPost W frs env sc H s NK RK) E s:=by
 obtain ⟨elt,gens,scope,vp,rfl⟩:=ze0 hl hc
 refine oEA (swapB (env:=env) (scope:=scope) t (elt:=elt) (gens:=gens) (vp:=vp) (l:=pos.line)) fun b hb hn=>?_
 induction b using Bool.casesOn with
 | false=>exact zhH (ihA n W.priv) P.rm hok hb hc hd P.gd F hX h
 | true =>
  refine oEE (hn rfl) fun x p yC=>?_; obtain rfl:=yC
  refine oEA (zW (a:=sc.svar x) (f:=Dst.var) hd) fun i hi yC=>?_; obtain rfl:=yC
  have h:wpE S (XS m) c m H fun v H=>NK (m.set i (some v)) H:=h
  rw [exec_Assign_arm]
  refine wpAny_bind (wpAny_standAt ?_)
  rw [hb]
  refine wpAny_bind (wpAny_pure ?_)
  rw [if_pos rfl]
  refine wpAny_bind ?_
  have hE:∀ e s',XPost W frs H s (XS m) e s'->E e s':=fun e s' z9=>oEA z9 fun H' z1 z2=>hX e s' (zn m H' (z1.own (fun _ _ _ _ z=>nomatch z)) (F.like z1.ext.toKeep) z2)
  have fin:∀ C D env' sc' mc acc HC s₁ H' s' f,Step W frs H s HC s₁->CFix W frs env' C D->s₁.heap.get? C=none->s₁.heap.get? D=none->CAt (W.ofP fun a=>W.priv a∨a∈[D]) frs env' sc' C D HC s₁ mc acc H' s'->NK (m.set i (some (.lst acc))) H' ->
    cPost W.M A E (some fun v=>assignAll v ((assignEach [Expr.Name x p] env).map (·.2))) (fun _ s''=>SPost W frs env sc H s NK RK .next s'') (.ref D) C (.ok f) s':=fun C D env' sc' mc acc HC s₁ H' s' f st Y nC nD ca q=>by
   refine zlh (cFin st.gd Y nC nD ca) fun st' a hb' hH mm hnC=>?_
   have FC:=F.step st
   have F':=FC.step st'
   have hCo:C∉ownOf env:=fun z=>by
    rcases List.mem_cons.mp z with z | z
    ·refine oEA FC.vals fun _ yB _=>?_; obtain ⟨o,_,_,ho,_⟩:=yB
     rw [<- z,nC] at ho; exact absN ho
    ·refine oEA (List.mem_map.mp z) fun yA hm e=>?_; obtain ⟨y,c'⟩:=yA
     refine zK (FC.cell y c' hm) fun _ _ _ _ o ho _=>?_
     rw [show c'=C from e,nC] at ho; exact absN ho
   show wpAny W.M A (assign (.Name x p) env (.ref D)) _ _ _
   refine wpAny_assign_Name (zeI st'.gd F' hi a fun sC st2 FD=>?_)
   refine zgK hnC fun oC esC epC hoC rC=>?_
   have hoC2:=st2.ext.keep C oC hoC hH hCo Y.Cfr
   refine mEA mm ((zhL oC esC epC hoC2 rC)) (fun h' mm' hn' hs=>?_)
   obtain ⟨st3,kv⟩:=cEnd (v:=.lst acc) (y:=.ref D) st2.gd hb' hH Y.Cfr (zhL oC esC epC hoC2 rC) hn' hs
   have hCL:∀ b,b∈ownOf env->b≠C:=fun b hb q=>hCo (q ▸ hb)
   have FE:Fits W frs env sc (m.set i (some (.lst acc))) H' h':=zV (W':=W) rfl rfl FD kv (fun _ e=>e) (fun o e=>(hs.2 _ (hCL _ (.head _))).trans e) fun y c hc o e=>(hs.2 _ (hCL _ (.tail _ (List.mem_map_of_mem (f:=Prod.snd) hc)))).trans e
   have w2:Stp W frs (C::ownOf env) H' s' H' sC:=⟨st2.gd,st2.ext.own fun b _ _ _ z=>.tail _ z,st2.os,st2.gens⟩
   have w3:Stp W frs (C::ownOf env) H' sC H' { sC with heap:=h' }:=⟨st3.gd,st3.ext.own fun b _ _ _ z=>(by cases List.mem_singleton.mp z; exact .head _),st3.os,st3.gens⟩
   have w:=((st.trans st').toO (C::ownOf env)).trans (w2.trans w3)
   refine zcR ⟨w.gd,w.ext.own fun b o e n z=>?_,w.os,w.gens⟩ FE q
   rcases List.mem_cons.mp z with rfl | z
   ·obtain ⟨o',e'⟩:=st.ext.there b o e n
    rw [nC] at e'; exact absN e'
   ·exact z
  induction n using Nat.casesOn with
  | zero=>exact absN hc
  | succ n =>
   induction zet hc using CompI.casesOn with
   | @one t' it ifs tg sr cs c0 hs hokk k1 k2 k3 k4 =>
    refine wpAny_bind (m:=comprehension (.ListComp elt [⟨t',it,ifs,0⟩] scope vp) scope env it.pos (newList []) false (eval it env) (some _)) (wpAny_mono (cRun1 O (ihA n) (ihTA n) P F (zgi hs) hokk k1 k2 k3 k4 h hE fin) (fun _ s'' z=>wpAny_pure (wpAny_pure z)) fun _ _ z=>z)
   | @two t' it t2 it2 tg tg2 sr sr2 c0 hs hokk k1 k2 k3 k4 k5 =>
    refine wpAny_bind (m:=comprehension (.ListComp elt [⟨t',it,[],0⟩,⟨t2,it2,[],0⟩] scope vp) scope env it.pos (newList []) false (eval it env) (some _)) (wpAny_mono (cRun2 O (ihA n) P F (zgi hs) hokk k1 k2 k3 k4 k5 h hE fin) (fun _ s'' z=>wpAny_pure (wpAny_pure z)) fun _ _ z=>z)
theorem zkM {e cc:Option Expr} (h:sc.isCut e cc=true):∃ x np txt kd cpp cp,e=some (.Call (.Name x np) [.Constant (.str txt) kd cpp] [] cp)∧cc=none∧sc.isGlob x "CutShort"=true:=by
 rcases cc with _ | c
 ·rcases e with _ | e
  ·exact absB h
  ·have h:sc.cutCall e=true:=h
   unfold Sc.cutCall at h
   cases q:nmCall e with
   | none=>rw [q] at h; exact absB h
   | some r =>
    rw [q] at h
    obtain ⟨x,args⟩:=r
    obtain ⟨np,cp,rfl⟩:=zcy q
    obtain ⟨h1,h2⟩:=Bool.and_eq_true_iff.mp (show (sc.isGlob x "CutShort"&&textArg args)=true from h)
    obtain ⟨s,h3⟩:=Option.isSome_iff_exists.mp h2
    obtain ⟨c,e1,e2⟩:=Option.bind_eq_some_iff.mp h3
    obtain ⟨a,e3,e4⟩:=Option.bind_eq_some_iff.mp e1
    obtain ⟨k,p,e5⟩:=zjr e4
    exact ⟨x,np,s,k,p,cp,by rw [zcb e3,e5,zim e2],rfl,h1⟩
 ·induction e using Option.casesOn <;> exact absB h
inductive CsI (n:Nat) (sc:Sc):Stmt->CS->Prop
 | assign {t v:Expr} {p:Pos} {d:Dst} {c':CE} (hok:swapOk t v=true) (h1:sc.dst n t=some d) (h2:sc.rhs n v=some c'):CsI n sc (.Assign [t] v p) (.assign d c')
 | aug {t:Expr} {op:Operator} {v:Expr} {p:Pos} {d:Dst} {c':CE} (hok:augOk t=true) (h1:sc.dst n t=some d) (h3:sc.ce n v=some c'):CsI n sc (.AugAssign t op v p) (.aug d op c')
 | expr {v:Expr} {p:Pos} {c':CE} (hl:isListComp v=false) (h1:sc.ce n v=some c'):CsI n sc (.Expr v p) (.expr c')
 | ret {v:Expr} {p:Pos} {c':CE} (h1:sc.rhs n v=some c'):CsI n sc (.Return (some v) p) (.ret c')
 | retNone {p:Pos}:CsI n sc (.Return none p) .retNone
 | ifs {t:Expr} {b o:List Stmt} {p:Pos} {ct:CE} {cb co:List CS} (h1:sc.ce n t=some ct) (h2:mapO (sc.cs n) b=some cb) (h3:mapO (sc.cs n) o=some co):CsI n sc (.If t b o p) (.ifs ct cb co)
 | whiles {t:Expr} {b:List Stmt} {p:Pos} {ct:CE} {cb:List CS} (h1:sc.ce n t=some ct) (h2:mapO (sc.cs n) b=some cb):CsI n sc (.While t b [] p) (.whiles ct cb)
 | fors {t it:Expr} {b:List Stmt} {p:Pos} {tg:Tgt} {src:Src} {cb:List CS} (h1:sc.tgt t=some tg) (h2:sc.srcBy (sc.ce n) it=some src) (h3:mapO (sc.cs n) b=some cb) (hok:src.okT tg=true):CsI n sc (.For t it b [] p) (.fors tg src cb)
 | raise {e cc:Option Expr} {p:Pos} (h:sc.isCut e cc=true):CsI n sc (.Raise e cc p) .raiseCut
 | stuck {e cc:Option Expr} {p:Pos}:CsI n sc (.Raise e cc p) .stuck
 | tryCut {b:List Stmt} {hs:List ExceptHandler} {p:Pos} {cb:List CS} {xs:List Nat} (h1:mapO (sc.cs n) b=some cb) (h2:sc.hdl hs=some xs):CsI n sc (.Try b hs [] [] p) (.tryCut cb xs)
theorem cs_inv {st:Stmt} {c:CS} (hc:sc.cs (n+1) st=some c):CsI n sc st c:=by
 induction st using Stmt.casesOn with
 | Assign ts v p =>
  rcases ts with _ | ⟨t,_ | ⟨t2,r⟩⟩
  ·exact absN hc
  ·have hc:(if swapOk t v then do return CS.assign (<- sc.dst n t) (<- sc.rhs n v) else none)=some c:=hc
   split at hc
   ·rename_i hok
    refine oEA (zm hc) fun d h1 hc=>?_
    refine oEA (zm hc) fun c' h2 hc=>?_
    exact Option.some.inj hc ▸ .assign hok h1 h2
   ·exact absN hc
  ·exact absN hc
 | AugAssign t op v p =>
  have hc:(if augOk t then do return CS.aug (<- sc.dst n t) op (<- sc.ce n v) else none)=some c:=hc
  split at hc
  ·rename_i hok
   refine oEA (zm hc) fun d h1 hc=>?_
   refine oEA (zm hc) fun c' h3 hc=>?_
   exact Option.some.inj hc ▸ .aug hok h1 h3
  ·exact absN hc
 | Expr v p =>
  have hc:(if isListComp v then none else (sc.ce n v).map CS.expr)=some c:=hc
  split at hc
  ·exact absN hc
  ·rename_i hl
   exact oEA (zW hc) fun c' h1 z=>z ▸ .expr (Bool.eq_false_iff.mpr hl) h1
 | Return v p =>
  induction v using Option.casesOn with
  | some v=>exact oEA (zW (a:=sc.rhs n v) (f:=CS.ret) hc) fun c' h1 z=>z ▸ .ret h1
  | none=>exact Option.some.inj hc ▸ .retNone
 | If t b o p =>
  have hc:(do return CS.ifs (<- sc.ce n t) (<- mapO (sc.cs n) b) (<- mapO (sc.cs n) o):Option CS)=some c:=hc
  refine oEA (zm hc) fun ct h1 hc=>?_
  refine oEA (zm hc) fun cb h2 hc=>?_
  refine oEA (zm hc) fun co h3 hc=>?_
  exact Option.some.inj hc ▸ .ifs h1 h2 h3
 | While t b e p =>
  induction e using List.casesOn with
  | cons _ _=>exact absN hc
  | nil =>
   have hc:(do return CS.whiles (<- sc.ce n t) (<- mapO (sc.cs n) b):Option CS)=some c:=hc
   refine oEA (zm hc) fun ct h1 hc=>?_
   refine oEA (zm hc) fun cb h2 hc=>?_
   exact Option.some.inj hc ▸ .whiles h1 h2
 | For t it b e p =>
  induction e using List.casesOn with
  | cons _ _=>exact absN hc
  | nil =>
   have hc:(do
    let tg <- sc.tgt t
    let sr <- sc.srcBy (sc.ce n) it
    let cb <- mapO (sc.cs n) b
    if sr.okT tg then return CS.fors tg sr cb else none:Option CS)=some c:=hc
   refine oEA (zm hc) fun tg h1 hc=>?_
   refine oEA (zm hc) fun src h2 hc=>?_
   refine oEA (zm hc) fun cb h3 hc=>?_
   split at hc
   ·rename_i hok
    exact Option.some.inj hc ▸ .fors h1 h2 h3 hok
   ·exact absN hc
 | Raise e cc p =>
  have hc:some (if sc.isCut e cc then CS.raiseCut else CS.stuck)=some c:=hc
  split at hc
  ·rename_i hcut
   exact Option.some.inj hc ▸ .raise hcut
  ·exact Option.some.inj hc ▸ .stuck
 | Try b hs e f p =>
  induction e using List.casesOn with
  | cons _ _=>exact absN hc
  | nil =>
   induction f using List.casesOn with
   | cons _ _=>exact absN hc
   | nil =>
    have hc:(do return CS.tryCut (<- mapO (sc.cs n) b) (<- sc.hdl hs):Option CS)=some c:=hc
    refine oEA (zm hc) fun cb h1 hc=>?_
    refine oEA (zm hc) fun xs h2 hc=>?_
    exact Option.some.inj hc ▸ .tryCut h1 h2
 | _=>exact absN hc
theorem zkq {v:Expr} {c:CE} (hl:isListComp v=true) (h:sc.rhs n v=some c):sc.ce n v=some c:=by
 induction v using Expr.casesOn <;> first | exact h | exact absB hl
theorem zmH (O:Wok W fnA) (SA:∀ q,SpecsOk (W.ofP q) fnA lev S) (ih:PS W lev S n):PS W lev S (n+1):=by
 intro sc st c hc q A frs env s m H NK RK XS E R hh G F hE hX h
 have pe:PE (W.ofP q) lev S n:=(zb0 O SA n q).1
 have pt:PT (W.ofP q) lev S n:=(zb0 O SA n q).2
 induction cs_inv hc using CsI.casesOn with
 | @assign t v p d c' hok h1 h2 =>
  cases hl:isListComp v with
  | false=>exact zhH pe R hok (ze1 hl _ _) h2 h1 G F hX h
  | true=>exact zfq (W:=W.ofP q) (O.ofP q) (fun k q'=>(zb0 O SA k q').1) (fun k q'=>(zb0 O SA k q').2) (F.pr R G) hok hl (zkq hl h2) h1 F hX h
 | aug hok h1 h3=>exact sAugS pe R hok h3 h1 G F hX h
 | @expr v p c' hl h1 =>
  refine wpAny_Expr_any (seqF F hX (pe sc v c' h1 A frs env s m H _ _ R G F h) fun y u s₁ HC st FC a q=>zcR (st.toO _) FC q) ?_ (ze1 hl _ _)
  unfold interactive; rw [F.kind]; rfl
 | ret h1=>exact wpAny_Return_some (seqF F hX (sRhs pe R h1 G F h) fun y u s₁ HC st FC a q=>retS (st.toO _) FC a q)
 | retNone=>exact wpAny_Return_none (retS (.refl G) F zO h)
 | @ifs t b o p ct cb co h1 h2 h3 =>
  refine wpAny_If (seqF F hX (pt sc t ct h1 A frs env s m H _ _ R G F h) fun y u s₁ HC st FC a q'=>?_)
  have a:y=u:=a
  subst a
  induction y using Bool.casesOn with
  | true=>exact wpAny_mono (zbf ih q b cb h2 A frs env s₁ m HC NK RK XS E R hh st.gd FC hE (fun e s' z=>hX e s' (z.of (st.toO _))) (q'.1 rfl)) (fun _ _ z=>z.of (st.toO _)) fun _ _ z=>z
  | false=>exact wpAny_mono (zbf ih q o co h3 A frs env s₁ m HC NK RK XS E R hh st.gd FC hE (fun e s' z=>hX e s' (z.of (st.toO _))) (q'.2 rfl)) (fun _ _ z=>z.of (st.toO _)) fun _ _ z=>z
 | whiles h1 h2=>exact sWhile (O.ofP q) (SA q) pt (F.pr R G) hh F h1 (zbf ih q _ _ h2) h
 | @fors t it b p tg src cb h1 h2 h3 hok =>
  rw [exec_For]
  refine wpAny_bind (wpAny_standAt (wpAny_bind (wpAny_mono (sSrc (O.ofP q) pe (F.pr R G) F h2 h h1 hok (E:=E) (R:=fun I sC=>wpAny W.M A (runOwn (.forLoop t I b [] env) env) (SPost (W.ofP q) frs env sc H s NK RK) E sC) (fun e s' z9=>oEA z9 fun H' z1 z2=>hX e s' (zn m H' (z1.own (fun _ _ _ _ z=>nomatch z)) (F.like z1.ext.toKeep) z2))
   fun I items guard HC s₁ sC st hmk hK=>?_) (fun x s₁ hF=>?_) fun _ _ z=>z)))
  ·refine zap hmk fun ps ow Inv St k ho hg hp It hSt hInv hpl=>?_
   obtain ⟨hb,J,j0,jt,jd⟩:=hK
   refine wpAny_runOwn (codeAny_mono (zjT (W:=W.ofP q) h1 (zbf ih _ b cb h3) R hh st.gd (F.step st) hE (fun e s' z=>hX e s' (z.of (st.toO _))) k ho hg hp It hSt hInv hpl J j0 jt jd) fun r s' z=>?_) fun x=>absN x
   induction r using Except.casesOn with
   | ok f=>exact z.of (st.toO _)
   | error e=>exact z
  ·exact wpAny_bind (wpAny_mono hF (fun y sC hG=>wpAny_bind (wpAny_standAt (wpAny_bind (wpAny_holding hG)))) fun _ _ z=>z)
 | raise hcut =>
  refine zeT (zkM hcut) fun x np txt kd cpp cp yG yH hx=>?_; obtain rfl:=yG; obtain rfl:=yH
  exact sRaise (O.ofP q) (F.pr R G) F hx h hX
 | stuck=>exact h.elim
 | tryCut h1 h2=>exact sTry (O.ofP q) (F.pr R G) hh F (zbf ih q _ _ h1) h2 h
theorem zlc (O:Wok W fnA) (SA:∀ q,SpecsOk (W.ofP q) fnA lev S):∀ n,PS W lev S n
 | 0=>by intro _ _ _ h; exact absN h
 | n+1=>zmH O SA (zlc O SA n)
theorem sub_D {H H':AH} (hs:Sub H' H) {b:Addr} (n:¬ W.D H b):¬ W.D H' b:=by
 obtain ⟨a,b⟩:=zaq n
 exact zch (zL hs a) b
theorem zhT (hs:Sub H' H) (h:Heap):KeepV (W.D H) h (W.D H') h:=fun b o e n _=>⟨⟨o.slots,e⟩,sub_D hs n⟩
mutual
theorem FrzV.abs {h:Heap} (G:Gd W frs H h) (hs:Sub H' H):∀ {v v':V} {y:Value},FrzV H H' v v'->Abs W.clsA (W.D H) h v y->Abs W.clsA (W.D H') h v' y
 | _,_,y,.same v,a=>Abs.keeps (zhT hs h) v y a
 | _,_,y,.lst (a:=b) h1 h2 r,a=>by
  obtain rfl:=zI a
  refine oAEA (G.rp.2 _ _ h1) fun _ ob g2 g3=>?_
  refine zh3 g3 fun c1 c2 items k c3 c4=>?_
  exact zx b items rfl (zch h2 (fun p=>by rw [(G.pv _ p).1] at h1; exact absN h1)) ((zbX ob g2 c1 c2 k c3)) (FrzL.abs G hs r c4)
 | _,_,y,.tup r,a=>by
  refine zu a fun b items e i1 i2 i3=>?_
  exact zx b items e (sub_D hs i1) i2 (FrzL.abs G hs r i3)
theorem FrzL.abs {h:Heap} (G:Gd W frs H h) (hs:Sub H' H):∀ {v v':List V} {y:List Value},FrzL H H' v v'->AbsL W.clsA (W.D H) h v y->AbsL W.clsA (W.D H') h v' y
 | _,_,_,.nil,a=>a
 | _,_,_,.cons h1 h2,a=>by
  refine zd a fun y ys e a1 a2=>?_
  exact zn y ys e (FrzV.abs G hs h1 a1) (FrzL.abs G hs h2 a2)
end
theorem XAt.sub {s':Shared} {e:Value} {H'':AH} (x:XAt W frs own H s H' e s') (hs:Sub H'' H'):XAt W frs own H s H'' e s':=by
 refine zB x.fly fun ea a0 b' he f r k=>?_
 exact ⟨(zS ea a0 b' he f (r.sub hs) k),fun L hL=>zL hs (x.apart L hL),x.slots,fun b o e n=>zL hs (x.new b o e n),x.there,x.os,x.gens⟩
theorem zA:∀ (names:List (Str×NameKind)) (k:Nat) (acc:List (Str×Addr)),(cellsFrom k names acc).map (·.1)=((names.filter (·.2 == .cell)).map (·.1)).reverse++acc.map (·.1)
 | [],_,_=>rfl
 | (x,kd)::r,k,acc=>by
  unfold cellsFrom
  cases hk:kd == NameKind.cell with
  | true =>
   rw [if_pos rfl,zA r,List.filter_cons_of_pos (by exact hk)]
   simp
  | false =>
   rw [if_neg (by decide),zA r,List.filter_cons_of_neg (by simp [hk])]
theorem zbo:∀ {l:List (Str×Addr)} {x:Str} {c:Addr},(l.map (·.1)).Nodup->(x,c)∈l->l.lookup x=some c
 | (y,d)::r,x,c,hn,hm=>by
  obtain ⟨h1,h2⟩:=List.nodup_cons.mp hn
  rw [List.lookup_cons]
  rcases List.mem_cons.mp hm with e | hm2
  ·cases e; simp
  ·have:(x == y)=false:=by
    simp only [beq_eq_false_iff_ne]
    rintro rfl
    exact h1 (List.mem_map.mpr (mEA _ hm2 rfl))
   rw [this]; exact zbo h2 hm2
theorem za0 {α:Type}:∀ {l:List (Str×α)} {x:Str},x∈l.map (·.1)->∃ c,l.lookup x=some c
 | (y,d)::r,x,hm=>by
  rw [List.lookup_cons]
  cases hb:x == y with
  | true=>exact ⟨d,rfl⟩
  | false =>
   rcases List.mem_cons.mp hm with e | hm
   ·subst e; simp at hb
   ·exact za0 hm
theorem zc9 {kindOf:Str->Option NameKind}:∀ (bs:List (Str×Value)) (m:Str->Option Value) (x:Str),(bs.map (·.1)).Nodup->kindOf x=some .local->bindL kindOf bs m x=(bs.lookup x).or (m x)
 | [],m,x,_,_=>rfl
 | (y,v)::r,m,x,hn,hx=>by
  obtain ⟨h1,h2⟩:=List.nodup_cons.mp hn
  unfold bindL
  rw [zc9 r _ x h2 hx,List.lookup_cons]
  by_cases e:x=y
  ·subst e
   rw [if_pos hx]
   have:r.lookup x=none:=by
    cases q:r.lookup x with
    | none=>rfl
    | some c=>exact absurd (List.mem_map.mpr (mEA _ (PySem.mem_of_lookup q) rfl)) h1
   simp [this]
  ·have hb:(x == y)=false:=by simpa using e
   rw [hb]
   split
   ·simp [e]
   ·rfl
theorem zde {kindOf:Str->Option NameKind}:∀ (bs:List (Str×Value)) (m:Str->Option Value) (x:Str),(bs.map (·.1)).Nodup->kindOf x≠some .local->bindC kindOf bs m x=(bs.lookup x).or (m x)
 | [],m,x,_,_=>rfl
 | (y,v)::r,m,x,hn,hx=>by
  obtain ⟨h1,h2⟩:=List.nodup_cons.mp hn
  unfold bindC
  rw [zde r _ x h2 hx,List.lookup_cons]
  by_cases e:x=y
  ·subst e
   rw [if_neg hx]
   have:r.lookup x=none:=by
    cases q:r.lookup x with
    | none=>rfl
    | some c=>exact absurd (List.mem_map.mpr (mEA _ (PySem.mem_of_lookup q) rfl)) h1
   simp [this]
  ·have hb:(x == y)=false:=by simpa using e
   rw [hb]
   split
   ·rfl
   ·simp [e]
theorem zeR {h:Heap} {D:Addr->Prop}:∀ (bv:List (Str×V)) (binds:List (Str×Value)),binds.map (·.1)=bv.map (·.1)->AbsL W.clsA D h (bv.map (·.2)) (binds.map (·.2))->∀ {x:Str} {v:V},bv.lookup x=some v->∃ y,binds.lookup x=some y/\Abs W.clsA D h v y
 | (a,u)::r,(b,z)::q,hn,hv,x,v,hx=>by
  simp only [List.map_cons,List.cons.injEq] at hn
  obtain ⟨rfl,hn⟩:=hn
  simp only [List.map_cons] at hv
  refine zd hv fun y ys e a1 a2=>?_
  cases e
  rw [List.lookup_cons] at hx ⊢
  cases hb:x == b with
  | true=>rw [hb] at hx; cases hx; exact mEA z rfl a1
  | false=>rw [hb] at hx; exact zeR r q hn a2 hx
 | [],_,_,_,_,_,hx=>by exact absN hx
 | _::_,[],hn,_,_,_,_=>by cases hn
structure DefOK (fd:FuncData) (body:List Stmt) (pn:List Str):Prop where
 body:fd.body=.stmts body
 clo:fd.closure=[]
 glob:fd.globals=mainGlobals
 blt:fd.builtins=builtinsNs
 kind:fd.scope.kind=.function
 co:fd.scope.isCoroutine=false
 gen:fd.scope.isGenerator=false
 nodup:(ownNames fd.scope).Nodup
 nocd:(ownNames fd.scope).all (· != ("__classdict__" : Str))=true
 nn:(fd.scope.names.map (·.1)).Nodup
 pnn:pn.Nodup
 pk:∀ x∈pn,fd.scope.names.lookup x=some NameKind.local∨fd.scope.names.lookup x=some NameKind.cell
 npos:fd.scope.names.lookup (".0" : Str)≠some NameKind.cell
end
set_option backward.match.sparseCases true
section
variable {fnA:Fn->Addr} {own:List Addr}
theorem zhC {fd:FuncData} {body:List Stmt} {pn:List Str} (D:DefOK fd body pn) (G:Gd W frs H s.heap) (hsz:W.base.objs.size<=s.heap.objs.size) {a:Addr} {bv:List (Str×V)} {binds:List (Str×Value)}
  (hp:bv.map (·.1)=pn) (hn:binds.map (·.1)=bv.map (·.1)) (hv:AbsL W.clsA (W.D H) s.heap (bv.map (·.2)) (binds.map (·.2)))
  {env:Env} (he:env=newEnv fd.scope s.heap.objs.size fd.globals (cellsFrom (s.heap.objs.size+1) fd.scope.names []) (fd.qualname++".<locals>.") (some a) fd.code none fd.builtins)
  {s':Shared} (x:InCallC s env.locals (bindL env.kindOf binds fun _=>none) env.cells (bindC env.kindOf binds fun _=>none) s') :
  Gd (W.withP [env.locals]) (env::frs) H s'.heap/\Fits (W.withP [env.locals]) (env::frs) env (scOf fd) ((ownNames fd.scope).map fun x=>bv.lookup x) H s'.heap:=by
 subst he
 have keep:=x.toInCall.keep
 have big:∀ c,s.heap.objs.size<=c->H c=none:=fun c hc=>by
  cases q:H c with
  | none=>rfl
  | some o=>refine oAEA (G.rp.2 _ _ q) fun _ ob h _=>?_; exact absurd (Heap.lt_size h) (Nat.not_lt.mpr hc)
 have bfr:∀ c,s.heap.objs.size<=c->c∉frA frs:=fun c hc q=>by
  refine oAEA (G.ff.mem q) fun _ o ho _=>?_
  exact absurd (Heap.lt_size ho) (Nat.not_lt.mpr hc)
 have hbn:∀ c,s.heap.objs.size<=c->W.base.get? c=none:=fun c hc=>by
  cases q:W.base.get? c with
  | none=>rfl
  | some o=>exact absurd (Heap.lt_size q) (Nat.not_lt.mpr (Nat.le_trans hsz hc))
 have hnb:(binds.map (·.1)).Nodup:=by rw [hn,hp]; exact D.pnn
 have keys:((cellsFrom (s.heap.objs.size+1) fd.scope.names []).map (·.1)).Nodup:=by
  rw [zA]
  simp only [List.map_nil,List.append_nil]
  exact List.pairwise_reverse.mpr (((List.Sublist.map _ List.filter_sublist).nodup D.nn).imp fun h=>Ne.symm h)
 have lkm:∀ {x:Str} {c:Addr},(x,c)∈cellsFrom (s.heap.objs.size+1) fd.scope.names []->(cellsFrom (s.heap.objs.size+1) fd.scope.names []).lookup x=some c:=fun hm=>zbo keys hm
 have hns:s'.heap.Ns s.heap.objs.size _:=x.toInCall.ns
 have habs:∀ b∈[s.heap.objs.size],s.heap.get? b=none/\∃ o,s'.heap.get? b=some o:=fun b hb=>by
  obtain rfl:=List.mem_singleton.mp hb
  refine zgK (id hns) fun oL es ep hoL _=>?_
  exact mAE (Heap.get?_none_of_le (Nat.le_refl _)) oL hoL
 have GP:=G.inP keep habs
 have kin:KeepV (W.D H) s.heap ((W.withP [s.heap.objs.size]).D H) s'.heap:=zbJ keep fun b hb=>(habs b hb).1
 refine ⟨⟨GP.rp,fun L hL=>?_,⟨by show fd.scope.kind≠_; rw [D.kind]; decide,?_,Heap.FunFrames.of_keeps (fun b o e _=>(mEA o (keep b o e) rfl)) G.ff⟩,GP.pv,fun L hL=>?_⟩,?_⟩
 ·rcases List.mem_cons.mp (show L∈s.heap.objs.size::frA frs from hL) with rfl | hL
  ·exact big _ (Nat.le_refl _)
  ·exact G.apart L hL
 ·refine zaP (id hns) fun oL es ep hoL hdL _=>?_
  exact zx s.heap.objs.size oL rfl (hbn _ (Nat.le_refl _)) hoL (fun vs q=>by rw [hdL] at q; exact absD q rfl)
 ·rcases List.mem_cons.mp (show L∈s.heap.objs.size::frA frs from hL) with rfl | hL
  ·exact .inr (.head _)
  ·exact .inl (G.fp L hL)
 ·refine ⟨D.kind,rfl,D.glob,D.blt,hsz,big _ (Nat.le_refl _),D.nodup,D.nocd,List.length_map _,(mEA s.heap.objs.size rfl (by exact List.mem_cons_self)),fun y c hm=>?_,fun y z c h1 h2=>name_of_addr x.apart h1 h2,fun y hk=>?_,_,hns,fun i y v hi hg=>?_⟩
  ·have hlt:s.heap.objs.size < c:=x.above y c hm
   refine zhv (Nat.le_trans hsz (Nat.le_of_lt hlt)) (big c (Nat.le_of_lt hlt)) (fun q=>?_) _ (x.cell y c (lkm hm))
   rcases List.mem_cons.mp (show c∈s.heap.objs.size::frA frs from q) with e | q
   ·exact absurd hlt (by rw [e]; exact Nat.lt_irrefl _)
   ·exact bfr c (Nat.le_of_lt hlt) q
  ·have hk:fd.scope.names.lookup y=some NameKind.cell:=hk
   refine za0 (l:=cellsFrom (s.heap.objs.size+1) fd.scope.names []) ?_
   rw [zA]
   simp only [List.map_nil,List.append_nil,List.mem_reverse]
   exact List.mem_map.mpr (mEA ((y,NameKind.cell)) (List.mem_filter.mpr ⟨PySem.mem_of_lookup hk,rfl⟩) rfl)
  ·have hi:(ownNames fd.scope)[i]?=some y:=hi
   have hg:bv.lookup y=some v:=by
    unfold lget at hg
    rw [List.getElem?_map,hi] at hg
    simpa using hg
   refine oEA (zeR (W:=W) bv binds hn hv hg) fun z hz az=>?_
   refine mEA z (Abs.keeps kin _ _ az) ?_
   have hy:y∈pn:=by rw [<- hp]; exact List.mem_map.mpr (mEA _ (PySem.mem_of_lookup hg) rfl)
   rcases D.pk y hy with hk | hk
   ·refine .inl ⟨hk,?_⟩
    rw [zc9 binds _ y hnb hk,hz]; rfl
   ·refine .inr ⟨.inl hk,?_⟩
    obtain ⟨c,hc⟩:∃ c,(cellsFrom (s.heap.objs.size+1) fd.scope.names []).lookup y=some c:=by
     refine za0 ?_
     rw [zA]
     simp only [List.map_nil,List.append_nil,List.mem_reverse]
     exact List.mem_map.mpr (mEA ((y,NameKind.cell)) (List.mem_filter.mpr ⟨PySem.mem_of_lookup hk,rfl⟩) rfl)
    refine mEA c hc ?_
    have:=x.cell y c hc
    rw [zde binds _ y hnb (by show fd.scope.names.lookup y≠_; rw [hk]; decide),hz] at this
    exact this
theorem zgx (O:Wok W fnA) (SA:∀ q,SpecsOk (W.ofP q) fnA lev S) (R:Rm (lev+1) A frs) (G:Gd W frs H s.heap) (hsz:W.base.objs.size<=s.heap.objs.size) {a:Addr} {ob:Obj} {fd:FuncData} {body:List Stmt} {pn:List Str}
  (hK:W.K.lookup a=some ob) (hd:ob.data=.func fd) (hcd:codeIn W.K fd.code fd.qualname=true) (D:DefOK fd body pn) {cs:List CS} (hcs:mapO ((scOf fd).cs n) body=some cs) {xs:List Value} {bv:List (Str×V)} {binds:List (Str×Value)}
  (hb:BindsTo s fd ⟨xs,[]⟩ binds) (hp:bv.map (·.1)=pn) (hn:binds.map (·.1)=bv.map (·.1)) (hv:AbsL W.clsA (W.D H) s.heap (bv.map (·.2)) (binds.map (·.2)))
  (h:wpBody S cs ((ownNames fd.scope).map fun x=>bv.lookup x) H (Back Q) (fun H'=>∃ H'',Sub H'' H'/\X H'')):codeAny W.M A (.call (.ref a) ⟨xs,[]⟩) (fun r s'=>match r with | .ok (.ret v)=>EPost W frs H s Q v s' | .ok _=>False | .error e=>XPost W frs H s X e s') s:=by
 have KI:W.K.In s.heap:=fun b o e=>G.rp.1 b o (O.kin b o e)
 refine codeAny_call_function (Nat.lt_of_le_of_lt (by exact #[0x2c01051182411411,_,_] ) R.depth) (KI _ _ hK) hd D.co D.gen D.body (codeRec_of KI hcd) (hb _ _ _ _ ?_)
 rw [D.clo]
 refine wpAny_newFunctionEnv_cells D.kind (fun y hy=>?_) fun env he s' x=>?_
 ·have hy:y.1∈pn:=by rw [<- hp,<- hn]; exact List.mem_map.mpr (mEA _ hy rfl)
  rcases D.pk _ hy with hk | hk
  ·exact .inl hk
  ·refine .inr ⟨hk,Option.isSome_iff_exists.mpr (za0 ?_)⟩
   rw [zA]
   simp only [List.map_nil,List.append_nil,List.mem_reverse]
   exact List.mem_map.mpr (mEA ((y.1,NameKind.cell)) (List.mem_filter.mpr ⟨PySem.mem_of_lookup hk,rfl⟩) rfl)
 ·obtain ⟨G',F'⟩:=zhC D G hsz hp hn hv he x
  have keep:=x.toInCall.keep
  refine ⟨O.nolimit.keeps G'.rp.1,codeAny_func ?_⟩
  have R':Rm lev (A.deeper env) (env::frs):=⟨Nat.lt_of_le_of_lt (by show A.depth+1+_+_<=_; exact #[0x2c010511824112c0518210411111,_,_] ) R.depth,Nat.lt_of_le_of_lt (by show A.units+3+_+_<=_; exact #[0x39801051188241139805188230411111,_,_] ) R.units,R.quiet,by show A.frames.map _=_; rw [R.frames]; rfl⟩
  refine oEE x.toInCall.same fun hh tk hs'=>?_
  have hos:s'.os=s.os:=by rw [hs']
  have hgs:s'.gens=s.gens:=by rw [hs']
  have fresh:∀ b o,s.heap.get? b=some o->b∉ownOf env/\env.locals≠b:=fun b o e=>by
   have hL:env.locals=s.heap.objs.size:=by rw [he]; rfl
   refine ⟨fun q=>?_,fun q=>absurd (Heap.lt_size e) (by rw [<- q,hL]; exact Nat.lt_irrefl _)⟩
   rcases List.mem_cons.mp q with q | q
   ·exact absurd (Heap.lt_size e) (by rw [q,hL]; exact Nat.lt_irrefl _)
   ·refine oEA (List.mem_map.mp q) fun yA hm hc=>?_; obtain ⟨y,c⟩:=yA
    have hc:c=b:=hc
    have h7:s.heap.objs.size < c:=by rw [<- hL]; exact x.above y c hm
    exact absurd (Heap.lt_size e) (by rw [<- hc]; exact Nat.not_lt.mpr (Nat.le_of_lt h7))
  have frm:env.frame=some env.locals:=by rw [he]; rfl
  have notfr:∀ b o,s.heap.get? b=some o->b∉frA frs->b∉frA (env::frs):=fun b o e hb q=>by
   unfold frA at q
   rw [List.filterMap_cons,frm] at q
   rcases List.mem_cons.mp q with q | q
   ·exact (fresh b o e).2 q.symm
   ·exact hb q
  have infr:∀ b,b∈frA frs->b∈frA (env::frs):=fun b q=>by
   unfold frA
   rw [List.filterMap_cons,frm]
   exact List.mem_cons_of_mem _ q
  refine wpAny_mono (zbf (zlc O SA n) (W.withP [env.locals]).priv body cs hcs (A.deeper env) (env::frs) env s' _ H (fun _ H=>Back Q .none H) (Back Q) (fun _ H'=>∃ H'',Sub H'' H'/\X H'') _ R' rfl G' F' PassesOwn.leaving (fun e sC z=>?_) h) (fun fl sC z=>?_) fun _ _ z=>z
  ·obtain ⟨m',H',xa,FD,H'',hsub,hX⟩:=z
   refine zB xa.fly fun ea a0 b' hea f r k=>?_
   subst hea
   refine zhh (by show A.frames.map _=_; rw [R.frames]; rfl) frm f fun h' f' up=>?_
   refine mEA H'' (XAt.sub ⟨(zS ea a0 b' rfl f' r.outP (fun b o e n _ g=>k b o (keep b o e) n (fresh b o e).1 (notfr b o e g))),fun L hL=>xa.apart L (infr L hL),fun b o e n g _=>?_,fun b o e n=>xa.new b o (keep b o e) n,fun b o e n=>?_,xa.os.trans hos,xa.gens.trans hgs⟩ hsub) hX
   ·obtain ⟨sl,q⟩:=xa.slots b o (keep b o e) n (infr b g) (fresh b o e).1
    refine oAEA (G.ff.mem g) fun _ o' ho' nf=>?_
    obtain ⟨sl',q'⟩:=up b _ q (by rw [e] at ho'; cases ho'; exact nf)
    exact ⟨sl',q'⟩
   ·by_cases g:b∈frA frs
    ·obtain ⟨sl,q⟩:=xa.slots b o (keep b o e) n (infr b g) (fresh b o e).1
     refine oAEA (G.ff.mem g) fun _ o' ho' nf=>?_
     obtain ⟨sl',q'⟩:=up b _ q (by rw [e] at ho'; cases ho'; exact nf)
     exact ⟨_,q'⟩
    ·exact ⟨o,f'.1 b o (k b o (keep b o e) n (fresh b o e).1 (notfr b o e g))⟩
  ·refine zd z fun m' H' fa st FD=>?_
   have fin:∀ (v:V) (y:Value),Abs W.clsA ((W.withP [env.locals]).D H') sC.heap v y->Back Q v H'->EPost W frs H s Q y sC:=fun v y ay z9=>zd z9 fun v' H'' hsub hf hq=>by
    refine ⟨v',H'',Abs.keeps zbu _ _ (FrzV.abs st.gd hsub hf ay),⟨(st.gd.rp.sub hsub).outP,fun L hL=>zL hsub (st.gd.apart L (infr L hL)),st.gd.ff.2.2,(fun a p=>let ⟨n,e⟩:=st.gd.pv a (.inl p); ⟨zL hsub n,e⟩),G.fp⟩,
     ⟨fun b o e n _ g=>st.ext.keep b o (keep b o e) n (fresh b o e).1 (notfr b o e g),fun b o e n g _=>st.ext.slots b o (keep b o e) n (infr b g) (fresh b o e).1,fun b o e n=>zL hsub (st.ext.new b o (keep b o e) n),fun b o e n=>st.ext.there b o (keep b o e) n⟩,
     st.os.trans hos,st.gens.trans hgs,hq⟩
   induction fa using SEnd.casesOn with
   | next q=>exact fin _ _ zO q
   | ret ay q=>exact fin _ _ ay q
end
set_option backward.match.sparseCases false
section
variable {α:Type} {M:Model}
theorem zjM {a:Addr} {p:Option Value} {k:Obj->Sem α} {o:Obj} {Q:α->Shared->Prop} (ho:s.heap.get? a=some o) (h:wpAny M A (k o) Q E s):wpAny M A (.load a p k) Q E s:=fun Γ q hΓ hc=>(mEA o ho (h Γ q hΓ hc))
end
section
variable {prog:Program} {w:World} {K:Frag} {R:Result->Shared->Prop}
set_option maxHeartbeats 4000000 in
theorem makeC {rest:List Value} {kw:List (Str×Value)} {init:Value} (Y:Makes (model prog w) h C) (hi:Looks (model prog w) h (typeLookup (.ref C) "__init__") (some init))
  (hb:∀ self,Looks (model prog w) h (bindSpecial init self) (init,[self])) (hne:(some init != some (Value.builtin "object.__init__"))=true∨(rest=[]∧kw=[]))
  (hq:codeAny (model prog w) (A.under (.builtin "type.__call__" ⟨.ref C::rest,kw⟩)) (.call init ⟨.ref (h.objs.size+1)::rest,kw⟩) (InitBack (h.objs.size+1) R) ⟨(h.push emptyDict).push (instObj C h.objs.size),g,d,t,os⟩) :
  codeAny (model prog w) A (.call (.ref C) ⟨rest,kw⟩) R ⟨h,g,d,t,os⟩:=by
 have Y':=Y
 obtain ⟨⟨oc,od,cd,sl,hC,e1,e2,e4⟩,made,base,self,top,call,typ⟩:=Y
 refine codeAny_of_tree rfl ?_
 show wpAny _ _ (callAny (.ref C) _) _ _ _
 refine zjM hC ?_
 show wpAny _ _ (callAny.viaDunder (.ref C) _) _ _ _
 unfold callAny.viaDunder
 refine wpAny_bind (lift (call.at ?_))
 dsimp only
 rw [tc_bind]
 refine wpAny_bind (wpAny_pure (wpAny_bind (wpAny_pure ?_)))
 refine wpAny_pure (a:=Fin.again (.call (.builtin "type.__call__") ⟨.ref C::rest,kw⟩)) (And.intro rfl ?_)
 refine codeAny_call_builtin (quiet_typeCall _) clean_typeCall entry_typeCall (lift (check_slot tc_kind tc_split typ (tc_args _ _ _) ?_))
 have hm:Looks (model prog w) h (mroOf (.ref C)) cd.mro:=((Looks.ld (part:=none) hC).andThen .now).andThen .now
 unfold Builtin.«type.__call__»
 refine wpAny_bind (lift (hm.at ?_))
 rw [e4]
 refine wpAny_bind (lift (made.at ?_))
 refine wpAny_bind (wpAny_pure (wpAny_bind (wpAny_holding (wpAny_call (liftC (new_K Y' hi hne ?_))))))
 have k:∀ b o,h.get? b=some o->((h.push emptyDict).push (instObj C h.objs.size)).get? b=some o:=fun b o e=>Heap.get?_push_of_some _ (Heap.get?_push_of_some _ e)
 have hx:((h.push emptyDict).push (instObj C h.objs.size)).get? (h.objs.size+1)=some (instObj C h.objs.size):=by heap_get
 have t1:Looks (model prog w) ((h.push emptyDict).push (instObj C h.objs.size)) (typeOf (.ref (h.objs.size+1))) (.ref C):=(Looks.ld hx).andThen .now
 have i1:=hi.keeps k
 have b1:=(hb (.ref (h.objs.size+1))).keeps k
 have is1:Looks (model prog w) ((h.push emptyDict).push (instObj C h.objs.size)) (isInstance (.ref (h.objs.size+1)) (.ref C)) true:=t1.andThen (self.keeps k)
 refine wpAny_bind (lift (is1.at ?_))
 refine wpAny_bind (wpAny_holding ?_)
 unfold callSpecial? specialOf
 refine wpAny_bind (wpAny_bind (lift (t1.at (lift (i1.at ?_)))))
 refine wpAny_holding (wpAny_bind (lift (b1.at ?_)))
 refine wpAny_bind (wpAny_call (codeAny_mono hq fun r s' z=>?_))
 induction r using Except.casesOn with
 | error e=>exact z
 | ok f =>
  induction f using PySem.Flow.casesOn with
  | ret v =>
   obtain ⟨rfl,z⟩:=z
   exact wpAny_pure (wpAny_pure z)
  | _=>exact z.elim
end
set_option backward.match.sparseCases true
section
variable {fnA:Fn->Addr} {own:List Addr}
theorem zl8 (O:Wok W fnA) (SA:∀ q,SpecsOk (W.ofP q) fnA lev S) (R:Rm (lev+1) A frs) (G:Gd W frs H s.heap) (hsz:W.base.objs.size<=s.heap.objs.size) {a:Addr} {ob:Obj} {fd:FuncData} {body:List Stmt} {pn:List Str}
  (hK:W.K.lookup a=some ob) (hd:ob.data=.func fd) (hcd:codeIn W.K fd.code fd.qualname=true) (D:DefOK fd body pn) {cs:List CS} (hcs:mapO ((scOf fd).cs n) body=some cs) {xs:List Value} {bv:List (Str×V)} {binds:List (Str×Value)}
  (hb:BindsTo s fd ⟨xs,[]⟩ binds) (hp:bv.map (·.1)=pn) (hn:binds.map (·.1)=bv.map (·.1)) (hv:AbsL W.clsA (W.D H) s.heap (bv.map (·.2)) (binds.map (·.2)))
  (h:wpBody S cs ((ownNames fd.scope).map fun x=>bv.lookup x) H (Back Q) (fun H'=>∃ H'',Sub H'' H'/\X H'')):wpAny W.M A (call (.ref a) xs) (EPost W frs H s Q) (XPost W frs H s X) s :=
 wpAny_call (zgx O SA R G hsz hK hd hcd D hcs hb hp hn hv h)
theorem Rm.under (R:Rm lev A frs) {l:Nat} (hl:l+1≤lev) {C:Addr} {rest:List Value} {kw:List (Str×Value)}:Rm l (A.under (.builtin "type.__call__" ⟨.ref C::rest,kw⟩)) frs:=by
 have hw:(Code.builtin "type.__call__" ⟨.ref C::rest,kw⟩).weight≤1:=by
  unfold Code.weight
  have h1:(Code.builtin "type.__call__" ⟨.ref C::rest,kw⟩).frames=0:=rfl
  have h2:(Code.builtin "type.__call__" ⟨.ref C::rest,kw⟩).isCreation=true:=rfl
  have h3:(Code.builtin "type.__call__" ⟨.ref C::rest,kw⟩).isGuard=false:=by show guardIds.contains "type.__call__"=false; decide +kernel
  have h4:(Code.builtin "type.__call__" ⟨.ref C::rest,kw⟩).isCaller=false:=rfl
  rw [h1,h2,h3,h4]; decide
 have hu:(Code.builtin "type.__call__" ⟨.ref C::rest,kw⟩).cUnits=1:=rfl
 refine ⟨Nat.lt_of_le_of_lt ?_ R.depth,Nat.lt_of_le_of_lt ?_ R.units,R.quiet,?_⟩
 ·show A.depth+_+_+_<=_; exact #[0x2c051827112c041826711111106115104111,_,_,_,_] hl hw
 ·show A.units+_+_+_<=_; rw [hu]; exact #[0x398051882611398041882106111115104111,_,_,_] hl
 ·show pushEnvs (Code.builtin "type.__call__" ⟨.ref C::rest,kw⟩).envs A.frames=_
  rw [R.frames]; rfl
theorem zlJ (O:Wok W fnA) (SA:∀ q,SpecsOk (W.ofP q) fnA lev S) (R:Rm (lev+2) A frs) (G:Gd W frs H s.heap) (hsz:W.base.objs.size<=s.heap.objs.size) {c:Cls} {a:Addr} {ob:Obj} {fd:FuncData} {body:List Stmt} {pn:List Str}
  (hmk:makesIn W.K (W.clsA c)=true) (hi:findIn W.K (.ref (W.clsA c)) "__init__"=some (some (.ref a))) (hf:typeIn W.K (.ref a)=some (.type "function"))
  (hK:W.K.lookup a=some ob) (hd:ob.data=.func fd) (hcd:codeIn W.K fd.code fd.qualname=true) (D:DefOK fd body pn) {cs:List CS} (hcs:mapO ((scOf fd).cs n) body=some cs) {xs:List Value} {bvf:V->List (Str×V)} {bindf:Value->List (Str×Value)}
  (hb:∀ x s',(∀ b o,s.heap.get? b=some o->s'.heap.get? b=some o)->BindsTo s' fd ⟨x::xs,[]⟩ (bindf x)) (hp:∀ v,(bvf v).map (·.1)=pn) (hn:∀ x v,(bindf x).map (·.1)=(bvf v).map (·.1))
  (hv:∀ (D:Addr->Prop) h x v,KeepV (W.D H) s.heap D h->Abs W.clsA D h v x->AbsL W.clsA D h ((bvf v).map (·.2)) ((bindf x).map (·.2)))
  (h:∀ x dx,H x=none->H dx=none->wpBody S cs ((ownNames fd.scope).map fun y=>(bvf (.inst c x dx)).lookup y) (H.set dx (.fields [])) (Back fun v H'=>v=.none/\Q (.inst c x dx) H') (fun H'=>∃ H'',Sub H'' H'/\X H'')) :
  wpAny W.M A (call (.ref (W.clsA c)) xs) (EPost W frs H s Q) (XPost W frs H s X) s:=by
 have KI:W.K.In s.heap:=fun b o e=>G.rp.1 b o (O.kin b o e)
 obtain ⟨hh,g,d,t,os⟩:=s
 refine wpAny_call (makeC (makes_of KI hmk) (looks_findIn KI hi) (fun self=>bind_fn KI self hf) (.inl rfl) ?_)
 have st1:Step W frs H ⟨hh,g,d,t,os⟩ (H.set hh.objs.size (.fields [])) ⟨hh.push emptyDict,g,d,t,os⟩:=za9 (s:=⟨hh,g,d,t,os⟩) G hsz rfl (mEEA ([]) 0 rfl (rfl))
 have st2:=st1.trans (Step.push st1.gd (instObj (W.clsA c) hh.objs.size))
 have hD:¬ W.D (H.set hh.objs.size (.fields [])) (hh.objs.size+1):=by
  have:=zcs (s:=⟨hh.push emptyDict,g,d,t,os⟩) st1.gd
  rwa [show (hh.push emptyDict).objs.size=hh.objs.size+1 from Heap.size_push ..] at this
 have av:Abs W.clsA (W.D (H.set hh.objs.size (.fields []))) ((hh.push emptyDict).push (instObj (W.clsA c) hh.objs.size)) (.inst c (hh.objs.size+1) hh.objs.size) (.ref (hh.objs.size+1)):=by
  refine mAAE rfl hD (#[]) ?_
  have:=Heap.get?_push_size (hh.push emptyDict) (o:=instObj (W.clsA c) hh.objs.size) rfl
  rwa [show (hh.push emptyDict).objs.size=hh.objs.size+1 from Heap.size_push ..] at this
 have hx:H (hh.objs.size+1)=none:=by
  cases q:H (hh.objs.size+1) with
  | none=>rfl
  | some o=>refine oAEA (G.rp.2 _ _ q) fun _ ob e _=>?_; exact absurd (Heap.lt_size e) (by show ¬ _ < hh.objs.size; exact #[0x41041261,_] )
 have hsz2:W.base.objs.size<=((hh.push emptyDict).push (instObj (W.clsA c) hh.objs.size)).objs.size:=by
  rw [Heap.size_push,Heap.size_push]; exact Nat.le_trans hsz (by show hh.objs.size<=_; exact #[0x1010411411,_] )
 refine codeAny_mono (zgx O SA (R.under (Nat.le_refl _)) st2.gd hsz2 hK hd hcd D hcs (hb _ _ fun b o e=>Heap.get?_push_of_some _ (Heap.get?_push_of_some _ e)) (hp _) (hn _ (.inst c (hh.objs.size+1) hh.objs.size))
  (hv _ _ _ _ st2.ext.toKeep.v av) (h _ _ hx (zQ G))) fun r s' z=>?_
 induction r using Except.casesOn with
 | error e =>
  refine oEA z fun H' x1 x2=>?_
  exact mEA H' (x1.trans st2.ext st2.os st2.gens) x2
 | ok f =>
  induction f using PySem.Flow.casesOn with
  | ret v =>
   refine zeX z fun v' H' ay g' e' o' n' hz hq=>?_
   subst hz
   have hv:v=.none:=ay
   refine zhB hv (.inst c (hh.objs.size+1) hh.objs.size) H' ?_ g' (st2.ext.trans e') (o'.trans st2.os) (n'.trans st2.gens) hq
   exact Abs.keeps e'.toKeep.v _ _ av
  | _=>exact z.elim
end
set_option backward.match.sparseCases false
end Mine
end
section
open PySem PySem.W PyProof.Rows
namespace Mine
noncomputable def kcls:Cls->Addr
 | .preader=>153
 | .treader=>194
 | .ltable=>220
 | .pwriter=>255
 | .lreader=>368
 | .lwriter=>438
noncomputable def fnA:Fn->Addr
 | .countsByLength=>78 | .roomOf=>85 | .checkLengths=>93 | .greatestLength=>100 | .firstCodes=>107 | .canonical=>114 | .turned=>121 | .byLength=>128
 | .mkPReader=>153 | .mkTReader=>194 | .mkLTable=>220 | .mkPWriter=>255 | .mkLReader=>368 | .mkLWriter=>438
 | .needCount=>266 | .needValue=>273 | .endOf=>280 | .gathered=>287
 | .lawJar=>449 | .lawPick=>456 | .lawLengths=>463 | .lawOctet=>470 | .lawCodes=>475 | .lawRead=>482 | .lawSaid=>487 | .lawMany=>492 | .lawWritten=>497 | .lawTorn=>502 | .law=>507
 | .prRead=>150 | .trEnter=>179 | .trRead=>186 | .ltRead=>217 | .pwCost=>245 | .pwWrite=>252
 | .lrLeft=>309 | .lrPeek=>316 | .lrSkip=>323 | .lrBits=>330 | .lrBit=>337 | .lwBits=>393 | .lwCode=>407 | .lwSize=>428 | .lwDone=>435
theorem kdict {K:Frag} {C:Addr} (h:(clsIn K C).any (·.hasDict)=true):∃ cd,clsIn K C=some cd/\cd.hasDict=true:=Option.any_eq_true_iff_get _ _ |>.mp h |> fun ⟨a,b⟩=>(mEA _ ((Option.some_get a).symm) b)
theorem kcok (P:Params):∀ c,ClsOK (kf.heap_1 P) (kcls c):=fun c=>by
 induction c using Cls.casesOn <;> exact ⟨by rfl',by rfl',by rfl',kdict (by rfl'),by rfl',fun nm=>by induction nm using At.casesOn <;> kernel_rfl⟩
noncomputable def okRef (v:Option (Option Value)) (a:Addr):Bool:=match v with
 | some (some (.ref b))=>b == a
 | _=>false
theorem zga {v:Option (Option Value)} {a:Addr} (h:okRef v a=true):v=some (some (.ref a)):=by
 rcases v with _ | _ | v
 ·exact absB h
 ·exact absB h
 ·induction v using Value.casesOn with
  | ref b=>rw [show b=a from of_decide_eq_true h]
  | _=>exact absB h
noncomputable def okNone (v:Option (Option Value)):Bool:=match v with
 | some none=>true
 | _=>false
theorem zjd {v:Option (Option Value)} (h:okNone v=true):v=some none:=by
 rcases v with _ | _ | v
 ·exact absB h
 ·rfl
 ·exact absB h
noncomputable def okFun (v:Option Value):Bool:=match v with
 | some (.type n)=>n == "function"
 | _=>false
theorem zkO {v:Option Value} (h:okFun v=true):v=some (.type "function"):=by
 rcases v with _ | v
 ·exact absB h
 ·induction v using Value.casesOn with
  | type b=>rw [show b="function" from of_decide_eq_true h]
  | _=>exact absB h
noncomputable def gchk (K:Frag) (p:Str×G):Bool:=match p.2 with
 | .fn f=>okRef (nsIn K mainGlobals p.1) (fnA f)&&keepIn K (.ref (fnA f))
 | _=>true
theorem zcV {x:Str} {g:G} (h:globals.lookup x=some g):(x,g)∈globals:=by
 refine oEEA (List.lookup_eq_some_iff.mp h) fun l1 l2 e _=>?_
 rw [e]; exact List.mem_append_right _ (.head _)
theorem zjL (P:Params):globals.all (gchk (kf.heap_1 P))=true:=by rfl'
theorem kfn (P:Params):∀ x f,globals.lookup x=some (.fn f)->nsIn (kf.heap_1 P) mainGlobals x=some (some (.ref (fnA f)))/\keepIn (kf.heap_1 P) (.ref (fnA f))=true:=fun x f h =>
 have k:(okRef (nsIn (kf.heap_1 P) mainGlobals x) (fnA f)&&keepIn (kf.heap_1 P) (.ref (fnA f)))=true:=List.all_eq_true.mp (zjL P) _ (zcV h)
 ⟨zga (Bool.and_eq_true_iff.mp k).1,(Bool.and_eq_true_iff.mp k).2⟩
noncomputable def numIn (v:Option (Option Value)) (i:Int):Bool:=match v with
 | some (some (.int j _))=>j == i
 | _=>false
theorem zjy {v:Option (Option Value)} {i:Int} (h:numIn v i=true):∃ t,v=some (some (.int i t)):=by
 rcases v with _ | _ | v
 ·exact absB h
 ·exact absB h
 ·induction v using Value.casesOn with
  | int j t=>exact ⟨t,by rw [show j=i from of_decide_eq_true h]⟩
  | _=>exact absB h
noncomputable def nchk (K:Frag) (p:Str×G):Bool:=match p.2 with
 | .num i=>numIn (nsIn K mainGlobals p.1) i
 | _=>true
theorem zjj (P:Params):globals.all (nchk (kf.heap_1 P))=true:=by rfl'
theorem knum (P:Params):∀ x i,globals.lookup x=some (.num i)->∃ t,nsIn (kf.heap_1 P) mainGlobals x=some (some (.int i t)):=fun x i h=>zjy (List.all_eq_true.mp (zjj P) _ (zcV h))
theorem kblt (P:Params):∀ x∈([("len" : Str),"max","min","sorted","sum","list","bytes","bytearray","isinstance","int","bool","range","enumerate","zip"] : List Str),nsIn (kf.heap_1 P) mainGlobals x=some none:=by
 have h:(([("len" : Str),"max","min","sorted","sum","list","bytes","bytearray","isinstance","int","bool","range","enumerate","zip"] : List Str).all fun x=>okNone (nsIn (kf.heap_1 P) mainGlobals x))=true:=by rfl'
 exact fun x hx=>zjd (List.all_eq_true.mp h x hx)
noncomputable def mchk (K:Frag) (c:Cls) (nm:MName):Bool:=match userFn c nm with
 | some f=>okRef (findIn K (.ref (kcls c)) nm.str) (fnA f)&&(okFun (typeIn K (.ref (fnA f)))&&keepIn K (.ref (fnA f)))
 | none=>true
noncomputable def allM:List MName:=[.append,.insert,.index,.get,.join,.bit,.bits,.peek,.skip,.left,.read,.enter,.cost,.write,.code,.size,.done]
theorem zkb (nm:MName):nm∈allM:=List.mem_of_getElem? (i:=nm.ctorIdx) (by induction nm using MName.casesOn <;> rfl)
theorem zkL (P:Params) (c:Cls):allM.all (mchk (kf.heap_1 P) c)=true:=by induction c using Cls.casesOn <;> kernel_rfl
theorem kmeth (P:Params):∀ c nm f,userFn c nm=some f→findIn (kf.heap_1 P) (.ref (kcls c)) nm.str=some (some (.ref (fnA f)))∧typeIn (kf.heap_1 P) (.ref (fnA f))=some (.type "function")∧keepIn (kf.heap_1 P) (.ref (fnA f))=true:=fun c nm f h=>by
 have k:mchk (kf.heap_1 P) c nm=true:=List.all_eq_true.mp (zkL P c) nm (zkb nm)
 unfold mchk at k
 rw [h] at k
 have k:(okRef (findIn (kf.heap_1 P) (.ref (kcls c)) nm.str) (fnA f)&&(okFun (typeIn (kf.heap_1 P) (.ref (fnA f)))&&keepIn (kf.heap_1 P) (.ref (fnA f))))=true:=k
 obtain ⟨k1,k⟩:=Bool.and_eq_true_iff.mp k
 obtain ⟨k2,k3⟩:=Bool.and_eq_true_iff.mp k
 exact ⟨zga k1,zkO k2,k3⟩
theorem kcut (P:Params):CutOk (kf.heap_1 P) 45 :=
 ⟨_,_,_,_,_,_,_,_,_,_,_,_,_,_,_,29,_,_,"ValueError","self","reason","reason",rfl,rfl,rfl,rfl,rfl,rfl,rfl,rfl,⟨(zeW _ _ _ _ _ _ _ _ _ _ rfl rfl),rfl,rfl,rfl,rfl,rfl,rfl,by decide,rfl,rfl,rfl,by decide,by decide⟩,rfl,by decide +kernel,by decide,fun s e y X=>BindsTo.of_defaults rfl (X _ _ rfl) rfl rfl rfl⟩
theorem kexc (P:Params):nsIn (kf.heap_1 P) mainGlobals "CutShort"=some (some (.ref 45))∧exmOne (kf.heap_1 P) (.ref 45) (.ref 45)=some true:=⟨by rfl',by rfl'⟩
noncomputable def fdAt (K:Frag) (a:Addr):FuncData:=match K.lookup a with
 | some o=>(match o.data with | .func fd=>fd | _=>default)
 | _=>default
noncomputable def bodyAt (fd:FuncData):List Stmt:=match fd.body with
 | .stmts b=>b
 | _=>[]
noncomputable def coreAt (K:Frag) (a:Addr):Option (List CS):=mapO ((scOf (fdAt K a)).cs 20) (bodyAt (fdAt K a))
noncomputable abbrev CoreAt (a:Addr):Type:={ cs:List CS // ∀ P,coreAt (kf.heap_1 P) a=some cs }
end Mine
end
section
open PySem PySem.W
namespace Mine
noncomputable def c_countsByLength:CoreAt 78:=by
 refine ⟨?cs,fun P=>?h⟩
 case h=>conv=>lhs; reduce
noncomputable def c_roomOf:CoreAt 85:=by
 refine ⟨?cs,fun P=>?h⟩
 case h=>conv=>lhs; reduce
noncomputable def c_checkLengths:CoreAt 93:=by
 refine ⟨?cs,fun P=>?h⟩
 case h=>conv=>lhs; reduce
noncomputable def c_greatestLength:CoreAt 100:=by
 refine ⟨?cs,fun P=>?h⟩
 case h=>conv=>lhs; reduce
noncomputable def c_firstCodes:CoreAt 107:=by
 refine ⟨?cs,fun P=>?h⟩
 case h=>conv=>lhs; reduce
noncomputable def c_canonical:CoreAt 114:=by
 refine ⟨?cs,fun P=>?h⟩
 case h=>conv=>lhs; reduce
noncomputable def c_turned:CoreAt 121:=by
 refine ⟨?cs,fun P=>?h⟩
 case h=>conv=>lhs; reduce
noncomputable def c_byLength:CoreAt 128:=by
 refine ⟨?cs,fun P=>?h⟩
 case h=>conv=>lhs; reduce
noncomputable def c_prInit:CoreAt 143:=by
 refine ⟨?cs,fun P=>?h⟩
 case h=>conv=>lhs; reduce
noncomputable def c_prRead:CoreAt 150:=by
 refine ⟨?cs,fun P=>?h⟩
 case h=>conv=>lhs; reduce
noncomputable def c_trInit:CoreAt 172:=by
 refine ⟨?cs,fun P=>?h⟩
 case h=>conv=>lhs; reduce
noncomputable def c_trEnter:CoreAt 179:=by
 refine ⟨?cs,fun P=>?h⟩
 case h=>conv=>lhs; reduce
noncomputable def c_trRead:CoreAt 186:=by
 refine ⟨?cs,fun P=>?h⟩
 case h=>conv=>lhs; reduce
noncomputable def c_ltInit:CoreAt 210:=by
 refine ⟨?cs,fun P=>?h⟩
 case h=>conv=>lhs; reduce
noncomputable def c_ltRead:CoreAt 217:=by
 refine ⟨?cs,fun P=>?h⟩
 case h=>conv=>lhs; reduce
noncomputable def c_pwInit:CoreAt 238:=by
 refine ⟨?cs,fun P=>?h⟩
 case h=>conv=>lhs; reduce
noncomputable def c_pwCost:CoreAt 245:=by
 refine ⟨?cs,fun P=>?h⟩
 case h=>conv=>lhs; reduce
noncomputable def c_pwWrite:CoreAt 252:=by
 refine ⟨?cs,fun P=>?h⟩
 case h=>conv=>lhs; reduce
noncomputable def c_needCount:CoreAt 266:=by
 refine ⟨?cs,fun P=>?h⟩
 case h=>conv=>lhs; reduce
noncomputable def c_needValue:CoreAt 273:=by
 refine ⟨?cs,fun P=>?h⟩
 case h=>conv=>lhs; reduce
noncomputable def c_endOf:CoreAt 280:=by
 refine ⟨?cs,fun P=>?h⟩
 case h=>conv=>lhs; reduce
noncomputable def c_gathered:CoreAt 287:=by
 refine ⟨?cs,fun P=>?h⟩
 case h=>conv=>lhs; reduce
noncomputable def c_lrInit:CoreAt 302:=by
 refine ⟨?cs,fun P=>?h⟩
 case h=>conv=>lhs; reduce
noncomputable def c_lrLeft:CoreAt 309:=by
 refine ⟨?cs,fun P=>?h⟩
 case h=>conv=>lhs; reduce
noncomputable def c_lrPeek:CoreAt 316:=by
 refine ⟨?cs,fun P=>?h⟩
 case h=>conv=>lhs; reduce
noncomputable def c_lrSkip:CoreAt 323:=by
 refine ⟨?cs,fun P=>?h⟩
 case h=>conv=>lhs; reduce
noncomputable def c_lrBits:CoreAt 330:=by
 refine ⟨?cs,fun P=>?h⟩
 case h=>conv=>lhs; reduce
noncomputable def c_lrBit:CoreAt 337:=by
 refine ⟨?cs,fun P=>?h⟩
 case h=>conv=>lhs; reduce
noncomputable def c_lwInit:CoreAt 386:=by
 refine ⟨?cs,fun P=>?h⟩
 case h=>conv=>lhs; reduce
noncomputable def c_lwBits:CoreAt 393:=by
 refine ⟨?cs,fun P=>?h⟩
 case h=>conv=>lhs; reduce
noncomputable def c_lwCode:CoreAt 407:=by
 refine ⟨?cs,fun P=>?h⟩
 case h=>conv=>lhs; reduce
noncomputable def c_lwSize:CoreAt 428:=by
 refine ⟨?cs,fun P=>?h⟩
 case h=>conv=>lhs; reduce
noncomputable def c_lwDone:CoreAt 435:=by
 refine ⟨?cs,fun P=>?h⟩
 case h=>conv=>lhs; reduce
noncomputable def c_lawJar:CoreAt 449:=by
 refine ⟨?cs,fun P=>?h⟩
 case h=>conv=>lhs; reduce
noncomputable def c_lawPick:CoreAt 456:=by
 refine ⟨?cs,fun P=>?h⟩
 case h=>conv=>lhs; reduce
noncomputable def c_lawLengths:CoreAt 463:=by
 refine ⟨?cs,fun P=>?h⟩
 case h=>conv=>lhs; reduce
noncomputable def c_lawOctet:CoreAt 470:=by
 refine ⟨?cs,fun P=>?h⟩
 case h=>conv=>lhs; reduce
noncomputable def c_lawCodes:CoreAt 475:=by
 refine ⟨?cs,fun P=>?h⟩
 case h=>conv=>lhs; reduce
noncomputable def c_lawRead:CoreAt 482:=by
 refine ⟨?cs,fun P=>?h⟩
 case h=>conv=>lhs; reduce
noncomputable def c_lawSaid:CoreAt 487:=by
 refine ⟨?cs,fun P=>?h⟩
 case h=>conv=>lhs; reduce
noncomputable def c_lawMany:CoreAt 492:=by
 refine ⟨?cs,fun P=>?h⟩
 case h=>conv=>lhs; reduce
noncomputable def c_lawWritten:CoreAt 497:=by
 refine ⟨?cs,fun P=>?h⟩
 case h=>conv=>lhs; reduce
noncomputable def c_lawTorn:CoreAt 502:=by
 refine ⟨?cs,fun P=>?h⟩
 case h=>conv=>lhs; reduce
noncomputable def c_law:CoreAt 507:=by
 refine ⟨?cs,fun P=>?h⟩
 case h=>conv=>lhs; reduce
end Mine
end
section
open PySem PySem.W PyProof.Rows
namespace Mine
noncomputable def mkW (prog:Program) (w:World) (h:Heap) (low:sysModules < h.objs.size) (X:(kf.heap_1 w.params).In h):Wd :=
 { prog:=prog,w:=w,K:=kf.heap_1 w.params,clsA:=kcls,cut:=45,base:=h,priv:=fun _=>False,low:=low,cok:=kcok _,kin:=X }
noncomputable def isLC:Option NameKind->Bool
 | some .local | some .cell=>true
 | _=>false
noncomputable def fdChk (fd:FuncData) (k r:Nat):Bool :=
 (match fd.body with | .stmts _=>true | _=>false)&&fd.closure.isEmpty&&decide (fd.globals=mainGlobals)&&decide (fd.builtins=builtinsNs)&&(match fd.scope.kind with | .function=>true | _=>false)&&!fd.scope.isCoroutine&&!fd.scope.isGenerator &&
 decide (ownNames fd.scope).Nodup&&(ownNames fd.scope).all (· != ("__classdict__" : Str))&&decide (fd.scope.names.map (·.1)).Nodup&&((ownNames fd.scope).take k).all (fun x=>isLC (fd.scope.names.lookup x))&&(match fd.scope.names.lookup (".0" : Str) with | some .cell=>false | _=>true) &&
 decide ((ownNames fd.scope).length=k+r)
noncomputable def defChk (K:Frag) (a:Addr) (k r:Nat):Bool:=match K.lookup a with
 | some o=>(match o.data with | .func fd=>codeIn K fd.code fd.qualname&&fdChk fd k r | _=>false)
 | _=>false
noncomputable abbrev argNames (K:Frag) (a:Addr) (k:Nat):List Str:=(ownNames (fdAt K a).scope).take k
theorem zma {o:Option NameKind}:isLC o=true->o=some .local∨o=some .cell:=by
 induction o using Option.casesOn with
 | none=>exact absB
 | some k=>induction k using NameKind.casesOn <;> first | exact absB | exact fun _=>.inl rfl | exact fun _=>.inr rfl
theorem aB {a b:Bool} {P:Prop} (h:(a&&b)=true) (k:a=true->b=true->P):P:=(Bool.and_eq_true_iff.mp h).elim k
theorem zjw {fd:FuncData} {k r:Nat} (h:fdChk fd k r=true):DefOK fd (bodyAt fd) ((ownNames fd.scope).take k)/\(ownNames fd.scope).length=k+r:=by
 refine aB h fun h h13=>aB h fun h h12=>aB h fun h h11=>aB h fun h h10=>aB h fun h h9=>aB h fun h h8=>aB h fun h h7=>aB h fun h h6=>aB h fun h h5=>aB h fun h h4=>aB h fun h h3=>aB h fun h1 h2=>?_
 have h8:=of_decide_eq_true h8
 refine ⟨⟨?_,List.isEmpty_iff.mp h2,of_decide_eq_true h3,of_decide_eq_true h4,?_,Bool.not_eq_true' _ ▸ h6,Bool.not_eq_true' _ ▸ h7,h8,h9,of_decide_eq_true h10,(List.take_sublist _ _).nodup h8,fun x hx=>zma (List.all_eq_true.mp h11 x hx),fun e=>?_⟩,of_decide_eq_true h13⟩
 ·unfold bodyAt
  generalize fd.body=b at h1 ⊢
  induction b using FuncBody.casesOn with
  | stmts=>rfl
  | expr=>exact absB h1
 ·generalize fd.scope.kind=c at h5 ⊢
  induction c using ScopeKind.casesOn <;> first | rfl | exact absB h5
 ·rw [e] at h12; exact absB h12
theorem dat_fn {d:Data} {g:FuncData->Bool}:(match d with | .func fd=>g fd | _=>false)=true->d=.func (match d with | .func fd=>fd | _=>default)/\g (match d with | .func fd=>fd | _=>default)=true:=by
 induction d using PySem.Data.casesOn <;> first | exact absB | exact fun h=>⟨rfl,h⟩
theorem zeg {K:Frag} {a:Addr} {k r:Nat} (h:defChk K a k r=true):∃ ob,K.lookup a=some ob/\ob.data=.func (fdAt K a)/\codeIn K (fdAt K a).code (fdAt K a).qualname=true/\DefOK (fdAt K a) (bodyAt (fdAt K a)) (argNames K a k)/\(ownNames (fdAt K a).scope).length=k+r:=by
 cases ho:K.lookup a with
 | none=>unfold defChk at h; rw [ho] at h; exact absB h
 | some o =>
  unfold defChk at h; rw [ho] at h
  obtain ⟨hd,h⟩:=dat_fn (g:=fun fd=>codeIn K fd.code fd.qualname&&fdChk fd k r) h
  have e:fdAt K a=match o.data with | .func fd=>fd | _=>default:=by unfold fdAt; rw [ho] <;> rfl
  rw [<- e] at hd h
  exact aB h fun h1 h2=>zgL o rfl hd h1 (zjw h2)
theorem zc8 (N:List Str) (vs:List V) (r:Nat) (hn:N.Nodup) (e:N.length=vs.length+r):(N.map fun x=>((N.take vs.length).zip vs).lookup x)=vs.map some++List.replicate r none:=by
 induction N using List.rec generalizing vs with
 | nil=>induction vs using List.casesOn with
  | nil=>rw [show r=0 from (Nat.zero_add r).symm.trans e.symm]; rfl
  | cons v vs=>exact absurd (e.trans (Nat.succ_add ..)) (Nat.succ_ne_zero _).symm
 | cons y N ih=>induction vs using List.casesOn with
  | nil=>exact (List.map_const' ..).trans (congrArg (List.replicate · none) (e.trans (Nat.zero_add r)))
  | cons v vs =>
   obtain ⟨h1,h2⟩:=List.nodup_cons.mp hn
   refine (congr (congrArg List.cons ?_) (List.map_congr_left fun x hx=>?_)).trans (congrArg (some v::·) (ih vs h2 (Nat.succ.inj (e.trans (Nat.succ_add ..)))))
   ·show List.lookup y ((y,v)::_)=_
    rw [List.lookup_cons,beq_self_eq_true]
   ·show List.lookup x ((y,v)::_)=_
    rw [List.lookup_cons,show (x == y)=false from beq_eq_false_iff_ne.mpr fun q=>h1 (q ▸ hx)]; rfl
noncomputable def kont {α:Type}:Sem α->Obj->Sem α
 | .load _ _ k=>k
 | t=>fun _=>t
noncomputable def obAt (K:Frag) (T:Addr):Obj:=match K.lookup T with
 | some o=>o
 | none=>default
noncomputable def isSome' {α:Type}:Option α->Bool
 | some _=>true
 | none=>false
theorem zmp {K:Frag} {α:Type} {t:Sem α} {T:Addr} {v:α} {s:Shared} (X:K.In s.heap) (h0:isSome' (K.lookup T)=true) (h1:t=.load T none (kont t)) (h2:kont t (obAt K T)=pure v) {M:Model} {A:Around} {E:Value->Shared->Prop} {Q:α->Shared->Prop} (hq:Q v s):PySem.wpAny M A t Q E s:=by
 have e:K.lookup T=some (obAt K T):=by
  unfold obAt
  cases q:K.lookup T with
  | some o=>rfl
  | none=>rw [q] at h0; exact absB h0
 generalize kont t=k at h1 h2
 subst h1
 exact fun Γ p _=>(mEA _ (X _ _ e) (by rw [h2]; exact hq))
inductive Bnd (K:Frag) (fd:FuncData) (xs:List Value) (bs:List (Str×Value)):Prop
 | now (h:bindArgs fd ⟨xs,[]⟩=pure bs)
 | dflt (T:Addr) (h0:isSome' (K.lookup T)=true) (h1:bindArgs fd ⟨xs,[]⟩=.load T none (kont (bindArgs fd ⟨xs,[]⟩))) (h2:kont (bindArgs fd ⟨xs,[]⟩) (obAt K T)=pure bs)
theorem Bnd.to {K:Frag} {fd:FuncData} {xs:List Value} {bs:List (Str×Value)} (b:Bnd K fd xs bs) {s:Shared} (X:K.In s.heap):BindsTo s fd ⟨xs,[]⟩ bs:=by
 induction b using Bnd.casesOn with
 | now h=>exact BindsTo.of_eq h
 | dflt T h0 h1 h2=>exact fun M A E Q hq=>zmp X h0 h1 h2 hq
structure DefAt (a k r:Nat):Prop where
 chk:∀ P,defChk (kf.heap_1 P) a k r=true
 bd:∀ P (xs:List Value),xs.length=k->Bnd (kf.heap_1 P) (fdAt (kf.heap_1 P) a) xs ((argNames (kf.heap_1 P) a k).zip xs)
section
variable {C:List Value->Prop}
theorem len0 (h:C []):∀ xs:List Value,xs.length=0->C xs:=fun xs e=>List.eq_nil_of_length_eq_zero e ▸ h
theorem lenS {C:List Value->Prop} {n:Nat} (h:∀ x xs,xs.length=n->C (x::xs)) (xs:List Value) (e:xs.length=n+1):C xs:=by
 induction xs using List.casesOn with
 | nil=>exact absurd e.symm (Nat.succ_ne_zero n)
 | cons x r=>exact h x r (Nat.succ.inj e)
theorem len1 (h:∀ x,C [x]):∀ xs:List Value,xs.length=1->C xs:=lenS fun x=>len0 (h x)
theorem len2 (h:∀ x y,C [x,y]):∀ xs:List Value,xs.length=2->C xs:=lenS fun x=>len1 (h x)
theorem len3 (h:∀ x y z,C [x,y,z]):∀ xs:List Value,xs.length=3->C xs:=lenS fun x=>len2 (h x)
theorem len4 (h:∀ x y z u,C [x,y,z,u]):∀ xs:List Value,xs.length=4->C xs:=lenS fun x=>len3 (h x)
theorem len6 (h:∀ x y z u v w,C [x,y,z,u,v,w]):∀ xs:List Value,xs.length=6->C xs:=lenS fun x=>lenS fun y=>len4 (h x y)
end
section
variable {prog:Program} {w:World} {low:sysModules < hp.objs.size} {XK:(kf.heap_1 w.params).In hp} {q:Addr->Prop}
theorem callF (O:Wok (mkW prog w hp low XK) fnA) (SA:∀ q,SpecsOk ((mkW prog w hp low XK).ofP q) fnA lev S) (R:Rm (lev+1) A frs) (G:Gd ((mkW prog w hp low XK).ofP q) frs H s.heap) (hsz:hp.objs.size<=s.heap.objs.size) {a k r:Nat} (D:DefAt a k r) (c:CoreAt a) {vs:List V} {xs:List Value}
  (hv:AbsL kcls (((mkW prog w hp low XK).ofP q).D H) s.heap vs xs) (hl:vs.length=k) (h:wpBody S c.1 (vs.map some++List.replicate r none) H (Back Q) (fun H'=>∃ H'',Sub H'' H'/\X H'')) :
  wpAny ((mkW prog w hp low XK).ofP q).M A (call (.ref a) xs) (EPost ((mkW prog w hp low XK).ofP q) frs H s Q) (XPost ((mkW prog w hp low XK).ofP q) frs H s X) s:=by
 refine zcZ (zeg (D.chk w.params)) fun ob h1 h2 h3 h4 h5=>?_
 have lx:xs.length=k:=hv.length.trans hl
 have ln:(argNames (kf.heap_1 w.params) a k).length=k:=by rw [List.length_take,h5]; exact #[0x46315416345412446354141451,_,_,_] (minO _ _)
 refine zl8 (n:=20) (W:=(mkW prog w hp low XK).ofP q) (O.ofP q) SA R G hsz h1 h2 h3 h4 (c.2 w.params) ((D.bd _ xs lx).to (fun b o e=>G.rp.1 b o (O.kin b o e))) (bv:=(argNames (kf.heap_1 w.params) a k).zip vs) (List.map_fst_zip (by rw [ln,hl]; exact Nat.le_refl _)) ?_ ?_ ?_
 ·exact (List.map_fst_zip (by rw [ln,lx]; exact Nat.le_refl _)).trans (List.map_fst_zip (by rw [ln,hl]; exact Nat.le_refl _)).symm
 ·have e1:=List.map_snd_zip (l₁:=argNames (kf.heap_1 w.params) a k) (l₂:=xs) (by rw [ln,lx]; exact Nat.le_refl _)
  have e2:=List.map_snd_zip (l₁:=argNames (kf.heap_1 w.params) a k) (l₂:=vs) (by rw [ln,hl]; exact Nat.le_refl _)
  rw [e1,e2]
  exact hv
 ·have e:=zc8 _ vs r h4.nodup (by rw [h5,hl])
  rw [hl] at e
  rw [e]
  exact h
end
structure ClsAt (c:Cls) (a k r:Nat):Prop where
 mks:∀ P,makesIn (kf.heap_1 P) (kcls c)=true
 ini:∀ P,findIn (kf.heap_1 P) (.ref (kcls c)) "__init__"=some (some (.ref a))
 fn:∀ P,typeIn (kf.heap_1 P) (.ref a)=some (.type "function")
 chk:∀ P,defChk (kf.heap_1 P) a k r=true
section
variable {prog:Program} {w:World} {low:sysModules < hp.objs.size} {XK:(kf.heap_1 w.params).In hp} {q:Addr->Prop}
theorem zgN (O:Wok (mkW prog w hp low XK) fnA) (SA:∀ q,SpecsOk ((mkW prog w hp low XK).ofP q) fnA lev S) (R:Rm (lev+2) A frs) (G:Gd ((mkW prog w hp low XK).ofP q) frs H s.heap) (hsz:hp.objs.size<=s.heap.objs.size) {cl:Cls} {a k r:Nat} (D:ClsAt cl a k r) (c:CoreAt a) {vs:List V} {xs ys:List Value}
  (hb:∀ x,Bnd (kf.heap_1 w.params) (fdAt (kf.heap_1 w.params) a) (x::xs) ((argNames (kf.heap_1 w.params) a k).zip (x::ys)))
  (hv:AbsL kcls (((mkW prog w hp low XK).ofP q).D H) s.heap vs ys) (hl:vs.length+1=k) (h:∀ x dx,H x=none->H dx=none->wpBody S c.1 (some (.inst cl x dx)::(vs.map some++List.replicate r none)) (H.set dx (.fields [])) (Back fun v H'=>v=.none/\Q (.inst cl x dx) H') (fun H'=>∃ H'',Sub H'' H'/\X H'')) :
  wpAny ((mkW prog w hp low XK).ofP q).M A (call (.ref (kcls cl)) xs) (EPost ((mkW prog w hp low XK).ofP q) frs H s Q) (XPost ((mkW prog w hp low XK).ofP q) frs H s X) s:=by
 refine zcZ (zeg (D.chk w.params)) fun ob h1 h2 h3 h4 h5=>?_
 have lx:ys.length+1=k:=by rw [hv.length]; exact hl
 have ln:(argNames (kf.heap_1 w.params) a k).length=k:=by rw [List.length_take,h5]; exact #[0x46315416345412446354141451,_,_,_] (minO _ _)
 have KI:(kf.heap_1 w.params).In s.heap:=fun b o e=>G.rp.1 b o (O.kin b o e)
 have fx:∀ x:Value,((argNames (kf.heap_1 w.params) a k).zip (x::ys)).map (·.1)=argNames (kf.heap_1 w.params) a k:=fun x=>List.map_fst_zip (by rw [ln,List.length_cons,lx]; exact Nat.le_refl _)
 have fv:∀ v:V,((argNames (kf.heap_1 w.params) a k).zip (v::vs)).map (·.1)=argNames (kf.heap_1 w.params) a k:=fun x=>List.map_fst_zip (by rw [ln,List.length_cons,hl]; exact Nat.le_refl _)
 refine zlJ (n:=20) (W:=(mkW prog w hp low XK).ofP q) (c:=cl) (O.ofP q) SA R G hsz (D.mks _) (D.ini _) (D.fn _) h1 h2 h3 h4 (c.2 w.params) (bvf:=fun v=>(argNames (kf.heap_1 w.params) a k).zip (v::vs)) (bindf:=fun x=>(argNames (kf.heap_1 w.params) a k).zip (x::ys)) (fun x s' kp=>(hb x).to fun b o e=>kp b o (KI b o e)) fv (fun x v=>(fx x).trans (fv v).symm) (fun D h x v kv ax=>?_) (fun x dx hx hdx=>?_)
 ·have e1:=List.map_snd_zip (l₁:=argNames (kf.heap_1 w.params) a k) (l₂:=x::ys) (by rw [ln,List.length_cons,lx]; exact Nat.le_refl _)
  have e2:=List.map_snd_zip (l₁:=argNames (kf.heap_1 w.params) a k) (l₂:=v::vs) (by rw [ln,List.length_cons,hl]; exact Nat.le_refl _)
  rw [e1,e2]
  exact AbsL.cons ax (AbsL.keeps kv _ _ hv)
 ·have e:=zc8 _ (.inst cl x dx::vs) r h4.nodup (by rw [h5,List.length_cons,hl])
  rw [List.length_cons,hl] at e
  refine (congrArg (fun m=>wpBody S c.1 m (H.set dx (.fields [])) (Back fun v H'=>v=.none/\Q (.inst cl x dx) H') (fun H'=>∃ H'',Sub H'' H'/\X H'')) e).mpr ?_
  exact h x dx hx hdx
end
theorem zb4:DefAt 78 2 2:=⟨fun P=>by rfl',fun P=>len2 fun x y=>.now (by rfl')⟩
theorem zkH:DefAt 85 1 2:=⟨fun P=>by rfl',fun P=>len1 fun x=>.now (by rfl')⟩
theorem zcU:DefAt 93 3 3:=⟨fun P=>by rfl',fun P=>len3 fun x y z=>.dflt 86 (by rfl') (by rfl') (by rfl')⟩
theorem zb5:DefAt 100 1 2:=⟨fun P=>by rfl',fun P=>len1 fun x=>.now (by rfl')⟩
theorem zen:DefAt 107 1 4:=⟨fun P=>by rfl',fun P=>len1 fun x=>.now (by rfl')⟩
theorem zfQ:DefAt 114 1 3:=⟨fun P=>by rfl',fun P=>len1 fun x=>.now (by rfl')⟩
theorem zj0:DefAt 121 2 2:=⟨fun P=>by rfl',fun P=>len2 fun x y=>.now (by rfl')⟩
theorem zhc:DefAt 128 1 6:=⟨fun P=>by rfl',fun P=>len1 fun x=>.now (by rfl')⟩
theorem zjY:DefAt 150 2 5:=⟨fun P=>by rfl',fun P=>len2 fun x y=>.now (by rfl')⟩
theorem zhS:DefAt 179 4 2:=⟨fun P=>by rfl',fun P=>len4 fun x y z u=>.now (by rfl')⟩
theorem zkQ:DefAt 186 2 2:=⟨fun P=>by rfl',fun P=>len2 fun x y=>.now (by rfl')⟩
theorem zkp:DefAt 217 2 1:=⟨fun P=>by rfl',fun P=>len2 fun x y=>.now (by rfl')⟩
theorem zkR:DefAt 245 2 0:=⟨fun P=>by rfl',fun P=>len2 fun x y=>.now (by rfl')⟩
theorem zil:DefAt 252 3 0:=⟨fun P=>by rfl',fun P=>len3 fun x y z=>.now (by rfl')⟩
theorem zfO:DefAt 266 1 0:=⟨fun P=>by rfl',fun P=>len1 fun x=>.now (by rfl')⟩
theorem zfk:DefAt 273 2 0:=⟨fun P=>by rfl',fun P=>len2 fun x y=>.now (by rfl')⟩
theorem zlT:DefAt 280 3 1:=⟨fun P=>by rfl',fun P=>len3 fun x y z=>.now (by rfl')⟩
theorem zhf:DefAt 287 4 4:=⟨fun P=>by rfl',fun P=>len4 fun x y z u=>.now (by rfl')⟩
theorem zkF:DefAt 309 1 0:=⟨fun P=>by rfl',fun P=>len1 fun x=>.now (by rfl')⟩
theorem zkg:DefAt 316 2 0:=⟨fun P=>by rfl',fun P=>len2 fun x y=>.now (by rfl')⟩
theorem zkd:DefAt 323 2 0:=⟨fun P=>by rfl',fun P=>len2 fun x y=>.now (by rfl')⟩
theorem zjN:DefAt 330 2 1:=⟨fun P=>by rfl',fun P=>len2 fun x y=>.now (by rfl')⟩
theorem zlD:DefAt 337 1 0:=⟨fun P=>by rfl',fun P=>len1 fun x=>.now (by rfl')⟩
theorem zki:DefAt 393 3 0:=⟨fun P=>by rfl',fun P=>len3 fun x y z=>.now (by rfl')⟩
theorem zkl:DefAt 407 3 2:=⟨fun P=>by rfl',fun P=>len3 fun x y z=>.now (by rfl')⟩
theorem zkt:DefAt 428 1 0:=⟨fun P=>by rfl',fun P=>len1 fun x=>.now (by rfl')⟩
theorem zkn:DefAt 435 1 1:=⟨fun P=>by rfl',fun P=>len1 fun x=>.now (by rfl')⟩
theorem zkE:DefAt 449 1 4:=⟨fun P=>by rfl',fun P=>len1 fun x=>.now (by rfl')⟩
theorem zh0:DefAt 456 2 1:=⟨fun P=>by rfl',fun P=>len2 fun x y=>.now (by rfl')⟩
theorem zea:DefAt 463 1 3:=⟨fun P=>by rfl',fun P=>len1 fun x=>.now (by rfl')⟩
theorem zgO:DefAt 470 1 1:=⟨fun P=>by rfl',fun P=>len1 fun x=>.now (by rfl')⟩
theorem zg0:DefAt 475 1 5:=⟨fun P=>by rfl',fun P=>len1 fun x=>.now (by rfl')⟩
theorem zi8:DefAt 482 3 5:=⟨fun P=>by rfl',fun P=>len3 fun x y z=>.now (by rfl')⟩
theorem zi5:DefAt 487 4 5:=⟨fun P=>by rfl',fun P=>len4 fun x y z u=>.now (by rfl')⟩
theorem zin:DefAt 492 3 1:=⟨fun P=>by rfl',fun P=>len3 fun x y z=>.now (by rfl')⟩
theorem zd0:DefAt 497 4 6:=⟨fun P=>by rfl',fun P=>len4 fun x y z u=>.now (by rfl')⟩
theorem zhJ:DefAt 502 6 7:=⟨fun P=>by rfl',fun P=>len6 fun x y z u v w=>.now (by rfl')⟩
theorem d_law:DefAt 507 1 11:=⟨fun P=>by rfl',fun P=>len1 fun x=>.now (by rfl')⟩
theorem zkD:ClsAt .preader 143 4 0:=⟨fun P=>by rfl',fun P=>by rfl',fun P=>by rfl',fun P=>by rfl'⟩
theorem zjz:ClsAt .treader 172 5 3:=⟨fun P=>by rfl',fun P=>by rfl',fun P=>by rfl',fun P=>by rfl'⟩
theorem zkS:ClsAt .ltable 210 3 4:=⟨fun P=>by rfl',fun P=>by rfl',fun P=>by rfl',fun P=>by rfl'⟩
theorem zkh:ClsAt .pwriter 238 2 0:=⟨fun P=>by rfl',fun P=>by rfl',fun P=>by rfl',fun P=>by rfl'⟩
theorem zjF:ClsAt .lreader 302 4 0:=⟨fun P=>by rfl',fun P=>by rfl',fun P=>by rfl',fun P=>by rfl'⟩
theorem zjV:ClsAt .lwriter 386 1 0:=⟨fun P=>by rfl',fun P=>by rfl',fun P=>by rfl',fun P=>by rfl'⟩
end Mine
end
section
open PySem PySem.W
namespace Mine
noncomputable abbrev nl (ls:List Nat):V:=.lst (il ls)
theorem zcj (ls:List Nat):il ls=(ls.map Int.ofNat).map V.int:=(List.map_map ..).symm
theorem zr {H:AH} (ls:List Nat):IntsOf H (nl ls) (ls.map Int.ofNat):=congrArg some (zcj ls)
theorem zH {ls:List Nat} {i n:Nat} (h:ls[i]?=some n):(il ls)[i]?=some (iv n):=(List.getElem?_map ..).trans (congrArg (Option.map iv) h)
theorem zbZ (ls:List Nat) (i n:Nat):(il ls).set i (iv n)=il (ls.set i n):=List.map_set.symm
theorem ze (ls:List Nat):(il ls).length=ls.length:=List.length_map _
theorem zay {ls:List Nat} {i:Nat} {x:V} (h:(il ls)[i]?=some x):∃ n,ls[i]?=some n/\x=iv n:=by
 rw [List.getElem?_map] at h
 refine oEA (Option.map_eq_some_iff.mp h) fun n h1 h2=>?_
 exact mEA n h1 h2.symm
theorem zal {n i:Nat} {x:V} (h:(il (List.range n))[i]?=some x):i < n/\x=iv i:=by
 refine oEA (zay h) fun k h1 yC=>?_; obtain rfl:=yC
 obtain ⟨h2,h3⟩:=List.getElem?_eq_some_iff.mp h1
 rw [List.getElem_range] at h3
 exact ⟨by rwa [List.length_range] at h2,congrArg iv h3.symm⟩
theorem zaZ {a n k i:Nat} {x:V} (h:(il (List.range' a n k))[i]?=some x):i < n/\x=iv (a+k*i):=by
 refine oEA (zay h) fun j h1 yC=>?_; obtain rfl:=yC
 obtain ⟨h2,h3⟩:=List.getElem?_eq_some_iff.mp h1
 rw [List.getElem_range'] at h3
 exact ⟨by rwa [List.length_range'] at h2,congrArg iv h3.symm⟩
theorem zad {n:Nat}:(il (List.range n)).length=n:=by rw [ze,List.length_range]
theorem zG {a n k:Nat}:(il (List.range' a n k)).length=n:=by rw [ze,List.length_range']
theorem zt {x:Nat} (h:x<=900):x<=big:=Nat.le_trans h (by decide)
theorem zbY {oc:List UInt8} (hl:oc.length<=100):8*oc.length<=800:=Nat.mul_le_mul_left 8 hl
noncomputable def bodyOf:CS->List CS
 | .fors _ _ b=>b
 | .whiles _ b=>b
 | _=>[]
section
variable {o o' x:AObj}
theorem Sub.refl:Sub H H:=fun _ _ h=>h
theorem zz (ha:H a=none) (hb:H b=some x):b≠a:=fun e=>by rw [e,ha] at hb; exact absN hb
theorem zl (ha:H a=none) (hb:H b=some x):(H.set a o) b=some x:=(zf H o (zz ha hb)).trans hb
theorem zb (n:b≠a) (hb:H b=some x):(H.set a o) b=some x:=(zf H o n).trans hb
theorem zo (ha:H a=none):Sub H (H.set a o):=fun b x hb=>zl ha hb
theorem Sub.put {H':AH} (h:Sub H H') (ha:H a=none):Sub H (H'.set a o):=fun b x hb=>zb (zz ha hb) (h b x hb)
theorem Sub.trans {HC HD HE:AH} (h:Sub HC HD) (h':Sub HD HE):Sub HC HE:=fun b x hb=>h' b x (h b x hb)
theorem Sub.none {H':AH} (h:Sub H H') (hn:H' a=Option.none):H a=Option.none:=by
 cases e:H a with
 | none=>rfl
 | some x=>have:=h a x e; rw [hn] at this; exact absN this
theorem zas (H:AH) (a:Addr) (o o':AObj):(H.set a o).set a o'=H.set a o':=funext fun b=>by
 unfold AH.set; split <;> rfl
end
section
theorem nb {b:Bool} (h:(!b)=true):b=false:=by induction b using Bool.casesOn <;> first | rfl | exact absB h
theorem nb' {b:Bool} (h:(!b)=false):b=true:=by induction b using Bool.casesOn <;> first | rfl | exact absC h
theorem neg0 {n:Nat} {p:Prop} (h:decide (Int.ofNat n < Int.ofNat 0)=true):p:=absurd (of_decide_eq_true h) (Int.not_lt.mpr (Int.natCast_nonneg n))
theorem zbB {a b:Nat} (h:decide (Int.ofNat a < Int.ofNat b)=true):a < b:=Int.ofNat_lt.mp (of_decide_eq_true h)
theorem zbw {a b:Nat} (h:decide (Int.ofNat a < Int.ofNat b)=false):b<=a:=Int.ofNat_le.mp (Int.not_lt.mp (of_decide_eq_false h))
theorem le_of {a b:Nat} (h:decide (Int.ofNat a<=Int.ofNat b)=true):a<=b:=Int.ofNat_le.mp (of_decide_eq_true h)
theorem ziB {a b:Nat} (h:decide (Int.ofNat a<=Int.ofNat b)=false):b < a:=Int.ofNat_lt.mp (Int.not_le.mp (of_decide_eq_false h))
theorem zhb {a b:Nat} (h:decide (Int.ofNat a=Int.ofNat b)=true):a=b:=Int.ofNat.inj (of_decide_eq_true h)
theorem ziU {a b:Nat} (h:decide (Int.ofNat a=Int.ofNat b)=false):a≠b:=fun e=>of_decide_eq_false h (congrArg Int.ofNat e)
theorem WBin.nsub {a b:Nat} (g:b<=a) (h:Q (iv (a - b)) H):WBin H Q .Sub (iv a) (iv b):=by
 have e:Int.ofNat a - Int.ofNat b=Int.ofNat (a - b):=(Int.ofNat_sub g).symm
 exact .sub ((congrArg (fun i=>Q (.int i) H) e).mpr h)
theorem zag {a b:Nat} (g:0 < b) (h:Q (iv (a % b)) H):WBin H Q .Mod (iv a) (iv b):=.mod (Int.ofNat_lt.mpr g) h
theorem zbN {σ:Type} {t:Tgt} {items:List V} {guard:AH->Prop} {w:Loc->AH->(Loc->AH->Prop)->Prop} (f:σ->Loc) (g:σ->AH) (J:Nat->σ->Prop) (s0:σ) (hl:items.length<=big) (hm:m=f s0) (hH:H=g s0) (h0:J 0 s0)
  (st:∀ i x s,items[i]?=some x->J i s->guard (g s)/\WTgt (f s) (fun mD=>w mD (g s) (Wk fun mE HG=>∃ s,mE=f s/\HG=g s/\J (i+1) s)) t x)
  (fin:∀ s,J items.length s->guard (g s)/\NK (f s) (g s)):Turns t items guard w NK m H :=
 ⟨hl,fun i mC HD=>∃ s,mC=f s/\HD=g s/\J i s,(mEAA s0 hm hH h0),fun i x mC HD hx hI=>by
  refine oEAA hI fun s yB yC hJ=>?_; obtain rfl:=yB; obtain rfl:=yC
  exact st i x s hx hJ,fun mC HD hI=>by
  refine oEAA hI fun s yB yC hJ=>?_; obtain rfl:=yB; obtain rfl:=yC
  exact fin s hJ⟩
theorem loopG {σ τ:Type} {t:Tgt} {items:List V} {guard:AH->Prop} {w:Loc->AH->(Loc->AH->Prop)->Prop} {n:Nat} (f:σ->τ->Loc) (J:Nat->σ->AH->Prop) (hn:items.length=n) (hl:n<=big) (s0:σ) (z0:τ) (hm:m=f s0 z0) (h0:J 0 s0 H) (hg:∀ i s H,J i s H->guard H)
  (st:∀ i x s z H N,items[i]?=some x->J i s H->(∀ s' z' H' H'',Sub H' H''->J (i+1) s' H'->N (f s' z') H'')->WTgt (f s z) (fun mD=>w mD H N) t x)
  (fin:∀ s z H,J n s H->NK (f s z) H):Turns t items guard w NK m H :=
 ⟨hn ▸ hl,fun i mC HD=>∃ s z,mC=f s z/\J i s HD,mEEA s0 z0 hm h0,fun i x mC HD hx hI=>oEEA hI fun s z e j=>⟨hg i s HD j,e ▸ st i x s z HD _ hx j fun s' z' H' H'' sb j'=>mEA H' sb (mEEA s' z' rfl j')⟩,
  fun mC HD hI=>oEEA hI fun s z e j=>⟨hg _ s HD j,e ▸ fin s z HD (hn ▸ j)⟩⟩
theorem ziq {σ τ:Type} {t:Tgt} {items:List V} {w:Loc->AH->(Loc->AH->Prop)->Prop} {n:Nat} (f:σ->τ->Loc) (J:Nat->σ->AH->Prop) (hn:items.length=n) (hl:n<=big) (s0:σ) (z0:τ) (hm:m=f s0 z0) (h0:J 0 s0 H)
  (st:∀ i x s z H N,items[i]?=some x->J i s H->(∀ s' z' H' H'',Sub H' H''->J (i+1) s' H'->N (f s' z') H'')->WTgt (f s z) (fun mD=>w mD H N) t x)
  (fin:∀ s z H,J n s H->NK (f s z) H):Turns t items (fun _=>True) w NK m H:=loopG f J hn hl s0 z0 hm h0 (fun _ _ _ _=>trivial) st fin
theorem zmn {σ τ:Type} {t:Tgt} {w:Loc->AH->(Loc->AH->Prop)->Prop} {n:Nat} (f:σ->τ->Loc) (J:Nat->σ->AH->Prop) (hl:n<=big) (s0:σ) (z0:τ) (hm:m=f s0 z0) (h0:J 0 s0 H)
  (st:∀ i s z H N,i < n->J i s H->(∀ s' z' H' H'',Sub H' H''->J (i+1) s' H'->N (f s' z') H'')->WTgt (f s z) (fun mD=>w mD H N) t (iv i))
  (fin:∀ s z H,J n s H->NK (f s z) H):Turns t (il (List.range n)) (fun _=>True) w NK m H :=
 ziq f J zad hl s0 z0 hm h0 (fun i x s z H N hx j k=>(zal hx).2 ▸ st i s z H N (zal hx).1 j k) fin
theorem loopL {σ τ:Type} {t:Tgt} {w:Loc->AH->(Loc->AH->Prop)->Prop} {ls:List Nat} (f:σ->τ->Loc) (J:Nat->σ->AH->Prop) (hl:ls.length<=big) (s0:σ) (z0:τ) (hm:m=f s0 z0) (h0:J 0 s0 H)
  (st:∀ i x s z H N,ls[i]?=some x->J i s H->(∀ s' z' H' H'',Sub H' H''->J (i+1) s' H'->N (f s' z') H'')->WTgt (f s z) (fun mD=>w mD H N) t (iv x))
  (fin:∀ s z H,J ls.length s H->NK (f s z) H):Turns t (il ls) (fun _=>True) w NK m H :=
 ziq f J (ze ls) hl s0 z0 hm h0 (fun i x s z H N hx j k=>oEA (zay hx) fun l h e=>e ▸ st i l s z H N h j k) fin
theorem ziV {t:Tgt} {items:List V} {w:Loc->AH->List V->(List V->AH->Prop)->Prop} {lim n:Nat} {acc0 out:List V} {K:List V->AH->Prop} (A:Nat->List V) (hn:items.length=n) (hl:n<=lim) (h0:acc0=A 0) (ho:A n=out)
  (st:∀ i x N,items[i]?=some x->(∀ acc,acc=A (i+1)->N acc H)->WTgt m (fun mD=>w mD H (A i) N) t x) (fin:K out H):Gath t items (fun _=>True) m w lim acc0 K H :=
 ⟨hn ▸ hl,fun i acc HD=>acc=A i/\HD=H,⟨h0,rfl⟩,fun i x acc HD hx hI=>⟨trivial,by rw [hI.1,hI.2]; exact st i x _ hx fun acc e=>mEAA H Sub.refl e rfl⟩,fun acc HD hI=>⟨trivial,by rw [hI.1,hI.2,hn,ho]; exact fin⟩⟩
theorem zlY {t:Tgt} {w:Loc->AH->List V->(List V->AH->Prop)->Prop} {lim n:Nat} {acc0 out:List V} {K:List V->AH->Prop} (A:Nat->List V) (hl:n<=lim) (h0:acc0=A 0) (ho:A n=out)
  (st:∀ i N,i < n->(∀ acc,acc=A (i+1)->N acc H)->WTgt m (fun mD=>w mD H (A i) N) t (iv i)) (fin:K out H):Gath t (il (List.range n)) (fun _=>True) m w lim acc0 K H :=
 ziV A zad hl h0 ho (fun i x N hx k=>(zal hx).2 ▸ st i N (zal hx).1 k) fin
theorem gathL {t:Tgt} {w:Loc->AH->List V->(List V->AH->Prop)->Prop} {lim:Nat} {ls:List Nat} {acc0 out:List V} {K:List V->AH->Prop} (A:Nat->List V) (hl:ls.length<=lim) (h0:acc0=A 0) (ho:A ls.length=out)
  (st:∀ i x N,ls[i]?=some x->(∀ acc,acc=A (i+1)->N acc H)->WTgt m (fun mD=>w mD H (A i) N) t (iv x)) (fin:K out H):Gath t (il ls) (fun _=>True) m w lim acc0 K H :=
 ziV A (ze ls) hl h0 ho (fun i x N hx k=>oEA (zay hx) fun l h e=>e ▸ st i l N h k) fin
theorem zdu {a:Addr} {o:AObj} {I:Loc->AH->Prop} {xs ys:List V} (e:xs=ys) (h:I m (H.set a (.list ys))):Wk I m ((H.set a o).set a (.list xs)):=by
 subst e
 exact mEA _ (by rw [zas]; exact Sub.refl) h
theorem zc {v:V} (h:Q v H):Back Q v H:=(zn v H Sub.refl (.same v) h)
theorem zdh {H':AH} {v:V} (s:Sub H H') (h:Q v H):Back Q v H':=(zn v H s (.same v) h)
theorem zia {a:Addr} {xs:List V} (ha:H a=none) (h:Q (.lst xs) H):Back Q (.ref a) (H.set a (.list xs)):=(zn _ H (zo ha) (.lst (za ..) ha (FrzL.same _)) h)
end
noncomputable def cnts (ls:List Nat) (L:Nat):List Nat:=(List.range (L+1)).map fun k=>ls.count k
noncomputable def mx (ls:List Nat):Nat:=ls.foldl (fun m l=>if m < l then l else m) 0
noncomputable def fcf (ls:List Nat):Nat->Nat
 | 0=>0
 | n+1=>fst' ls n
noncomputable def fcs (ls:List Nat):List Nat:=(List.range (mx ls+1)).map (fcf ls)
noncomputable def codf (ls:List Nat) (s:Nat):Nat:=if ls.getD s 0=0 then 0 else cod ls s
noncomputable def cods (ls:List Nat):List Nat:=(List.range ls.length).map (codf ls)
noncomputable def room (cs:List Nat):Int:=cs.foldl (fun l c=>l*2 - Int.ofNat c) 1
structure Bl (ls bl:List Nat):Prop where
 len:bl.length<=11
 at_:∀ s l,Has ls s l->bl[plc ls l+rank ls s]?=some s
 has:∀ s∈bl,∃ l,Has ls s l
def JarL (n:Nat) (L:List V):Prop:=∃ g o t k b,L=[iv g,iv o,iv t,iv k,.bool b]/\o < 1021/\t < 1021/\k<=n
noncomputable def strF (oc:List UInt8) (p:Nat):AObj:=.fields [(.data,.bytes oc),(.stop,iv oc.length),(.position,iv p)]
noncomputable def prF (ls bl:List Nat):AObj:=.fields [(.most,iv (mx ls)),(.counts,nl (cnts ls (mx ls))),(.symbols,nl bl)]
noncomputable def trF (ls:List Nat) (r:Nat) (sy sz le:Addr):AObj:=.fields [(.most,iv (mx ls)),(.root,iv r),(.symbols,.ref sy),(.sizes,.ref sz),(.lesser,.ref le)]
noncomputable def ltF (r mo:Nat) (sy sz:Addr):AObj:=.fields [(.root,iv r),(.more,iv mo),(.symbols,.ref sy),(.sizes,.ref sz)]
noncomputable def pwF (ls:List Nat):AObj:=.fields [(.lengths,nl ls),(.codes,nl (cods ls))]
noncomputable def lwF (ad:Addr) (h hb:Nat):AObj:=.fields [(.made,.ref ad),(.held,iv h),(.heldBits,iv hb)]
noncomputable def rowV (ls:List Nat) (p:Nat×Nat):V:=.tup [iv p.1,iv (rev (cod ls p.1) (p.2+1)),iv (p.2+1)]
def RowsAre (ls:List Nat) (r q:Nat) (done:List Nat) (rows:List (Nat×Nat)):Prop:=∀ s l,(s,l)∈rows ↔ s∈done/\Has ls s l/\r < l+1/\rev (cod ls s) (l+1) % 2 ^ r=q
structure TabOk (ls:List Nat) (r:Nat) (done:List Nat) (T Z:List V):Prop where
 lT:T.length=2 ^ r
 lZ:Z.length=2 ^ r
 hit:∀ x s l,x < 2 ^ r->s∈done->Has ls s l->l+1<=r->x % 2 ^ (l+1)=rev (cod ls s) (l+1)->T[x]?=some (iv s)/\Z[x]?=some (iv (l+1))
 miss:∀ x,x < 2 ^ r->(∀ s l,s∈done->Has ls s l->l+1<=r->x % 2 ^ (l+1)≠rev (cod ls s) (l+1))->Z[x]?=some (iv 0)
structure LesOk (H0 H:AH) (ls:List Nat) (r:Nat) (done:List Nat) (sy sz:Addr) (D:List (Int×V)):Prop where
 len:D.length<=done.length
 key:∀ q v,dget D q=some v->∃ (q':Nat) (b:Addr) (rows:List (Nat×Nat)),q=Int.ofNat q'/\v=.ref b/\H0 b=none/\b≠sy/\b≠sz/\H b=some (.list (rows.map (rowV ls)))/\RowsAre ls r q' done rows/\rows≠[]/\rows.length<=done.length
 non:∀ q:Nat,dget D (Int.ofNat q)=none->∀ s l,s∈done->Has ls s l->r < l+1->rev (cod ls s) (l+1) % 2 ^ r≠q
 inj:∀ q q' b,dget D q=some (.ref b)->dget D q'=some (.ref b)->q=q'
 nd:(D.map (·.1)).Nodup
def TrSt (H0 H:AH) (ls:List Nat) (r:Nat) (dx sy sz le:Addr) (done:List Nat):Prop:=∃ T Z D,Sub H0 H/\H0 sy=none/\H0 sz=none/\H0 le=none/\sy≠sz/\H dx=some (trF ls r sy sz le)/\H sy=some (.list T)/\H sz=some (.list Z)/\H le=some (.dict D)/\TabOk ls r done T Z/\LesOk H0 H ls r done sy sz D
noncomputable def E0:AH:=fun _=>none
def LtOk (H0 H:AH) (ls:List Nat) (r q:Nat) (v:V):Prop:=∃ a dz mo sy sz T Z,(H0 dz=none/\H0 sy=none/\H0 sz=none)/\v=.inst .ltable a dz/\H dz=some (ltF r mo sy sz)/\H sy=some (.list T)/\H sz=some (.list Z)/\r+mo<=8 /\
 ∀ c s l,c % 2 ^ r=q->Dec ls c s l->T[c / 2 ^ r % 2 ^ mo]?=some (iv s)/\Z[c / 2 ^ r % 2 ^ mo]?=some (iv (l+1))
def TrOk (H0 H:AH) (ls:List Nat) (v:V):Prop:=∃ a dx r sy sz le T Z D,(H0 dx=none/\H0 sy=none/\H0 sz=none/\H0 le=none)/\v=.inst .treader a dx/\H dx=some (trF ls r sy sz le)/\H sy=some (.list T)/\H sz=some (.list Z)/\H le=some (.dict D)/\r<=8 /\
 ∀ c s l,Dec ls c s l->(l+1<=r->T[c % 2 ^ r]?=some (iv s)/\Z[c % 2 ^ r]?=some (iv (l+1)))/\(r < l+1->Z[c % 2 ^ r]?=some (iv 0)/\∃ v,dget D (Int.ofNat (c % 2 ^ r))=some v/\LtOk H0 H ls r (c % 2 ^ r) v)
def PrOk (H0 H:AH) (ls:List Nat) (v:V):Prop:=∃ a dx bl,H0 dx=none/\v=.inst .preader a dx/\H dx=some (prF ls bl)/\Bl ls bl
def RdrOk (H0 H:AH) (ls:List Nat) (v:V):Prop:=PrOk H0 H ls v∨TrOk H0 H ls v
inductive ReadOne (ok:List Nat->V->Prop) (H:AH) (Q:V->AH->Prop) (X:AH->Prop):List V->Prop
 | mk(ls r b dy oc p:_) (h1:Full ls) (h2:ok ls r) (h3:H dy=some (strF oc p)) (h4:p<=8*oc.length) (h5:oc.length<=100) (h6:∀ s l,Dec ls (num oc / 2 ^ p) s l->(p+l+1<=8*oc.length->Q (iv s) (H.set dy (strF oc (p+l+1))))/\(8*oc.length < p+l+1->∀ q,X (H.set dy (strF oc q)))):ReadOne ok H Q X [r,.inst .lreader b dy]
def WrSt (bs:List UInt8) (h hb val nb:Nat):Prop:=hb < 8/\h < 2 ^ hb/\val=num bs+2 ^ (8*bs.length)*h/\nb=8*bs.length+hb
noncomputable def digs (k x:Nat):List Nat:=(List.range k).map fun j=>48+x / 2 ^ j % 2
structure CodesOk (ls:List Nat) (kvs:List (Int×V)):Prop where
 len:kvs.length<=11
 get:∀ s l,Has ls s l->dget kvs (Int.ofNat s)=some (.str (digs (l+1) (rev (cod ls s) (l+1))))
 key:∀ k∈kvs.map (·.1),∃ s l,k=Int.ofNat s/\Has ls s l
inductive CtTurned (H:AH) (Q:V->AH->Prop) (X:AH->Prop):List V->Prop
 | mk(c n:_) (h1:n<=15) (h2:Q (iv (rev c n)) H):CtTurned H Q X [iv c,iv n]
inductive CtNeedCount (H:AH) (Q:V->AH->Prop) (X:AH->Prop):List V->Prop
 | mk(n:_) (h1:Q .none H):CtNeedCount H Q X [iv n]
inductive CtNeedValue (H:AH) (Q:V->AH->Prop) (X:AH->Prop):List V->Prop
 | mk(v n:_) (h1:v < 2 ^ n) (h2:Q .none H):CtNeedValue H Q X [iv v,iv n]
inductive CtCountsByLength (H:AH) (Q:V->AH->Prop) (X:AH->Prop):List V->Prop
 | mk(ls L:_) (h1:(∀ l∈ls,l<=L)) (h2:L<=15) (h3:ls.length<=big) (h4:Q (nl (cnts ls L)) H):CtCountsByLength H Q X [nl ls,iv L]
inductive CtRoomOf (H:AH) (Q:V->AH->Prop) (X:AH->Prop):List V->Prop
 | mk(cs:_) (h1:cs.length<=big) (h2:Q (.int (room (cs.drop 1))) H):CtRoomOf H Q X [nl cs]
inductive CtCheckLengths (H:AH) (Q:V->AH->Prop) (X:AH->Prop):List V->Prop
 | mk(ls:_) (h1:Full ls) (h2:Q .none H):CtCheckLengths H Q X [nl ls,iv 15,.bool false]
inductive CtGreatestLength (H:AH) (Q:V->AH->Prop) (X:AH->Prop):List V->Prop
 | mk(ls:_) (h1:ls.length<=big) (h2:Q (iv (mx ls)) H):CtGreatestLength H Q X [nl ls]
inductive CtFirstCodes (H:AH) (Q:V->AH->Prop) (X:AH->Prop):List V->Prop
 | mk(ls:_) (h1:Full ls) (h2:wpFresh H Q (.list (il (fcs ls)))):CtFirstCodes H Q X [nl (cnts ls (mx ls))]
inductive CtCanonical (H:AH) (Q:V->AH->Prop) (X:AH->Prop):List V->Prop
 | mk(ls:_) (h1:Full ls) (h2:Q (nl (cods ls)) H):CtCanonical H Q X [nl ls]
inductive CtByLength (H:AH) (Q:V->AH->Prop) (X:AH->Prop):List V->Prop
 | mk(ls:_) (h1:Full ls) (h2:∀ bl,Bl ls bl->Q (nl bl) H):CtByLength H Q X [nl ls]
inductive CtMkPReader (H:AH) (Q:V->AH->Prop) (X:AH->Prop):List V->Prop
 | mk(ls:_) (h1:Full ls) (h2:∀ a dx bl,H a=none->H dx=none->Bl ls bl->Q (.inst .preader a dx) (H.set dx (prF ls bl))):CtMkPReader H Q X [nl ls]
inductive CtMkTReader (H:AH) (Q:V->AH->Prop) (X:AH->Prop):List V->Prop
 | mk(ls r:_) (h1:Full ls) (h2:1<=r) (h3:r<=8) (h4:∀ v H',Sub H H'->TrOk H H' ls v->Q v H'):CtMkTReader H Q X [nl ls,iv r]
inductive CtMkLTable (H:AH) (Q:V->AH->Prop) (X:AH->Prop):List V->Prop
 | mk(ls r q a done rows:_) (h1:Full ls) (h2:(∀ s l,Has ls s l->s∈done)) (h3:H a=some (.list (rows.map (rowV ls)))) (h4:rows.length<=11) (h5:rows≠[]) (h6:RowsAre ls r q done rows) (h7:∀ v H',Sub H H'->LtOk H H' ls r q v->Q v H'):CtMkLTable H Q X [.ref a,iv r]
inductive CtMkPWriter (H:AH) (Q:V->AH->Prop) (X:AH->Prop):List V->Prop
 | mk(ls:_) (h1:Full ls) (h2:∀ a dx,H a=none->H dx=none->Q (.inst .pwriter a dx) (H.set dx (pwF ls))):CtMkPWriter H Q X [nl ls]
inductive CtMkLReader (H:AH) (Q:V->AH->Prop) (X:AH->Prop):List V->Prop
 | mk(oc:_) (h1:oc.length<=100) (h2:∀ a dx,H a=none->H dx=none->Q (.inst .lreader a dx) (H.set dx (strF oc 0))):CtMkLReader H Q X [.bytes oc]
inductive CtMkLWriter (H:AH) (Q:V->AH->Prop) (X:AH->Prop):List V->Prop
 | mk  (h1:∀ a dx ad,H a=none->H dx=none->H ad=none->ad≠dx->Q (.inst .lwriter a dx) ((H.set ad (.barr [])).set dx (lwF ad 0 0))):CtMkLWriter H Q X []
inductive CtEndOf (H:AH) (Q:V->AH->Prop) (X:AH->Prop):List V->Prop
 | mk(oc:_) (h1:oc.length<=big) (h2:Q (iv oc.length) H):CtEndOf H Q X [.bytes oc,iv 0,.none]
inductive CtGathered (H:AH) (Q:V->AH->Prop) (X:AH->Prop):List V->Prop
 | mk(oc p n:_) (h1:n<=8) (h2:oc.length<=100) (h3:Q (iv (num oc / 2 ^ p % 2 ^ n)) H):CtGathered H Q X [.bytes oc,iv p,iv n,iv oc.length]
inductive CtLrLeft (H:AH) (Q:V->AH->Prop) (X:AH->Prop):List V->Prop
 | mk(b dy oc p:_) (h1:H dy=some (strF oc p)) (h2:p<=8*oc.length) (h3:Q (iv (8*oc.length - p)) H):CtLrLeft H Q X [.inst .lreader b dy]
inductive CtLrPeek (H:AH) (Q:V->AH->Prop) (X:AH->Prop):List V->Prop
 | mk(b dy oc p n:_) (h1:H dy=some (strF oc p)) (h2:n<=8) (h3:oc.length<=100) (h4:Q (iv (num oc / 2 ^ p % 2 ^ n)) H):CtLrPeek H Q X [.inst .lreader b dy,iv n]
inductive CtLrSkip (H:AH) (Q:V->AH->Prop) (X:AH->Prop):List V->Prop
 | mk(b dy oc p n:_) (h1:H dy=some (strF oc p)) (h2:p<=8*oc.length) (h3:(p+n<=8*oc.length->Q .none (H.set dy (strF oc (p+n))))) (h4:(8*oc.length < p+n->X H)):CtLrSkip H Q X [.inst .lreader b dy,iv n]
inductive CtLrBits (H:AH) (Q:V->AH->Prop) (X:AH->Prop):List V->Prop
 | mk(b dy oc p n:_) (h1:H dy=some (strF oc p)) (h2:n<=8) (h3:oc.length<=100) (h4:p<=8*oc.length) (h5:(p+n<=8*oc.length->Q (iv (num oc / 2 ^ p % 2 ^ n)) (H.set dy (strF oc (p+n))))) (h6:(8*oc.length < p+n->X H)):CtLrBits H Q X [.inst .lreader b dy,iv n]
inductive CtLrBit (H:AH) (Q:V->AH->Prop) (X:AH->Prop):List V->Prop
 | mk(b dy oc p:_) (h1:H dy=some (strF oc p)) (h2:oc.length<=100) (h3:p<=8*oc.length) (h4:(p+1<=8*oc.length->Q (iv (num oc / 2 ^ p % 2 ^ 1)) (H.set dy (strF oc (p+1))))) (h5:(8*oc.length < p+1->X H)):CtLrBit H Q X [.inst .lreader b dy]
inductive CtLtRead (H:AH) (Q:V->AH->Prop) (X:AH->Prop):List V->Prop
 | mk(r a dz b dy oc p ls:_) (h2:LtOk E0 H ls r (num oc / 2 ^ p % 2 ^ r) (.inst .ltable a dz)) (h1:Full ls) (h3:H dy=some (strF oc p)) (h4:p<=8*oc.length) (h5:oc.length<=100) (h6:∀ s l,Dec ls (num oc / 2 ^ p) s l->(p+l+1<=8*oc.length->Q (iv s) (H.set dy (strF oc (p+l+1))))/\(8*oc.length < p+l+1->∀ q,X (H.set dy (strF oc q)))):CtLtRead H Q X [.inst .ltable a dz,.inst .lreader b dy]
inductive CtTrEnter (H:AH) (Q:V->AH->Prop) (X:AH->Prop):List V->Prop
 | mk(H0 ls r a dx sy sz le done s l:_) (h1:Full ls) (h2:r<=8) (h3:Has ls s l) (h4:done.length<=11) (h5:TrSt H0 H ls r dx sy sz le done) (h6:∀ H',TrSt H0 H' ls r dx sy sz le (done++[s])->Q .none H'):CtTrEnter H Q X [.inst .treader a dx,iv s,iv (rev (cod ls s) (l+1)),iv (l+1)]
inductive CtPwCost (H:AH) (Q:V->AH->Prop) (X:AH->Prop):List V->Prop
 | mk(a dx ls s l:_) (h1:H dx=some (pwF ls)) (h2:Full ls) (h3:Has ls s l) (h4:Q (iv (l+1)) H):CtPwCost H Q X [.inst .pwriter a dx,iv s]
inductive CtPwWrite (H:AH) (Q:V->AH->Prop) (X:AH->Prop):List V->Prop
 | mk(a dx ls b dy ad bs h hb val nb s l:_) (h1:H dx=some (pwF ls)) (h2:Full ls) (h3:Has ls s l) (h4:H dy=some (lwF ad h hb)) (h5:H ad=some (.barr bs)) (h6:WrSt bs h hb val nb) (h7:bs.length<=100) (h8:∀ bs' h' hb',WrSt bs' h' hb' (val+rev (cod ls s) (l+1)*2 ^ nb) (nb+(l+1))->Q .none ((H.set dy (lwF ad h' hb')).set ad (.barr bs'))):CtPwWrite H Q X [.inst .pwriter a dx,.inst .lwriter b dy,iv s]
inductive CtLwBits (H:AH) (Q:V->AH->Prop) (X:AH->Prop):List V->Prop
 | mk(b dy ad bs h hb val nb v n:_) (h1:v < 2 ^ n) (h2:n<=15) (h3:H dy=some (lwF ad h hb)) (h4:H ad=some (.barr bs)) (h5:WrSt bs h hb val nb) (h6:bs.length<=100) (h7:∀ bs' h' hb',WrSt bs' h' hb' (val+v*2 ^ nb) (nb+n)->Q .none ((H.set dy (lwF ad h' hb')).set ad (.barr bs'))):CtLwBits H Q X [.inst .lwriter b dy,iv v,iv n]
inductive CtLwCode (H:AH) (Q:V->AH->Prop) (X:AH->Prop):List V->Prop
 | mk(b dy ad bs h hb val nb c n:_) (h1:c < 2 ^ n) (h2:n<=15) (h3:H dy=some (lwF ad h hb)) (h4:H ad=some (.barr bs)) (h5:WrSt bs h hb val nb) (h6:bs.length<=100) (h7:∀ bs' h' hb',WrSt bs' h' hb' (val+rev c n*2 ^ nb) (nb+n)->Q .none ((H.set dy (lwF ad h' hb')).set ad (.barr bs'))):CtLwCode H Q X [.inst .lwriter b dy,iv c,iv n]
inductive CtLwSize (H:AH) (Q:V->AH->Prop) (X:AH->Prop):List V->Prop
 | mk(b dy ad bs h hb val nb:_) (h1:H dy=some (lwF ad h hb)) (h2:H ad=some (.barr bs)) (h3:WrSt bs h hb val nb) (h4:bs.length<=100) (h5:Q (iv nb) H):CtLwSize H Q X [.inst .lwriter b dy]
inductive CtLwDone (H:AH) (Q:V->AH->Prop) (X:AH->Prop):List V->Prop
 | mk(b dy ad bs h hb val nb:_) (h1:H dy=some (lwF ad h hb)) (h2:H ad=some (.barr bs)) (h3:WrSt bs h hb val nb) (h4:bs.length<=100) (h5:∀ out:List UInt8,num out=val->out.length=(nb+7) / 8->Q (.bytes out) H):CtLwDone H Q X [.inst .lwriter b dy]
inductive CtLawJar (H:AH) (Q:V->AH->Prop) (X:AH->Prop):List V->Prop
 | mk (ns:List Int) (h1:ns.length<=big) (h2:∀ a L,H a=none->JarL 0 L->Q (.ref a) (H.set a (.list L))):CtLawJar H Q X [.lst (ns.map .int)]
inductive CtLawPick (H:AH) (Q:V->AH->Prop) (X:AH->Prop):List V->Prop
 | mk(j L n many:_) (h1:0 < many) (h2:many < 2 ^ 62) (h3:H j=some (.list L)) (h4:JarL n L) (h5:n<=1000) (h6:∀ d L',d < many->JarL (n+1) L'->Q (iv d) (H.set j (.list L'))):CtLawPick H Q X [.ref j,iv many]
inductive CtLawLengths (H:AH) (Q:V->AH->Prop) (X:AH->Prop):List V->Prop
 | mk(j L n:_) (h1:H j=some (.list L)) (h2:JarL n L) (h3:n<=100) (h4:∀ ls L',Full ls->JarL (n+40) L'->Q (nl ls) (H.set j (.list L'))):CtLawLengths H Q X [.ref j]
inductive CtLawOctet (H:AH) (Q:V->AH->Prop) (X:AH->Prop):List V->Prop
 | mk(j L n:_) (h1:H j=some (.list L)) (h2:JarL n L) (h3:n<=900) (h4:∀ o L',o < 256->JarL (n+2) L'->Q (iv o) (H.set j (.list L'))):CtLawOctet H Q X [.ref j]
inductive CtLawCodes (H:AH) (Q:V->AH->Prop) (X:AH->Prop):List V->Prop
 | mk(ls:_) (h1:Full ls) (h2:∀ a kvs,H a=none->CodesOk ls kvs->Q (.ref a) (H.set a (.dict kvs))):CtLawCodes H Q X [nl ls]
inductive CtLawRead (H:AH) (Q:V->AH->Prop) (X:AH->Prop):List V->Prop
 | mk(r oc p ls fs es:_) (h1:Full ls) (h2:oc.length<=100) (h3:RdrOk E0 H ls r) (h4:Runs ls (num oc) (8*oc.length) p fs es) (h5:Q (.tup [nl fs,nl es]) H):CtLawRead H Q X [r,.bytes oc,iv p]
inductive CtLawSaid (H:AH) (Q:V->AH->Prop) (X:AH->Prop):List V->Prop
 | mk(a kvs oc fs es ls:_) (h1:H a=some (.dict kvs)) (h2:CodesOk ls kvs) (h3:Full ls) (h4:oc.length<=100) (h5:Runs ls (num oc) (8*oc.length) 0 fs es) (h6:Q (.bool true) H):CtLawSaid H Q X [.ref a,.bytes oc,nl fs,nl es]
inductive CtLawMany (H:AH) (Q:V->AH->Prop) (X:AH->Prop):List V->Prop
 | mk(ls oc fs es n:_) (h1:Full ls) (h2:oc.length<=100) (h3:Runs ls n (8*oc.length) 0 fs es) (h4:Q (.bool true) H):CtLawMany H Q X [nl ls,.bytes oc,nl fs]
inductive CtLawWritten (H:AH) (Q:V->AH->Prop) (X:AH->Prop):List V->Prop
 | mk(ls oc fs es:_) (h1:Full ls) (h2:oc.length<=7) (h3:Runs ls (num oc) (8*oc.length) 0 fs es) (h4:Q (.bool true) H):CtLawWritten H Q X [nl ls,.bytes oc,nl fs,nl es]
inductive CtLawTorn (H:AH) (Q:V->AH->Prop) (X:AH->Prop):List V->Prop
 | mk(rl r0 r1 ls oc at' fs es:_) (h1:H rl=some (.list [r0,r1])) (h2:Full ls) (h3:RdrOk E0 H ls r0) (h4:RdrOk E0 H ls r1) (h5:oc.length<=100) (h6:at' < 8*oc.length) (h7:Runs ls (num oc) (8*oc.length) 0 fs es) (h8:Q (.bool true) H):CtLawTorn H Q X [.ref rl,nl ls,.bytes oc,iv at',nl fs,nl es]
inductive CtLaw (H:AH) (Q:V->AH->Prop) (X:AH->Prop):List V->Prop
 | mk (ns:List Int) (h1:ns.length<=big) (h2:Q (.bool true) E0):CtLaw H Q X [.lst (ns.map .int)]
@[reducible] noncomputable def Ct:Fn->Spec
 | .turned=>fun vs H Q X=>CtTurned H Q X vs
 | .needCount=>fun vs H Q X=>CtNeedCount H Q X vs
 | .needValue=>fun vs H Q X=>CtNeedValue H Q X vs
 | .countsByLength=>fun vs H Q X=>CtCountsByLength H Q X vs
 | .roomOf=>fun vs H Q X=>CtRoomOf H Q X vs
 | .checkLengths=>fun vs H Q X=>CtCheckLengths H Q X vs
 | .greatestLength=>fun vs H Q X=>CtGreatestLength H Q X vs
 | .firstCodes=>fun vs H Q X=>CtFirstCodes H Q X vs
 | .canonical=>fun vs H Q X=>CtCanonical H Q X vs
 | .byLength=>fun vs H Q X=>CtByLength H Q X vs
 | .mkPReader=>fun vs H Q X=>CtMkPReader H Q X vs
 | .mkTReader=>fun vs H Q X=>CtMkTReader H Q X vs
 | .mkLTable=>fun vs H Q X=>CtMkLTable H Q X vs
 | .mkPWriter=>fun vs H Q X=>CtMkPWriter H Q X vs
 | .mkLReader=>fun vs H Q X=>CtMkLReader H Q X vs
 | .mkLWriter=>fun vs H Q X=>CtMkLWriter H Q X vs
 | .endOf=>fun vs H Q X=>CtEndOf H Q X vs
 | .gathered=>fun vs H Q X=>CtGathered H Q X vs
 | .lrLeft=>fun vs H Q X=>CtLrLeft H Q X vs
 | .lrPeek=>fun vs H Q X=>CtLrPeek H Q X vs
 | .lrSkip=>fun vs H Q X=>CtLrSkip H Q X vs
 | .lrBits=>fun vs H Q X=>CtLrBits H Q X vs
 | .lrBit=>fun vs H Q X=>CtLrBit H Q X vs
 | .prRead=>fun vs H Q X=>ReadOne (PrOk E0 H) H Q X vs
 | .trRead=>fun vs H Q X=>ReadOne (TrOk E0 H) H Q X vs
 | .ltRead=>fun vs H Q X=>CtLtRead H Q X vs
 | .trEnter=>fun vs H Q X=>CtTrEnter H Q X vs
 | .pwCost=>fun vs H Q X=>CtPwCost H Q X vs
 | .pwWrite=>fun vs H Q X=>CtPwWrite H Q X vs
 | .lwBits=>fun vs H Q X=>CtLwBits H Q X vs
 | .lwCode=>fun vs H Q X=>CtLwCode H Q X vs
 | .lwSize=>fun vs H Q X=>CtLwSize H Q X vs
 | .lwDone=>fun vs H Q X=>CtLwDone H Q X vs
 | .lawJar=>fun vs H Q X=>CtLawJar H Q X vs
 | .lawPick=>fun vs H Q X=>CtLawPick H Q X vs
 | .lawLengths=>fun vs H Q X=>CtLawLengths H Q X vs
 | .lawOctet=>fun vs H Q X=>CtLawOctet H Q X vs
 | .lawCodes=>fun vs H Q X=>CtLawCodes H Q X vs
 | .lawRead=>fun vs H Q X=>CtLawRead H Q X vs
 | .lawSaid=>fun vs H Q X=>CtLawSaid H Q X vs
 | .lawMany=>fun vs H Q X=>CtLawMany H Q X vs
 | .lawWritten=>fun vs H Q X=>CtLawWritten H Q X vs
 | .lawTorn=>fun vs H Q X=>CtLawTorn H Q X vs
 | .law=>fun vs H Q X=>CtLaw H Q X vs
noncomputable def rk:Fn->Nat
 | .needValue | .checkLengths | .canonical | .byLength | .mkLReader | .lrPeek | .lrSkip | .mkLTable | .lawLengths | .lawOctet=>1
 | .lrBits | .lwBits | .ltRead | .mkPReader | .mkTReader | .mkPWriter=>2
 | .lrBit | .lwCode | .trRead=>3
 | .prRead | .pwWrite=>4
 | .lawRead | .lawWritten=>5
 | .lawTorn=>6
 | .law=>7
 | _=>0
structure SpI (k:Nat) (f:Fn) (vs:List V) (H:AH) (Q:V->AH->Prop) (X:AH->Prop):Prop where
 rk:rk f < k
 ct:Ct f vs H Q X
noncomputable def Sp (k:Nat):Specs:=SpI k
section
theorem zc0 (c n:Nat):rev c n < 2 ^ n:=by
 induction n with
 | zero=>exact Nat.one_pos
 | succ n ih =>
  have:rev c n*2 ^ 1 < 2 ^ (n+1):=(Nat.mul_lt_mul_of_pos_right ih (show 0 < 2 ^ 1 by decide):rev c n*2 ^ 1 < 2 ^ n*2 ^ 1)
  exact Nat.or_lt_two_pow this (Nat.lt_of_le_of_lt Nat.and_le_right (Nat.one_lt_two_pow (by exact #[0x1041361,_] )))
theorem zkZ {c n:Nat} (h:n<=15):rev c n < 2 ^ 62:=Nat.lt_of_lt_of_le (zc0 c n) (Nat.pow_le_pow_right (by decide) (show n<=62 by exact #[0x7e04111f0411,_] h))
theorem zfs {c n:Nat} (hn:n<=15) (h:Q (iv (rev c n)) H):wpBody S c_turned.1 [some (iv c),some (iv n),none,none] H Q X:=by
 refine WRange.one (Nat.lt_of_le_of_lt hn (by decide)) ?_
 refine zbN (σ:=Nat×Option V) (fun s=>[some (iv c),some (iv n),some (iv (rev c s.1)),s.2]) (fun _=>H) (fun i s=>s.1=i) (0,none) (by rw [zad]; exact Nat.le_trans hn (by decide)) rfl rfl rfl (fun i x s hx hs=>⟨trivial,.var ?_⟩) (fun s hs=>⟨trivial,?_⟩)
 ·obtain ⟨h1,rfl⟩:=zal hx
  subst hs
  exact WBin.shl (by decide) (zkZ (by exact #[0x1f051145211f0411,_,_] hn h1)) (WBin.shr (WBin.and (WBin.or (zc2 _ Sub.refl ((s.1+1,some (iv s.1))) rfl rfl rfl))))
 ·rw [zad] at hs
  exact hs ▸ h
theorem zao (ls:List Nat) (L:Nat):(cnts ls L).length=L+1:=by unfold cnts; rw [List.length_map,List.length_range]
theorem zjv (L:Nat):cnts [] L=List.replicate (L+1) 0:=by
 unfold cnts
 rw [List.eq_replicate_iff]
 exact ⟨by rw [List.length_map,List.length_range],fun b hb=>by refine oEA (List.mem_map.mp hb) fun k _ yC=>?_; obtain rfl:=yC; rfl⟩
theorem zaE {ls:List Nat} {L k:Nat} (h:k<=L):(cnts ls L)[k]?=some (ls.count k):=by
 unfold cnts
 rw [List.getElem?_map,List.getElem?_range (by exact #[0x10514215411,_,_] h)]; rfl
theorem zik {ls:List Nat} {L i l:Nat} (h:ls[i]?=some l):(cnts (ls.take i) L).set l ((ls.take i).count l+1)=cnts (ls.take (i+1)) L:=by
 refine List.ext_getElem? fun k=>?_
 rw [List.getElem?_set,zao]
 rcases Nat.lt_or_ge L k with g | g
 ·rw [List.getElem?_eq_none (l:=cnts (ls.take (i+1)) L) (by rw [zao]; exact #[0x51041115421,_,_] g),List.getElem?_eq_none (l:=cnts (ls.take i) L) (by rw [zao]; exact #[0x51041115421,_,_] g)]
  split
  ·rw [if_neg (by exact #[0x1041626156315421,_,_,_] g ‹_›)]
  ·rfl
 ·rw [zaE g,zaE g,List.take_add_one,h,List.count_append]
  by_cases e:l=k
  ·subst e; rw [if_pos rfl,if_pos (by exact #[0x10514215411,_,_] g)]; simp
  ·rw [if_neg e]; simp [e]
theorem zbk {ls:List Nat} {L:Nat} (h1:∀ l∈ls,l<=L) (h2:L<=15) (h3:ls.length<=big) (h:Q (nl (cnts ls L)) H):wpBody S c_countsByLength.1 [some (nl ls),some (iv L),none,none] H (Back Q) X:=by
 refine WCmp.lt ⟨fun z=>neg0 z,fun _=>WBin.add (WRep.mk (k:=L+1) (Nat.le_trans (Nat.succ_le_succ h2) (by decide)) (fun a ha=>WSeq.lst ?_))⟩
 refine zbN (σ:=List Nat×Option V) (fun s=>[some (nl ls),some (iv L),some (.ref a),s.2]) (fun s=>H.set a (.list (il s.1))) (fun i s=>s.1=cnts (ls.take i) L) (cnts [] L,none) (by rw [ze]; exact h3) rfl ?_ rfl (fun i x s hx hs=>⟨trivial,.var ?_⟩) (fun s hs=>⟨trivial,?_⟩)
 ·rw [zjv,il,List.map_replicate]
 ·refine oEA (zay hx) fun l hl yC=>?_; obtain rfl:=yC
  have hl1:=h1 l (List.mem_of_getElem? hl)
  have hc:s.1[l]?=some ((ls.take i).count l):=by rw [hs]; exact zaE hl1
  refine WCmp.le ⟨fun _=>WCmp.le ⟨fun z=>absurd (ziB (nb z)) (Nat.not_lt.mpr hl1),fun _=>?_⟩,fun z=>absurd (Int.natCast_nonneg l) (of_decide_eq_false z)⟩
  refine WSub.list (za ..) (zH hc) (by exact #[0x488888888888888888888052145111f0411,_,_] h2 hl1) (WAug.add (WPutS.list (za ..) (by rw [ze,hs,zao]; exact #[0x10514215411,_,_] hl1) (by rw [ze,hs,zao]; exact Nat.le_trans (Nat.succ_le_succ h2) (by decide)) ?_))
  exact zdu (zbZ s.1 l _) (mEAA ((s.1.set l _,some (iv l))) rfl rfl (by rw [hs]; exact zik hl))
 ·rw [ze,List.take_length] at hs
  exact hs ▸ zia ha (hs ▸ h)
end
section
theorem zh8 {cs:List Nat} {i c:Nat} (h:cs[i]?=some c):room (cs.take i)*2 - Int.ofNat c=room (cs.take (i+1)):=by
 unfold room
 rw [List.take_add_one,h,List.foldl_append]; rfl
theorem ze8 {cs:List Nat} (hl:cs.length<=big) (h:Q (.int (room (cs.drop 1))) H):wpBody S c_roomOf.1 [some (nl cs),none,none] H Q X:=by
 refine WSlice.lstFrom (k:=1) (by rw [ze]; exact hl) (WSeq.lst ?_)
 rw [show (il cs).drop 1=il (cs.drop 1) from List.map_drop.symm]
 refine zbN (σ:=Int×Option V) (fun s=>[some (nl cs),some (.int s.1),s.2]) (fun _=>H) (fun i s=>s.1=room ((cs.drop 1).take i)) (1,none) (by rw [ze,List.length_drop]; exact #[0x561100631042441014106134515411,_,_,_] hl (subO _ _)) rfl rfl rfl (fun i x s hx hs=>⟨trivial,.var ?_⟩) (fun s hs=>⟨trivial,?_⟩)
 ·refine oEA (zay hx) fun c hc yC=>?_; obtain rfl:=yC
  exact WBin.mul (.inr (by decide)) (WBin.sub (zc2 _ Sub.refl ((_,some (iv c))) rfl rfl (by rw [hs]; exact zh8 hc)))
 ·rw [ze,List.take_length] at hs
  exact hs ▸ h
theorem ziK {ls:List Nat} {i l:Nat} (h:ls[i]?=some l):mx (ls.take (i+1))=if mx (ls.take i) < l then l else mx (ls.take i):=by
 unfold mx
 rw [List.take_add_one,h,List.foldl_append]; rfl
theorem zbh {ls:List Nat} (hl:ls.length<=big) (h:Q (iv (mx ls)) H):wpBody S c_greatestLength.1 [some (nl ls),none,none] H Q X:=by
 refine WSeq.lst (zbN (σ:=Nat×Option V) (fun s=>[some (nl ls),some (iv s.1),s.2]) (fun _=>H) (fun i s=>s.1=mx (ls.take i)) (0,none) (by rw [ze]; exact hl) rfl rfl rfl (fun i x s hx hs=>⟨trivial,.var ?_⟩) (fun s hs=>⟨trivial,?_⟩))
 ·refine oEA (zay hx) fun l hc yC=>?_; obtain rfl:=yC
  refine WCmp.gt ⟨fun z=>(zc2 _ Sub.refl ((l,some (iv l))) rfl rfl ?_),fun z=>(zc2 _ Sub.refl ((s.1,some (iv l))) rfl rfl ?_)⟩
  ·have z:=zbB z
   rw [ziK hc,if_pos (hs ▸ z)]
  ·have z:=zbw z
   rw [ziK hc,if_neg (hs ▸ Nat.not_lt.mpr z)]; exact hs
 ·rw [ze,List.take_length] at hs
  exact hs ▸ h
theorem zmv {ls:List Nat} {b:Nat} (h:∀ l∈ls,l<=b):mx ls<=b:=by
 have:∀ (ls:List Nat) (m:Nat),m<=b->(∀ l∈ls,l<=b)->ls.foldl (fun m l=>if m < l then l else m) m<=b:=by
  intro ls
  induction ls with
  | nil=>intro m hm _; exact hm
  | cons l r ih =>
   intro m hm h
   refine ih _ ?_ fun x hx=>h x (.tail _ hx)
   show (if m < l then l else m)<=b
   split
   ·exact h l (.head _)
   ·exact hm
 exact this ls 0 (Nat.zero_le _) h
theorem zfN {ls:List Nat}:∀ l∈ls,l<=mx ls:=by
 have:∀ (ls:List Nat) (m:Nat),m<=ls.foldl (fun m l=>if m < l then l else m) m/\∀ l∈ls,l<=ls.foldl (fun m l=>if m < l then l else m) m:=by
  intro ls
  induction ls with
  | nil=>intro m; exact ⟨Nat.le_refl _,fun l h=>nomatch h⟩
  | cons l r ih =>
   intro m
   obtain ⟨h1,h2⟩:=ih (if m < l then l else m)
   refine ⟨Nat.le_trans ?_ h1,fun x hx=>?_⟩
   ·split
    ·exact Nat.le_of_lt (by assumption)
    ·exact Nat.le_refl _
   ·rcases List.mem_cons.mp hx with rfl | hx
    ·refine Nat.le_trans ?_ h1; split
     ·exact Nat.le_refl _
     ·exact Nat.le_of_not_lt (by assumption)
    ·exact h2 x hx
 exact (this ls 0).2
theorem Full.mx8 {ls:List Nat} (F:Full ls):mx ls<=8:=zmv F.le8
theorem Full.big {ls:List Nat} (F:Full ls):ls.length<=Mine.big:=Nat.le_trans F.len (by decide)
theorem Full.pos {ls:List Nat} (F:Full ls):ls.length - ls.count 0≠0:=by
 have:∀ ls:List Nat,(ls.map wt).sum<=(ls.length - ls.count 0)*128:=by
  intro ls
  induction ls with
  | nil=>exact Nat.le_refl _
  | cons l r ih =>
   rw [List.map_cons,List.sum_cons,List.length_cons,List.count_cons]
   have hc:r.count 0<=r.length:=List.count_le_length
   by_cases e:l=0
   ·subst e
    rw [show wt 0=0 from rfl,if_pos (by rfl)]; exact #[0x628834001110053782487187513451006310711081241081107111081107161345152883411,_,_,_,_,_] ih (subO _ _) (subO _ _)
   ·rw [if_neg (by simpa using e)]
    have:wt l<=128:=by
     unfold wt
     rw [if_neg e]
     exact Nat.pow_le_pow_right (by decide) (show 8 - l<=7 by exact #[0x705110053418024180411804513451004361,_,_] e (subO _ _))
    exact #[0x9288348111005367247617651345100930061107124107100611107100619134512880811761152883411,_,_,_,_,_,_] ih hc this (subO _ _) (subO _ _)
 have h:=this ls
 rw [F.sum] at h
 intro e
 rw [e] at h; exact om 0x100488011 [] (by rfl') h
theorem zgg (ls:List Nat):∀ n,n<=8->room ((List.range n).map fun k=>ls.count (k+1))*2 ^ (8 - n)=256 - acc ls n
 | 0,_=>rfl
 | n+1,h=>by
  have ih:=zgg ls n (by exact #[0x180411180104111,_] h)
  rw [List.range_succ,List.map_append]
  have e:∀ xs:List Nat,∀ c:Nat,room (xs++[c])=room xs*2 - Int.ofNat c:=fun xs c=>by unfold room; rw [List.foldl_append]; rfl
  rw [List.map_singleton,e]
  have e2:(2:Int) ^ (8 - n)=2*2 ^ (8 - (n+1)):=by rw [show 8 - n=8 - (n+1)+1 by exact #[0x106153100631041180241801041118010416134510053418024180411804513451180104111,_,_,_] h (subO _ _) (subO _ _),Int.pow_succ,Int.mul_comm]
  rw [e2] at ih
  show (_*2 - Int.ofNat _)*_=256 - ((acc ls n+ls.count (n+1)*2 ^ (7 - n):Nat):Int)
  rw [Int.sub_mul,Int.mul_assoc,ih,show 8 - (n+1)=7 - n by exact #[0x643100635702470517056134510043105118024180105111801051413451,_,_,_] (subO _ _) (subO _ _)]
  rw [Int.natCast_add,Int.natCast_mul,Int.natCast_pow]
  exact Int.sub_sub ..
theorem zee:∀ (n:Nat) (z:Int),z=0->(List.replicate n 0).foldl (fun l c=>l*2 - Int.ofNat c) z=0
 | 0,z,h=>h
 | n+1,z,h=>zee n _ (by subst h; rfl)
theorem Full.room {ls:List Nat} (F:Full ls):Mine.room ((cnts ls 15).drop 1)=0:=by
 have e:(cnts ls 15).drop 1=((List.range 8).map fun k=>ls.count (k+1))++List.replicate 7 0:=by
  have z:∀ k,8 < k->ls.count k=0:=fun k hk=>List.count_eq_zero.mpr fun hm=>absurd (F.le8 k hm) (Nat.not_le.mpr hk)
  unfold cnts
  simp only [show List.range (15+1)=[0,1,2,3,4,5,6,7,8,9,10,11,12,13,14,15] from rfl,show List.range 8=[0,1,2,3,4,5,6,7] from rfl,List.map_cons,List.map_nil,List.drop_succ_cons,List.drop_zero,z 9 (by decide),z 10 (by decide),z 11 (by decide),z 12 (by decide),z 13 (by decide),z 14 (by decide),z 15 (by decide)]
  rfl
 rw [e]
 unfold Mine.room
 rw [List.foldl_append]
 refine zee 7 _ ?_
 have:=zgg ls 8 (Nat.le_refl _)
 rw [acc8 ls F.le8,F.sum] at this
 unfold Mine.room at this
 simpa using this
theorem zbL {ls:List Nat} (hk:1<=k) (F:Full ls) (h:Q .none H):wpBody (Sp k) c_checkLengths.1 [some (nl ls),some (iv 15),some (.bool false),none,none,none] H Q X:=by
 have hc:ls.count 0<=ls.length:=List.count_le_length
 refine SpI.mk hk ⟨ls,15,fun l hl=>Nat.le_trans (F.le8 l hl) (by decide),Nat.le_refl _,F.big,?_⟩
 refine WBcall.lenList rfl (by rw [ze]; exact F.big) (WSub.lst (zH (zaE (Nat.zero_le _))) (by decide) (WBin.nsub (by rw [ze]; exact hc) (WCmp.eq .int ⟨fun z=>?_,fun _=>?_⟩)))
 ·rw [ze] at z
  exact absurd (zhb z) F.pos
 refine SpI.mk hk ⟨cnts ls 15,by rw [zao]; decide,?_⟩
 rw [F.room]
 exact WCmp.lt ⟨fun z=>absurd z (by decide),fun _=>WCmp.gt ⟨fun z=>absurd z (by decide),fun _=>⟨fun z=>absurd z (by decide),fun _=>h⟩⟩⟩
end
section
theorem zk9 (F:Full ls) {n:Nat} (h:n<=8):acc ls n<=256:=by
 rw [<- F.sum,<- acc8 ls F.le8]; exact za3 ls h
theorem zkC (F:Full ls) {i:Nat} (hi:i<=7):(fcf ls i+if 0 < i then ls.count i else 0)*2=fcf ls (i+1)/\fcf ls i+(if 0 < i then ls.count i else 0) < 2 ^ 62:=by
 have key:(fcf ls i+if 0 < i then ls.count i else 0)*2=fcf ls (i+1):=by
  induction i using Nat.casesOn with
  | zero=>rfl
  | succ n=>rw [if_pos (Nat.succ_pos _)]; rfl
 refine ⟨key,?_⟩
 have h1:fcf ls (i+1)*2 ^ (7 - i)=acc ls i:=zbT ls i hi
 have h2:=zk9 F (n:=i) (by exact #[0x18041170411,_] hi)
 have h3:0 < 2 ^ (7 - i):=Nat.two_pow_pos _
 have h4:fcf ls (i+1)<=fcf ls (i+1)*2 ^ (7 - i):=Nat.le_mul_of_pos_right _ h3
 exact #[0x48888888888888888888805412176114880811873165412331,_,_,_,_,_] key h1 h2 h4
theorem zmL {ls fo:List Nat} (hl:fo.length=mx ls+1) (h:∀ L,L<=mx ls->fo[L]?=some (fcf ls L)):fo=fcs ls:=by
 refine List.ext_getElem? fun L=>?_
 unfold fcs
 rcases Nat.lt_or_ge (mx ls) L with g | g
 ·rw [List.getElem?_eq_none (by exact #[0x641165211051431,_,_,_] hl g),List.getElem?_eq_none (by rw [List.length_map,List.length_range]; exact #[0x51041115421,_,_] g)]
 ·rw [h L g,List.getElem?_map,List.getElem?_range (by exact #[0x10514215411,_,_] g)]; rfl
theorem fc_J {fo:List Nat} {i c:Nat} (j1:fo.length=mx ls+1) (j2:∀ L,L<=i->L<=mx ls->fo[L]?=some (fcf ls L)) (e:c=fcf ls (i+1)) :
  (fo.set (i+1) c).length=mx ls+1/\(∀ L,L<=i+1->L<=mx ls->(fo.set (i+1) c)[L]?=some (fcf ls L))/\c=fcf ls (i+1):=by
 refine ⟨by rw [List.length_set,j1],fun L h1 h2=>?_,e⟩
 rw [List.getElem?_set]
 by_cases q:i+1=L
 ·subst q; rw [if_pos rfl,if_pos (by exact #[0x410612151061111051431,_,_,_] j1 h2),e]
 ·rw [if_neg q]; exact j2 L (by exact #[0x5411410513611051411,_,_] h1 q) h2
theorem zcn (F:Full ls) (h:wpFresh H Q (.list (il (fcs ls)))):wpBody S c_firstCodes.1 [some (nl (cnts ls (mx ls))),none,none,none,none] H Q X:=by
 have h8:=F.mx8
 have hlen:(il (cnts ls (mx ls))).length=mx ls+1:=by rw [ze,zao]
 have hb:(il (cnts ls (mx ls))).length<=big:=by rw [hlen]; exact Nat.le_trans (Nat.succ_le_succ h8) (by decide)
 refine WBcall.lenList rfl hb (WRep.mk hb fun a ha=>WTgt.tup rfl (WBcall.lenList rfl hb ?_))
 rw [hlen]
 refine WRange.two (by decide) (by exact #[0x4888888888888888888880104121180411,_] h8) (zbN (σ:=List Nat×Nat×Option V×Option V) (fun s=>[some (nl (cnts ls (mx ls))),some (.ref a),some (iv s.2.1),s.2.2.1,s.2.2.2]) (fun s=>H.set a (.list (il s.1)))
  (fun i s=>s.1.length=mx ls+1/\(∀ L,L<=i->L<=mx ls->s.1[L]?=some (fcf ls L))/\s.2.1=fcf ls i) (List.replicate (mx ls+1) 0,0,none,none) (by rw [zG]; exact Nat.le_trans h8 (by decide)) rfl ?_ ⟨List.length_replicate,fun L h1 h2=>?_,rfl⟩ (fun i x s hx hs=>⟨trivial,.var ?_⟩) (fun s hs=>⟨trivial,?_⟩))
 ·rw [il,List.map_replicate]
 ·obtain rfl:=Nat.le_zero.mp h1; rw [List.getElem?_replicate,if_pos (Nat.succ_pos _)]; rfl
 ·obtain ⟨hi,rfl⟩:=zaZ hx
  rw [Nat.add_sub_cancel] at hi
  refine oAA hs fun j1 j2 j3=>?_
  obtain ⟨e1,e2⟩:=zkC F (i:=i) (by exact #[0x705114521180411,_,_] h8 hi)
  rw [<- j3] at e1 e2
  rw [Nat.one_mul,Nat.add_comm 1 i]
  have hsz:(il s.1).length<=big:=by rw [ze,j1]; exact Nat.le_trans (Nat.succ_le_succ h8) (by decide)
  have hlt:i+1 < (il s.1).length:=by rw [ze,j1]; exact Nat.succ_lt_succ hi
  refine WCmp.gt ⟨fun z=>WBin.nsub (Nat.succ_pos _) (WSub.lst (v:=iv (ls.count i)) (zH (zaE (Nat.le_of_lt hi))) (by exact #[0x488888888888888888888062100631010512410511011051106134514521180411,_,_,_] h8 hi (subO _ _)) ?_),fun z=>?_⟩
  ·rw [if_pos (Nat.lt_of_succ_lt_succ (zbB z))] at e1 e2
   exact WBin.add (WBin.shl (by decide) e2 (WPutS.list (za ..) hlt hsz (zdu (zbZ s.1 (i+1) _) (mEAA ((s.1.set (i+1) _,_,_,_)) rfl rfl (fc_J j1 j2 e1)))))
  ·rw [if_neg (Nat.not_lt.mpr (Nat.le_of_succ_le_succ (zbw z)))] at e1 e2
   exact WBin.add (WBin.shl (by decide) e2 (WPutS.list (za ..) hlt hsz (zdu (zbZ s.1 (i+1) _) (mEAA ((s.1.set (i+1) _,_,_,_)) rfl rfl (fc_J j1 j2 e1)))))
 ·rw [zG,Nat.add_sub_cancel] at hs
  refine oAA hs fun j1 j2 j3=>?_
  rw [zmL j1 fun L hL=>j2 L hL hL]
  exact h a ha
end
section
theorem zgo {H':AH} {a:Addr} {xs:List V} (s:Sub H H') (ha:H a=none) (hx:H' a=some (.list xs)) (h:Q (.lst xs) H):Back Q (.ref a) H':=(zn _ H s (.lst hx ha (FrzL.same _)) h)
def NextOk (ls fo:List Nat) (i:Nat):Prop:=fo.length=mx ls+1/\∀ L,1<=L->L<=mx ls->fo[L]?=some (fcf ls L+(ls.take i).count L)
theorem zg9:NextOk ls (fcs ls) 0:=by
 refine ⟨by unfold fcs; rw [List.length_map,List.length_range],fun L h1 h2=>?_⟩
 unfold fcs
 rw [List.getElem?_map,List.getElem?_range (by exact #[0x10514215411,_,_] h2)]; rfl
theorem za1 {i l:Nat} (h:ls[i]?=some l) (L:Nat):(ls.take (i+1)).count L=(ls.take i).count L+if l=L then 1 else 0:=by
 rw [List.take_add_one,h,List.count_append]
 by_cases e:l=L
 ·subst e; rw [if_pos rfl]; simp
 ·rw [if_neg e]; simp [e]
theorem zhw {fo:List Nat} {i:Nat} (h:ls[i]?=some 0) (j:NextOk ls fo i):NextOk ls fo (i+1) :=
 ⟨j.1,fun L h1 h2=>by rw [za1 h,if_neg (by exact #[0x40036141011,_] h1)]; exact j.2 L h1 h2⟩
theorem zhE {fo:List Nat} {i l:Nat} (h:ls[i]?=some l) (j:NextOk ls fo i):NextOk ls (fo.set l (fcf ls l+(ls.take i).count l+1)) (i+1):=by
 refine ⟨by rw [List.length_set,j.1],fun L h1 h2=>?_⟩
 rw [za1 h,List.getElem?_set]
 by_cases e:l=L
 ·subst e; rw [if_pos rfl,if_pos rfl,if_pos (by rw [j.1]; exact #[0x10514215411,_,_] h2)]; rfl
 ·rw [if_neg e,if_neg e]; exact j.2 L h1 h2
theorem zhU {i l:Nat} (h:ls[i]?=some l):ls.getD i 0=l:=by rw [List.getD_eq_getElem?_getD,h]; rfl
theorem zlX {i l:Nat} (h:ls[i]?=some (l+1)):codf ls i=fcf ls (l+1)+(ls.take i).count (l+1):=by
 unfold codf cod rank
 rw [zhU h,if_neg (Nat.succ_ne_zero _)]; rfl
theorem zar {α:Type} (f:Nat->α) (i:Nat):(List.range i).map f++[f i]=(List.range (i+1)).map f:=by rw [List.range_succ,List.map_append]; rfl
theorem zcK (hk:1<=k) (F:Full ls) (h:Q (nl (cods ls)) H):wpBody (Sp k) c_canonical.1 [some (nl ls),none,none,none] H (Back Q) X:=by
 refine SpI.mk hk ⟨ls,F.big,SpI.mk hk ⟨ls,mx ls,zfN,Nat.le_trans F.mx8 (by decide),F.big,SpI.mk hk ⟨ls,F,fun a ha b hb=>WSeq.lst ?_⟩⟩⟩
 have hb0:H b=none:=(zo ha).none hb
 refine zbN (σ:=AH×List Nat×List Nat×Option V) (fun s=>[some (nl ls),some (.ref a),some (.ref b),s.2.2.2]) (fun s=>s.1) (fun i s=>Sub H s.1/\s.1 a=some (.list (il s.2.1))/\s.1 b=some (.list (il s.2.2.1))/\NextOk ls s.2.1 i/\s.2.2.1=(List.range i).map (codf ls))
  (_,fcs ls,[],none) (by rw [ze]; exact F.big) rfl rfl ⟨(zo ha).put hb0,zl hb (za ..),za ..,zg9,rfl⟩ (fun i x s hx hs=>⟨trivial,.var ?_⟩) (fun s hs=>⟨trivial,?_⟩)
 ·refine oEA (zay hx) fun l hl yC=>?_; obtain rfl:=yC
  refine zbK hs fun j1 j2 j3 j4 j5=>?_
  have hab:a≠b:=zz hb (za ..)
  have hi:i < ls.length:=(List.getElem?_eq_some_iff.mp hl).1
  have hsz:(il s.2.2.1).length<=big:=by rw [ze,j5,List.length_map,List.length_range]; exact Nat.le_trans (Nat.le_of_lt hi) F.big
  have app:∀ c,il s.2.2.1++[iv c]=il (s.2.2.1++[c]):=fun c=>by rw [il,il,List.map_append]; rfl
  refine WCmp.eq .int ⟨fun z=>(mEA .list (.append j3) (WMeth.append j3 hsz (zeU _ Sub.refl ((_,s.2.1,s.2.2.1++[0],some (iv l))) rfl rfl (j1.put hb0) (zb hab j2) ((za ..).trans (by rw [app])) ?_))),fun z=>?_⟩
  ·obtain rfl:=zhb z
   refine ⟨zhw hl j4,?_⟩
   rw [j5,<- zar]
   congr 2
   unfold codf
   rw [zhU hl]; rfl
  ·obtain ⟨l,rfl⟩:=Nat.exists_eq_succ_of_ne_zero (ziU z)
   have hl1:l+1<=mx ls:=zfN _ (List.mem_of_getElem? hl)
   have hg:=j4.2 (l+1) (Nat.succ_pos _) hl1
   have hg':=zH hg
   have h8:=F.mx8
   refine mEA .list (.append j3) (WSub.list j2 hg' (by exact #[0x48888888888888888888801041211805115104111,_,_] hl1 h8) (WMeth.append j3 hsz (WSub.list (zb hab j2) hg' (by exact #[0x48888888888888888888801041211805115104111,_,_] hl1 h8) (WAug.add (WPutS.list (zb hab j2) (by rw [ze,j4.1]; exact #[0x10511041215104111,_,_] hl1) (by rw [ze,j4.1]; exact Nat.le_trans (Nat.succ_le_succ h8) (by decide)) ?_)))))
   refine zdf _ Sub.refl ((_,s.2.1.set (l+1) _,s.2.2.1++[fcf ls (l+1)+(ls.take i).count (l+1)],some (iv (l+1)))) rfl rfl ((j1.put hb0).put ha) ((za ..).trans (by rw [<- zbZ]; rfl)) (zb hab.symm ((za ..).trans (by rw [app]))) (zhE hl j4) ?_
   rw [j5,<- zar,zlX hl]
 ·rw [ze] at hs
  refine zbK hs fun j1 j2 j3 j4 j5=>?_
  exact zgo j1 hb0 (j3.trans (by rw [j5]; rfl)) h
end
section
theorem zf3 {vs:List V} {i:Nat} {x:V} (h:(vs.zipIdx.map fun p=>V.tup [iv p.2,p.1])[i]?=some x):∃ v,vs[i]?=some v/\x=.tup [iv i,v]:=by
 rw [List.getElem?_map] at h
 refine oEA (Option.map_eq_some_iff.mp h) fun p h1 yC=>?_; obtain rfl:=yC
 rw [List.getElem?_zipIdx] at h1
 refine oEA (Option.map_eq_some_iff.mp h1) fun v h2 yC=>?_; obtain rfl:=yC
 exact mEA v h2 (by rw [Nat.zero_add])
theorem enum_len {vs:List V}:(vs.zipIdx.map fun p=>V.tup [iv p.2,p.1]).length=vs.length:=by rw [List.length_map,List.length_zipIdx]
def PlOk (ls pl:List Nat) (i:Nat):Prop:=pl.length=mx ls+1/\∀ l,l < mx ls->pl[l+1]?=some (plc ls l+(ls.take i).count (l+1))
def FdOk (ls fd:List Nat) (i:Nat):Prop:=fd.length=plc ls (mx ls)/\∀ s l,s < i->Has ls s l->fd[plc ls l+rank ls s]?=some s
theorem zcJ {s l:Nat} (h:Has ls s l):l < mx ls:=zfN _ (List.mem_of_getElem? h)
theorem zbU {s l:Nat} (h:Has ls s l):rank ls s=(ls.take s).count (l+1):=by unfold rank; rw [zaC h]
theorem zdo {s l:Nat} (h:Has ls s l):plc ls l+rank ls s < plc ls (l+1):=by
 have:=zid h
 show _ < plc ls l+ls.count (l+1)
 exact #[0x561461215421,_,_,_] this
theorem zbM {s l:Nat} (h:Has ls s l):plc ls l+rank ls s < plc ls (mx ls):=Nat.lt_of_lt_of_le (zdo h) (zdi ls (zcJ h))
theorem zhn {s l s' l':Nat} (h:Has ls s l) (h':Has ls s' l') (e:plc ls l+rank ls s=plc ls l'+rank ls s'):s=s':=by
 have a:=zdo h
 have b:=zdo h'
 have:l=l':=by
  rcases Nat.lt_trichotomy l l' with q | q | q
  ·have:=zdi ls (show l+1<=l' from q); exact #[0xa931681185412176154131,_,_,_,_,_,_,_] e a this
  ·exact q
  ·have:=zdi ls (show l'+1<=l from q); exact #[0xa931481187612176154131,_,_,_,_,_,_,_] e b this
 subst this
 have e:rank ls s=rank ls s':=by exact #[0x653164154131,_,_,_] e
 rw [zbU h,zbU h'] at e
 exact zho h h' e
theorem zlK {pl:List Nat} {i:Nat} (h:ls[i]?=some 0) (j:PlOk ls pl i):PlOk ls pl (i+1) :=
 ⟨j.1,fun l h1=>by rw [za1 h,if_neg (by exact #[0x104100361,_] )]; exact j.2 l h1⟩
theorem zly {pl:List Nat} {i l:Nat} (h:Has ls i l) (j:PlOk ls pl i):PlOk ls (pl.set (l+1) (plc ls l+(ls.take i).count (l+1)+1)) (i+1):=by
 refine ⟨by rw [List.length_set,j.1],fun n h1=>?_⟩
 rw [za1 h,List.getElem?_set]
 by_cases e:l=n
 ·subst e; rw [if_pos rfl,if_pos rfl,if_pos (by rw [j.1]; exact #[0x10511041215421,_,_] h1)]; rfl
 ·rw [if_neg (by exact #[0x1051104136154361,_,_] e),if_neg (by exact #[0x1051104136154361,_,_] e)]; exact j.2 n h1
theorem zlH {fd:List Nat} {i:Nat} (h:ls[i]?=some 0) (j:FdOk ls fd i):FdOk ls fd (i+1) :=
 ⟨j.1,fun s l h1 h2=>j.2 s l (by
  rcases Nat.lt_succ_iff_lt_or_eq.mp h1 with q | q
  ·exact q
  ·subst q; unfold Has at h2; rw [h] at h2; cases h2) h2⟩
theorem zmB {fd:List Nat} {i l:Nat} (h:Has ls i l) (j:FdOk ls fd i):FdOk ls (fd.set (plc ls l+(ls.take i).count (l+1)) i) (i+1):=by
 refine ⟨by rw [List.length_set,j.1],fun s n h1 h2=>?_⟩
 rw [<- zbU h,List.getElem?_set]
 by_cases e:plc ls l+rank ls i=plc ls n+rank ls s
 ·rw [if_pos e,if_pos (by rw [j.1]; exact zbM h),zhn h h2 e]
 ·rw [if_neg e]
  refine j.2 s n ?_ h2
  rcases Nat.lt_succ_iff_lt_or_eq.mp h1 with q | q
  ·exact q
  ·subst q
   have:l+1=n+1:=Option.some.inj (h.symm.trans h2)
   exact absurd (by rw [Nat.succ.inj this]) e
theorem zgh (l:Nat) (ls:List Nat):∀ n,plc (l::ls) n=plc ls n+if 1<=l/\l<=n then 1 else 0
 | 0=>by rw [if_neg (by exact #[0x414101461,_] )]; rfl
 | n+1=>by
  unfold plc
  rw [zgh l ls n,List.count_cons]
  by_cases h:l=n+1
  ·subst h
   rw [if_neg (by exact #[0x4104111041101461,_] ),if_pos (by simp),if_pos (by exact #[0x104110411104110141,_] )]; exact #[0x10541110510041131,_,_] 
  ·rw [if_neg (c:=(l == n+1)=true) (by simpa using h)]
   by_cases g:1<=l/\l<=n
   ·rw [if_pos g,if_pos (by exact #[0x105141410141541141011,_,_] g.1 g.2)]; exact #[0x10541100511041131,_,_] 
   ·rw [if_neg g,if_neg (by exact #[0x1051414101461541410146110514361,_,_] h g)]; exact #[0x541100510041131,_,_] 
theorem zfZ:∀ (ls:List Nat) (n:Nat),plc ls n<=ls.length
 | [],n=>by
  have:∀ n,plc [] n=0:=fun n=>by
   induction n with
   | zero=>rfl
   | succ n ih=>show plc [] n+0=0; rw [ih]
  rw [this]; exact Nat.le_refl _
 | l::ls,n=>by
  have:=zfZ ls n
  rw [zgh,List.length_cons]
  split
  ·exact #[0x10511041115411,_,_] this
  ·exact #[0x10510041115411,_,_] this
theorem bl_of (F:Full ls) {fd:List Nat} (j:FdOk ls fd ls.length):Bl ls fd:=by
 have at_:∀ s l,Has ls s l->fd[plc ls l+rank ls s]?=some s:=fun s l h=>j.2 s l (List.getElem?_eq_some_iff.mp h).1 h
 refine ⟨by rw [j.1]; exact Nat.le_trans (zfZ _ _) F.len,at_,fun s hs=>?_⟩
 obtain ⟨p,hp,rfl⟩:=List.getElem_of_mem hs
 have find:∀ n,p < plc ls n->∃ l,plc ls l<=p/\p < plc ls (l+1):=fun n=>by
  induction n with
  | zero=>intro h; exact absurd h (Nat.not_lt_zero _)
  | succ n ih =>
   intro h
   rcases Nat.lt_or_ge p (plc ls n) with g | g
   ·exact ih g
   ·exact mEA n g h
 obtain ⟨l,h1,h2⟩:=find (mx ls) (by rw [<- j.1]; exact hp)
 have h2:p < plc ls l+ls.count (l+1):=h2
 obtain ⟨s,h3,h4⟩:=nth ls (l+1) (p - plc ls l) (by exact #[0x672100734524541547134516415215411,_,_,_,_] h1 h2 (subO _ _))
 have h3:Has ls s l:=h3
 have h5:=at_ s l h3
 rw [zbU h3,h4,show plc ls l+(p - plc ls l)=p by exact #[0x56413100634524541546134515411,_,_,_] h1 (subO _ _),List.getElem?_eq_getElem hp] at h5
 exact ⟨l,(Option.some.inj h5) ▸ h3⟩
theorem zds (hk:1<=k) (F:Full ls) (h:∀ bl,Bl ls bl->Q (nl bl) H):wpBody (Sp k) c_byLength.1 [some (nl ls),none,none,none,none,none,none] H (Back Q) X:=by
 have h8:=F.mx8
 have hlen:(il (cnts ls (mx ls))).length=mx ls+1:=by rw [ze,zao]
 have hb:(il (cnts ls (mx ls))).length<=big:=by rw [hlen]; exact Nat.le_trans (Nat.succ_le_succ h8) (by decide)
 refine SpI.mk hk ⟨ls,F.big,SpI.mk hk ⟨ls,mx ls,zfN,Nat.le_trans F.mx8 (by decide),F.big,WBcall.lenList rfl hb (WRep.mk hb fun a ha=>WTgt.tup rfl (WBcall.lenList rfl hb ?_))⟩⟩
 rw [hlen]
 refine WRange.two (by decide) (by exact #[0x4888888888888888888880104121180411,_] h8) (zbN (σ:=List Nat×Nat×Option V) (fun s=>[some (nl ls),some (nl (cnts ls (mx ls))),some (.ref a),some (iv s.2.1),s.2.2,none,none]) (fun s=>H.set a (.list (il s.1)))
  (fun i s=>s.1.length=mx ls+1/\(∀ l,l < i->l < mx ls->s.1[l+1]?=some (plc ls l))/\s.2.1=plc ls i) (List.replicate (mx ls+1) 0,0,none) (by rw [zG]; exact Nat.le_trans h8 (by decide)) rfl ?_ ⟨List.length_replicate,fun l h1=>absurd h1 (Nat.not_lt_zero _),rfl⟩ (fun i x s hx hs=>⟨trivial,.var ?_⟩) (fun s hs=>⟨trivial,?_⟩))
 ·rw [il,List.map_replicate]
 ·obtain ⟨hi,rfl⟩:=zaZ hx
  rw [Nat.add_sub_cancel] at hi
  refine oAA hs fun j1 j2 j3=>?_
  rw [Nat.one_mul,Nat.add_comm 1 i]
  refine WPutS.list (za ..) (by rw [ze,j1]; exact #[0x10511041215421,_,_] hi) (by rw [ze,j1]; exact Nat.le_trans (Nat.succ_le_succ h8) (by decide)) (WSub.lst (zH (zaE hi)) (by exact #[0x48888888888888888888801051214521180411,_,_] h8 hi) (WAug.add (zdu (zbZ s.1 (i+1) _) (zcv ((s.1.set (i+1) _,_,some (iv (i+1)))) rfl rfl (by rw [List.length_set,j1]) (fun l h1 h2=>?_) (by rw [j3]; rfl)))))
  rw [List.getElem?_set]
  by_cases e:i=l
  ·subst e; rw [if_pos rfl,if_pos (by exact #[0x410612156211051431,_,_,_] j1 h2),j3]
  ·rw [if_neg (by exact #[0x1051104136154361,_,_] e)]; exact j2 l (by exact #[0x5421453611051421,_,_] h1 e) h2
 rw [zG,Nat.add_sub_cancel] at hs
 refine oAA hs fun j1 j2 j3=>?_
 have hu:plc ls (mx ls)<=11:=Nat.le_trans (zfZ _ _) F.len
 refine WRep.mk (k:=s.2.1) (by rw [j3]; exact Nat.le_trans hu (by decide)) fun b hb'=>WEnum.lst (by rw [ze]; exact F.big) ?_
 have hb0:H b=none:=(zo ha).none hb'
 refine zbN (σ:=AH×List Nat×List Nat×Option V×Option V) (fun t=>[some (nl ls),some (nl (cnts ls (mx ls))),some (.ref a),some (iv s.2.1),t.2.2.2.1,some (.ref b),t.2.2.2.2]) (fun t=>t.1)
  (fun i t=>Sub H t.1/\t.1 a=some (.list (il t.2.1))/\t.1 b=some (.list (il t.2.2.1))/\PlOk ls t.2.1 i/\FdOk ls t.2.2.1 i) (_,s.1,List.replicate s.2.1 0,s.2.2,none) (by rw [enum_len,ze]; exact F.big) rfl rfl
  ⟨(zo ha).put hb0,zl hb' (za ..),(za ..).trans (by rw [il,List.map_replicate]),⟨j1,fun l hl=>j2 l hl hl⟩,by rw [List.length_replicate,j3],fun s l h1=>absurd h1 (Nat.not_lt_zero _)⟩ (fun i x t hx ht=>⟨trivial,?_⟩) (fun t ht=>⟨trivial,?_⟩)
 ·refine oEA (zf3 hx) fun v hv yC=>?_; obtain rfl:=yC
  refine oEA (zay hv) fun l hl yC=>?_; obtain rfl:=yC
  refine zbK ht fun k1 k2 k3 k4 k5=>?_
  have hab:a≠b:=zz hb' (za ..)
  refine WTgt.tup rfl (WCmp.gt ⟨fun z=>?_,fun z=>(zeU _ Sub.refl ((_,t.2.1,t.2.2.1,_,_)) rfl rfl k1 k2 k3 ?_)⟩)
  ·have z:=zbB z
   obtain ⟨l,rfl⟩:=Nat.exists_eq_succ_of_ne_zero (Nat.ne_of_gt z)
   have hh:Has ls i l:=hl
   have hm:=zcJ hh
   have g:=zH (k4.2 l hm)
   refine WSub.list k2 g (by exact #[0x48888888888888888888801051214521180411,_,_] h8 hm) (WPutS.list k3 (by rw [ze,k5.1,<- zbU hh]; exact zbM hh) (by rw [ze,k5.1]; exact Nat.le_trans hu (by decide)) (WSub.list (zb hab k2) g (by exact #[0x48888888888888888888801051214521180411,_,_] h8 hm) (WAug.add (WPutS.list (zb hab k2) (by rw [ze,k4.1]; exact #[0x10511041215421,_,_] hm) (by rw [ze,k4.1]; exact Nat.le_trans (Nat.succ_le_succ h8) (by decide)) ?_))))
   exact zdf _ Sub.refl ((_,t.2.1.set (l+1) _,t.2.2.1.set _ i,_,_)) rfl rfl ((k1.put hb0).put ha) ((za ..).trans (by rw [<- zbZ]; rfl)) (zb hab.symm ((za ..).trans (by rw [zbZ]))) (zly hh k4) (zmB hh k5)
  ·obtain rfl:=Nat.le_zero.mp (zbw z)
   exact ⟨zlK hl k4,zlH hl k5⟩
 ·rw [enum_len,ze] at ht
  refine zbK ht fun k1 k2 k3 k4 k5=>?_
  exact zgo k1 hb0 k3 (h _ (bl_of F k5))
end
section
theorem zk2 {σ:Type} {tw:Loc->AH->(Bool->AH->Prop)->Prop} {w:Loc->AH->(Loc->AH->Prop)->Prop} (f:σ->Loc) (g:σ->AH) (J:σ->Prop) (μ:σ->Nat) (s0:σ) (hm:m=f s0) (hH:H=g s0) (h0:J s0)
  (st:∀ s,J s->tw (f s) (g s) fun c HE=>(c=true->w (f s) HE fun mE HF=>∃ n',n' < μ s/\Wk (fun m H=>∃ s',m=f s'/\H=g s'/\J s'/\μ s'=n') mE HF)/\(c=false->NK (f s) HE)):Whiles tw w NK m H :=
 ⟨fun n m H=>∃ s,m=f s/\H=g s/\J s/\μ s=n,(zx (μ s0) s0 hm hH h0 rfl),fun n mC HD hI=>by
  refine zdw hI fun s yB yC hJ yE=>?_; obtain rfl:=yB; obtain rfl:=yC; obtain rfl:=yE
  exact st s hJ⟩
theorem nf {b:Bool} (h:b≠false):b=true:=(Bool.not_eq_false b).mp h
theorem nt {b:Bool} (h:b≠true):b=false:=(Bool.not_eq_true b).mp h
theorem nz {b:Bool} {p:Prop} (h:b≠b):p:=absurd rfl h
theorem zcM (h:Q .none H):wpBody S c_needCount.1 [some (iv n)] H Q X :=
 WBcall.isInt (WTru.mk ⟨fun _=>WBcall.isBool (WTru.mk ⟨fun _=>WCmp.lt ⟨fun _=>⟨fun z=>absurd z (by decide),fun _=>h⟩,fun z=>neg0 (nf z)⟩,fun z=>nz z⟩),fun z=>nz z⟩)
theorem zcO {v:Nat} (hk:1<=k) (hv:v < 2 ^ n) (h:Q .none H):wpBody (Sp k) c_needValue.1 [some (iv v),some (iv n)] H Q X:=by
 refine SpI.mk hk ⟨n,WBcall.isInt (WTru.mk ⟨fun _=>WCmp.lt ⟨fun _=>WBin.shr (WCmp.ne .int ⟨fun _=>⟨fun z=>absurd z (by decide),fun _=>h⟩,fun z=>?_⟩),fun z=>neg0 (nf z)⟩,fun z=>nz z⟩)⟩
 exact absurd (Nat.div_eq_of_lt hv) (ziU (nb (nf z)))
theorem zg2 (hl:oc.length<=big) (h:Q (iv oc.length) H):wpBody S c_endOf.1 [some (.bytes oc),some (iv 0),some .none,none] H Q X:=by
 refine WCmp.isnn ⟨fun _=>WBcall.lenBytes hl ?_,fun z=>absurd z (by decide)⟩
 refine WCmp.le ⟨fun _=>WCmp.le ⟨fun _=>WBcall.lenBytes hl (WCmp.le ⟨fun z=>absurd (ziB (nb z)) (Nat.lt_irrefl _),fun _=>h⟩),fun z=>absurd (ziB z) (Nat.not_lt_zero _)⟩,fun z=>absurd (ziB z) (Nat.not_lt_zero _)⟩
theorem zdQ {i:Nat} {o:UInt8} (h:oc[i]?=some o):num (oc.take (i+1))=num (oc.take i)+2 ^ (8*i)*o.toNat:=by
 have hi:i < oc.length:=(List.getElem?_eq_some_iff.mp h).1
 rw [List.take_add_one,h,zP,List.length_take,Nat.min_eq_left (Nat.le_of_lt hi)]
 simp [num]
theorem zcH (oc:List UInt8) (i:Nat):num (oc.take i) < 2 ^ (8*i) :=
 Nat.lt_of_lt_of_le (zlm _) (Nat.pow_le_pow_right (by decide) (Nat.mul_le_mul_left 8 (List.length_take_le _ _)))
structure Gat (oc:List UInt8) (p:Nat) (v g i d:Nat):Prop where
 pos:g+p=8*i+d
 ins:d=0∨(g=0/\d < 8)
 val:v=num (oc.take i) / 2 ^ p
theorem zkz {v g i d:Nat} {o:UInt8} (J:Gat oc p v g i d) (h:oc[i]?=some o):Gat oc p (v ||| o.toNat / 2 ^ d*2 ^ g) (g+(8 - d)) (i+1) 0:=by
 obtain ⟨h1,h2,rfl⟩:=J
 refine ⟨by exact #[0x1061182158411310083718024180711807813451180720043400735176182154131,_,_,_,_,_] h1 h2 (subO _ _),.inl rfl,?_⟩
 have hlt:=zcH oc i
 rw [zdQ h]
 rcases h2 with rfl | ⟨rfl,h2⟩
 ·have e:8*i=p+g:=by exact #[0x451618231006182154131,_,_,_] h1
  rw [e] at hlt ⊢
  rw [Nat.pow_add,Nat.mul_assoc,Nat.add_mul_div_left _ _ (Nat.two_pow_pos p),Nat.pow_zero,Nat.div_one,Nat.mul_comm o.toNat]
  have hb:num (oc.take i) / 2 ^ p < 2 ^ g:=by rw [Nat.div_lt_iff_lt_mul (Nat.two_pow_pos p),<- Nat.pow_add,Nat.add_comm g p]; exact hlt
  rw [Nat.or_comm,<- Nat.two_pow_add_eq_or_of_lt hb,Nat.add_comm]
 ·have e:p=8*i+d:=by exact #[0x651821431651821400131,_,_,_] h1
  subst e
  have z:num (oc.take i) / 2 ^ (8*i+d)=0:=Nat.div_eq_of_lt (Nat.lt_of_lt_of_le hlt (Nat.pow_le_pow_right (by decide) (Nat.le_add_right _ _)))
  rw [z,Nat.zero_or,Nat.pow_zero,Nat.mul_one,Nat.pow_add,<- Nat.div_div_eq_div_mul,Nat.add_mul_div_left _ _ (Nat.two_pow_pos _),Nat.div_eq_of_lt hlt,Nat.zero_add]
theorem zjl {v g i d:Nat} (J:Gat oc p v g i d) (h:n<=g∨oc.length<=i):v % 2 ^ n=num oc / 2 ^ p % 2 ^ n:=by
 obtain ⟨h1,h2,rfl⟩:=J
 rcases h with h | h
 ·have e:p+n<=8*i∨n=0:=by exact #[0x8361828511514811180720043400735176182154131,_,_,_,_,_] h1 h2 h
  rcases e with e | rfl
  ·have hn:num oc=num (oc.take i)+2 ^ (8*(oc.take i).length)*num (oc.drop i):=by rw [<- zP,List.take_append_drop]
   rcases Nat.lt_or_ge i oc.length with q | q
   ·rw [List.length_take,Nat.min_eq_left (Nat.le_of_lt q)] at hn
    refine zcm (k:=8*i) ?_ e
    rw [hn,Nat.add_mul_mod_self_left]
   ·rw [List.take_of_length_le q]
  ·rw [Nat.pow_zero,Nat.mod_one,Nat.mod_one]
 ·rw [List.take_of_length_le h]
theorem zdJ (hn:n<=8) (hl:oc.length<=100) (h:Q (iv (num oc / 2 ^ p % 2 ^ n)) H):wpBody S c_gathered.1 [some (.bytes oc),some (iv p),some (iv n),some (iv oc.length),none,none,none,none] H Q X:=by
 refine WBin.shr (WBin.and (WTgt.tup rfl ?_))
 refine zk2 (σ:=Nat×Nat×Nat×Nat) (fun s=>[some (.bytes oc),some (iv p),some (iv n),some (iv oc.length),some (iv s.1),some (iv s.2.1),some (iv s.2.2.1),some (iv s.2.2.2)]) (fun _=>H) (fun s=>Gat oc p s.1 s.2.1 s.2.2.1 s.2.2.2) (fun s=>oc.length - s.2.2.1) (0,0,p / 2 ^ 3,p &&& 7) rfl rfl ⟨?_,?_,?_⟩ fun s J=>?_
 ·have:p &&& 7=p % 8:=Nat.and_two_pow_sub_one_eq_mod p 3
  show 0+p=8*(p / 8)+(p &&& 7)
  exact #[0x46182170013118052001803575618213415431,_,_,_,_] this (divO _ _)
 ·have:p &&& 7=p % 8:=Nat.and_two_pow_sub_one_eq_mod p 3
  show (p &&& 7)=0∨(0=0/\(p &&& 7) < 8)
  exact #[0x1804200003400435118052001803575618213415431,_,_,_,_] this (divO _ _)
 ·refine (Nat.div_eq_of_lt (Nat.lt_of_lt_of_le (zcH _ _) (Nat.pow_le_pow_right (by decide) ?_))).symm
  show 8*(p / 8)<=p
  exact #[0x64182111805200180356541821341,_,_,_] (divO _ _)
 ·have fin:n<=s.2.1∨oc.length<=s.2.2.1->Q (iv (s.1 &&& (1*2 ^ n - 1))) H:=fun z=>by
   rw [Nat.one_mul,Nat.and_two_pow_sub_one_eq_mod,zjl J z]; exact h
  have ret:Q (iv (s.1 &&& (1*2 ^ n - 1))) H->wpSs S (fun _ H=>X H) (c_gathered.1.drop 2) [some (.bytes oc),some (iv p),some (iv n),some (iv oc.length),some (iv s.1),some (iv s.2.1),some (iv s.2.2.1),some (iv s.2.2.2)] H (fun _ H=>Q .none H) Q:=fun q =>
   WBin.shl (by exact #[0x2bca80411180411,_] hn) (by decide) (WBin.nsub (Nat.mul_pos (by decide) (Nat.two_pow_pos n)) (WBin.and q))
  refine WCmp.lt ⟨fun z=>WCmp.lt ⟨fun z2=>⟨fun _=>?_,fun q=>absurd q (by decide)⟩,fun z2=>⟨fun q=>absurd q (by decide),fun _=>ret (fin (.inr (zbw (nt z2))))⟩⟩,fun z=>⟨fun q=>absurd q (by decide),fun _=>ret (fin (.inl (zbw (nt z))))⟩⟩
  have z2:=zbB z2
  have z:=zbB z
  have ho:oc[s.2.2.1]?=some (oc[s.2.2.1]):=List.getElem?_eq_getElem z2
  have hd:s.2.2.2<=8:=J.ins.elim (fun q=>by exact #[0x18041100431,_] q) fun q=>by exact #[0x180411180421,_] q.2
  exact WSub.bytes ho (Nat.le_trans hl (by decide)) (WBin.shr (WBin.shl (by exact #[0x2bca805114521180411,_,_] hn z) (Nat.lt_of_le_of_lt (Nat.div_le_self _ _) (Nat.lt_of_lt_of_le (UInt8.toNat_lt _) (by decide))) (WAug.or (WBin.nsub hd (WAug.add (WAug.add (zeF _ (Nat.sub_succ_lt_self _ _ z2) _ Sub.refl ((_,_,_,0)) rfl rfl (zkz J ho) rfl)))))))
end
section
theorem zba {fs:List (At×V)} {dx:Addr} {c:Cls} {a:Addr} {n:At} {x:V} {K:AH->Prop} (hl:fs.length<=100) (q:K (H.set dx (.fields (fput fs n x)))):WPutA (H.set dx (.fields fs)) x K (.inst c a dx) n :=
 .mk (za ..) hl (by rw [zas]; exact q)
theorem zfc (hk:1<=k) (hl:oc.length<=100) (h:Q .none (H.set dy (strF oc 0))):wpBody (Sp k) c_lrInit.1 [some (.inst .lreader b dy),some (.bytes oc),some (iv 0),some .none] (H.set dy (.fields [])) Q X :=
 WBcall.bytesB (zba (Nat.le_of_ble_eq_true rfl) (WAttr.mk (za ..) rfl (SpI.mk hk ⟨oc,Nat.le_trans hl (by decide),zba (Nat.le_of_ble_eq_true rfl) (WBin.mul (.inl (by decide)) (zba (Nat.le_of_ble_eq_true rfl) h))⟩)))
theorem ze7 (hd:H dy=some (strF oc p)) (hp:p<=8*oc.length) (h:Q (iv (8*oc.length - p)) H):wpBody S c_lrLeft.1 [some (.inst .lreader b dy)] H Q X :=
 WAttr.mk hd rfl (WBin.mul (.inl (by decide)) (WAttr.mk hd rfl (WBin.nsub hp h)))
theorem zfa (hk:1<=k) (hd:H dy=some (strF oc p)) (hn:n<=8) (hl:oc.length<=100) (h:Q (iv (num oc / 2 ^ p % 2 ^ n)) H):wpBody (Sp k) c_lrPeek.1 [some (.inst .lreader b dy),some (iv n)] H Q X :=
 SpI.mk hk ⟨n,WAttr.mk hd rfl (WAttr.mk hd rfl (WAttr.mk hd rfl (SpI.mk hk ⟨oc,p,n,hn,hl,h⟩)))⟩
theorem zfH (hk:1<=k) (hd:H dy=some (strF oc p)) (hp:p<=8*oc.length) (h1:p+n<=8*oc.length->Q .none (H.set dy (strF oc (p+n)))) (h2:8*oc.length < p+n->X H):wpBody (Sp k) c_lrSkip.1 [some (.inst .lreader b dy),some (iv n)] H Q X:=by
 refine SpI.mk hk ⟨n,(mEA .user (.user rfl hd) (WMeth.user rfl (SpI.mk hk ⟨b,dy,oc,p,hd,hp,WCmp.gt ⟨fun z=>?_,fun z=>?_⟩⟩)))⟩
 ·have z:=zbB z
  exact h2 (by exact #[0x56171822100436718224718261718264134515421,_,_,_,_] z (subO _ _))
 ·have z:=zbw z
  exact WAttr.mk hd rfl (WAug.add (WPutA.mk hd (Nat.le_of_ble_eq_true rfl) (h1 (by exact #[0x518264111007345182245182415182471345176115182411,_,_,_,_] hp z (subO _ _)))))
theorem ze6 (hk:2<=k) (hd:H dy=some (strF oc p)) (hn:n<=8) (hl:oc.length<=100) (hp:p<=8*oc.length) (h1:p+n<=8*oc.length->Q (iv (num oc / 2 ^ p % 2 ^ n)) (H.set dy (strF oc (p+n)))) (h2:8*oc.length < p+n->X H) :
  wpBody (Sp k) c_lrBits.1 [some (.inst .lreader b dy),some (iv n),none] H Q X :=
 (mEA .user (.user rfl hd) (WMeth.user rfl (SpI.mk hk ⟨b,dy,oc,p,n,hd,hn,hl,(mEA .user (.user rfl hd) (WMeth.user rfl (SpI.mk hk ⟨b,dy,oc,p,n,hd,hp,h1,h2⟩)))⟩)))
theorem zgI (hk:3<=k) (hd:H dy=some (strF oc p)) (hl:oc.length<=100) (hp:p<=8*oc.length) (h1:p+1<=8*oc.length->Q (iv (num oc / 2 ^ p % 2 ^ 1)) (H.set dy (strF oc (p+1)))) (h2:8*oc.length < p+1->X H) :
  wpBody (Sp k) c_lrBit.1 [some (.inst .lreader b dy)] H Q X :=
 (mEA .user (.user rfl hd) (WMeth.user rfl (SpI.mk hk ⟨b,dy,oc,p,1,hd,by decide,hl,hp,h1,h2⟩)))
end
section
theorem below {r q:Nat} (h:r < q) (hk:q<=k):r < k:=Nat.lt_of_lt_of_le h hk
theorem zfP (hk:2<=k) (F:Full ls) (h:∀ bl,Bl ls bl->Q .none (H.set dx (prF ls bl))):wpBody (Sp k) c_prInit.1 [some (.inst .preader a dx),some (nl ls),some (iv 15),some (.bool false)] (H.set dx (.fields [])) Q X:=by
 have h0:0 < k:=below (by decide) hk
 exact SpI.mk hk ⟨ls,F,SpI.mk h0 ⟨ls,F.big,zba (Nat.le_of_ble_eq_true rfl) (WAttr.mk (za ..) rfl (SpI.mk h0 ⟨ls,mx ls,zfN,Nat.le_trans F.mx8 (by decide),F.big,zba (Nat.le_of_ble_eq_true rfl) (SpI.mk hk ⟨ls,F,fun bl hb=>zba (Nat.le_of_ble_eq_true rfl) (h bl hb)⟩)⟩))⟩⟩
theorem zda {o:AObj} (h:H dy=some o):H.set dy o=H:=funext fun x=>by
 unfold AH.set
 split
 ·rename_i e; rw [e,h]
 ·rfl
theorem bit_eq (n p i:Nat):n / 2 ^ (p+i) % 2 ^ 1=n / 2 ^ p / 2 ^ i &&& 1:=by
 rw [Nat.div_div_eq_div_mul,<- Nat.pow_add,Nat.and_one_is_mod,Nat.pow_one]
theorem pr_at (F:Full ls) {c s l i:Nat} (d:Dec ls c s l) (hi:i<=l):fst' ls i<=rev c (i+1)/\(rev c (i+1) - fst' ls i < ls.count (i+1)->i=l/\plc ls i+rev c (i+1) - fst' ls i=plc ls l+rank ls s)/\(ls.count (i+1)<=rev c (i+1) - fst' ls i->i+1<=l):=by
 have h8:=ziC F d
 have A:=(zf9 F).mp d
 obtain ⟨b1,b2⟩:=zcE F A
 have e:rev c (i+1)=rev c 8 / 2 ^ (7 - i):=by rw [<- rev8 c (i+1) (by exact #[0x1801041111805215411,_,_] hi h8),show 8 - (i+1)=7 - i by exact #[0x643100635702470517056134510043105118024180105111801051413451,_,_,_] (subO _ _) (subO _ _)]
 have ea:=zbT ls i (by exact #[0x704111805215411,_,_] hi h8)
 have h1:fst' ls i<=rev c 8 / 2 ^ (7 - i):=by
  rw [Nat.le_div_iff_mul_le (Nat.two_pow_pos _),ea]; exact Nat.le_trans (za3 ls hi) b1
 have key:rev c 8 / 2 ^ (7 - i) < fst' ls i+ls.count (i+1) ↔ rev c 8 < acc ls (i+1):=by
  rw [Nat.div_lt_iff_lt_mul (Nat.two_pow_pos _),Nat.add_mul,ea]; rfl
 rw [e]
 refine ⟨h1,fun z=>?_,fun z=>?_⟩
 ·have hl:=zgE (Nat.le_trans (za3 ls hi) b1) (key.mp (by exact #[0x56172100436724761764134515421,_,_,_,_] z (subO _ _))) b1 b2
  subst hl
  refine ⟨rfl,?_⟩
  rw [A.2,zeD d.1]; exact #[0x7614310043575161247516151751615413451,_,_,_,_] (subO _ _)
 ·rcases Nat.lt_or_ge i l with q | q
  ·exact q
  ·have:i=l:=Nat.le_antisymm hi q
   subst this
   have:=key.mpr b2
   exact #[0x8108111007345245415471345164152176115411,_,_,_,_,_] h1 z this (subO _ _)
theorem zi7 (F:Full ls) {i:Nat} (hi:i<=7):fst' ls i+ls.count (i+1) < 2 ^ 62:=by
 have:=zbT ls i hi
 have h2:=zk9 F (n:=i+1) (by exact #[0x18010411170411,_] hi)
 have h3:acc ls (i+1)=acc ls i+ls.count (i+1)*2 ^ (7 - i):=rfl
 rw [<- this,<- Nat.add_mul] at h3
 have h4:fst' ls i+ls.count (i+1)<=(fst' ls i+ls.count (i+1))*2 ^ (7 - i):=Nat.le_mul_of_pos_right _ (Nat.two_pow_pos _)
 exact #[0x48888888888888888888807612157611154314880411,_,_,_,_] h2 h3 h4
theorem zft (hk:4<=k) (F:Full ls) (hdx:H dx=some (prF ls bl)) (B:Bl ls bl) (hdy:H dy=some (strF oc p)) (hp:p<=8*oc.length) (hl:oc.length<=100)
  (h:∀ s l,Dec ls (num oc / 2 ^ p) s l->(p+l+1<=8*oc.length->Q (iv s) (H.set dy (strF oc (p+l+1))))/\(8*oc.length < p+l+1->∀ q,X (H.set dy (strF oc q)))) :
  wpBody (Sp k) c_prRead.1 [some (.inst .preader a dx),some (.inst .lreader b dy),none,none,none,none,none] H Q X:=by
 refine oEE (zcW F (num oc / 2 ^ p)) fun s l d=>?_
 obtain ⟨hq,hx⟩:=h s l d
 have h8:=ziC F d
 have hm:=zcJ d.1
 have m8:=F.mx8
 have hne:dx≠dy:=fun e=>by rw [e,hdy] at hdx; cases hdx
 refine WTgt.tup rfl (WAttr.mk hdx rfl (WBin.add ?_))
 refine WRange.two (by decide) (b:=mx ls+1) (by exact #[0x4888888888888888888880104121180411,_] m8) (zbN (σ:=Nat×Option V×Option V) (fun s=>[some (.inst .preader a dx),some (.inst .lreader b dy),some (iv (rev (num oc / 2 ^ p) s.1)),some (iv (fst' ls s.1)),some (iv (plc ls s.1)),s.2.1,s.2.2]) (fun s=>H.set dy (strF oc (p+s.1)))
  (fun i s=>s.1=i/\i<=l/\p+i<=8*oc.length) (0,none,none) (by rw [zG]; exact Nat.le_trans m8 (by decide)) rfl (zda hdy).symm ⟨rfl,Nat.zero_le _,hp⟩ (fun i x t hx' ht=>⟨trivial,.var ?_⟩) (fun t ht=>⟨trivial,?_⟩))
 ·obtain ⟨hi,rfl⟩:=zaZ hx'
  refine oAA ht fun yA j2 j3=>?_; obtain rfl:=yA
  refine oAA (pr_at F d j2) fun r1 r2 r3=>?_
  rw [Nat.one_mul,Nat.add_comm 1]
  refine WBin.shl (by decide) (Nat.lt_of_lt_of_le (zdA _ _ (by exact #[0x1805114511180421,_,_] h8 j2)) (Nat.pow_le_pow_right (by decide) (by exact #[0x7e05114511180421,_,_] h8 j2))) (mEA .user (.user rfl (za ..)) (WMeth.user rfl (SpI.mk hk ⟨b,dy,oc,p+t.1,za ..,hl,j3,fun z=>?_,fun z=>hx (by exact #[0x1057116182211047116182215411,_,_,_,_] j2 z) _⟩)))
  rw [bit_eq,zas]
  refine WBin.or (WAttr.mk (zb hne hdx) rfl (WSub.lst (zH (zaE (by exact #[0x610411100531010612410611011061105134515421,_,_,_] hi (subO _ _)))) (by exact #[0x48888888888888888888801051214511180421,_,_] h8 j2) (WBin.nsub r1 (WCmp.lt ⟨fun y=>?_,fun y=>?_⟩))))
  ·obtain ⟨e1,e2⟩:=r2 (zbB y)
   refine WAttr.mk (zb hne hdx) rfl (WBin.add (WBin.nsub (Nat.le_trans r1 (Nat.le_add_left _ _)) (WSub.lst (zH (n:=s) ?_) ?_ ?_)))
   ·exact (congrArg (fun i=>bl[i]?) e2).trans (B.at_ s l d.1)
   ·have:=zbM d.1
    have:=Nat.le_trans (zfZ ls (mx ls)) F.len
    show plc ls t.1+rev _ (t.1+1) - fst' ls t.1 < _
    exact #[0x48888888888888888888804211b0711765121651431,_,_,_,_] e2 ‹_› this
   ·rw [e1] at z ⊢
    exact hq z
  ·exact WAug.add (WBin.add (WBin.shl (by decide) (zi7 F (by exact #[0x705114511180421,_,_] h8 j2)) (zdM _ Sub.refl ((t.1+1,_,_)) rfl rfl rfl (r3 (zbw y)) z)))
 ·rw [zG,Nat.add_sub_cancel] at ht
  exact absurd ht.2.1 (Nat.not_le.mpr hm)
end
section
theorem set4 (H:AH) (sy sz:Addr) (x y a b:AObj):(((H.set sy x).set sz y).set sy a).set sz b=(H.set sy a).set sz b:=funext fun c=>by
 unfold AH.set
 by_cases h:c=sz
 ·rw [if_pos h,if_pos h]
 ·rw [if_neg h,if_neg h]
  by_cases g:c=sy
  ·rw [if_pos g,if_neg h,if_pos g]
  ·rw [if_neg g,if_neg h,if_neg g,if_neg g]
def Filled (w j start:Nat) (v:V) (T T':List V):Prop:=T'.length=2 ^ w/\∀ x,x < 2 ^ w->T'[x]?=if x % 2 ^ j=start then some v else T[x]?
def Part (w j start i:Nat) (v:V) (T T':List V):Prop:=T'.length=2 ^ w/\∀ x,x < 2 ^ w->T'[x]?=if x % 2 ^ j=start/\x / 2 ^ j < i then some v else T[x]?
theorem zdb {w j start:Nat} {v:V} {T:List V} (h:T.length=2 ^ w):Part w j start 0 v T T:=⟨h,fun x _=>by rw [if_neg fun q=>Nat.not_lt_zero _ q.2]⟩
theorem zd2 {w j start i:Nat} {v:V} {T T':List V} (hs:start < 2 ^ j) (hi:start+2 ^ j*i < 2 ^ w) (h:Part w j start i v T T'):Part w j start (i+1) v T (T'.set (start+2 ^ j*i) v):=by
 refine ⟨by rw [List.length_set,h.1],fun x hx=>?_⟩
 rw [List.getElem?_set]
 have hd:(start+2 ^ j*i) / 2 ^ j=i:=by rw [Nat.add_mul_div_left _ _ (Nat.two_pow_pos j),Nat.div_eq_of_lt hs,Nat.zero_add]
 have hm:(start+2 ^ j*i) % 2 ^ j=start:=by rw [Nat.add_mul_mod_self_left,Nat.mod_eq_of_lt hs]
 by_cases e:start+2 ^ j*i=x
 ·rw [if_pos e,if_pos (by rw [h.1]; exact hi),<- e,hd,hm,if_pos ⟨rfl,Nat.lt_succ_self _⟩]
 ·rw [if_neg e,h.2 x hx]
  have:x % 2 ^ j=start/\x / 2 ^ j=i->False:=fun ⟨a,b⟩=>e (by rw [<- a,<- b,Nat.mod_add_div])
  by_cases g:x % 2 ^ j=start/\x / 2 ^ j < i
  ·rw [if_pos g,if_pos ⟨g.1,Nat.lt_succ_of_lt g.2⟩]
  ·rw [if_neg g,if_neg (fun q=>by
    rcases Nat.lt_succ_iff_lt_or_eq.mp q.2 with z | z
    ·exact g ⟨q.1,z⟩
    ·exact this ⟨q.1,z⟩)]
theorem zhK {w j start i:Nat} (hs:start < 2 ^ j):i < (2 ^ w+2 ^ j - 1 - start) / 2 ^ j ↔ start+2 ^ j*i < 2 ^ w:=by
 have h:=Nat.two_pow_pos j
 have h2:=Nat.two_pow_pos w
 rw [<- Nat.succ_le_iff,Nat.le_div_iff_mul_le h,Nat.succ_mul,Nat.mul_comm i,Nat.sub_sub,Nat.le_sub_iff_add_le (Nat.add_comm 1 start ▸ Nat.le_trans hs (Nat.le_add_left ..)),Nat.add_right_comm,Nat.add_le_add_iff_right,Nat.add_comm,Nat.add_assoc,Nat.add_comm 1,Nat.add_comm start]
 exact Iff.rfl
theorem zgd {w j start:Nat} {v:V} {T T':List V} (hs:start < 2 ^ j) (h:Part w j start ((2 ^ w+2 ^ j - 1 - start) / 2 ^ j) v T T'):Filled w j start v T T':=by
 refine ⟨h.1,fun x hx=>?_⟩
 rw [h.2 x hx]
 by_cases e:x % 2 ^ j=start
 ·rw [if_pos e,if_pos ⟨e,(zhK hs).mpr (by rw [<- e,Nat.mod_add_div]; exact hx)⟩]
 ·rw [if_neg e,if_neg (fun q=>e q.1)]
theorem fillI {w j start pv:Nat} {v u:V} {T Z:List V} {sy sz:Addr} {bw:Loc->AH->(Loc->AH->Prop)->Prop} (f:Option V->Loc) (z0:Option V) (hw:w<=8) (hs:start < 2 ^ j) (hj:j<=15) (hT:H sy=some (.list T)) (hZ:H sz=some (.list Z)) (lT:T.length=2 ^ w) (lZ:Z.length=2 ^ w)
  (hm:m=f z0) (hf:∀ z x,(f z).set pv (some x)=f (some x))
  (hb:∀ x T Z K,x < 2 ^ w->T.length=2 ^ w->Z.length=2 ^ w->K (f (some (iv x))) ((H.set sy (.list (T.set x v))).set sz (.list (Z.set x u)))->bw (f (some (iv x))) ((H.set sy (.list T)).set sz (.list Z)) K)
  (fin:∀ T' Z' z,Filled w j start v T T'->Filled w j start u Z Z'->NK (f z) ((H.set sy (.list T')).set sz (.list Z'))) :
  Turns (.var pv) (il (List.range' start ((2 ^ w+2 ^ j - 1 - start) / 2 ^ j) (2 ^ j))) (fun _=>True) bw NK m H:=by
 have hww:2 ^ w<=256:=Nat.pow_le_pow_right (by decide) hw
 have hjj:2 ^ j<=32768:=Nat.pow_le_pow_right (by decide) hj
 refine zbN (σ:=List V×List V×Option V) (fun s=>f s.2.2) (fun s=>(H.set sy (.list s.1)).set sz (.list s.2.1)) (fun i s=>Part w j start i v T s.1/\Part w j start i u Z s.2.1) (T,Z,z0) ?_ hm ?_ ⟨zdb lT,zdb lZ⟩ (fun i x s hx h=>⟨trivial,.var ?_⟩) (fun s h=>⟨trivial,?_⟩)
 ·rw [zG]
  refine Nat.le_trans (Nat.div_le_self _ _) ?_
  show _<=1000000
  exact #[0x3ec998807110073862468168713451006310541245411015411061345118888805114880411,2 ^ w,2 ^ j,2 ^ w+2 ^ j - 1,2 ^ w+2 ^ j - 1 - start,start] hww hjj (subO _ _) (subO _ _)
 ·show H=(H.set sy (.list T)).set sz (.list Z)
  rw [zda hT,zda hZ]
 ·obtain ⟨hi,rfl⟩:=zaZ hx
  have hi:=(zhK hs).mp hi
  rw [hf]
  exact hb _ _ _ _ hi h.1.1 h.2.1 (zhz _ Sub.refl ((s.1.set _ v,s.2.1.set _ u,_)) rfl rfl (zd2 hs hi h.1) (zd2 hs hi h.2))
 ·rw [zG] at h
  exact fin _ _ _ (zgd hs h.1) (zgd hs h.2)
end
section
variable {s:Nat} {le:Addr}
theorem zM (k k':Int) (v:V):∀ D:List (Int×V),dget (dput D k v) k'=if k'=k then some v else dget D k'
 | []=>by
  unfold dput dget
  rw [List.lookup_cons]
  by_cases e:k'=k
  ·rw [if_pos e,e]; simp
  ·rw [if_neg e,show (k' == k)=false by simpa using e]
 | (j,u)::D=>by
  have ih:=zM k k' v D
  unfold dget at ih ⊢
  unfold dput
  by_cases e:j=k
  ·rw [if_pos e,List.lookup_cons,List.lookup_cons,e]
   by_cases q:k'=k
   ·rw [if_pos q,q]; simp
   ·rw [if_neg q,show (k' == k)=false by simpa using q]
  ·rw [if_neg e,List.lookup_cons,List.lookup_cons,ih]
   by_cases q:k'=k
   ·rw [show (k' == j)=false by simpa [q] using Ne.symm e,if_pos q]
   ·rw [if_neg q,if_neg q]
theorem zdk (k:Int) (v:V):∀ D:List (Int×V),(dput D k v).length<=D.length+1
 | []=>Nat.le_refl _
 | (j,u)::D=>by
  have:=zdk k v D
  unfold dput
  split
  ·exact Nat.le_succ _
  ·simpa using this
theorem zdV (k:Int) (v:V):∀ (D:List (Int×V)) (x:Int),x∈(dput D k v).map (·.1)->x∈D.map (·.1)∨x=k
 | [],x,h=>.inr (List.mem_singleton.mp h)
 | (j,u)::D,x,h=>by
  unfold dput at h
  split at h
  ·exact .inl h
  ·rcases List.mem_cons.mp h with q | q
   ·exact .inl (q ▸ List.mem_cons_self)
   ·exact (zdV k v D x q).imp (List.mem_cons_of_mem _) id
theorem zc4 (k:Int) (v:V):∀ (D:List (Int×V)),(D.map (·.1)).Nodup->((dput D k v).map (·.1)).Nodup
 | [],_=>List.nodup_cons.mpr ⟨fun h=>(nomatch h),.nil⟩
 | (j,u)::D,h=>by
  obtain ⟨h1,h2⟩:=List.nodup_cons.mp h
  unfold dput
  split
  ·exact h
  ·rename_i e
   exact List.nodup_cons.mpr ⟨fun q=>(zdV k v D j q).elim h1 e,zc4 k v D h2⟩
theorem zaV {l':Nat} (h:Has ls s l) (h':Has ls s l'):l=l':=Nat.succ.inj (Option.some.inj (h.symm.trans h'))
theorem zcz (F:Full ls) (h:Has ls s l):rev (cod ls s) (l+1) < 2 ^ (l+1):=zdA _ _ (zav F h)
theorem zaF {x:Nat} (h:x∈done++[s]):x∈done∨x=s:=(List.mem_append.mp h).imp id List.mem_singleton.mp
theorem zdy {x:Nat} (h:x∈done):x∈done++[s]:=List.mem_append_left _ h
theorem zhD:s∈done++[s]:=List.mem_append_right _ List.mem_cons_self
theorem zan:(done++[s]).length=done.length+1:=List.length_append
theorem ziN (F:Full ls) (h:Has ls s l) (hl:l+1<=r) {T Z T' Z':List V} (j:TabOk ls r done T Z) (fT:Filled r (l+1) (rev (cod ls s) (l+1)) (iv s) T T') (fZ:Filled r (l+1) (rev (cod ls s) (l+1)) (iv (l+1)) Z Z'):TabOk ls r (done++[s]) T' Z':=by
 refine ⟨fT.1,fZ.1,fun x s' l' hx hm h' hl' e=>?_,fun x hx hn=>?_⟩
 ·rw [fT.2 x hx,fZ.2 x hx]
  by_cases g:x % 2 ^ (l+1)=rev (cod ls s) (l+1)
  ·obtain ⟨rfl,rfl⟩:=zw (c:=x) F ⟨h,g⟩ ⟨h',e⟩
   rw [if_pos g,if_pos g]; exact ⟨rfl,rfl⟩
  ·rw [if_neg g,if_neg g]
   rcases zaF hm with q | rfl
   ·exact j.hit x s' l' hx q h' hl' e
   ·exact absurd (zaV h h' ▸ e) g
 ·rw [fZ.2 x hx,if_neg (hn s l zhD h hl)]
  exact j.miss x hx fun s' l' hm=>hn s' l' (zdy hm)
theorem zgD (h:Has ls s l) (hl:r < l+1) {T Z:List V} (j:TabOk ls r done T Z):TabOk ls r (done++[s]) T Z:=by
 refine ⟨j.lT,j.lZ,fun x s' l' hx hm h' hl' e=>?_,fun x hx hn=>j.miss x hx fun s' l' hm=>hn s' l' (zdy hm)⟩
 rcases zaF hm with q | rfl
 ·exact j.hit x s' l' hx q h' hl' e
 ·rw [zaV h' h] at hl'; exact False.elim <| #[0x141051111051421,_,_] hl hl'
theorem zbG {q:Nat} {rows:List (Nat×Nat)} (h:Has ls s l) (hn:r < l+1->rev (cod ls s) (l+1) % 2 ^ r≠q) (R:RowsAre ls r q done rows):RowsAre ls r q (done++[s]) rows:=fun s' l'=>by
 rw [R s' l']
 constructor
 ·exact fun ⟨a,b⟩=>⟨zdy a,b⟩
 ·rintro ⟨a,b,c,d⟩
  refine ⟨(zaF a).resolve_right fun e=>?_,b,c,d⟩
  subst e
  rw [zaV b h] at c d
  exact hn c d
theorem zgr {q:Nat} {rows:List (Nat×Nat)} (h:Has ls s l) (hl:r < l+1) (hq:rev (cod ls s) (l+1) % 2 ^ r=q) (R:RowsAre ls r q done rows):RowsAre ls r q (done++[s]) (rows++[(s,l)]):=fun s' l'=>by
 rw [List.mem_append,R s' l',List.mem_singleton]
 constructor
 ·rintro (⟨a,b⟩ | e)
  ·exact ⟨zdy a,b⟩
  ·cases e; exact ⟨zhD,h,hl,hq⟩
 ·rintro ⟨a,b⟩
  rcases zaF a with q | rfl
  ·exact .inl ⟨q,b⟩
  ·exact .inr (by rw [zaV h b.1])
theorem zih {D:List (Int×V)} {T' Z':List V} (h:Has ls s l) (hl:l+1<=r) (j:LesOk H0 H ls r done sy sz D):LesOk H0 ((H.set sy (.list T')).set sz (.list Z')) ls r (done++[s]) sy sz D:=by
 refine ⟨by rw [zan]; exact Nat.le_succ_of_le j.len,fun q v e=>?_,fun q e s' l' hm h' hl'=>?_,j.inj,j.nd⟩
 ·refine zab (j.key q v e) fun q' b rows e1 e2 n0 n1 n2 e3 R ne hle=>?_
  exact zaf q' b rows e1 e2 n0 n1 n2 (zb n2 (zb n1 e3)) (zbG h (fun z=>absurd hl (Nat.not_le.mpr z)) R) ne (by rw [zan]; exact Nat.le_succ_of_le hle)
 ·rcases zaF hm with z | rfl
  ·exact j.non q e s' l' z h' hl'
  ·rw [zaV h' h] at hl'; exact #[0x7636110415215104111,_,_,_,_] hl hl'
theorem zju {D:List (Int×V)} {b:Addr} {q:Nat} {rows:List (Nat×Nat)} (h:Has ls s l) (hl:r < l+1) (hq:rev (cod ls s) (l+1) % 2 ^ r=q) (hb:dget D (Int.ofNat q)=some (.ref b)) (R:RowsAre ls r q done rows) (hle:rows.length<=done.length) (n0:H0 b=none) (n1:b≠sy) (n2:b≠sz)
  (j:LesOk H0 H ls r done sy sz D):LesOk H0 (H.set b (.list ((rows++[(s,l)]).map (rowV ls)))) ls r (done++[s]) sy sz D:=by
 refine ⟨by rw [zan]; exact Nat.le_succ_of_le j.len,fun i v e=>?_,fun i e s' l' hm h' hl'=>?_,j.inj,j.nd⟩
 ·refine zab (j.key i v e) fun i' c rows' yD yE m0 m1 m2 e3 R' ne hle'=>?_; obtain rfl:=yD; obtain rfl:=yE
  by_cases g:i'=q
  ·subst g
   rw [hb] at e; cases e
   exact zaf i' b (rows++[(s,l)]) rfl rfl n0 n1 n2 (za ..) (zgr h hl hq R) (by simp) (by rw [zan,List.length_append]; exact Nat.succ_le_succ hle)
  ·have hc:c≠b:=fun z=>by subst z; exact g (Int.ofNat.inj (j.inj _ _ _ e hb))
   exact zaf i' c rows' rfl rfl m0 m1 m2 (zb hc e3) (zbG h (fun _ z=>g (z.symm.trans hq)) R') ne (by rw [zan]; exact Nat.le_succ_of_le hle')
 ·rcases zaF hm with z | rfl
  ·exact j.non i e s' l' z h' hl'
  ·intro z
   rw [zaV h' h,hq] at z
   subst z
   rw [hb] at e; exact absM e
theorem zl7 {D:List (Int×V)} {b:Addr} {q:Nat} (h:Has ls s l) (hl:r < l+1) (hq:rev (cod ls s) (l+1) % 2 ^ r=q) (hn:dget D (Int.ofNat q)=none) (hb:H b=none) (hs:Sub H0 H) (hle:H le=some (.dict D)) (n1:b≠sy) (n2:b≠sz)
  (j:LesOk H0 H ls r done sy sz D) {H':AH} (hH':∀ c,c≠b->c≠le->H' c=H c) (hH'b:H' b=some (.list [rowV ls (s,l)])):LesOk H0 H' ls r (done++[s]) sy sz (dput D (Int.ofNat q) (.ref b)):=by
 have fresh:∀ i c,dget D i=some (.ref c)->c≠b:=fun i c e z=>by
  refine za4 (j.key i _ e) fun _ c' rows' _ e2 _ _ _ e3 _=>?_
  cases e2
  rw [z,hb] at e3; exact absN e3
 refine ⟨by rw [zan]; exact Nat.le_trans (zdk _ _ _) (Nat.succ_le_succ j.len),fun i v e=>?_,fun i e s' l' hm h' hl'=>?_,fun i i' c e e'=>?_,zc4 _ _ _ j.nd⟩
 ·rw [zM] at e
  by_cases g:i=Int.ofNat q
  ·rw [if_pos g] at e
   obtain rfl:=Option.some.inj e
   refine zaf q b ([(s,l)]) g rfl (hs.none hb) n1 n2 hH'b (fun s' l'=>?_) (by simp) (by rw [zan]; exact Nat.succ_le_succ (Nat.zero_le _))
   have:=zgr (rows:=[]) h hl hq (fun s' l'=>⟨fun z=>(nomatch z),fun ⟨a,b,c,d⟩=>absurd d (j.non q hn s' l' a b c)⟩) s' l'
   exact this
  ·rw [if_neg g] at e
   refine zab (j.key i v e) fun i' c rows' yD yE m0 m1 m2 e3 R' ne hle'=>?_; obtain rfl:=yD; obtain rfl:=yE
   have hc:c≠le:=fun z=>by rw [z,hle] at e3; cases e3
   exact zaf i' c rows' rfl rfl m0 m1 m2 ((hH' c (fresh _ _ e) hc).trans e3) (zbG h (fun _ z=>g (by rw [<- z,hq])) R') ne (by rw [zan]; exact Nat.le_succ_of_le hle')
 ·rw [zM] at e
  by_cases g:Int.ofNat i=Int.ofNat q
  ·rw [if_pos g] at e; exact absM e
  ·rw [if_neg g] at e
   rcases zaF hm with z | rfl
   ·exact j.non i e s' l' z h' hl'
   ·intro z
    rw [zaV h' h,hq] at z
    exact g (by rw [z])
 ·rw [zM] at e e'
  by_cases g:i=Int.ofNat q <;> by_cases g':i'=Int.ofNat q
  ·rw [g,g']
  ·rw [if_pos g] at e; rw [if_neg g'] at e'
   cases e; exact absurd rfl (fresh _ _ e')
  ·rw [if_neg g] at e; rw [if_pos g'] at e'
   cases e'; exact absurd rfl (fresh _ _ e)
  ·rw [if_neg g] at e; rw [if_neg g'] at e'
   exact j.inj _ _ _ e e'
theorem zq {H:AH} {a b:Addr} {x y:AObj} (ha:H a=some x) (hb:H b=some y) (n:x≠y):a≠b:=fun e=>n (by rw [e,hb] at ha; exact (Option.some.inj ha).symm)
theorem zev (F:Full ls) (h8:r<=8) (h:Has ls s l) (hd:done.length<=11) (st:TrSt H0 H ls r dx sy sz le done) (hq:∀ H',TrSt H0 H' ls r dx sy sz le (done++[s])->Q .none H') :
  wpBody S c_trEnter.1 [some (.inst .treader a dx),some (iv s),some (iv (rev (cod ls s) (l+1))),some (iv (l+1)),none,none] H Q X:=by
 refine zbb st fun T Z D hs y0 z0 e0 ne hdx hsy hsz hle tab les=>?_
 have hl8:=zav F h
 have d1:dx≠sy:=zq hdx hsy (by intro e; exact absO e rfl)
 have d2:dx≠sz:=zq hdx hsz (by intro e; exact absO e rfl)
 have d3:dx≠le:=zq hdx hle (by intro e; exact absO e rfl)
 have y3:sy≠le:=zq hsy hle (by intro e; exact absO e rfl)
 have z3:sz≠le:=zq hsz hle (by intro e; exact absO e rfl)
 have p8:2 ^ r<=256:=Nat.pow_le_pow_right (by decide) h8
 refine WAttr.mk hdx rfl (WCmp.gt ⟨fun z=>?_,fun z=>?_⟩)
 ·have z:=zbB z
  refine WAttr.mk hdx rfl (WBin.shl (by exact #[0x2bca80411180411,_] h8) (by decide) (WBin.nsub (Nat.mul_pos (by decide) (Nat.two_pow_pos r)) (WBin.and ?_)))
  rw [Nat.one_mul,Nat.and_two_pow_sub_one_eq_mod]
  refine WAttr.mk hdx rfl (WCmp.notin (.dict hle) ⟨fun y=>?_,fun y=>?_⟩)
  ·have hn:dget D (Int.ofNat (rev (cod ls s) (l+1) % 2 ^ r))=none:=Option.isSome_eq_false_iff.mp (nb y) |> Option.isNone_iff_eq_none.mp
   refine fun b hb=>WAttr.mk (zl hb hdx) rfl (WPutS.dict (zl hb hle) (Nat.le_trans les.len (Nat.le_trans hd (by decide))) ?_)
   have b3:b≠le:=fun e=>by rw [e,hle] at hb; exact absM hb
   have hb1:((H.set b (.list [])).set le (.dict (dput D (Int.ofNat (rev (cod ls s) (l+1) % 2 ^ r)) (.ref b)))) b=some (.list []):=zb b3 (za ..)
   refine WAttr.mk (zb d3 (zl hb hdx)) rfl (WSub.dict (za ..) (by rw [zM,if_pos rfl]) (mEA .list (.append hb1) (WMeth.append hb1 (Nat.zero_le _) (hq _ ?_))))
   refine zZ T Z _ (((hs.put (hs.none hb)).put e0).put (hs.none hb)) y0 z0 e0 ne (zb (zz hb hdx) (zb d3 (zl hb hdx))) (zb (zz hb hsy) (zb y3 (zl hb hsy))) (zb (zz hb hsz) (zb z3 (zl hb hsz))) (zb (Ne.symm b3) (za ..)) (zgD h z tab) ?_
   refine zl7 h z rfl hn hb hs hle (Ne.symm (zz hb hsy)) (Ne.symm (zz hb hsz)) les (fun c c1 c2=>?_) (za ..)
   rw [zf _ _ c1,zf _ _ c2,zf _ _ c1]
  ·obtain ⟨v,hv⟩:=Option.isSome_iff_exists.mp (nb' y)
   refine zab (les.key _ _ hv) fun q' b rows eq yE n0 n1 n2 hb R hne hlen=>?_; obtain rfl:=yE
   obtain rfl:=Int.ofNat.inj eq
   have b3:b≠le:=zq hb hle (by intro e; exact absO e rfl)
   have bd:dx≠b:=zq hdx hb (by intro e; exact absO e rfl)
   refine WAttr.mk hdx rfl (WSub.dict hle hv (mEA .list (.append hb) (WMeth.append hb (by rw [List.length_map]; exact Nat.le_trans hlen (Nat.le_trans hd (by decide))) (hq _ ?_))))
   have e:rows.map (rowV ls)++[V.tup [iv s,iv (rev (cod ls s) (l+1)),iv (l+1)]]=(rows++[(s,l)]).map (rowV ls):=by rw [List.map_append]; rfl
   rw [e]
   exact zZ T Z D (hs.put n0) y0 z0 e0 ne (zb bd hdx) (zb (Ne.symm n1) hsy) (zb (Ne.symm n2) hsz) (zb (Ne.symm b3) hle) (zgD h z tab) (zju h z rfl hv R hlen n0 n1 n2 les)
 ·have z:=zbw z
  have p9:2 ^ (l+1)<=256:=Nat.pow_le_pow_right (by decide) (show l+1<=8 by exact #[0x180104111180421,_] hl8)
  have hc:=zcz F h
  refine WAttr.mk hdx rfl (WBin.shl (by exact #[0x2bca80411180411,_] h8) (by decide) (WBin.shl (by exact #[0x2bca80104111180421,_] hl8) (by decide) (WRange.three (by exact #[0x488888888888888888888052145214880411,_,_] p9 hc) (by rw [Nat.one_mul]; exact #[0x48888888888888888888804214880411,_] p8) (Nat.mul_pos (by decide) (Nat.two_pow_pos _)) (by rw [Nat.one_mul]; exact #[0x48888888888888888888804214880411,_] p9) ?_)))
  rw [Nat.one_mul,Nat.one_mul]
  refine fillI (w:=r) (j:=l+1) (pv:=5) (v:=iv s) (u:=iv (l+1)) (fun z=>[some (.inst .treader a dx),some (iv s),some (iv (rev (cod ls s) (l+1))),some (iv (l+1)),none,z]) none h8 hc (by exact #[0x1f0104111180421,_] hl8) hsy hsz tab.lT tab.lZ rfl (fun _ _=>rfl) (fun x T Z K hx lT lZ hK=>?_) (fun T' Z' z' fT fZ=>hq _ ?_)
  ·have hy:∀ {T Z:List V},((H.set sy (.list T)).set sz (.list Z)) sy=some (.list T):=zb ne (za ..)
   refine WAttr.mk (zb d2 (zb d1 hdx)) rfl (WPutS.list hy (by rw [lT]; exact hx) (by rw [lT]; exact Nat.le_trans p8 (by decide)) (WAttr.mk (zb d1 (zb d2 (zb d1 hdx))) rfl (WPutS.list (zb (Ne.symm ne) (za ..)) (by rw [lZ]; exact hx) (by rw [lZ]; exact Nat.le_trans p8 (by decide)) ?_)))
   rw [set4]; exact hK
  ·exact zZ T' Z' D ((hs.put y0).put z0) y0 z0 e0 ne (zb d2 (zb d1 hdx)) (zb ne (za ..)) (za ..) (zb (Ne.symm z3) (zb (Ne.symm y3) hle)) (ziN F h z tab fT fZ) (zih h z les)
end
section
variable {q s:Nat} {le:Addr} {rows:List (Nat×Nat)}
theorem zmJ {t:Tgt} {items:List V} {guard:AH->Prop} {w:Loc->AH->List V->(List V->AH->Prop)->Prop} {lim:Nat} {acc0:List V} {K:List V->AH->Prop} (A:Nat->List V) (hl:items.length<=lim) (h0:acc0=A 0)
  (st:∀ i x,items[i]?=some x->guard H/\WTgt m (fun mD=>w mD H (A i) fun acc' HF=>∃ HG,Sub HG HF/\acc'=A (i+1)/\HG=H) t x) (fin:guard H/\K (A items.length) H):Gath t items guard m w lim acc0 K H :=
 ⟨hl,fun i acc HD=>acc=A i/\HD=H,⟨h0,rfl⟩,fun i x acc HD hx hI=>by
  obtain ⟨rfl,rfl⟩:=hI
  exact st i x hx,fun acc HD hI=>by
  obtain ⟨rfl,rfl⟩:=hI
  exact fin⟩
structure LtTab (ls:List Nat) (r mo:Nat) (done:List (Nat×Nat)) (T Z:List V):Prop where
 lT:T.length=2 ^ mo
 lZ:Z.length=2 ^ mo
 hit:∀ x s l,x < 2 ^ mo->(s,l)∈done->x % 2 ^ (l+1 - r)=rev (cod ls s) (l+1) / 2 ^ r->T[x]?=some (iv s)/\Z[x]?=some (iv (l+1))
theorem zh4 {x:Nat} (h:Has ls s l) (hl:r < l+1) (hq:rev (cod ls s) (l+1) % 2 ^ r=q) (e:x % 2 ^ (l+1 - r)=rev (cod ls s) (l+1) / 2 ^ r):Dec ls (q+2 ^ r*x) s l:=by
 refine ⟨h,?_⟩
 obtain ⟨j,hj⟩:∃ j,l+1=r+j:=⟨l+1 - r,by exact #[0x64110513100634105124105141105146134511051421,_,_,_] hl (subO _ _)⟩
 rw [show l+1 - r=j by exact #[0x67310073510412410415110415713451651104131,_,_,_,_] hj (subO _ _)] at e
 have q2:q < 2 ^ r:=hq ▸ Nat.mod_lt _ (Nat.two_pow_pos r)
 have:(q+2 ^ r*x) % 2 ^ (l+1)=q+2 ^ r*(x % 2 ^ j):=by
  rw [hj,Nat.pow_add,Nat.mod_mul,Nat.add_mul_mod_self_left,Nat.mod_eq_of_lt q2,Nat.add_mul_div_left _ _ (Nat.two_pow_pos r),Nat.div_eq_of_lt q2,Nat.zero_add]
 rw [this,e,<- hq,Nat.mod_add_div]
theorem zmh (F:Full ls) {done:List (Nat×Nat)} (hd:∀ p∈done,Has ls p.1 p.2/\r < p.2+1/\rev (cod ls p.1) (p.2+1) % 2 ^ r=q) (h:Has ls s l) (hl:r < l+1) (hq:rev (cod ls s) (l+1) % 2 ^ r=q) {T Z T' Z':List V} (j:LtTab ls r mo done T Z)
  (fT:Filled mo (l+1 - r) (rev (cod ls s) (l+1) / 2 ^ r) (iv s) T T') (fZ:Filled mo (l+1 - r) (rev (cod ls s) (l+1) / 2 ^ r) (iv (l+1)) Z Z'):LtTab ls r mo (done++[(s,l)]) T' Z':=by
 refine ⟨fT.1,fZ.1,fun x s' l' hx hm e=>?_⟩
 rw [fT.2 x hx,fZ.2 x hx]
 rcases List.mem_append.mp hm with z | z
 ·by_cases g:x % 2 ^ (l+1 - r)=rev (cod ls s) (l+1) / 2 ^ r
  ·refine oAA (hd _ z) fun h' hl' hq'=>?_
   obtain ⟨rfl,rfl⟩:=zw F (zh4 h hl hq g) (zh4 h' hl' hq' e)
   rw [if_pos g,if_pos g]; exact ⟨rfl,rfl⟩
  ·rw [if_neg g,if_neg g]; exact j.hit x s' l' hx z e
 ·cases List.mem_singleton.mp z
  rw [if_pos e,if_pos e]; exact ⟨rfl,rfl⟩
theorem zjS (F:Full ls) (all:∀ s l,Has ls s l->s∈done) (R:RowsAre ls r q done rows) (ne:rows≠[]) (hmo:∀ p∈rows,p.2+1<=r+mo) {T Z:List V} (j:LtTab ls r mo rows T Z) :
  ∀ c s l,c % 2 ^ r=q->Dec ls c s l->T[c / 2 ^ r % 2 ^ mo]?=some (iv s)/\Z[c / 2 ^ r % 2 ^ mo]?=some (iv (l+1)):=fun c s l hc d=>by
 have hl:r < l+1:=by
  rcases Nat.lt_or_ge r (l+1) with g | g
  ·exact g
  ·obtain ⟨⟨s0,l0⟩,h0⟩:=List.exists_mem_of_ne_nil rows ne
   refine oAAA ((R s0 l0).mp h0) fun _ b c0 d0=>?_
   have e1:rev (cod ls s0) (l0+1) % 2 ^ (l+1)=c % 2 ^ (l+1):=by
    rw [<- Nat.mod_mod_of_dvd c (Nat.pow_dvd_pow 2 g),hc,<- d0,Nat.mod_mod_of_dvd _ (Nat.pow_dvd_pow 2 g)]
   have k1:Dec ls (rev (cod ls s0) (l0+1)) s l:=⟨d.1,e1.trans d.2⟩
   have k2:Dec ls (rev (cod ls s0) (l0+1)) s0 l0:=⟨b,Nat.mod_eq_of_lt (zdA _ _ (zav F b))⟩
   have:=(zw F k1 k2).2
   exact #[0x106142156311051421,_,_,_] c0 this
 have hq:rev (cod ls s) (l+1) % 2 ^ r=q:=by rw [<- d.2,Nat.mod_mod_of_dvd _ (Nat.pow_dvd_pow 2 (Nat.le_of_lt hl)),hc]
 have hm:=(R s l).mpr ⟨all s l d.1,d.1,hl,hq⟩
 have h2:=hmo _ hm
 refine j.hit _ s l (Nat.mod_lt _ (Nat.two_pow_pos mo)) hm ?_
 rw [Nat.mod_mod_of_dvd _ (Nat.pow_dvd_pow 2 (show l+1 - r<=mo by exact #[0x67110073510412410415110415713451651104111,_,_,_,_] h2 (subO _ _))),zaI,show r+(l+1 - r)=l+1 by exact #[0x10516413100634105124105141105146134511051421,_,_,_] hl (subO _ _),d.2]
structure LtJ (H0:AH) (ls:List Nat) (r mo:Nat) (dz sy sz:Addr) (done:List (Nat×Nat)) (T Z:List V) (H:AH):Prop where
 sb:Sub H0 H
 d:H dz=some (ltF r mo sy sz)
 y:H sy=some (.list T)
 z:H sz=some (.list Z)
 tab:LtTab ls r mo done T Z
section
variable {R':V->AH->Prop} {T Z:List V}
theorem lt1 (F:Full ls) (hm8:mo<=8) (dy:dz≠sy) (dz':dz≠sz) (yz:sy≠sz) (y0:H sy=none) (z0:H sz=none) {dn:List (Nat×Nat)} (hdn:∀ p∈dn,Has ls p.1 p.2/\r < p.2+1/\rev (cod ls p.1) (p.2+1) % 2 ^ r=q) (hh:Has ls s l) (hl:r < l+1) (hq:rev (cod ls s) (l+1) % 2 ^ r=q) (J:LtJ H ls r mo dz sy sz dn T Z H1)
  (hK:∀ T' Z' z6 H2,LtJ H ls r mo dz sy sz (dn++[(s,l)]) T' Z' H2->N [some (.inst .ltable a dz),some (.ref ar),some (iv r),some (iv s),some (iv (rev (cod ls s) (l+1))),some (iv (l+1)),z6] H2) :
  wpSs S XS (bodyOf (c_ltInit.1.getD 4 .stuck)) [some (.inst .ltable a dz),some (.ref ar),some (iv r),some (iv s),some (iv (rev (cod ls s) (l+1))),some (iv (l+1)),v6] H1 N R':=by
 have p8:2 ^ mo<=256:=Nat.pow_le_pow_right (by decide) hm8
 have l8:l+1 - r<=8:=Nat.le_trans (Nat.sub_le _ _) (zav F hh)
 have hj:2 ^ (l+1 - r)<=256:=Nat.pow_le_pow_right (by decide) l8
 have hst:rev (cod ls s) (l+1) / 2 ^ r < 2 ^ (l+1 - r):=by
  rw [Nat.div_lt_iff_lt_mul (Nat.two_pow_pos r),<- Nat.pow_add,Nat.sub_add_cancel (Nat.le_of_lt hl)]; exact zcz F hh
 have t1:∀ {x:Nat},x<=8->x<=10000:=fun h=>Nat.le_trans h (by decide)
 have one:∀ {x:Nat},x<=256->1*x < 2 ^ 62:=fun h=>by rw [Nat.one_mul]; exact Nat.lt_of_le_of_lt h (by decide)
 refine WBin.shr (WAttr.mk J.d rfl (WBin.shl (t1 hm8) (by decide) (WBin.nsub (Nat.le_of_lt hl) (WBin.shl (t1 l8) (by decide) (WRange.three (Nat.lt_trans hst (Nat.lt_of_le_of_lt hj (by decide))) (one p8) (by rw [Nat.one_mul]; exact Nat.two_pow_pos _) (one hj) ?_)))))
 rw [Nat.one_mul,Nat.one_mul]
 refine fillI (w:=mo) (j:=l+1 - r) (pv:=6) (v:=iv s) (u:=iv (l+1)) (fun z=>[some (.inst .ltable a dz),some (.ref ar),some (iv r),some (iv s),some (iv (rev (cod ls s) (l+1))),some (iv (l+1)),z]) v6 (Nat.le_trans hm8 (by decide)) hst (Nat.le_trans l8 (by decide)) J.y J.z J.tab.lT J.tab.lZ rfl (fun _ _=>rfl) (fun x T Z K hx lT lZ hK=>?_) (fun T' Z' z' fT fZ=>?_)
 ·refine WAttr.mk (zb dz' (zb dy J.d)) rfl (WPutS.list (zb yz (za ..)) (by rw [lT]; exact hx) (by rw [lT]; exact Nat.le_trans p8 (by decide)) (WAttr.mk (zb dy (zb dz' (zb dy J.d))) rfl (WPutS.list (zb (Ne.symm yz) (za ..)) (by rw [lZ]; exact hx) (by rw [lZ]; exact Nat.le_trans p8 (by decide)) ?_)))
  rw [set4]; exact hK
 ·exact hK T' Z' _ _ ⟨(J.sb.put y0).put z0,zb dz' (zb dy J.d),zb yz (za ..),za ..,zmh F hdn hh hl hq J.tab fT fZ⟩
end
theorem zfI (hk:1<=k) (F:Full ls) (all:∀ s l,Has ls s l->s∈done) (har:H ar=some (.list (rows.map (rowV ls)))) (hlen:rows.length<=11) (ne:rows≠[]) (R:RowsAre ls r q done rows) (hdz:H dz=none)
  (h:∀ H',Sub H H'->LtOk H H' ls r q (.inst .ltable a dz)->Q .none H') :
  wpBody (Sp k) c_ltInit.1 [some (.inst .ltable a dz),some (.ref ar),some (iv r),none,none,none,none] (H.set dz (.fields [])) Q X:=by
 have hbig:(rows.map (rowV ls)).length<=big:=by rw [List.length_map]; exact Nat.le_trans hlen (by decide)
 refine zba (Nat.le_of_ble_eq_true rfl) (WSeq.list (zl hdz har) ?_)
 refine zmJ (fun i=>il ((rows.take i).map fun p=>p.2+1)) hbig rfl (fun i x hx=>⟨zl hdz har,?_⟩) ⟨zl hdz har,?_⟩
 ·rw [List.getElem?_map] at hx
  refine oEA (Option.map_eq_some_iff.mp hx) fun p hp yC=>?_; obtain rfl:=yC
  refine WTgt.tup rfl ⟨fun _=>(mEAA _ Sub.refl ?_ rfl),fun z=>absurd z (by decide)⟩
  rw [List.take_add_one,hp,il,il,List.map_append,List.map_append]; rfl
 rw [List.length_map,List.take_length]
 have hmx:∀ p∈rows,p.2+1<=mx (rows.map fun p=>p.2+1):=fun p hp=>zfN _ (List.mem_map.mpr (mEA p hp rfl))
 have hm8:mx (rows.map fun p=>p.2+1)<=8:=zmv fun l hl=>by
  refine oEA (List.mem_map.mp hl) fun yA hp yC=>?_; obtain ⟨s,l⟩:=yA; obtain rfl:=yC
  exact zav F ((R s l).mp hp).2.1
 have hrm:r<=mx (rows.map fun p=>p.2+1):=by
  obtain ⟨⟨s0,l0⟩,h0⟩:=List.exists_mem_of_ne_nil rows ne
  have:=hmx _ h0
  have:=((R s0 l0).mp h0).2.2.1
  exact #[0x561110416215104111,_,_,_] ‹_› this
 obtain ⟨mo,hmo⟩:∃ mo,mo=mx (rows.map fun p=>p.2+1) - r:=⟨_,rfl⟩
 have p8:2 ^ mo<=256:=Nat.pow_le_pow_right (by decide) (show mo<=8 by exact #[0x18051100637424471476134516531180411,_,_,_,_] hm8 hmo (subO _ _))
 refine SpI.mk hk ⟨_,by rw [List.length_map]; exact Nat.le_trans hlen (by decide),WBin.nsub hrm ?_⟩
 rw [<- hmo]
 refine zba (Nat.le_of_ble_eq_true rfl) (WNeg.mk (WAttr.mk (za ..) rfl (WBin.shl (by exact #[0x2bca8051100637424471476134516531180411,_,_,_,_] hm8 hmo (subO _ _)) (by decide) (WRep.mk (by rw [Nat.one_mul]; exact Nat.le_trans p8 (by decide)) fun sy hsy=>?_))))
 refine WPutA.mk (zl hsy (za ..)) (Nat.le_of_ble_eq_true rfl) (WAttr.mk (za ..) rfl (WBin.shl (by exact #[0x2bca8051100637424471476134516531180411,_,_,_,_] hm8 hmo (subO _ _)) (by decide) (WRep.mk (by rw [Nat.one_mul]; exact Nat.le_trans p8 (by decide)) fun sz hsz=>?_)))
 rw [Nat.one_mul] at hsz ⊢
 have hsy0:H sy=none:=(zo hdz).none hsy
 have ydz:sy≠dz:=fun e=>by rw [e,za] at hsy; exact absM hsy
 have zdz:sz≠dz:=fun e=>by rw [e,za] at hsz; exact absM hsz
 have yz:sy≠sz:=zz hsz (zb ydz (za ..))
 have hsz0:H sz=none:=(((zo hdz).put hsy0).put hdz).none hsz
 refine WPutA.mk (zl hsz (za ..)) (Nat.le_of_ble_eq_true rfl) ?_
 have add:ar≠dz:=zz hdz har
 refine WSeq.list (zb add (zb (zz hsz0 har) (zb add (zb (zz hsy0 har) (zl hdz har))))) ?_
 have hmo8:mo<=8:=hmo ▸ Nat.le_trans (Nat.sub_le _ _) hm8
 refine loopG (σ:=List V×List V) (τ:=Option V×Option V×Option V×Option V) (fun _ z=>[some (.inst .ltable a dz),some (.ref ar),some (iv r),z.1,z.2.1,z.2.2.1,z.2.2.2]) (fun i s H1=>LtJ H ls r mo dz sy sz (rows.take i) s.1 s.2 H1) (List.length_map _) (Nat.le_trans hlen (by decide)) (List.replicate (2 ^ mo) _,List.replicate (2 ^ mo) _) (none,none,none,none) rfl
  ⟨((((zo hdz).put hsy0).put hdz).put hsz0).put hdz,za ..,zb ydz (zb yz (zb ydz (za ..))),zb zdz (za ..),List.length_replicate,List.length_replicate,fun x s l _ hm=>nomatch hm⟩ (fun i s H1 j=>j.sb _ _ har) (fun i x s z H1 K hx j hK=>?_) fun s z H1 j=>?_
 ·rw [List.getElem?_map] at hx
  refine oEA (Option.map_eq_some_iff.mp hx) fun y hp ey=>?_
  subst ey
  refine oAAA ((R y.1 y.2).mp (List.mem_of_getElem? hp)) fun _ hh hl hq=>WTgt.tup rfl (lt1 F hmo8 (Ne.symm ydz) (Ne.symm zdz) yz hsy0 hsz0 (fun p hp=>((R p.1 p.2).mp (List.mem_of_mem_take hp)).2) hh hl hq j fun T' Z' z6 H2 j'=>hK (T',Z') (_,_,_,_) _ _ Sub.refl ?_)
  rw [List.take_add_one,hp]
  exact j'
 ·rw [List.take_length] at j
  have hr8:r+mo<=8:=by rw [hmo,Nat.add_sub_cancel' hrm]; exact hm8
  exact h _ j.sb (zcQ a dz mo sy sz _ _ ⟨hdz,hsy0,hsz0⟩ rfl j.d j.y j.z hr8 (zjS F all R ne (fun p hp=>by rw [hmo,Nat.add_sub_cancel' hrm]; exact hmx p hp) j.tab))
end
section
variable {q s:Nat} {le:Addr}
theorem imin (a b:Nat):(if Int.ofNat b < Int.ofNat a then Int.ofNat b else Int.ofNat a)=Int.ofNat (if b < a then b else a):=by
 by_cases h:b < a
 ·rw [if_pos h]; exact if_pos (Int.ofNat_lt.mpr h)
 ·rw [if_neg h]; exact if_neg fun z=>h (Int.ofNat_lt.mp z)
theorem imax (a b:Nat):(if Int.ofNat b > Int.ofNat a then Int.ofNat b else Int.ofNat a)=Int.ofNat (if a < b then b else a):=by
 by_cases h:a < b
 ·rw [if_pos h]; exact if_pos (Int.ofNat_lt.mpr h)
 ·rw [if_neg h]; exact if_neg fun z=>h (Int.ofNat_lt.mp z)
theorem nmin {a b:Nat} (h:Q (iv (if b < a then b else a)) H):WBcall H Q .min [iv a,iv b]:=.min2 (by rw [imin]; exact h)
theorem nmax {a b:Nat} (h:Q (iv (if a < b then b else a)) H):WBcall H Q .max [iv a,iv b]:=.max2 (by rw [imax]; exact h)
theorem LtOk.weak {H1:AH} {v:V} (hs:Sub H0 H1) (h:LtOk H1 H ls r q v):LtOk H0 H ls r q v:=by
 obtain ⟨a,dz,mo,sy,sz,T,Z,⟨n1,n2,n3⟩,h⟩:=h
 exact zeb a dz mo sy sz T Z ⟨hs.none n1,hs.none n2,hs.none n3⟩ h
theorem LtOk.sub {H':AH} {v:V} (hs:Sub H H') (h:LtOk H0 H ls r q v):LtOk H0 H' ls r q v:=by
 refine zaG h fun a dz mo sy sz T Z n e h1 h2 h3 h4=>?_
 exact zaB a dz mo sy sz T Z n e (hs _ _ h1) (hs _ _ h2) (hs _ _ h3) h4
theorem LtOk.put {v:V} {D:List (Int×V)} {o:AObj} (hle:H le=some (.dict D)) (h:LtOk H0 H ls r q v):LtOk H0 (H.set le o) ls r q v:=by
 refine zaG h fun a dz mo sy sz T Z n e h1 h2 h3 h4=>?_
 exact zaB a dz mo sy sz T Z n e (zb (zq h1 hle (by intro e; exact absO e rfl)) h1) (zb (zq h2 hle (by intro e; exact absO e rfl)) h2) (zb (zq h3 hle (by intro e; exact absO e rfl)) h3) h4
theorem ziu (B:Bl ls bl) (s l:Nat) (h:Has ls s l):s∈bl:=List.mem_of_getElem? (B.at_ s l h)
theorem zgB (h:Has ls s l):(cods ls)[s]?=some (cod ls s):=by
 have hs:s < ls.length:=(List.getElem?_eq_some_iff.mp h).1
 unfold cods
 rw [List.getElem?_map,List.getElem?_range hs]
 show some (codf ls s)=_
 rw [show codf ls s=cod ls s from if_neg (by rw [zaC h]; exact Nat.succ_ne_zero _)]
theorem zkk {D:List (Int×V)} {i:Int} {v:V} (h:dget D i=some v):i∈D.map (·.1):=by
 refine oEEA (List.lookup_eq_some_iff.mp h) fun l1 l2 e _=>?_
 rw [e]; simp
structure LesSt (H0 H H5:AH) (ls:List Nat) (r:Nat) (le:Addr) (D D':List (Int×V)) (done rest:List Int):Prop where
 old:∀ c o,c≠le->H5 c=some o->H c=some o
 le:H le=some (.dict D')
 len:D'.length<=D.length
 made:∀ i∈done,∃ (q:Nat) (v:V),i=Int.ofNat q/\dget D' i=some v/\LtOk H0 H ls r q v
 left:∀ i∈rest,dget D' i=dget D i
theorem zey (i:Int) (v:V):∀ {D:List (Int×V)} {u:V},dget D i=some u->(dput D i v).length=D.length
 | [],_,h=>nomatch h
 | (j,w)::D,u,h=>by
  unfold dput
  split
  ·rfl
  ·rename_i e
   unfold dget at h
   rw [List.lookup_cons,show (i == j)=false by simpa using Ne.symm e] at h
   rw [List.length_cons,List.length_cons,zey i v h]
theorem zku {H5 H':AH} {D D':List (Int×V)} {done rest:List Int} {i:Int} {v u:V} (j:LesSt H0 H H5 ls r le D D' done (i::rest)) (nd:i∉rest) (hs:Sub H H') (hi:i=Int.ofNat q) (hu:dget D' i=some u) (hv:LtOk H0 H' ls r q v) (hnd:i∉done) :
  LesSt H0 (H'.set le (.dict (dput D' i v))) H5 ls r le D (dput D' i v) (done++[i]) rest:=by
 have hle:=hs _ _ j.le
 refine ⟨fun c o n e=>zb n (hs _ _ (j.old c o n e)),za ..,by rw [zey _ _ hu]; exact j.len,fun i' hm=>?_,fun i' hm=>?_⟩
 ·rcases List.mem_append.mp hm with z | z
  ·refine zd (j.made i' z) fun q' v' e1 e2 e3=>?_
   refine zn q' v' e1 ?_ ((e3.sub hs).put hle)
   rw [zM,if_neg (fun e:i'=i=>hnd (e ▸ z))]; exact e2
  ·obtain rfl:=List.mem_singleton.mp z
   exact zn q v hi (by rw [zM,if_pos rfl]) (hv.put hle)
 ·rw [zM,if_neg (fun e:i'=i=>nd (e ▸ hm))]
  exact j.left i' (.tail _ hm)
theorem zhF (hs:sy≠sz):LesOk H0 H ls r [] sy sz [] :=
 ⟨Nat.le_refl _,fun q v h=>(nomatch h),fun q _ s l h=>(nomatch h),fun q q' b h=>(nomatch h),List.nodup_nil⟩
theorem zjb:TabOk ls r [] (List.replicate (2 ^ r) (.int (-Int.ofNat 1))) (List.replicate (2 ^ r) (iv 0)) :=
 ⟨List.length_replicate,List.length_replicate,fun x s l _ h=>(nomatch h),fun x hx _=>by rw [List.getElem?_replicate,if_pos hx]⟩
theorem tr_ok {D D':List (Int×V)} {H5:AH} {T Z:List V} (F:Full ls) (B:Bl ls bl) (h8:r<=8) (hdx:H dx=some (trF ls r sy sz le)) (hsy:H sy=some (.list T)) (hsz:H sz=some (.list Z)) (tab:TabOk ls r bl T Z) (les:LesOk H0 H5 ls r bl sy sz D) {ks:List Int} (hk:ks.Perm (D.map (·.1))) (j:LesSt H0 H H5 ls r le D D' ks []) (n:H0 dx=none/\H0 sy=none/\H0 sz=none/\H0 le=none) :
  TrOk H0 H ls (.inst .treader a dx):=by
 refine zaw a dx r sy sz le T Z D' n rfl hdx hsy hsz j.le h8 (fun c s l d=>⟨fun hl=>?_,fun hl=>⟨?_,?_⟩⟩)
 ·exact tab.hit _ s l (Nat.mod_lt _ (Nat.two_pow_pos r)) (ziu B s l d.1) d.1 hl (by rw [Nat.mod_mod_of_dvd _ (Nat.pow_dvd_pow 2 hl)]; exact d.2)
 ·refine tab.miss _ (Nat.mod_lt _ (Nat.two_pow_pos r)) fun s' l' _ h' hl' e=>?_
  rw [Nat.mod_mod_of_dvd _ (Nat.pow_dvd_pow 2 hl')] at e
  have:=(zw F d ⟨h',e⟩).2
  exact #[0x1653141061111051421,_,_,_] hl hl' this
 ·have hq:rev (cod ls s) (l+1) % 2 ^ r=c % 2 ^ r:=by rw [<- d.2,Nat.mod_mod_of_dvd _ (Nat.pow_dvd_pow 2 (Nat.le_of_lt hl))]
  cases e:dget D (Int.ofNat (c % 2 ^ r)) with
  | none=>exact absurd hq (les.non _ e s l (ziu B s l d.1) d.1 hl)
  | some u =>
   refine zd (j.made _ (hk.mem_iff.mpr (zkk e))) fun q v e1 e2 e3=>?_
   obtain rfl:=Int.ofNat.inj e1
   exact mEA v e2 e3
theorem zlj (F:Full ls):1<=mx ls:=by
 refine oEE (zcW F 0) fun s l d=>?_
 have:=zcJ d.1
 exact #[0x510115421,_,_] this
theorem key_in {D:List (Int×V)} {key:Int} (h:key∈D.map (·.1)):∃ v,dget D key=some v:=by
 cases e:dget D key with
 | some v=>exact ⟨v,rfl⟩
 | none =>
  unfold dget at e
  rw [List.lookup_eq_none_iff] at e
  refine oEA (List.mem_map.mp h) fun p hp y=>?_
  have:=e p hp
  rw [y] at this
  simp at this
theorem zkI {ks:List Int} {i:Nat} {key:Int} (nd:ks.Nodup) (hk:ks[i]?=some key):ks.drop i=key::ks.drop (i+1)/\key∉ks.take i/\key∉ks.drop (i+1):=by
 obtain ⟨hi,hget⟩:=List.getElem?_eq_some_iff.mp hk
 have hd:ks.drop i=key::ks.drop (i+1):=by rw [List.drop_eq_getElem_cons hi,hget]
 rw [<- List.take_append_drop i ks,hd] at nd
 exact oAA (List.nodup_append.mp nd) fun _ g2 g3=>⟨hd,fun z=>g3 _ z _ List.mem_cons_self rfl,(List.nodup_cons.mp g2).1⟩
section
theorem tr1 (hk:2<=k) (F:Full ls) (r8:r<=8) (st0:TrSt H H1 ls r dx sy sz le []) (h:∀ bl z H2,Bl ls bl->TrSt H H2 ls r dx sy sz le bl->N [some (.inst .treader a dx),some (nl ls),v2,v3,v4,some (nl (cods ls)),z,v7] H2) :
  wpS (Sp k) XS (c_trInit.1.getD 9 .stuck) [some (.inst .treader a dx),some (nl ls),v2,v3,v4,some (nl (cods ls)),v6,v7] H1 N R:=by
 have k0:0 < k:=below (by decide) hk
 refine SpI.mk hk ⟨ls,F,fun bl B=>WSeq.lst (loopL (fun (_:Unit) z=>[some (.inst .treader a dx),some (nl ls),v2,v3,v4,some (nl (cods ls)),z,v7]) (fun i _ H2=>TrSt H H2 ls r dx sy sz le (bl.take i)) (Nat.le_trans B.len (by decide)) () v6 rfl st0 (fun i s _ z H2 K hs st hK=>.var ?_) fun _ z H2 st=>h bl z H2 B (by rw [List.take_length] at st; exact st))⟩
 refine (B.has s (List.mem_of_getElem? hs)).elim fun l hh=>?_
 have hs62:s < 2 ^ 62:=Nat.lt_of_lt_of_le (List.getElem?_eq_some_iff.mp hh).1 (Nat.le_trans F.len (by decide))
 refine za4 (id st) fun T Z D e1 e2 e3 e4 e5 hdx' e6=>?_
 refine mEA .user (.user rfl hdx') (WSub.lst (zH (zgB hh)) hs62 (WSub.lst (zH hh) hs62 (SpI.mk k0 ⟨cod ls s,l+1,Nat.le_trans (zav F hh) (by decide),WSub.lst (zH hh) hs62 (WMeth.user rfl (SpI.mk k0 ⟨H,ls,r,a,dx,sy,sz,le,bl.take i,s,l,F,r8,hh,?_,st,fun H' st'=>hK () _ _ _ Sub.refl ?_⟩))⟩)))
 ·rw [List.length_take]; exact Nat.le_trans (Nat.min_le_right _ _) B.len
 ·rw [List.take_add_one,hs]; exact st'
theorem tr2 (hk:2<=k) (F:Full ls) (B:Bl ls bl) (r8:r<=8) (n:H dx=none/\H sy=none/\H sz=none/\H le=none) (d3:dx≠le) (yle:sy≠le) (zle:sz≠le) (st:TrSt H H1 ls r dx sy sz le bl)
  (h:∀ z H2,Sub H H2->TrOk H H2 ls (.inst .treader a dx)->N [some (.inst .treader a dx),v2,v3,v4,v5,v6,v7,z] H2) :
  wpS (Sp k) XS (c_trInit.1.getD 10 .stuck) [some (.inst .treader a dx),v2,v3,v4,v5,v6,v7,v8] H1 N R:=by
 refine zbb st fun T Z D e1 e2 e3 e4 e5 f1 f2 f3 f4 tab les=>?_
 have hD:D.length<=11:=Nat.le_trans les.len B.len
 refine WAttr.mk f1 rfl (WBcall.sortD f4 (Nat.lt_of_le_of_lt hD (by decide)) fun ks perm=>WSeq.lst ?_)
 have nd:ks.Nodup:=perm.nodup_iff.mpr les.nd
 have kl:ks.length<=11:=by rw [perm.length_eq,List.length_map]; exact hD
 refine ziq (fun (_:List (Int×V)) z=>[some (.inst .treader a dx),v2,v3,v4,v5,v6,v7,z]) (fun i D' H2=>Sub H H2/\LesSt H H2 H1 ls r le D D' (ks.take i) (ks.drop i)) (List.length_map _) (Nat.le_trans kl (by decide)) D v8 rfl
  ⟨e1,fun c o _ e=>e,f4,Nat.le_refl _,fun i hi=>(nomatch hi),fun i _=>rfl⟩ (fun i x D1 z H2 K hx ju hK=>?_) fun D1 z H2 ju=>?_
 ·rw [List.getElem?_map] at hx
  refine oEA (Option.map_eq_some_iff.mp hx) fun key hkey ex=>?_
  subst ex
  refine .var ((zkI nd hkey).elim fun hdrop nd2=>?_)
  have j:=ju.2
  rw [hdrop] at j
  have hdx':=j.old dx _ d3 f1
  refine (key_in (perm.mem_iff.mp (List.mem_of_getElem? hkey))).elim fun v0 hv0=>?_
  refine zab (les.key _ _ hv0) fun q b rows yD yE n0 n1 n2 hb R hne hlen=>?_; obtain rfl:=yD; obtain rfl:=yE
  have hD':=(j.left _ List.mem_cons_self).trans hv0
  have b3:b≠le:=zq hb f4 (by intro e; exact absO e rfl)
  refine WAttr.mk hdx' rfl (WSub.dict j.le hD' (WAttr.mk hdx' rfl (SpI.mk (below (by decide) hk) ⟨ls,r,q,b,bl,rows,F,ziu B,j.old b _ b3 hb,Nat.le_trans hlen B.len,hne,R,fun v H' hsub hlt=>WAttr.mk (hsub _ _ hdx') rfl (WPutS.dict (hsub _ _ j.le) (Nat.le_trans j.len (Nat.le_trans hD (by decide))) (hK (dput D1 (Int.ofNat q) v) _ _ _ Sub.refl ⟨(ju.1.trans hsub).put n.2.2.2,?_⟩))⟩)))
  rw [List.take_add_one,hkey]
  exact zku j nd2.2 hsub rfl hD' (hlt.weak ju.1) nd2.1
 ·have j:=ju.2
  rw [List.take_length,List.drop_length] at j
  exact h z _ ju.1 (tr_ok F B r8 (j.old dx _ d3 f1) (j.old sy _ yle f2) (j.old sz _ zle f3) tab les perm j n)
end
theorem zlU {r0 M:Nat} (h1:1<=r0) (h8:r0<=8) (m1:1<=M):∃ r,(if 1 < (if M < r0 then M else r0) then (if M < r0 then M else r0) else 1)=r/\1<=r/\r<=8/\r<=M:=by
 have k:∀ m,1<=m->m<=8->m<=M->∃ r,(if 1 < m then m else 1)=r/\1<=r/\r<=8/\r<=M:=fun m a b c=>by
  by_cases q:1 < m
  ·exact ⟨m,if_pos q,a,b,c⟩
  ·exact ⟨1,if_neg q,Nat.le_refl _,by decide,m1⟩
 by_cases q:M < r0
 ·rw [if_pos q]; exact k M m1 (Nat.le_trans (Nat.le_of_lt q) h8) (Nat.le_refl _)
 ·rw [if_neg q]; exact k r0 h1 h8 (Nat.le_of_not_lt q)
theorem no_16 {a b:Nat} (h1:a<=8) (h2:b<=8):¬ 16 < if a < b then b else a:=by
 have k:∀ x,x<=8->¬ 16 < x:=fun x h z=>absurd (Nat.lt_of_lt_of_le z h) (by decide)
 by_cases q:a < b
 ·rw [if_pos q]; exact k b h2
 ·rw [if_neg q]; exact k a h1
theorem zfi (hk:2<=k) (F:Full ls) (h1:1<=r0) (h8:r0<=8) (hdx:H dx=none) (h:∀ H',Sub H H'->TrOk H H' ls (.inst .treader a dx)->Q .none H') :
  wpBody (Sp k) c_trInit.1 [some (.inst .treader a dx),some (nl ls),some (iv r0),some (iv 15),some (.bool false),none,none,none] (H.set dx (.fields [])) Q X:=by
 have k0:0 < k:=below (by decide) hk
 have m8:=F.mx8
 refine SpI.mk hk ⟨ls,F,WCmp.lt ⟨fun z=>absurd (zbB z) (Nat.not_lt.mpr h1),fun _=>SpI.mk k0 ⟨ls,F.big,zba (Nat.le_of_ble_eq_true rfl) (WAttr.mk (za ..) rfl (nmin (nmax ?_)))⟩⟩⟩
 refine zdw (zlU h1 h8 (zlj F)) fun r hr r1 r8 rm=>?_
 rw [hr]
 have p8:2 ^ r<=256:=Nat.pow_le_pow_right (by decide) r8
 refine zba (Nat.le_of_ble_eq_true rfl) (WAttr.mk (za ..) rfl (WAttr.mk (za ..) rfl (WAttr.mk (za ..) rfl (WBin.nsub rm (nmax (WCmp.gt ⟨fun z=>?_,fun _=>?_⟩))))))
 ·have z:=zbB z
  exact absurd z (no_16 r8 (Nat.le_trans (Nat.sub_le _ _) m8))
 have r4:r<=10000:=Nat.le_trans r8 (by decide)
 have pb:1*2 ^ r<=big:=by rw [Nat.one_mul]; exact Nat.le_trans p8 (by decide)
 refine WNeg.mk (WAttr.mk (za ..) rfl (WBin.shl r4 (by decide) (WRep.mk pb fun sy hsy=>WPutA.mk (zl hsy (za ..)) (Nat.le_of_ble_eq_true rfl) ?_)))
 refine WAttr.mk (za ..) rfl (WBin.shl r4 (by decide) (WRep.mk pb fun sz hsz=>WPutA.mk (zl hsz (za ..)) (Nat.le_of_ble_eq_true rfl) fun le hle=>WPutA.mk (zl hle (za ..)) (Nat.le_of_ble_eq_true rfl) ?_))
 rw [Nat.one_mul] at hsz hle ⊢
 have hsy0:H sy=none:=(zo hdx).none hsy
 have ydx:sy≠dx:=fun e=>by rw [e,za] at hsy; exact absM hsy
 have hsz0:H sz=none:=(((zo hdx).put hsy0).put hdx).none hsz
 have zdx:sz≠dx:=fun e=>by rw [e,za] at hsz; exact absM hsz
 have yz:sy≠sz:=zz hsz (zb ydx (za ..))
 have hle0:H le=none:=(((((zo hdx).put hsy0).put hdx).put hsz0).put hdx).none hle
 have ledx:le≠dx:=fun e=>by rw [e,za] at hle; exact absM hle
 have yle:sy≠le:=zz hle (zb ydx (zb yz (zb ydx (za ..))))
 have zle:sz≠le:=zz hle (zb zdx (za ..))
 refine SpI.mk hk ⟨ls,F,tr1 (R:=Q) hk F r8
  (zZ _ _ ([]) (((((((zo hdx).put hsy0).put hdx).put hsz0).put hdx).put hle0).put hdx) hsy0 hsz0 hle0 yz (za ..) (zb ydx (zb yle (zb ydx (zb yz (zb ydx (za ..)))))) (zb zdx (zb zle (zb zdx (za ..)))) (zb ledx (za ..)) zjb (zhF yz))
  fun bl z H2 B st=>tr2 (R:=Q) hk F B r8 ⟨hdx,hsy0,hsz0,hle0⟩ (Ne.symm ledx) yle zle st fun z H3 s ok=>h _ s ok⟩
end
section
variable {q s:Nat} {le:Addr}
theorem zaD {c r:Nat} (h:r<=8):c % 2 ^ r < 2 ^ 62:=Nat.lt_of_lt_of_le (Nat.mod_lt _ (Nat.two_pow_pos r)) (Nat.pow_le_pow_right (by decide) (by exact #[0x7e0411180411,_] h))
theorem zfy (hk:2<=k) (L:LtOk E0 H ls r (num oc / 2 ^ p % 2 ^ r) (.inst .ltable a dz)) (F:Full ls) (hdy:H dy=some (strF oc p)) (hp:p<=8*oc.length) (hl:oc.length<=100)
  (h:∀ s l,Dec ls (num oc / 2 ^ p) s l->(p+l+1<=8*oc.length->Q (iv s) (H.set dy (strF oc (p+l+1))))/\(8*oc.length < p+l+1->∀ q,X (H.set dy (strF oc q)))) :
  wpBody (Sp k) c_ltRead.1 [some (.inst .ltable a dz),some (.inst .lreader b dy),none] H Q X:=by
 refine zcL L fun a' dz' mo sy sz T Z _ e hdz hsy hsz hm hit=>?_
 cases e
 refine oEE (zcW F (num oc / 2 ^ p)) fun s l d=>?_
 obtain ⟨hq,hx⟩:=h s l d
 obtain ⟨gT,gZ⟩:=hit _ s l rfl d
 have n1:dz≠dy:=zq hdz hdy (by intro e; cases e)
 have n2:sy≠dy:=zq hsy hdy (by intro e; exact absO e rfl)
 refine mEA .user (.user rfl hdy) (WAttr.mk hdz rfl (WAttr.mk hdz rfl (WBin.add (WMeth.user rfl (SpI.mk (below (by decide) hk) ⟨b,dy,oc,p,r+mo,hdy,hm,hl,WAttr.mk hdz rfl (WBin.shr ?_)⟩)))))
 rw [<- zaI]
 have sp:num oc / 2 ^ p / 2 ^ r % 2 ^ mo < 2 ^ 62:=zaD (by exact #[0x18051118054111,_,_] hm)
 exact mEA .user (.user rfl hdy) (WAttr.mk hdz rfl (WSub.list hsz gZ sp (WMeth.user rfl (SpI.mk (below (by decide) hk) ⟨b,dy,oc,p,l+1,hdy,hp,fun y=>WAttr.mk (zb n1 hdz) rfl (WSub.list (zb n2 hsy) gT sp (hq y)),fun y=>zda hdy ▸ hx y p⟩))))
theorem zfr (hk:3<=k) (L:TrOk E0 H ls (.inst .treader a dx)) (F:Full ls) (hdy:H dy=some (strF oc p)) (hp:p<=8*oc.length) (hl:oc.length<=100)
  (h:∀ s l,Dec ls (num oc / 2 ^ p) s l->(p+l+1<=8*oc.length->Q (iv s) (H.set dy (strF oc (p+l+1))))/\(8*oc.length < p+l+1->∀ q,X (H.set dy (strF oc q)))) :
  wpBody (Sp k) c_trRead.1 [some (.inst .treader a dx),some (.inst .lreader b dy),none,none] H Q X:=by
 refine zT L fun a' dx' r sy sz le T Z D _ e hdx hsy hsz hle r8 hit=>?_
 cases e
 refine oEE (zcW F (num oc / 2 ^ p)) fun s l d=>?_
 obtain ⟨hq,hx⟩:=h s l d
 obtain ⟨short,long⟩:=hit _ s l d
 have n1:dx≠dy:=zq hdx hdy (by intro e; cases e)
 have n2:sy≠dy:=zq hsy hdy (by intro e; exact absO e rfl)
 refine mEA .user (.user rfl hdy) (WAttr.mk hdx rfl (WMeth.user rfl (SpI.mk (below (by decide) hk) ⟨b,dy,oc,p,r,hdy,r8,hl,?_⟩)))
 rcases Nat.lt_or_ge r (l+1) with g | g
 ·refine oAEA (long g) fun gZ v hv L=>?_
  refine zfV (id L) fun a2 dz mo sy2 sz2 T2 Z2 _ yI hdz L'=>?_; obtain rfl:=yI
  exact WAttr.mk hdx rfl (WSub.list hsz gZ (zaD r8) (WCmp.gt ⟨fun z=>absurd z (by decide),fun _=>WAttr.mk hdx rfl (WCmp.notin (.dict hle) ⟨fun z=>(by rw [hv] at z; exact absB z),fun _=>WAttr.mk hdx rfl (WSub.dict hle hv (mEA .user (.user rfl hdz) (WMeth.user rfl (SpI.mk hk ⟨r,a2,dz,b,dy,oc,p,ls,L,F,hdy,hp,hl,h⟩))))⟩)⟩))
 ·obtain ⟨gT,gZ⟩:=short g
  exact WAttr.mk hdx rfl (WSub.list hsz gZ (zaD r8) (WCmp.gt ⟨fun _=>(mEA .user (.user rfl hdy) (WMeth.user rfl (SpI.mk (below (by decide) hk) ⟨b,dy,oc,p,l+1,hdy,hp,fun y=>WAttr.mk (zb n1 hdx) rfl (WSub.list (zb n2 hsy) gT (zaD r8) (hq y)),fun y=>zda hdy ▸ hx y p⟩))),fun z=>absurd (zbw z) (Nat.not_le.mpr (Nat.succ_pos l))⟩))
end
section
variable {s h hb val nb:Nat} {ad:Addr} {bs:List UInt8}
theorem zfv (hk:2<=k) (F:Full ls) (h:Q .none (H.set dx (pwF ls))):wpBody (Sp k) c_pwInit.1 [some (.inst .pwriter a dx),some (nl ls)] (H.set dx (.fields [])) Q X :=
 WBcall.list rfl (by rw [ze]; exact F.big) (zba (Nat.le_of_ble_eq_true rfl) (SpI.mk hk ⟨ls,F,zba (Nat.le_of_ble_eq_true rfl) h⟩))
theorem zef (F:Full ls) (hh:Has ls s l):s < ls.length/\s < 2 ^ 62:=by
 have:=(List.getElem?_eq_some_iff.mp hh).1
 exact ⟨this,Nat.lt_of_lt_of_le this (Nat.le_trans F.len (by decide))⟩
theorem zfW (F:Full ls) (hdx:H dx=some (pwF ls)) (hh:Has ls s l) (h:Q (iv (l+1)) H):wpBody S c_pwCost.1 [some (.inst .pwriter a dx),some (iv s)] H Q X:=by
 obtain ⟨h1,h2⟩:=zef F hh
 refine WCmp.le ⟨fun _=>WAttr.mk hdx rfl (WBcall.lenList rfl (by rw [ze]; exact F.big) (WCmp.lt ⟨fun z=>WAttr.mk hdx rfl (WSub.lst (zH hh) h2 (WCmp.eq .int ⟨fun _=>⟨fun z=>absurd z (by decide),fun _=>WAttr.mk hdx rfl (WSub.lst (zH hh) h2 h)⟩,fun z=>?_⟩)),fun z=>?_⟩)),fun z=>absurd (Int.natCast_nonneg s) (of_decide_eq_false z)⟩
 ·exact absurd (zhb (nf z)) (Nat.succ_ne_zero l)
 ·have:=zbw (nb (nf z))
  rw [ze] at this; exact False.elim <| #[0x145115421,_,_] h1 this
theorem zeH (hk:4<=k) (F:Full ls) (hdx:H dx=some (pwF ls)) (hh:Has ls s l) (hdy:H dy=some (lwF ad h hb)) (had:H ad=some (.barr bs)) (w:WrSt bs h hb val nb) (hl:bs.length<=100)
  (hq:∀ bs' h' hb',WrSt bs' h' hb' (val+rev (cod ls s) (l+1)*2 ^ nb) (nb+(l+1))->Q .none ((H.set dy (lwF ad h' hb')).set ad (.barr bs'))) :
  wpBody (Sp k) c_pwWrite.1 [some (.inst .pwriter a dx),some (.inst .lwriter b dy),some (iv s)] H Q X:=by
 obtain ⟨h1,h2⟩:=zef F hh
 refine mEA .user (.user rfl hdx) (WMeth.user rfl (SpI.mk (below (by decide) hk) ⟨a,dx,ls,s,l,hdx,F,hh,WCmp.isin' ⟨fun z=>absurd z (by decide),fun _=>?_⟩⟩))
 exact mEA .user (.user rfl hdy) (WAttr.mk hdx rfl (WSub.lst (zH (zgB hh)) h2 (WAttr.mk hdx rfl (WSub.lst (zH hh) h2 (WMeth.user rfl (SpI.mk hk ⟨b,dy,ad,bs,h,hb,val,nb,cod ls s,l+1,zej F hh,by have:=zav F hh; exact #[0x1f0104111180421,_] this,hdy,had,w,hl,hq⟩))))))
theorem set3 (H:AH) (a b:Addr) (x y z:AObj):((H.set a x).set b y).set a z=(H.set b y).set a z:=funext fun c=>by
 unfold AH.set
 by_cases h:c=a
 ·rw [if_pos h,if_pos h]
 ·rw [if_neg h,if_neg h]
  by_cases g:c=b
  ·rw [if_pos g,if_neg h]
  ·rw [if_neg g,if_neg h]
theorem set_comm (H:AH) {a b:Addr} (n:a≠b) (x y:AObj):(H.set a x).set b y=(H.set b y).set a x:=funext fun c=>by
 unfold AH.set
 by_cases h:c=b
 ·rw [if_pos h,if_neg (fun e=>n (e.symm.trans h)),if_pos h]
 ·rw [if_neg h,if_neg h]
theorem zfR (hq:∀ ad,H ad=none->ad≠dx->Q .none ((H.set ad (.barr [])).set dx (lwF ad 0 0))) (hdx:H dx=none):wpBody S c_lwInit.1 [some (.inst .lwriter a dx)] (H.set dx (.fields [])) Q X:=by
 refine WBcall.bytearray fun ad had=>WPutA.mk (zl had (za ..)) (Nat.le_of_ble_eq_true rfl) (zba (Nat.le_of_ble_eq_true rfl) (zba (Nat.le_of_ble_eq_true rfl) ?_))
 rw [set3]
 exact hq ad ((zo hdx).none had) fun e=>by rw [e,za] at had; exact absM had
theorem WAug.nsub {a b:Nat} (g:b<=a) (h:Q (iv (a - b)) H):WAug H Q .Sub (iv a) (iv b):=by
 have e:Int.ofNat a - Int.ofNat b=Int.ofNat (a - b):=(Int.ofNat_sub g).symm
 exact .sub ((congrArg (fun i=>Q (.int i) H) e).mpr h)
theorem num_push {bs:List UInt8} {h:Nat}:num (bs++[UInt8.ofNat (h &&& 255)])+2 ^ (8*(bs++[UInt8.ofNat (h &&& 255)]).length)*(h / 2 ^ 8)=num bs+2 ^ (8*bs.length)*h:=by
 have e:h &&& 255=h % 256:=Nat.and_two_pow_sub_one_eq_mod h 8
 rw [e,zP,List.length_append,List.length_singleton,Nat.mul_succ,Nat.pow_add,Nat.add_assoc,Nat.mul_assoc,<- Nat.mul_add]
 congr 2
 show (UInt8.ofNat (h % 256)).toNat+256*0+256*(h / 256)=h
 rw [UInt8.toNat_ofNat',Nat.mod_eq_of_lt (a:=h % 256) (Nat.mod_lt _ (by decide))]
 exact #[0x64488200511314880520048803565448821341,_,_,_] (divO _ _)
theorem zfM (hk:2<=k) {v:Nat} (hv:v < 2 ^ n) (hn:n<=15) (hdy:H dy=some (lwF ad h hb)) (had:H ad=some (.barr bs)) (w:WrSt bs h hb val nb) (hl:bs.length<=100)
  (hq:∀ bs' h' hb',WrSt bs' h' hb' (val+v*2 ^ nb) (nb+n)->Q .none ((H.set dy (lwF ad h' hb')).set ad (.barr bs'))) :
  wpBody (Sp k) c_lwBits.1 [some (.inst .lwriter b dy),some (iv v),some (iv n)] H Q X:=by
 refine oAAA w fun w1 w2 w3 w4=>?_
 have ne:dy≠ad:=zq hdy had (by intro e; exact absO e rfl)
 have v62:v < 2 ^ 62:=Nat.lt_of_lt_of_le hv (Nat.pow_le_pow_right (by decide) (show n<=62 by exact #[0x7e04111f0411,_] hn))
 refine SpI.mk hk ⟨v,n,hv,WAttr.mk hdy rfl (WAttr.mk hdy rfl (WBin.shl (by exact #[0x2bca80411180421,_] w1) v62 (WAug.or (WPutA.mk hdy (Nat.le_of_ble_eq_true rfl) (WAttr.mk (za ..) rfl (WAug.add (zba (Nat.le_of_ble_eq_true rfl) ?_)))))))⟩
 have hor:h ||| v*2 ^ hb=h+v*2 ^ hb:=by rw [Nat.or_comm,Nat.mul_comm,<- Nat.two_pow_add_eq_or_of_lt w2,Nat.add_comm]
 have hlt:h+v*2 ^ hb < 2 ^ (hb+n):=by
  rw [Nat.pow_add,Nat.mul_comm (2 ^ hb)]
  have:(v+1)*2 ^ hb<=2 ^ n*2 ^ hb:=Nat.mul_le_mul_right _ hv
  rw [Nat.succ_mul] at this; exact #[0x7641217561115421,_,_,_,_] w2 this
 refine zk2 (σ:=List UInt8×Nat×Nat) (fun _=>[some (.inst .lwriter b dy),some (iv v),some (iv n)]) (fun t=>(H.set dy (lwF ad t.2.1 t.2.2)).set ad (.barr t.1)) (fun t=>t.2.1 < 2 ^ t.2.2/\val+v*2 ^ nb=num t.1+2 ^ (8*t.1.length)*t.2.1/\nb+n=8*t.1.length+t.2.2) (fun t=>t.2.2) (bs,h ||| v*2 ^ hb,hb+n) rfl ?_ ⟨?_,?_,?_⟩ fun t J=>?_
 ·exact (zda (zb (Ne.symm ne) had)).symm
 ·show h ||| v*2 ^ hb < _
  rw [hor]; exact hlt
 ·show _=num bs+2 ^ (8*bs.length)*(h ||| v*2 ^ hb)
  rw [hor,w3,w4,Nat.pow_add,Nat.mul_add,Nat.add_assoc,Nat.mul_left_comm]
 ·rw [w4]; exact Nat.add_assoc _ _ _
 ·refine oAA J fun j1 j2 j3=>?_
  have fy:((H.set dy (lwF ad t.2.1 t.2.2)).set ad (.barr t.1)) dy=some (lwF ad t.2.1 t.2.2):=zb ne (za ..)
  refine WAttr.mk fy rfl (WCmp.ge ⟨fun z=>?_,fun z=>hq t.1 t.2.1 t.2.2 ⟨?_,j1,j2,j3⟩⟩)
  ·have z:8<=t.2.2:=le_of z
   have bl:t.1.length<=big:=by
    show _<=1000000
    exact #[0x3ec99880811981821471316518217311806211cc05111f0411,_,_,_,_,_,_] hn hl w1 w4 j3
   refine WAttr.mk fy rfl (mEA .barr (.push (za ..)) (WAttr.mk fy rfl (WBin.and (WMeth.push (za ..) (Nat.lt_succ_of_le Nat.and_le_right) bl ?_))))
   rw [zas]
   refine WAttr.mk (zb ne (za ..)) rfl (WAug.shr (WPutA.mk (zb ne (za ..)) (Nat.le_of_ble_eq_true rfl) (WAttr.mk (za ..) rfl (WAug.nsub z (zba (Nat.le_of_ble_eq_true rfl) ?_)))))
   rw [set3,<- set_comm _ ne]
   refine zeF _ (Nat.sub_lt (Nat.lt_of_lt_of_le (by decide) z) (by decide)) _ Sub.refl ((_,_,_)) rfl rfl ⟨?_,?_,?_⟩ rfl
   ·rw [Nat.div_lt_iff_lt_mul (Nat.two_pow_pos 8),<- Nat.pow_add,Nat.sub_add_cancel z]; exact j1
   ·rw [j2]; exact num_push.symm
   ·rw [j3,List.length_append,List.length_singleton]
    show 8*t.1.length+t.2.2=8*(t.1.length+1)+(t.2.2 - 8)
    exact #[0x510611821461821310053180424418014180513451418011,_,_,_] z (subO _ _)
  ·exact Int.ofNat_lt.mp (Int.not_le.mp (of_decide_eq_false z))
theorem zfS (hk:3<=k) {c:Nat} (hc:c < 2 ^ n) (hn:n<=15) (hdy:H dy=some (lwF ad h hb)) (had:H ad=some (.barr bs)) (w:WrSt bs h hb val nb) (hl:bs.length<=100)
  (hq:∀ bs' h' hb',WrSt bs' h' hb' (val+rev c n*2 ^ nb) (nb+n)->Q .none ((H.set dy (lwF ad h' hb')).set ad (.barr bs'))) :
  wpBody (Sp k) c_lwCode.1 [some (.inst .lwriter b dy),some (iv c),some (iv n),none,none] H Q X:=by
 refine SpI.mk (below (by decide) hk) ⟨c,n,hc,WRange.one (Nat.lt_of_le_of_lt hn (by decide)) ?_⟩
 refine zbN (σ:=Nat×Option V) (fun s=>[some (.inst .lwriter b dy),some (iv c),some (iv n),some (iv (rev c s.1)),s.2]) (fun _=>H) (fun i s=>s.1=i) (0,none) (by rw [zad]; exact Nat.le_trans hn (by decide)) rfl rfl rfl (fun i x s hx hs=>⟨trivial,.var ?_⟩) (fun s hs=>⟨trivial,?_⟩)
 ·obtain ⟨h1,rfl⟩:=zal hx
  subst hs
  exact WBin.shl (by decide) (zkZ (by exact #[0x1f051145211f0411,_,_] hn h1)) (WBin.shr (WBin.and (WBin.or (zc2 _ Sub.refl ((s.1+1,some (iv s.1))) rfl rfl rfl))))
 ·rw [zad] at hs
  subst hs
  exact mEA .user (.user rfl hdy) (WMeth.user rfl (SpI.mk hk ⟨b,dy,ad,bs,h,hb,val,nb,rev c s.1,s.1,zc0 c s.1,hn,hdy,had,w,hl,hq⟩))
theorem zfl (hdy:H dy=some (lwF ad h hb)) (had:H ad=some (.barr bs)) (w:WrSt bs h hb val nb) (hl:bs.length<=100) (hq:Q (iv nb) H):wpBody S c_lwSize.1 [some (.inst .lwriter b dy)] H Q X:=by
 refine oAAA w fun w1 w2 w3 yD=>?_; obtain rfl:=yD
 exact WAttr.mk hdy rfl (WBcall.lenBarr had (Nat.le_trans hl (by decide)) (WBin.mul (.inl (by decide)) (WAttr.mk hdy rfl (WBin.add hq))))
theorem zfw (hdy:H dy=some (lwF ad h hb)) (had:H ad=some (.barr bs)) (w:WrSt bs h hb val nb) (hl:bs.length<=100) (hq:∀ out:List UInt8,num out=val->out.length=(nb+7) / 8->Q (.bytes out) H):wpBody S c_lwDone.1 [some (.inst .lwriter b dy),none] H Q X:=by
 refine oAAA w fun w1 w2 w3 w4=>?_
 have hl':bs.length<=big:=Nat.le_trans hl (by decide)
 refine WAttr.mk hdy rfl (WCmp.gt ⟨fun z=>WAttr.mk hdy rfl (WAttr.mk hdy rfl (WBcall.bytesA had hl' (WBcall.bytesL (ns:=[Int.ofNat h]) (Nat.le_of_ble_eq_true rfl) ?_ (WBin.addb ?_ (hq _ ?_ ?_))))),fun z=>WAttr.mk hdy rfl (WBcall.bytesA had hl' (WBcall.bytesL (ns:=[]) (Nat.zero_le _) (fun n h=>nomatch h) (WBin.addb ?_ (hq _ ?_ ?_))))⟩)
 ·intro n hn
  obtain rfl:=List.mem_singleton.mp hn
  have:2 ^ hb<=128:=Nat.pow_le_pow_right (by decide) (show hb<=7 by exact #[0x70411180421,_] w1)
  exact ⟨Int.natCast_nonneg h,Int.ofNat_lt.mpr (Nat.lt_of_lt_of_le w2 (Nat.le_trans this (by decide)))⟩
 ·exact Nat.le_trans (Nat.succ_le_succ hl) (show 101<=1000000 from Nat.le_of_ble_eq_true rfl)
 ·have:2 ^ hb<=128:=Nat.pow_le_pow_right (by decide) (show hb<=7 by exact #[0x70411180421,_] w1)
  rw [zP,w3]
  congr 2
  show (UInt8.ofNat h).toNat+256*0=h
  rw [UInt8.toNat_ofNat',Nat.mod_eq_of_lt (show h < 256 by exact #[0x488042128805115421,_,_] w2 this)]; rfl
 ·have z:=zbB z
  rw [List.length_append]
  show bs.length+1=_
  exact #[0x7106131180820018035705187182134140021461821531180421,_,_,_,_,_] w1 w4 z (divO _ _)
 ·show bs.length+0<=1000000; exact #[0x3ec998800041111cc0411,_] hl
 ·have z:=zbw z
  obtain rfl:=Nat.le_zero.mp z
  have:h=0:=by exact #[0x43110421,_] w2
  subst this
  rw [zP,w3]; rfl
 ·have z:=zbw z
  obtain rfl:=Nat.le_zero.mp z
  rw [List.length_append]
  show bs.length+0=_
  exact #[0x600513118072001803570417618213410051821431,_,_,_,_] w4 (divO _ _)
end
section
theorem zdd {ls:List Nat} (h:H f=some (.list (il ls))):IntsOf H (.ref f) (ls.map Int.ofNat):=by
 unfold IntsOf listOf
 dsimp only
 rw [h,zcj]
theorem zbR {xs:List V} (h:H f=some (.list xs)):listOf H (.ref f)=some xs:=by
 unfold listOf
 dsimp only
 rw [h]
theorem JarL.mono {n':Nat} (h:JarL n L) (hn:n<=n'):JarL n' L:=by
 refine zac h fun g o t k b e h1 h2 h3=>?_
 exact zau g o t k b e h1 h2 (Nat.le_trans h3 hn)
theorem zfL {ns:List Int} (hl:ns.length<=big) (h:∀ a L,H a=none->JarL 0 L->Q (.ref a) (H.set a (.list L))):wpBody S c_lawJar.1 [some (.lst (ns.map .int)),none,none,none,none] H Q X:=by
 have hl':(ns.map V.int).length<=big:=by rw [List.length_map]; exact hl
 refine WTgt.tup rfl (WSlice.lstTo (k:=24) hl' (WSeq.lst ?_))
 refine zbN (σ:=Int×Int×Int×Option V) (fun s=>[some (.lst (ns.map .int)),some (.int s.1),some (.int s.2.1),some (.int s.2.2.1),s.2.2.2]) (fun _=>H) (fun i s=>0<=s.1/\(0<=s.2.1/\s.2.1 < 1021)/\0<=s.2.2.1/\s.2.2.1 < 1021) (0,2,5,none) (Nat.le_trans (List.length_take_le _ _) (by decide)) rfl rfl ⟨by decide,⟨by decide,by decide⟩,by decide,by decide⟩
  (fun i x s hx hs=>⟨trivial,.var ?_⟩) (fun s hs=>⟨trivial,?_⟩)
 ·obtain ⟨c,rfl⟩:∃ c,x=.int c:=by
   have hm:=List.mem_of_mem_take (List.mem_of_getElem? hx)
   refine oEA (List.mem_map.mp hm) fun c _ e=>?_
   exact ⟨c,e.symm⟩
  refine oAA hs fun h1 h2 h3=>?_
  have md:∀ z:Int,0<=z % Int.ofNat 1021/\z % Int.ofNat 1021 < 1021:=fun z=>⟨Int.emod_nonneg _ (by decide),Int.emod_lt_of_pos _ (by decide)⟩
  refine WCmp.eq .int ⟨fun _=>WBin.pow (by decide) (by decide) (WBin.sub (WBcall.max2 (WBin.pow (by decide) (by decide) (WBin.mod (Int.ofNat_lt.mpr (Nat.pow_pos (by decide))) (WBin.mul (.inr (by decide)) (WBin.add (WBin.mod (by decide) (WBin.mul (.inr (by decide)) (WBin.add (WBin.mod (by decide) (zdM _ Sub.refl (((if c - Int.ofNat (10 ^ 18) > Int.ofNat 0 then c - Int.ofNat (10 ^ 18) else Int.ofNat 0) % Int.ofNat (10 ^ 60),(s.2.1*Int.ofNat 31+c) % Int.ofNat 1021,(s.2.2.1*Int.ofNat 7+(s.2.1*Int.ofNat 31+c) % Int.ofNat 1021) % Int.ofNat 1021,some (.int c))) rfl rfl (Int.emod_nonneg _ ?_) (md _) (md _)))))))))))),fun _=>WBin.mul (.inr (by decide)) (WBin.add (WBin.mod (by decide) (WBin.mul (.inr (by decide)) (WBin.add (WBin.mod (by decide) (zdM _ Sub.refl ((s.1,(s.2.1*Int.ofNat 31+c) % Int.ofNat 1021,(s.2.2.1*Int.ofNat 7+(s.2.1*Int.ofNat 31+c) % Int.ofNat 1021) % Int.ofNat 1021,some (.int c))) rfl rfl h1 (md _) (md _)))))))⟩
  exact Int.ne_of_gt (Int.ofNat_lt.mpr (Nat.pow_pos (by decide)))
 ·refine oAAA hs fun h1 yB h4 h5=>?_; obtain ⟨h2,h3⟩:=yB
  obtain ⟨g,e1⟩:=Int.eq_ofNat_of_zero_le h1
  obtain ⟨o,e2⟩:=Int.eq_ofNat_of_zero_le h2
  obtain ⟨t,e3⟩:=Int.eq_ofNat_of_zero_le h4
  have fin:∀ b:Bool,wpFresh H Q (.list [.int s.1,.int s.2.1,.int s.2.2.1,iv 0,.bool b]):=fun b a ha=>h a _ ha (zau g o t 0 b (by rw [e1,e2,e3]; rfl) (Int.ofNat_lt.mp (e2 ▸ h3)) (Int.ofNat_lt.mp (e3 ▸ h5)) (Nat.le_refl _))
  exact WCmp.eq .int (WTru.mk ⟨fun _=>WBcall.lenList rfl hl' (WCmp.lt (fin _)),fun _=>fin _⟩)
theorem zd1 {many:Nat} (h0:0 < many) (h62:many < 2 ^ 62) (hj:H j=some (.list L)) (J:JarL n L) (hn:n<=1000) (h:∀ d L',d < many->JarL (n+1) L'->Q (iv d) (H.set j (.list L'))) :
  wpBody S c_lawPick.1 [some (.ref j),some (iv many),none] H Q X:=by
 refine zac J fun g o t c b yF h1 h2 h3=>?_; obtain rfl:=yF
 refine WSub.list hj rfl (by decide) (WCmp.gt ⟨fun _=>?_,fun _=>?_⟩)
 ·exact WSub.list hj rfl (by decide) (zag h0 (WSub.list hj rfl (by decide) (WBin.div h0 h62 (WPutS.list hj (Nat.lt_of_lt_of_le Nat.zero_lt_one (Nat.le_of_ble_eq_true rfl)) (Nat.le_of_ble_eq_true rfl) (h _ _ (Nat.mod_lt _ h0) (zau (g / many) o t c b rfl h1 h2 (Nat.le_succ_of_le h3)))))))
 ·refine WSub.list hj rfl (by decide) (WBin.add (WPutS.list hj (Nat.lt_of_lt_of_le (by decide:3 < 5) (Nat.le_of_ble_eq_true rfl)) (Nat.le_of_ble_eq_true rfl) ?_))
  have hs:(H.set j (.list ([iv g,iv o,iv t,iv c,.bool b].set 3 (iv (c+1))))) j=some (.list [iv g,iv o,iv t,iv (c+1),.bool b]):=za ..
  refine WSub.list hs rfl (by decide) (WSub.list hs rfl (by decide) (WSub.list hs rfl (by decide) (WBin.mul (.inl (Nat.lt_of_lt_of_le h2 (by decide))) (WBin.add (WSub.list hs rfl (by decide) (WBin.mul (.inl (by decide)) (WSub.list hs rfl (by decide) (WBin.mul (.inr (Nat.lt_of_le_of_lt (Nat.succ_le_succ (Nat.le_trans h3 hn)) (by decide))) (WBin.add (zag (by decide) (zag h0 ?_)))))))))))
  exact h _ _ (Nat.mod_lt _ h0) (zau g o t (c+1) b rfl h1 h2 (Nat.succ_le_succ h3))
theorem zdm (hk:1<=k) (hj:H j=some (.list L)) (J:JarL n L) (hn:n<=900) (h:∀ o L',o < 256->JarL (n+2) L'->Q (iv o) (H.set j (.list L'))):wpBody (Sp k) c_lawOctet.1 [some (.ref j),none] H Q X:=by
 refine SpI.mk hk ⟨j,L,n,256,by decide,by decide,hj,J,by exact #[0x1fd804111e8c0411,_] hn,fun o L1 ho J1=>WBin.or (SpI.mk hk ⟨j,L1,n+1,4,by decide,by decide,za ..,J1,by exact #[0x1fd801041111e8c0411,_] hn,fun d L2 hd J2=>?_⟩)⟩
 rw [zas]
 have o2:o ||| 120 < 256:=Nat.or_lt_two_pow (n:=8) ho (by decide)
 match d,hd with
 | 0,_=>exact WSub.lst rfl (by decide) (h _ _ ho J2)
 | 1,_=>exact WSub.lst rfl (by decide) (h _ _ ho J2)
 | 2,_=>exact WSub.lst rfl (by decide) (h _ _ o2 J2)
 | 3,_=>exact WSub.lst rfl (by decide) (h 255 _ (by decide) J2)
end
noncomputable def srcOf:CS->Src
 | .fors _ s _=>s
 | _=>.range []
section
theorem zkB (hk:1<=k) {K:List V->(AH->Prop)->AH->Prop} {v1 v2 v3:Option V} (hj:H j=some (.list L)) (J:JarL n L) (hn:n<=100) (h:∀ N L',N<=7->JarL (n+1) L'->K (il (List.range N)) (fun _=>True) (H.set j (.list L'))) :
  wpSrc (Sp k) X (srcOf (c_lawLengths.1.getD 1 .stuck)) [some (.ref j),v1,v2,v3] H K:=by
 refine zac (id J) fun g o t c b yF h1 h2 h3=>?_; obtain rfl:=yF
 exact WSub.list hj rfl (by decide) (WTru.mk ⟨fun _=>SpI.mk hk ⟨j,_,n,3,by decide,by decide,hj,J,by exact #[0x1fd804111cc0411,_] hn,fun d L' hd J'=>WBin.add (WRange.one (show 1+d < 2 ^ 62 by exact #[0x488888888888888888888041012130421,_] hd) (h (1+d) L' (by exact #[0x7041011130421,_] hd) J'))⟩,fun _=>SpI.mk hk ⟨j,_,n,8,by decide,by decide,hj,J,by exact #[0x1fd804111cc0411,_] hn,fun d L' hd J'=>WRange.one (by exact #[0x4888888888888888888880421180421,_] hd) (h d L' (by exact #[0x70411180421,_] hd) J')⟩⟩)
structure Half (i:Nat) (ls:List Nat):Prop where
 len:ls.length=i+2
 le:∀ l∈ls,1<=l/\l<=i+1
 sum:(ls.map wt).sum=256
theorem zha:Half 0 [1,1]:=⟨rfl,by decide,rfl⟩
theorem zmM {a b d:Nat} (hd:d < 2):∃ x,[iv a,iv b][d]?=some (iv x)/\(x=a∨x=b):=by
 match d,hd with
 | 0,_=>exact mEA a rfl (.inl rfl)
 | 1,_=>exact mEA b rfl (.inr rfl)
theorem zmt {x:Nat} (h1:1<=x) (h2:x<=7):wt x=wt (x+1)+wt (x+1):=by
 unfold wt
 rw [if_neg (by exact #[0x436141011,_] h1),if_neg (by exact #[0x1041361,_] ),show 8 - x=8 - (x+1)+1 by exact #[0x10615310063104118024180104111801041613451005341802418041180451345170411,_,_,_] h2 (subO _ _) (subO _ _),Nat.pow_succ]; exact #[0x44142331,_] 
theorem zhy (g:Nat->Nat):∀ (ls:List Nat) (i x y:Nat),ls[i]?=some x->((ls.set i y).map g).sum+g x=(ls.map g).sum+g y
 | [],_,_,_,h=>by simp at h
 | l::ls,0,x,y,h=>by
  cases h
  rw [List.set_cons_zero,List.map_cons,List.map_cons,List.sum_cons,List.sum_cons]; exact #[0x456116541131,_,_,_] 
 | l::ls,i+1,x,y,h=>by
  have:=zhy g ls i x y h
  rw [List.set_cons_succ,List.map_cons,List.map_cons,List.sum_cons,List.sum_cons]; exact #[0x76811548113176154131,_,_,_,_,_] this
theorem ziv (g:Nat->Nat) (ls:List Nat) (d y:Nat):((ls.take d++y::ls.drop d).map g).sum=(ls.map g).sum+g y:=by
 have e:(ls.map g).sum=((ls.take d).map g).sum+((ls.drop d).map g).sum:=by rw [<- List.sum_append,<- List.map_append,List.take_append_drop]
 rw [List.map_append,List.map_cons,List.sum_append,List.sum_cons,e]; exact #[0x564116514131,_,_,_] 
theorem ziS (ls:List Nat) (d y:Nat):(ls.take d++y::ls.drop d).length=ls.length+1:=by
 rw [List.length_append,List.length_cons,<- Nat.add_assoc,<- List.length_append,List.take_append_drop]
theorem zhp {ls:List Nat} {d y x:Nat} (h:x∈ls.take d++y::ls.drop d):x=y∨x∈ls:=by
 rcases List.mem_append.mp h with q | q
 ·exact .inr (List.mem_of_mem_take q)
 ·rcases List.mem_cons.mp q with q | q
  ·exact .inl q
  ·exact .inr (List.mem_of_mem_drop q)
theorem ziZ {i d x y:Nat} (h:Half i ls) (hi:i < 7) (hx:ls[x]?=some y):Half (i+1) ((ls.set x (y+1)).take d++(y+1)::(ls.set x (y+1)).drop d):=by
 obtain ⟨h1,h2⟩:=h.le y (List.mem_of_getElem? hx)
 refine ⟨by rw [ziS,List.length_set,h.len],fun l hl=>?_,?_⟩
 ·rcases zhp hl with rfl | q
  ·exact #[0x1010511104111041101411051411,_,_] h2
  ·rcases List.mem_or_eq_of_mem_set q with q | q
   ·have:=h.le l q; exact #[0x101051141410141105141141011,_,_] this.1 this.2
   ·exact #[0x10105116161014110416311051411,_,_,_] h2 q
 ·have:=zhy wt ls x y (y+1) hx
  have e:=zmt h1 (by exact #[0x70511104151170421,_,_] hi h2)
  rw [h.sum] at this
  rw [ziv]; exact #[0x48806413166153164880154131,_,_,_] this e
structure Zer (i:Nat) (ls:List Nat):Prop where
 len:ls.length<=9+i
 le:∀ l∈ls,l<=8
 sum:(ls.map wt).sum=256
theorem zjC {i d:Nat} (h:Zer i ls):Zer (i+1) (ls.take d++0::ls.drop d):=by
 refine ⟨by rw [ziS]; exact Nat.succ_le_succ h.len,fun l hl=>?_,by rw [ziv,h.sum]; rfl⟩
 rcases zhp hl with rfl | q
 ·exact Nat.zero_le _
 ·exact h.le l q
theorem max_at {ls:List Nat} (h:ls≠[]):∃ x xs y,ls.map Int.ofNat=x::xs/\maxI x xs∈ls.map Int.ofNat/\(ls.map Int.ofNat).idxOf (maxI x xs)=y/\y < ls.length:=by
 induction ls using List.casesOn with
 | nil=>exact absurd rfl h
 | cons l r =>
  have hm:=(zbz (r.map Int.ofNat) (Int.ofNat l)).1
  refine zS _ _ _ rfl hm rfl ?_
  have:=List.idxOf_lt_length_of_mem hm
  rwa [List.length_cons,List.length_map] at this
theorem zk4 (ls:List Nat) (d y:Nat):(il ls).take d++iv y::(il ls).drop d=il (ls.take d++y::ls.drop d):=by
 rw [il,il,List.map_append,List.map_cons,List.map_take,List.map_drop]
def OldJ (H H':AH) (j:Addr):Prop:=∀ c o,c≠j->H c=some o->H' c=some o
theorem OldJ.put {H':AH} {o:AObj} (h:OldJ H H' j) (hf:H f=none):OldJ H (H'.set f o) j:=fun c x n e=>zb (zz hf e) (h c x n e)
theorem OldJ.jar {H':AH} {o:AObj} (h:OldJ H H' j):OldJ H (H'.set j o) j:=fun c x n e=>zb n (h c x n e)
theorem zjD {H':AH} {o:AObj} (h:OldJ H H' j) (hj:H' j=some o):Sub (H.set j o) H':=fun c x e=>by
 by_cases n:c=j
 ·subst n
  rw [za] at e; cases e; exact hj
 ·rw [zf _ _ n] at e
  exact h c x n e
structure LenJ (H:AH) (j f:Addr) (c:Nat) (ls:List Nat) (H':AH):Prop where
 ne:j≠f
 f0:H f=none
 old:OldJ H H' j
 jar:∃ L,H' j=some (.list L)/\JarL c L
 own:H' f=some (.list (il ls))
theorem LenJ.pick {c many:Nat} {H':AH} (J:LenJ H j f c ls H') (hk:1<=k) (h0:0 < many) (h1:many<=900) (hc:c<=900) (h:∀ d H2,d < many->LenJ H j f (c+1) ls H2->Q (iv d) H2):SpI k .lawPick [.ref j,iv many] H' Q X :=
 oEA J.jar fun L g JL=>SpI.mk hk ⟨j,L,c,many,h0,Nat.lt_of_le_of_lt h1 (by decide),g,JL,Nat.le_trans hc (by decide),fun d L' hd J'=>h d _ hd ⟨J.ne,J.f0,J.old.jar,mEA L' (za ..) J',zb (Ne.symm J.ne) J.own⟩⟩
theorem LenJ.put {c:Nat} {ls':List Nat} {xs:List V} {H':AH} (J:LenJ H j f c ls H') (e:xs=il ls'):LenJ H j f c ls' (H'.set f (.list xs)) :=
 ⟨J.ne,J.f0,J.old.put J.f0,oEA J.jar fun L g JL=>mEA L (zb J.ne g) JL,e ▸ za ..⟩
theorem zjh {a b:Nat} (q:Q (iv (a+b)) H):WBin H Q .Add (iv a) (iv b):=.add q
theorem ze4 {ns:List Int} {a:Addr} {x:Int} {y:Nat} (h:H a=some (.list (ns.map V.int))) (hl:ns.length<=big) (hk:x∈ns) (e:ns.idxOf x=y) (q:Q (iv y) H):WMeth H Q S X .list (.ref a) .index [.int x]:=.index h hl hk (e ▸ q)
section
variable {K:Loc->AH->Prop}
theorem lenT1 (hk:1<=k) (hn:n<=100) (hi:i < 7) (J:LenJ H j f (n+1+3*i) ls H1) (hh:Half i ls) (hK:∀ ls' z H2,LenJ H j f (n+1+3*(i+1)) ls' H2->Half (i+1) ls'->K [some (.ref j),some (.ref f),v2,z] H2) :
  wpSs (Sp k) XS (bodyOf (c_lawLengths.1.getD 1 .stuck)) [some (.ref j),some (.ref f),v2,v3] H1 K R:=by
 have c1:n+1+3*i<=800:=Nat.le_trans (Nat.add_le_add (Nat.succ_le_succ hn) (Nat.mul_le_mul_left 3 (Nat.le_of_lt hi))) (by decide)
 have c9:∀ {x:Nat},x<=9->n+1+3*i+x<=900:=fun h=>Nat.le_trans (Nat.add_le_add c1 h) (by decide)
 have l1:ls.length<=9:=hh.len ▸ Nat.add_le_add_right (Nat.le_of_lt hi) 2
 have lb:∀ {xs:List Nat},xs.length=ls.length->(il xs).length<=big:=fun e=>by rw [ze,e]; exact zt (Nat.le_trans l1 (by decide))
 have ne:ls≠[]:=fun e=>by have:=hh.len; rw [e] at this; cases this
 refine zB (max_at ne) fun x xs y e1 e2 e3 e4=>mEA .list (.index J.own) (WBcall.max (e1 ▸ zdd J.own) (ze4 (J.own.trans (by rw [zcj])) (by rw [List.length_map]; exact zt (Nat.le_trans l1 (by decide))) e2 e3 ?_))
 refine WBcall.lenList (zbR J.own) (lb rfl) (J.pick hk (ze ls ▸ Nat.lt_of_le_of_lt (Nat.zero_le _) e4) (ze ls ▸ Nat.le_trans l1 (by decide)) (c9 (Nat.zero_le 9)) fun d1 H2 hd1 J2=>J2.pick hk (many:=2) (by decide) (by decide) (c9 (x:=1) (by decide)) fun d2 H3 hd2 J3=>?_)
 refine oEA (zmM (a:=y) (b:=d1) hd2) fun sp g1 g2=>?_
 have hsp:sp < ls.length:=g2.elim (fun e=>e ▸ e4) fun e=>e ▸ ze ls ▸ hd1
 have sp62:sp < 2 ^ 62:=Nat.lt_of_lt_of_le hsp (Nat.le_trans l1 (by decide))
 have hget:ls[sp]?=some ls[sp]:=List.getElem?_eq_getElem hsp
 refine WSub.lst g1 (Nat.lt_trans hd2 (by decide)) (WSub.list J3.own (zH hget) sp62 (zjh (WPutS.list J3.own (ze ls ▸ hsp) (lb rfl) ?_)))
 have J4:=J3.put (zbZ ls sp (ls[sp]+1))
 have l4:(ls.set sp (ls[sp]+1)).length=ls.length:=List.length_set
 have hget2:(ls.set sp (ls[sp]+1))[sp]?=some (ls[sp]+1):=by rw [List.getElem?_set,if_pos rfl,if_pos hsp]
 have hs:=fun d=>ziZ (d:=d) hh hi hget
 revert J4 l4 hget2 hs
 generalize ls.set sp (ls[sp]+1)=ls2,H3.set f (.list ((il ls).set sp (iv (ls[sp]+1))))=H4
 intro J4 l4 hget2 hs
 refine mEA .list (.insert J4.own) (WBcall.lenList (zbR J4.own) (lb l4) (WBin.add (J4.pick hk (many:=(il ls2).length+1) (Nat.succ_pos _) (by rw [ze,l4]; exact Nat.le_trans (Nat.succ_le_succ l1) (by decide)) (c9 (x:=2) (by decide)) fun d3 H5 hd3 J5=>?_)))
 refine WSub.list J5.own (zH hget2) sp62 (WMeth.insert J5.own (Nat.lt_of_lt_of_le hd3 (by rw [ze,l4]; exact Nat.le_trans (Nat.succ_le_succ l1) (by decide))) (lb l4) (hK _ _ _ (J5.put (zk4 ..)) (hs d3)))
theorem lenT2 {N:Nat} (hk:1<=k) (hn:n<=100) (hN:N<=7) (hi:i < 3) (J:LenJ H j f (n+1+3*N+1+i) ls H1) (z:Zer i ls) (hK:∀ ls' H2,LenJ H j f (n+1+3*N+1+(i+1)) ls' H2->Zer (i+1) ls'->K [some (.ref j),some (.ref f),v2,v3] H2) :
  wpSs (Sp k) XS (bodyOf (c_lawLengths.1.getD 2 .stuck)) [some (.ref j),some (.ref f),v2,v3] H1 K R:=by
 have l1:ls.length<=12:=Nat.le_trans z.len (Nat.add_le_add_left (Nat.le_of_lt hi) 9)
 have lb:(il ls).length<=big:=by rw [ze]; exact zt (Nat.le_trans l1 (by decide))
 have c1:n+1+3*N+1+i<=900:=Nat.le_trans (Nat.add_le_add (Nat.succ_le_succ (Nat.add_le_add (Nat.succ_le_succ hn) (Nat.mul_le_mul_left 3 hN))) (Nat.le_of_lt hi)) (by decide)
 refine mEA .list (.insert J.own) (WBcall.lenList (zbR J.own) lb (WBin.add (J.pick hk (many:=(il ls).length+1) (Nat.succ_pos _) (by rw [ze]; exact Nat.le_trans (Nat.succ_le_succ l1) (by decide)) c1 fun d H2 hd J2=>?_)))
 exact WMeth.insert J2.own (Nat.lt_of_lt_of_le hd (by rw [ze]; exact Nat.le_trans (Nat.succ_le_succ l1) (by decide))) lb (hK _ _ (J2.put (zk4 ..)) (zjC z))
end
theorem zcu (hk:1<=k) (hj:H j=some (.list L)) (J:JarL n L) (hn:n<=100) (h:∀ ls L',Full ls->JarL (n+40) L'->Q (nl ls) (H.set j (.list L'))):wpBody (Sp k) c_lawLengths.1 [some (.ref j),none,none,none] H (Back Q) X:=by
 refine fun f hf=>zkB hk (zl hf hj) J hn fun N L' hN J'=>?_
 have hjf:j≠f:=zz hf hj
 refine zmn (fun _ (z:Option V×Option V)=>[some (.ref j),some (.ref f),z.1,z.2]) (fun i ls H1=>LenJ H j f (n+1+3*i) ls H1/\Half i ls) (zt (Nat.le_trans hN (by decide))) [1,1] (none,none) rfl
  ⟨⟨hjf,hf,(OldJ.put (fun c o _ e=>e) hf).jar,mEA L' (za ..) J',zb (Ne.symm hjf) (za ..)⟩,zha⟩
  (fun i ls z H1 K hi jj hK=>.var (lenT1 hk hn (Nat.lt_of_lt_of_le hi hN) jj.1 jj.2 fun ls' z' H2 a b=>hK ls' (_,z') _ _ Sub.refl ⟨a,b⟩)) fun ls z H1 j1=>?_
 refine j1.1.pick hk (many:=3) (by decide) (by decide) (Nat.le_trans (Nat.add_le_add (Nat.succ_le_succ hn) (Nat.mul_le_mul_left 3 hN)) (by decide)) fun d H2 hd J2=>WRange.one (Nat.lt_trans hd (by decide)) ?_
 refine zmn (fun _ (y:Option V×Option V)=>[some (.ref j),some (.ref f),y.1,y.2]) (fun i ls H1=>LenJ H j f (n+1+3*N+1+i) ls H1/\Zer i ls) (zt (Nat.le_trans (Nat.le_of_lt hd) (by decide))) ls (z.1,z.2) rfl
  ⟨J2,j1.2.len ▸ Nat.add_le_add_right hN 2,fun l hl=>Nat.le_trans (j1.2.le l hl).2 (Nat.succ_le_succ hN),j1.2.sum⟩
  (fun i ls z H1 K hi jj hK=>.var (lenT2 hk hn hN (Nat.lt_of_lt_of_le hi (Nat.le_of_lt hd)) jj.1 jj.2 fun ls' H2 a b=>hK ls' (_,_) _ _ Sub.refl ⟨a,b⟩)) fun ls y H1 j2=>?_
 refine oEA j2.1.jar fun L3 j3 J3=>?_
 refine zn _ (H.set _ (.list L3)) (zjD j2.1.old j3) (.lst j2.1.own ((zf _ _ (Ne.symm hjf)).trans hf) (FrzL.same _)) (h _ _ ⟨j2.2.le,j2.2.sum,Nat.le_trans j2.2.len (Nat.add_le_add_left (show d<=2 from Nat.le_of_lt_succ hd) 9)⟩ (J3.mono ?_))
 exact #[0x580615104321061111113052170411,_,_,_] hN hd
end
section
variable {e:Addr} {r:V}
theorem zji {H':AH} {r q:Nat} {v:V} (hs:∀ c o,H0 c=none->H c=some o->H' c=some o) (h:LtOk H0 H ls r q v):LtOk H0 H' ls r q v:=by
 refine zaG h fun a dz mo sy sz T Z yH e h1 h2 h3 h4=>?_; refine oAA yH fun n1 n2 n3=>?_
 exact zaB a dz mo sy sz T Z ⟨n1,n2,n3⟩ e (hs _ _ n1 h1) (hs _ _ n2 h2) (hs _ _ n3 h3) h4
theorem PrOk.mono {H1 H':AH} (hn:∀ c,H0 c=none->H1 c=none) (hs:∀ c o,H0 c=none->H c=some o->H' c=some o) (h:PrOk H0 H ls r):PrOk H1 H' ls r :=
 zB h fun a dx bl n e h1 h2=>zS a dx bl (hn _ n) e (hs _ _ n h1) h2
theorem TrOk.mono {H1 H':AH} (hn:∀ c,H0 c=none->H1 c=none) (hs:∀ c o,H0 c=none->H c=some o->H' c=some o) (hl:∀ {r q v},LtOk H0 H ls r q v->LtOk H1 H' ls r q v) (h:TrOk H0 H ls r):TrOk H1 H' ls r :=
 zT h fun a dx r' sy sz le T Z D n e h1 h2 h3 h4 h5 h6=>zaw a dx r' sy sz le T Z D ⟨hn _ n.1,hn _ n.2.1,hn _ n.2.2.1,hn _ n.2.2.2⟩ e (hs _ _ n.1 h1) (hs _ _ n.2.1 h2) (hs _ _ n.2.2.1 h3) (hs _ _ n.2.2.2 h4) h5
  fun c s l d=>⟨(h6 c s l d).1,fun g=>⟨((h6 c s l d).2 g).1,oEA ((h6 c s l d).2 g).2 fun v a b=>mEA v a (hl b)⟩⟩
theorem RdrOk.sub {H':AH} (hs:∀ c o,H0 c=none->H c=some o->H' c=some o) (h:RdrOk H0 H ls r):RdrOk H0 H' ls r :=
 Or.imp (PrOk.mono (fun _ n=>n) hs) (TrOk.mono (fun _ n=>n) hs (zji hs)) h
theorem RdrOk.weak {H1:AH} (hs:Sub H0 H1) (h:RdrOk H1 H ls r):RdrOk H0 H ls r :=
 Or.imp (PrOk.mono (fun _ n=>hs.none n) fun _ _ _ e=>e) (TrOk.mono (fun _ n=>hs.none n) (fun _ _ _ e=>e) fun b=>b.weak hs) h
theorem zjG (hk:5<=k) (F:Full ls) (R:RdrOk E0 H ls r) (hdy:H dy=some (strF oc p)) (hp:p<=8*oc.length) (hl:oc.length<=100)
  (h:∀ s l,Dec ls (num oc / 2 ^ p) s l->(p+l+1<=8*oc.length->Q (iv s) (H.set dy (strF oc (p+l+1))))/\(8*oc.length < p+l+1->∀ q,X (H.set dy (strF oc q)))) :
  ∃ κ,MOk H r .read κ/\WMeth H Q (Sp k) X κ r .read [.inst .lreader b dy]:=by
 have go:∀ {f:Fn} {c:Cls} {a dx:Addr} {fs:List (At×V)},r=.inst c a dx->H dx=some (.fields fs)->userFn c .read=some f->SpI k f [r,.inst .lreader b dy] H Q X->∃ κ,MOk H r .read κ/\WMeth H Q (Sp k) X κ r .read [.inst .lreader b dy] :=
  fun e h1 hu sp=>by subst e; exact mEA .user (.user hu h1) (.user hu sp)
 refine R.elim (fun z=>zB (id z) fun a dx bl n e h1 h2=>go e h1 rfl ?_) fun z=>zT (id z) fun a dx r' sy sz le T Z D n e h1 h2 h3 h4 h5 h6=>go e h1 rfl ?_
 ·exact SpI.mk hk ⟨ls,_,b,dy,oc,p,F,z,hdy,hp,hl,h⟩
 ·exact SpI.mk (below (by decide) hk) ⟨ls,_,b,dy,oc,p,F,z,hdy,hp,hl,h⟩
theorem zbW (ls:List Nat) (c:Nat):il ls++[iv c]=il (ls++[c]):=by rw [il,il,List.map_append]; rfl
theorem Runs.turn {N q i n:Nat} (rn:Runs ls n N q (fs.drop i) (es.drop i)):∃ s l,Dec ls (n / 2 ^ q) s l/\q<=N/\((N < q+l+1/\fs.length<=i/\es.length<=i)∨(q+l+1<=N/\fs[i]?=some s/\es[i]?=some (q+l+1)/\Runs ls n N (q+l+1) (fs.drop (i+1)) (es.drop (i+1)))):=by
 generalize hf:fs.drop i=f,he:es.drop i=e at rn
 cases rn with
 | stop d hp h=>exact zn _ _ d hp (.inl ⟨h,List.drop_eq_nil_iff.mp hf,List.drop_eq_nil_iff.mp he⟩)
 | step d h r =>
  have g:∀ {xs ys:List Nat} {x:Nat},xs.drop i=x::ys->xs[i]?=some x/\xs.drop (i+1)=ys:=fun {xs ys x} z=>⟨by rw [<- Nat.add_zero i,<- List.getElem?_drop,z]; rfl,by rw [<- List.drop_drop,z]; rfl⟩
  exact zn _ _ d (Nat.le_trans (Nat.le_add_right _ _) (Nat.le_of_succ_le h)) (.inr ⟨h,(g hf).1,(g he).1,by rw [(g hf).2,(g he).2]; exact r⟩)
structure RdJ (ls:List Nat) (oc:List UInt8) (dy f e:Addr) (H0:AH) (fs es:List Nat) (i q:Nat) (H:AH):Prop where
 sb:Sub H0 H
 st:H dy=some (strF oc q)
 jf:H f=some (.list (il (fs.take i)))
 je:H e=some (.list (il (es.take i)))
 le:i<=q
 rn:Runs ls (num oc) (8*oc.length) q (fs.drop i) (es.drop i)
theorem zhQ {i x:Nat} (h:es[i]?=some x):il (es.take i)++[iv x]=il (es.take (i+1)):=by rw [zbW,List.take_add_one,h]; rfl
theorem rd_end {H':AH} {i:Nat} (f0:H f=none) (e0:H e=none) (s:Sub H H') (h1:H' f=some (.list (il (fs.take i)))) (h2:H' e=some (.list (il (es.take i)))) (l1:fs.length<=i) (l2:es.length<=i) (hq:Q (.tup [nl fs,nl es]) H):Back Q (.tup [.ref f,.ref e]) H':=by
 rw [List.take_of_length_le l1] at h1
 rw [List.take_of_length_le l2] at h2
 exact zn _ H s (.tup (.cons (.lst h1 f0 (FrzL.same _)) (.cons (.lst h2 e0 (FrzL.same _)) .nil))) hq
theorem zmk {q N:Nat} (h:q<=N):N - (N - q)=q:=Nat.sub_sub_self h
theorem zed (hk:5<=k) (F:Full ls) (hl:oc.length<=100) (R:RdrOk E0 H ls r) (run:Runs ls (num oc) (8*oc.length) p fs es) (hq:Q (.tup [nl fs,nl es]) H) :
  wpBody (Sp k) c_lawRead.1 [some r,some (.bytes oc),some (iv p),none,none,none,none,none] H (Back Q) X:=by
 have N8:=zbY hl
 have hbig:oc.length<=big:=zt (Nat.le_trans hl (by decide))
 refine SpI.mk (below (by decide) hk) ⟨oc,hl,fun b dy hb hdy=>fun f hf=>fun e he=>WTgt.tup rfl ?_⟩
 have f0:H f=none:=(zo hdy).none hf
 have e0:H e=none:=((zo hdy).put f0).none he
 have hdf:dy≠f:=zz hf (za ..)
 have hde:dy≠e:=zz he (zb hdf (za ..))
 have hfe:f≠e:=zz he (za ..)
 have d1:(((H.set dy (strF oc 0)).set f (.list [])).set e (.list [])) dy=some (strF oc 0):=zb hde (zb hdf (za ..))
 refine mEA .user (.user rfl d1) (WMeth.user rfl (SpI.mk (below (by decide) hk) ⟨b,dy,oc,0,p,d1,Nat.zero_le _,fun _=>?_,fun y=>absurd y (Nat.not_lt.mpr ((Nat.zero_add p).symm ▸ run.le))⟩))
 refine WBcall.lenBytes hbig (WBin.mul (.inl (by decide)) (WBin.add (WRange.one (n:=8*oc.length+1) (Nat.lt_of_le_of_lt (Nat.succ_le_succ N8) (by decide)) (zmn (fun _ (z:Option V×Option V)=>[some r,some (.bytes oc),some (iv p),some (.inst .lreader b dy),some (.ref f),some (.ref e),z.1,z.2])
  (RdJ ls oc dy f e H fs es) (zt (Nat.le_trans (Nat.succ_le_succ N8) (by decide))) p (none,none) rfl ⟨(((zo hdy).put f0).put e0).put hdy,(za ..).trans (by rw [Nat.zero_add]),zb (Ne.symm hdf) (zb hfe (za ..)),zb (Ne.symm hde) (za ..),Nat.zero_le _,run⟩ (fun i q z H1 N hi j hK=>.var ?_) fun q z H1 j=>?_))))
 ·refine zd j.rn.turn fun s l d hq' alt=>zjG hk F (R.sub fun c o _=>j.sb c o) j.st hq' hl fun s' l' d'=>?_
  obtain ⟨rfl,rfl⟩:=zw F d d'
  refine ⟨fun y=>alt.elim (fun z=>absurd y (Nat.not_le.mpr z.1)) fun z=>?_,fun y q'=>alt.elim (fun z=>rd_end f0 e0 (j.sb.put hdy) (zb (Ne.symm hdf) j.jf) (zb (Ne.symm hde) j.je) z.2.1 z.2.2 hq) fun z=>absurd y (Nat.not_lt.mpr z.1)⟩
  have k2:∀ {o:AObj},(H1.set dy o) f=some (.list (il (fs.take i))):=zb (Ne.symm hdf) j.jf
  have k3:∀ {o o':AObj},((H1.set dy o).set f o') e=some (.list (il (es.take i))):=zb (Ne.symm hfe) (zb (Ne.symm hde) j.je)
  have k1:∀ {o:AObj},((H1.set dy (strF oc (q+l+1))).set f o) dy=some (strF oc (q+l+1)):=zb hdf (za ..)
  have hb:∀ xs:List Nat,(il (xs.take i)).length<=big:=fun xs=>by rw [ze]; exact zt (Nat.le_trans (List.length_take_le _ _) (Nat.le_trans (Nat.le_of_lt hi) (Nat.le_trans (Nat.succ_le_succ N8) (by decide))))
  refine mEA .list (.append k2) (WMeth.append k2 (hb fs) (mEA .list (.append k3) (WBcall.lenBytes hbig (WBin.mul (.inl (by decide)) (mEA .user (.user rfl k1) (WMeth.user rfl (SpI.mk (below (by decide) hk) ⟨b,dy,oc,q+l+1,k1,z.1,WBin.nsub (Nat.sub_le _ _) (WMeth.append k3 (hb es) (hK (q+l+1) (_,_) _ _ Sub.refl ?_))⟩)))))))
  exact ⟨((j.sb.put hdy).put f0).put e0,zb hde k1,zb hfe ((za ..).trans (by rw [zhQ z.2.1])),(za ..).trans (by rw [zmk z.1,zhQ z.2.2.1]),Nat.succ_le_succ (Nat.le_trans j.le (Nat.le_add_right q l)),z.2.2.2⟩
 ·exact absurd (Nat.le_trans j.le (zd j.rn.turn fun _ _ _ h _=>h)) (Nat.not_succ_le_self _)
end
section
theorem zaJ {q:Nat->Bool} {ls:List Nat} {i l:Nat} (h:ls[i]?=some l):(ls.take (i+1)).filter q=if q l=true then (ls.take i).filter q++[l] else (ls.take i).filter q:=by
 rw [List.take_add_one,h,List.filter_append]
 cases e:q l with
 | true=>rw [if_pos rfl]; show _++List.filter q [l]=_; rw [List.filter_cons_of_pos e]; rfl
 | false=>rw [if_neg (by decide)]; show _++List.filter q [l]=_; rw [List.filter_cons_of_neg (by rw [e]; decide)]; exact List.append_nil _
theorem Full.ne {ls:List Nat} (F:Full ls):ls.filter (fun l=>decide (0 < l))≠[]:=fun e=>by
 refine oEE (zcW F 0) fun s l d=>?_
 have hm:l+1∈ls.filter (fun l=>decide (0 < l)):=List.mem_filter.mpr ⟨List.mem_of_getElem? d.1,by simp⟩
 rw [e] at hm; cases hm
theorem zla {ls:List Nat} (h:ls≠[]):∃ x xs M,ls.map Int.ofNat=x::xs/\maxI x xs=Int.ofNat M/\M∈ls/\∀ l∈ls,l<=M:=by
 induction ls using List.casesOn with
 | nil=>exact absurd rfl h
 | cons l r =>
  obtain ⟨h1,h2⟩:=zbz (r.map Int.ofNat) (Int.ofNat l)
  have h1:maxI (Int.ofNat l) (r.map Int.ofNat)∈(l::r).map Int.ofNat:=h1
  refine oEA (List.mem_map.mp h1) fun M hM e=>?_
  exact ⟨_,_,M,rfl,e.symm,hM,fun x hx=>by
   have:=h2 _ (List.mem_map_of_mem (f:=Int.ofNat) hx)
   rw [<- e] at this; exact Int.ofNat_le.mp this⟩
theorem min_of {ls:List Nat} (h:ls≠[]):∃ x xs M,ls.map Int.ofNat=x::xs/\minI x xs=Int.ofNat M/\M∈ls/\∀ l∈ls,M<=l:=by
 induction ls using List.casesOn with
 | nil=>exact absurd rfl h
 | cons l r =>
  obtain ⟨h1,h2⟩:=zct (r.map Int.ofNat) (Int.ofNat l)
  have h1:minI (Int.ofNat l) (r.map Int.ofNat)∈(l::r).map Int.ofNat:=h1
  refine oEA (List.mem_map.mp h1) fun M hM e=>?_
  exact ⟨_,_,M,rfl,e.symm,hM,fun x hx=>by
   have:=h2 _ (List.mem_map_of_mem (f:=Int.ofNat) hx)
   rw [<- e] at this; exact Int.ofNat_le.mp this⟩
theorem zbQ {xs:List Nat} {v:V} {zs:List Int} (e:v=nl xs) (h:xs.map Int.ofNat=zs):IntsOf H v zs:=by subst e h; exact zr xs
theorem zd5 (F:Full ls) (hl:oc.length<=100) (run:Runs ls n (8*oc.length) 0 fs es) (h:Q (.bool true) H):wpBody S c_lawMany.1 [some (nl ls),some (.bytes oc),some (nl fs),none] H Q X:=by
 have hbig:oc.length<=big:=Nat.le_trans hl (by decide)
 have ne:=F.ne
 refine zB (zla ne) fun x xs M e1 e2 hM hM2=>?_
 refine zB (min_of ne) fun y ys B g1 g2 hB hB2=>?_
 have hM1:=of_decide_eq_true (List.mem_filter.mp hM).2
 have hB1:=of_decide_eq_true (List.mem_filter.mp hB).2
 have hM8:=F.le8 _ (List.mem_filter.mp hM).1
 have hB8:=F.le8 _ (List.mem_filter.mp hB).1
 obtain ⟨r1,r2⟩:=run.many F (a:=M) (b:=B) fun l hl h0=>by
  have hm:l∈ls.filter (fun l=>decide (0 < l)):=List.mem_filter.mpr ⟨hl,decide_eq_true (Nat.pos_of_ne_zero h0)⟩
  exact ⟨hB2 l hm,hM2 l hm⟩
 have fl:(il fs).length<=big:=by
  rw [ze]
  have:fs.length*1<=fs.length*B:=Nat.mul_le_mul_left _ hB1
  show _<=1000000
  exact #[0x3ec9988061156131141825001111cc0411,_,_,_] hl r2 this
 refine WSeq.lst (zmJ (fun i=>il ((ls.take i).filter fun l=>decide (0 < l))) (by rw [ze]; exact F.big) rfl (fun i x hx=>⟨trivial,.var ?_⟩) ⟨trivial,?_⟩)
 ·refine oEA (zay hx) fun l hl yC=>?_; obtain rfl:=yC
  refine WCmp.gt ⟨fun z=>(mEAA _ Sub.refl ?_ rfl),fun z=>(mEAA _ Sub.refl ?_ rfl)⟩
  ·rw [zaJ hl,if_pos (decide_eq_true (zbB z)),zbW]
  ·rw [zaJ hl,if_neg (by simpa using zbw z)]
 ·rw [ze,List.take_length]
  refine WBcall.lenBytes hbig (WBin.mul (.inl (by decide)) (WBcall.max (zbQ rfl e1) ?_))
  rw [e2]
  refine WBin.div (x:=8*oc.length) hM1 (by exact #[0x4888888888888888888880421180411,_] hM8) (WBcall.lenList rfl fl (WCmp.le ⟨fun _=>WBcall.lenBytes hbig (WBin.mul (.inl (by decide)) (WBcall.min (zbQ rfl g1) ?_)),fun z=>?_⟩))
  ·rw [g2]
   refine WBin.div (x:=8*oc.length) hB1 (by exact #[0x4888888888888888888880421180411,_] hB8) (WCmp.le ?_)
   rw [decide_eq_true]; exact h
   refine Int.ofNat_le.mpr ?_
   rw [ze,Nat.le_div_iff_mul_le hB1]; exact #[0x51824115182400111,_,_] r2
  ·have z:=ziB z
   rw [ze] at z
   have:8*oc.length / M < fs.length+1:=by rw [Nat.div_lt_iff_lt_mul hM1,Nat.add_mul,Nat.one_mul]; exact #[0x651418221650011418221,_,_,_] r1
   exact False.elim <| #[0x110415215421,_,_] z this
end
section
variable {x y a b:Nat}
theorem zD (k x:Nat):(digs k x).length=k:=by unfold digs; rw [List.length_map,List.length_range]
theorem zaW (a b x:Nat):digs (a+b) x=digs a x++digs b (x / 2 ^ a):=by
 unfold digs
 rw [List.range_add,List.map_append,List.map_map]
 congr 1
 refine List.map_congr_left fun j _=>?_
 show 48+x / 2 ^ (a+j) % 2=48+x / 2 ^ a / 2 ^ j % 2
 rw [Nat.pow_add,Nat.div_div_eq_div_mul]
theorem zg4 (e:x % 2 ^ k=y % 2 ^ k):digs k x=digs k y:=by
 unfold digs
 refine List.map_congr_left fun j hj=>?_
 have:=zcm (p:=j) (l:=1) e (List.mem_range.mp hj)
 rw [Nat.pow_one] at this
 rw [this]
theorem zf5:∀ {k:Nat},digs k x=digs k y->x % 2 ^ k=y % 2 ^ k
 | 0,_=>by rw [Nat.pow_zero,Nat.mod_one,Nat.mod_one]
 | k+1,e=>by
  rw [zaW,zaW] at e
  obtain ⟨e1,e2⟩:=List.append_inj e (by rw [zD,zD])
  have h1:=zf5 e1
  have h2:48+x / 2 ^ k / 2 ^ 0 % 2=48+y / 2 ^ k / 2 ^ 0 % 2:=List.head_eq_of_cons_eq e2
  rw [Nat.pow_zero,Nat.div_one,Nat.div_one] at h2
  rw [Nat.pow_succ,Nat.mod_mul,Nat.mod_mul,h1,show x / 2 ^ k % 2=y / 2 ^ k % 2 by exact #[0x5431568014680131,_,_] h2]
theorem zeh (h:a<=k):(digs k x).take a=digs a x:=by
 obtain ⟨d,rfl⟩:∃ d,k=a+d:=⟨k - a,by exact #[0x64153100634524541546134515411,_,_,_] h (subO _ _)⟩
 rw [zaW,List.take_append_of_le_length (by rw [zD]; exact Nat.le_refl _),List.take_of_length_le (by rw [zD]; exact Nat.le_refl _)]
theorem zh5 (h:a<=k):(digs k x).drop a=digs (k - a) (x / 2 ^ a):=by
 obtain ⟨d,rfl⟩:∃ d,k=a+d:=⟨k - a,by exact #[0x64153100634524541546134515411,_,_,_] h (subO _ _)⟩
 rw [zaW,List.drop_append_of_le_length (by rw [zD]; exact Nat.le_refl _),List.drop_eq_nil_of_le (by rw [zD]; exact Nat.le_refl _),Nat.add_sub_cancel_left,List.nil_append]
theorem zaK (l:List Nat):(l.map fun c=>[c]).flatten=l:=by
 induction l with
 | nil=>rfl
 | cons c r ih=>rw [List.map_cons,List.flatten_cons,ih]; rfl
theorem zdZ (k x:Nat):digs (k+1) x=digs k x++[48+x / 2 ^ k % 2]:=by
 rw [zaW]
 show _++[48+x / 2 ^ k / 2 ^ 0 % 2]=_
 rw [Nat.pow_zero,Nat.div_one]
end
noncomputable def sgl (l:List Nat):List V:=(l.map fun c=>[c]).map V.str
theorem zgA (l:List Nat) (c:Nat):sgl l++[.str [c]]=sgl (l++[c]):=by unfold sgl; rw [List.map_append,List.map_append]; rfl
theorem zgj {d:Nat} (h:d < 2):([48,49] : List Nat)[d]?=some (48+d):=by
 match d,h with
 | 0,_=>rfl
 | 1,_=>rfl
section
theorem zis {o:UInt8} {i j:Nat} (h:oc[i]?=some o) (hj:j < 8):o.toNat / 2 ^ j % 2=num oc / 2 ^ (8*i+j) % 2:=by
 have e:=zcF oc i
 rw [List.getD_eq_getElem?_getD,h] at e
 have e:num oc / 2 ^ (8*i) % 256=o.toNat:=e
 rw [<- e,Nat.pow_add,<- Nat.div_div_eq_div_mul]
 have:=zcm (p:=j) (l:=1) (k:=8) (n:=num oc / 2 ^ (8*i) % 256) (n':=num oc / 2 ^ (8*i)) (Nat.mod_mod_of_dvd _ (by decide)) (by exact #[0x180104111180421,_] hj)
 rwa [Nat.pow_one] at this
theorem zhr {s l:Nat} (d:Dec ls (n / 2 ^ p) s l):digs p n++digs (l+1) (rev (cod ls s) (l+1))=digs (p+(l+1)) n:=by
 rw [zaW p (l+1) n]
 congr 1
 refine zg4 ?_
 rw [<- d.2,Nat.mod_mod]
theorem Runs.at_ {N q i x:Nat} (hx:fs[i]?=some x) (rn:Runs ls n N q (fs.drop i) (es.drop i)):∃ l,Dec ls (n / 2 ^ q) x l/\q+l+1<=N/\es[i]?=some (q+l+1)/\Runs ls n N (q+l+1) (fs.drop (i+1)) (es.drop (i+1)) :=
 zd rn.turn fun s l d _ z=>z.elim (fun z=>absN ((List.getElem?_eq_none z.2.1).symm.trans hx)) fun z=>zgL l (Option.some.inj (z.2.1.symm.trans hx) ▸ d) z.1 z.2.2.1 z.2.2.2
theorem Runs.end_ {N q:Nat} (rn:Runs ls n N q (fs.drop fs.length) (es.drop fs.length)):∃ s l,Dec ls (n / 2 ^ q) s l/\q<=N/\N < q+l+1 :=
 zd rn.turn fun s l d hq z=>zn s l d hq (z.elim (fun z=>z.1) fun z=>absN ((List.getElem?_eq_none (Nat.le_refl _)).symm.trans z.2.1))
theorem loopF {τ:Type} {N:Nat} {NK:Loc->AH->Prop} {t:Tgt} {w:Loc->AH->(Loc->AH->Prop)->Prop} (f:Nat->τ->Loc) (J:Nat->Nat->AH->Prop) (run:Runs ls n N 0 fs es) (hl:fs.length<=big) (z0:τ) (hm:m=f 0 z0) (h0:J 0 0 H)
  (st:∀ i q x l z H K,es[i]?=some (q+l+1)->Dec ls (n / 2 ^ q) x l->q+l+1<=N->J i q H->(∀ z' H' H'',Sub H' H''->J (i+1) (q+l+1) H'->K (f (q+l+1) z') H'')->WTgt (f q z) (fun mD=>w mD H K) t (iv x))
  (fin:∀ q z H s l,Dec ls (n / 2 ^ q) s l->q<=N->N < q+l+1->J fs.length q H->NK (f q z) H):Turns t (il fs) (fun _=>True) w NK m H :=
 loopL f (fun i q H=>J i q H/\Runs ls n N q (fs.drop i) (es.drop i)) hl 0 z0 hm ⟨h0,run⟩
  (fun i x q z H K hx j k=>zdw (j.2.at_ hx) fun l d hN e rn=>st i q x l z H K e d hN j.1 fun z' H' H'' s j'=>k _ z' H' H'' s ⟨j',rn⟩)
  fun q z H j=>zd j.2.end_ fun s l d hq hN=>fin q z H s l d hq hN j.1
theorem zip_il {i:Nat} {x:V} (h:(((il fs).zip (il es)).map fun p=>V.tup [p.1,p.2])[i]?=some x):∃ a b,fs[i]?=some a/\es[i]?=some b/\x=.tup [iv a,iv b]:=by
 rw [List.getElem?_map] at h
 refine oEA (Option.map_eq_some_iff.mp h) fun y hz e=>?_
 rw [List.getElem?_zip_eq_some] at hz
 refine oEA (zay hz.1) fun a ha ea=>oEA (zay hz.2) fun b hb eb=>zn a b ha hb ?_
 rw [<- e,ea,eb]
theorem loopZ {τ:Type} {N:Nat} {NK:Loc->AH->Prop} {t:Tgt} {w:Loc->AH->(Loc->AH->Prop)->Prop} (f:Nat->τ->Loc) (J:Nat->AH->Prop) (run:Runs ls n N 0 fs es) (hl:fs.length<=big) (z0:τ) (hm:m=f 0 z0) (h0:J 0 H)
  (st:∀ q x l z H K,Dec ls (n / 2 ^ q) x l->q+l+1<=N->J q H->(∀ z' H' H'',Sub H' H''->J (q+l+1) H'->K (f (q+l+1) z') H'')->WTgt (f q z) (fun mD=>w mD H K) t (.tup [iv x,iv (q+l+1)]))
  (fin:∀ q z H,q<=N->J q H->NK (f q z) H):Turns t (((il fs).zip (il es)).map fun p=>.tup [p.1,p.2]) (fun _=>True) w NK m H :=
 ziq (n:=fs.length) f (fun i q H=>J q H/\Runs ls n N q (fs.drop i) (es.drop i)) (by rw [List.length_map,List.length_zip,ze,ze,<- run.len,Nat.min_self]) hl 0 z0 hm ⟨h0,run⟩
  (fun i x q z H K hx j k=>zd (zip_il hx) fun a b ha hb e=>zdw (j.2.at_ ha) fun l d hN e' rn=>by
   rw [e,show b=q+l+1 from Option.some.inj (hb.symm.trans e')]
   exact st q a l z H K d hN j.1 fun z' H' H'' s j'=>k _ z' H' H'' s ⟨j',rn⟩)
  fun q z H j=>zd j.2.end_ fun s l d hq hN=>fin q z H hq j.1
theorem Runs.short (F:Full ls) {N:Nat} (run:Runs ls n N 0 fs es):fs.length<=N:=by
 have:=(run.many F (a:=8) (b:=1) fun l hl h0=>⟨Nat.pos_of_ne_zero h0,F.le8 l hl⟩).2
 exact #[0x5411541300111,_,_] this
theorem zcI {p:Nat} (h:p<=900):(digs p n).length<=big:=by rw [zD]; exact zt h
theorem zaL {s:List Nat} {n:Nat} (e:s.length=n) (h:n<=big) (q:Q (iv n) H):WBcall H Q .len [.str s]:=by subst e; exact .lenStr h q
theorem ze2 {xs ys:List Nat} {k:Nat} (e:xs.drop k=ys) (h:xs.length<=big) (q:Q (.str ys) H):WSlice H Q (.str xs) (iv k) .none:=by subst e; exact .strFrom h q
theorem zhl {xs ys:List Nat} {k:Nat} (e:xs.take k=ys) (h:xs.length<=big) (q:Q (.str ys) H):WSlice H Q (.str xs) .none (iv k):=by subst e; exact .strTo h q
theorem zjg {x y z:List Nat} (e:x++y=z) (h:z.length<=big) (q:Q (.str z) H):WBin H Q .Add (.str x) (.str y):=by subst e; exact .adds (by rw [<- List.length_append]; exact h) q
theorem zjf {a:Addr} {k:Int} {v d:V} (h:H a=some (.dict kvs)) (e:dget kvs k=some v) (q:Q v H):WMeth H Q S X .dict (.ref a) .get [.int k,d]:=.get h (by rw [e]; exact q)
theorem zhW {i E:Nat} (h:es[i]?=some E):il (es.take i)++[iv E]=il (es.take (i+1)):=by rw [zbW,List.take_add_one,h]; rfl
theorem said0 {XS N:Loc->AH->Prop} {R:V->AH->Prop} {v0 v2 v3 v4 v5 v6 v7 v8:Option V} (hl:oc.length<=100) (h:N [v0,some (.bytes oc),v2,v3,some (.str (digs (8*oc.length) (num oc))),v5,v6,v7,v8] H) :
  wpS S XS (c_lawSaid.1.getD 0 .stuck) [v0,some (.bytes oc),v2,v3,v4,v5,v6,v7,v8] H N R:=by
 have hl':(oc.map (·.toNat)).length=oc.length:=List.length_map _
 refine mEA .str .join (WSeq.bytes (gathL (fun i=>sgl (digs (8*i) (num oc))) (hl' ▸ Nat.le_trans hl (by decide)) rfl (congrArg (fun i=>sgl (digs (8*i) (num oc))) hl') (fun i x K hx hK=>.var ?_) ?_))
 ·rw [List.getElem?_map] at hx
  refine oEA (Option.map_eq_some_iff.mp hx) fun o ho e=>?_
  subst e
  refine WRange.one (n:=8) (by decide) (zlY (fun j=>sgl (digs (8*i+j) (num oc))) (by decide) rfl rfl (fun j K' h8 hK'=>.var ?_) (hK _ rfl))
  refine WBin.pow (by exact #[0x2bca80411180421,_] h8) (by decide) (WBin.div (Nat.two_pow_pos j) (Nat.pow_lt_pow_right (by decide) (by exact #[0x7e0421180421,_] h8)) (zag (by decide) (WSub.str (zgj (Nat.mod_lt _ (by decide))) (by decide) (hK' _ ?_))))
  rw [zgA,zis ho h8]
  exact congrArg sgl (zdZ ..).symm
 ·have hb:=zcI (n:=num oc) (Nat.le_trans (zbY hl) (by decide))
  refine WMeth.join (by rw [List.length_map]; exact hb) (by rw [zaK]; exact hb) ?_
  rw [zaK]
  exact h
theorem said2 {XS N:Loc->AH->Prop} {R:V->AH->Prop} {b:Addr} {v1 v3 v4 v7 v8:Option V} (F:Full ls) (hl:oc.length<=100) (ha:H a=some (.dict kvs)) (hb:H b=none) (C:CodesOk ls kvs) (run:Runs ls (num oc) (8*oc.length) 0 fs es)
  (h:∀ q z H' s l,Dec ls (num oc / 2 ^ q) s l->q<=8*oc.length->8*oc.length < q+l+1->Sub H H'->H' b=some (.list (il es))->N [some (.ref a),v1,some (nl fs),v3,v4,some (.str (digs q (num oc))),some (.ref b),z,v8] H') :
  wpS S XS (c_lawSaid.1.getD 2 .stuck) [some (.ref a),v1,some (nl fs),v3,v4,some (.str []),some (.ref b),v7,v8] (H.set b (.list [])) N R:=by
 have N8:=zbY hl
 have fe:=run.len
 have fl:=Nat.le_trans (run.short F) N8
 refine WSeq.lst (loopF (fun q z=>[some (.ref a),v1,some (nl fs),v3,v4,some (.str (digs q (num oc))),some (.ref b),z,v8]) (fun i q H'=>Sub H H'/\H' b=some (.list (il (es.take i)))) run (zt (Nat.le_trans fl (by decide))) v7 rfl ⟨zo hb,za ..⟩
  (fun i q y l z H1 K he d hN j hK=>.var ?_) fun q z H1 s l d hq hN j=>h q z H1 s l d hq hN j.1 (j.2.trans (by rw [fe,List.take_length])))
 have hq:q+(l+1)<=900:=Nat.le_trans hN (Nat.le_trans N8 (by decide))
 have hi:(il (es.take i)).length<=big:=by rw [ze]; exact Nat.le_trans (List.length_take_le' _ _) (zt (Nat.le_trans (fe ▸ fl) (by decide)))
 exact mEA .dict (.get (j.1 _ _ ha)) (zjf (j.1 _ _ ha) (C.get y l d.1) (zjg (zhr d) (zcI hq) (mEA .list (.append j.2) (zaL (zD ..) (zt hq) (WMeth.append j.2 hi (hK _ _ _ Sub.refl ⟨j.1.put hb,(za ..).trans (by rw [show q+(l+1)=q+l+1 from rfl,zhW he])⟩))))))
theorem zlv {N q s l s' l':Nat} (F:Full ls) (d:Dec ls (n / 2 ^ q) s l) (hN:N < q+l+1) (hh:Has ls s' l') (hq:q<=N) (y:(digs (N - q) (n / 2 ^ q)).take (l'+1)=digs (l'+1) (rev (cod ls s') (l'+1))):False:=by
 have e:=congrArg List.length y
 rw [List.length_take,zD,zD] at e
 have hle:l'+1<=N - q:=e ▸ Nat.min_le_right ..
 rw [zeh hle] at y
 have d':Dec ls (n / 2 ^ q) s' l':=⟨hh,(zf5 y).trans (Nat.mod_eq_of_lt (zdA _ _ (zav F hh)))⟩
 rw [(zw F d d').2] at hN
 exact absurd (Nat.lt_of_lt_of_le hN (show q+(l'+1)<=N from Nat.add_le_of_le_sub' hq hle)) (Nat.lt_irrefl _)
theorem zd8 (F:Full ls) (hl:oc.length<=100) (ha:H a=some (.dict kvs)) (C:CodesOk ls kvs) (run:Runs ls (num oc) (8*oc.length) 0 fs es) (h:Q (.bool true) H) :
  wpBody S c_lawSaid.1 [some (.ref a),some (.bytes oc),some (nl fs),some (nl es),none,none,none,none,none] H (Back Q) X:=by
 refine said0 (R:=Q) hl fun b hb=>WTgt.tup rfl (said2 (R:=Q) F hl ha hb C run fun q z H1 s0 l0 d hq hN sb j2=>?_)
 have N8:=zbY hl
 have qs:q<=900:=Nat.le_trans hq (Nat.le_trans N8 (by decide))
 have qt:=zcI (n:=num oc) (Nat.le_trans N8 (by decide))
 have a1:=sb _ _ ha
 refine zaL (zD ..) (zt qs) (ze2 (zh5 hq) qt (WCmp.ne (.ints (zdd j2) (zr es)) ⟨fun _=>zaL (zD ..) (zt qs) (zhl (zeh hq) qt (WCmp.ne .str ⟨fun _=>⟨fun y=>absB y,fun _=>?_⟩,fun y=>absurd rfl (of_decide_eq_false (nb (nf y)))⟩)),fun y=>absurd rfl (of_decide_eq_false (nb (nf y)))⟩))
 refine WSeq.dict a1 (zmJ (fun _=>[]) (by rw [List.length_map]; exact Nat.le_trans C.len (by decide)) rfl (fun i x hx=>⟨a1,.var ?_⟩) ⟨a1,WCmp.eq (.ints (xs:=[]) (ys:=[]) rfl rfl) (zdh sb h)⟩)
 rw [List.getElem?_map] at hx
 refine oEA (Option.map_eq_some_iff.mp hx) fun kv hp e=>?_
 subst e
 refine oEEA (C.key kv.1 (List.mem_map_of_mem (List.mem_of_getElem? hp))) fun s l e hh=>?_
 have hs:=zav F hh
 have g:dget kvs kv.1=some (.str (digs (l+1) (rev (cod ls s) (l+1)))):=e ▸ C.get s l hh
 have lb:l+1<=900:=Nat.le_trans hs (by decide)
 have rb:8*oc.length - q<=900:=Nat.le_trans (Nat.sub_le _ _) (Nat.le_trans N8 (by decide))
 exact WSub.dict a1 g (zaL (zD ..) (zt lb) (WSlice.strTo (zcI rb) (WSub.dict a1 g (WCmp.eq .str ⟨fun y=>(zlv F d hN hh hq (of_decide_eq_true y)).elim,fun _=>mEAA _ Sub.refl rfl rfl⟩))))
end
noncomputable def pzk (ls:List Nat) (k:Nat):List (Nat×Nat):=(ls.zipIdx k).filter fun p=>decide (0 < p.1)
noncomputable def toI (p:Nat×Nat):Int×Int:=(Int.ofNat p.1,Int.ofNat p.2)
noncomputable def ltN (a b:Nat×Nat):Bool:=decide (a.1 < b.1∨(a.1=b.1/\a.2 < b.2))
noncomputable def wsum (l:List (Nat×Nat)):Nat:=(l.map fun p=>2 ^ (8 - p.1)).sum
theorem zak (p:Nat×Nat) (l:List (Nat×Nat)):wsum (p::l)=2 ^ (8 - p.1)+wsum l:=by unfold wsum; rw [List.map_cons,List.sum_cons]
theorem zib {l l':List (Nat×Nat)} (h:l.Perm l'):wsum l=wsum l':=by
 induction h with
 | nil=>rfl
 | cons x _ ih=>rw [zak,zak,ih]
 | swap x y l=>rw [zak,zak,zak,zak]; exact #[0x641516514131,_,_,_] 
 | trans _ _ a b=>exact a.trans b
theorem ziH (l:List (Nat×Nat)) (p:Nat×Nat):wsum (l++[p])=wsum l+2 ^ (8 - p.1):=by unfold wsum; rw [List.map_append,List.sum_append]; simp
theorem pz_mem {ls:List Nat} {s x:Nat}:(x,s)∈pzk ls 0 ↔ 0 < x/\ls[s]?=some x:=by
 unfold pzk
 rw [List.mem_filter,List.mem_zipIdx_iff_getElem?,and_comm]
 simp
theorem zgw (l s:Nat):∀ (ls:List Nat) (k:Nat),wsum ((pzk ls k).filter fun p=>ltN p (l+1,s))=acc ls l+((ls.take (s - k)).count (l+1))*2 ^ (7 - l)
 | [],k=>by
  have:∀ l,acc [] l=0:=fun l=>by
   induction l with
   | zero=>rfl
   | succ n ih=>show acc [] n+0*_=0; rw [ih,Nat.zero_mul]
  rw [this]; simp [pzk,wsum]
 | x::r,k=>by
  have ih:=zgw l s r (k+1)
  unfold pzk at ih ⊢
  rw [zdS,List.zipIdx_cons]
  have hc:((x::r).take (s - k)).count (l+1)=(r.take (s - (k+1))).count (l+1)+if x=l+1/\k < s then 1 else 0:=by
   by_cases g:k < s
   ·rw [show s - k=s - (k+1)+1 by exact #[0x1071631007310415245104115104171345100634524541546134515421,_,_,_,_] g (subO _ _) (subO _ _),List.take_succ_cons,List.count_cons]
    by_cases e:x=l+1
    ·rw [if_pos (by simpa using e),if_pos ⟨e,g⟩]
    ·rw [if_neg (by simpa using e),if_neg (fun q=>e q.1)]
   ·rw [show s - k=0 by exact #[0x631006345245415461345154261,_,_,_] g (subO _ _),show s - (k+1)=0 by exact #[0x631006310415245104115104161345154261,_,_,_] g (subO _ _),if_neg (fun q=>g q.2)]; rfl
  rw [hc,Nat.add_mul,<- Nat.add_assoc,Nat.add_right_comm (acc r l),<- ih]
  by_cases h0:0 < x
  ·rw [List.filter_cons_of_pos (by simpa using h0)]
   by_cases h1:ltN (x,k) (l+1,s)=true
   ·rw [List.filter_cons_of_pos (p:=fun p=>ltN p (l+1,s)) h1,zak]
    have h1:=of_decide_eq_true h1
    by_cases h2:x=l+1
    ·subst h2
     rw [if_neg (by exact #[0x4104111041101461,_] ),if_pos (by exact #[0x65210711071341652443444251,_,_,_,_] h1),show 8 - (l+1,k).1=7 - l from by show 8 - (l+1)=_; exact #[0x643100635702470517056134510043105118024180105111801051413451,_,_,_] (subO _ _) (subO _ _)]; exact #[0x4120051154131,_,_] 
    ·rw [if_pos ⟨h0,Nat.le_of_lt_succ (h1.resolve_right fun q=>h2 q.1)⟩,if_neg (by exact #[0x76210514346110514361,_,_,_,_] h2)]
     show 2 ^ (8 - x)+_=_
     exact #[0x602451154131,_,_,_] 
   ·rw [List.filter_cons_of_neg (p:=fun p=>ltN p (l+1,s)) h1]
    have h1:¬ (x < l+1∨(x=l+1/\k < s)):=fun q=>h1 (decide_eq_true q)
    rw [if_neg (by exact #[0x54141014617621051434105142561,_,_,_,_] h1),if_neg (by exact #[0x7621051434617621051434105142561,_,_,_,_] h1)]; exact #[0x50200411431,_,_] 
  ·rw [List.filter_cons_of_neg (by simpa using h0),if_neg (by exact #[0x5414101461400261,_,_] h0),if_neg (by exact #[0x762105143461400261,_,_,_,_] h0)]; exact #[0x50200411431,_,_] 
theorem zlk:∀ (ls:List Nat) (k:Nat),(ls.map wt).sum<=(pzk ls k).length*128
 | [],k=>Nat.le_refl _
 | x::r,k=>by
  have ih:=zlk r (k+1)
  unfold pzk at ih ⊢
  rw [List.map_cons,List.sum_cons,List.zipIdx_cons]
  by_cases h0:0 < x
  ·rw [List.filter_cons_of_pos (by simpa using h0),List.length_cons,Nat.add_mul]
   have:wt x<=128:=by
    unfold wt
    rw [if_neg (by exact #[0x436140021,_] h0)]
    exact Nat.pow_le_pow_right (by decide) (show 8 - x<=7 by exact #[0x70511005341802418041180451345140021,_,_] h0 (subO _ _))
   exact #[0x288052883146111288061152883411,_,_,_] ih this
  ·rw [List.filter_cons_of_neg (by simpa using h0),show x=0 by exact #[0x431400261,_] h0]
   show 0+_<=_
   exact #[0x5288340011152883411,_,_] ih
theorem zlI (a b:Nat×Nat):ltP (toI a) (toI b)=ltN a b:=by
 unfold ltP toI ltN
 rw [Bool.eq_iff_iff]
 simp only [Bool.or_eq_true,Bool.and_eq_true,decide_eq_true_eq,beq_iff_eq,Int.ofNat_eq_natCast,Int.ofNat_lt,Int.natCast_inj]
theorem zff {l:List (Nat×Nat)} (h:l.Pairwise fun a b=>ltN a b=true) {i:Nat} {q:Nat×Nat} (hq:l[i]?=some q):l.filter (fun p=>ltN p q)=l.take i:=by
 obtain ⟨hi,hg⟩:=List.getElem?_eq_some_iff.mp hq
 have e:l=l.take i++q::l.drop (i+1):=by rw [<- hg,<- List.drop_eq_getElem_cons hi,List.take_append_drop]
 have h2:=h
 rw [e,List.pairwise_append] at h2
 refine oAA h2 fun _ h3 h4=>?_
 have h5:=(List.pairwise_cons.mp h3).1
 conv=>lhs; rw [e]
 rw [List.filter_append,List.filter_eq_self.mpr fun p hp=>h4 p hp q List.mem_cons_self]
 have:(q::l.drop (i+1)).filter (fun p=>ltN p q)=[]:=by
  rw [List.filter_eq_nil_iff]
  intro p hp
  rcases List.mem_cons.mp hp with rfl | hp
  ·unfold ltN; simp
  ·have:=of_decide_eq_true (h5 p hp)
   unfold ltN
   simp only [decide_eq_true_eq]
   exact #[0x6724534452561762543454251,_,_,_,_] this
 rw [this,List.append_nil]
theorem zkG {ls:List Nat} (F:Full ls) {qn:List (Nat×Nat)} (hp:qn.Perm (pzk ls 0)) (hs:qn.Pairwise fun a b=>ltN a b=true) {i s l:Nat} (hq:qn[i]?=some (l+1,s)):Has ls s l/\wsum (qn.take i)=cod ls s*2 ^ (7 - l):=by
 have hm:=pz_mem.mp (hp.mem_iff.mp (List.mem_of_getElem? hq))
 have hh:Has ls s l:=hm.2
 refine ⟨hh,?_⟩
 rw [<- zff hs hq,zib (hp.filter _),zgw,zdl F hh,zbU hh,Nat.sub_zero]
theorem zeZ (c:Nat):∀ (n j:Nat),j < n->rev c n / 2 ^ j % 2=c / 2 ^ (n - 1 - j) % 2
 | n+1,0,_=>by
  unfold rev
  rw [Nat.pow_zero,Nat.div_one,Nat.and_one_is_mod,<- Nat.and_one_is_mod (_ ||| _),Nat.and_or_distrib_right,Nat.and_one_is_mod,Nat.and_one_is_mod,Nat.mod_mod]
  rw [show rev c n*2 ^ 1 % 2=0 by rw [Nat.pow_one]; exact Nat.mul_mod_left _ _,Nat.zero_or]; rfl
 | n+1,j+1,h=>by
  have ih:=zeZ c n j (by exact #[0x54211051104121,_,_] h)
  rw [show n+1 - 1 - (j+1)=n - 1 - j by rw [Nat.add_sub_cancel,Nat.sub_sub n 1 j,Nat.add_comm 1 j],<- ih,show rev c (n+1)=rev c n*2 ^ 1 ||| c / 2 ^ n &&& 1 from rfl,Nat.pow_succ' (n:=j),<- Nat.div_div_eq_div_mul]
  congr 2
  have hlt:c / 2 ^ n &&& 1 < 2 ^ 1:=Nat.lt_of_le_of_lt Nat.and_le_right (by decide)
  rw [Nat.mul_comm,<- Nat.two_pow_add_eq_or_of_lt hlt]
  exact #[0x75312062002035472216522134120421,_,_,_,_] hlt (divO _ _)
theorem zgV {ls:List Nat} {M sp s l at':Nat} (hM:M<=8) (hl:l+1<=M) (e:sp*2 ^ (8 - M)=cod ls s*2 ^ (7 - l)) (ha:at' < l+1):sp / 2 ^ (M - 1 - at') % 2=rev (cod ls s) (l+1) / 2 ^ at' % 2:=by
 have e2:sp=cod ls s*2 ^ (M - 1 - l):=by
  refine Nat.eq_of_mul_eq_mul_right (Nat.two_pow_pos (8 - M)) ?_
  rw [e,Nat.mul_assoc,<- Nat.pow_add,show M - 1 - l+(8 - M)=7 - l by rw [Nat.sub_sub,Nat.add_comm 1 l,Nat.add_comm,Nat.sub_add_sub_cancel hM hl]; exact Nat.add_sub_add_right 7 1 l]
 rw [zeZ _ _ _ ha,e2,show M - 1 - at'=(M - 1 - l)+(l+1 - 1 - at') by rw [Nat.add_sub_cancel,Nat.sub_add_sub_cancel (Nat.le_sub_of_add_le hl) (Nat.le_of_lt_succ ha)],Nat.pow_add,<- Nat.div_div_eq_div_mul,Nat.mul_div_cancel _ (Nat.two_pow_pos _)]
theorem zjB (ls:List Nat):((pzk ls 0).map toI).Nodup:=by
 have h1:(ls.zipIdx 0).Nodup:=by
  have:((ls.zipIdx 0).map Prod.snd).Nodup:=by rw [List.zipIdx_map_snd]; exact List.nodup_range'
  exact List.Pairwise.of_map _ (fun a b h e=>h (congrArg _ e)) this
 refine List.Pairwise.map _ (fun a b h e=>h ?_) (List.Pairwise.filter _ h1)
 obtain ⟨a1,a2⟩:=a
 obtain ⟨b1,b2⟩:=b
 unfold toI at e
 simp only [Prod.mk.injEq,Int.ofNat_eq_natCast,Int.natCast_inj] at e
 rw [e.1,e.2]
section
theorem zi4 {i l:Nat} (h:ls[i]?=some l):pzk (ls.take (i+1)) 0=if 0 < l then pzk (ls.take i) 0++[(l,i)] else pzk (ls.take i) 0:=by
 have hi:i < ls.length:=(List.getElem?_eq_some_iff.mp h).1
 unfold pzk
 rw [List.take_add_one,h,List.zipIdx_append,List.filter_append,List.length_take,Nat.min_eq_left (Nat.le_of_lt hi),Nat.zero_add]
 show _++List.filter _ [(l,i)]=_
 by_cases e:0 < l
 ·rw [if_pos e,List.filter_cons_of_pos (by simpa using e)]; rfl
 ·rw [if_neg e,List.filter_cons_of_neg (by simpa using e)]; exact List.append_nil _
theorem Full.mx_at (F:Full ls):∃ x xs,ls.map Int.ofNat=x::xs/\maxI x xs=Int.ofNat (mx ls):=by
 have hne:ls≠[]:=fun e=>by have:=F.sum; rw [e] at this; cases this
 refine zB (zla hne) fun x xs M e1 e2 hM h2=>?_
 exact mEEA x xs e1 (e2.trans (congrArg Int.ofNat (Nat.le_antisymm (zfN _ hM) (zmv h2))))
structure CdOk (ls:List Nat) (done:List (Nat×Nat)) (kvs:List (Int×V)):Prop where
 len:kvs.length<=done.length
 get:∀ s l,(l+1,s)∈done->dget kvs (Int.ofNat s)=some (.str (digs (l+1) (rev (cod ls s) (l+1))))
 key:∀ k∈kvs.map (·.1),∃ s l,k=Int.ofNat s/\Has ls s l
theorem zl4 {done:List (Nat×Nat)} {s l:Nat} (j:CdOk ls done kvs) (hd:∀ s l,(l+1,s)∈done->Has ls s l) (h:Has ls s l):CdOk ls (done++[(l+1,s)]) (dput kvs (Int.ofNat s) (.str (digs (l+1) (rev (cod ls s) (l+1))))):=by
 refine ⟨by rw [List.length_append]; exact Nat.le_trans (zdk _ _ _) (Nat.succ_le_succ j.len),fun s' l' hm=>?_,fun i hi=>?_⟩
 ·rw [zM]
  by_cases e:Int.ofNat s'=Int.ofNat s
  ·rw [if_pos e]
   obtain rfl:=Int.ofNat.inj e
   have:l'=l:=by
    rcases List.mem_append.mp hm with q | q
    ·exact zaV (hd _ _ q) h
    ·cases List.mem_singleton.mp q; rfl
   rw [this]
  ·rw [if_neg e]
   rcases List.mem_append.mp hm with q | q
   ·exact j.get s' l' q
   ·cases List.mem_singleton.mp q; exact absurd rfl e
 ·rcases zdV _ _ _ _ hi with q | q
  ·exact j.key i q
  ·exact mEEA s l q h
theorem zlu {qs:List (Int×Int)} (perm:qs.Perm ((pzk ls 0).map toI)) (sorted:qs.Pairwise fun a b=>ltP a b=true):∃ qn:List (Nat×Nat),qs=qn.map toI/\qn.Perm (pzk ls 0)/\qn.Pairwise fun a b=>ltN a b=true:=by
 have e:qs=(qs.map fun z:Int×Int=>(z.1.toNat,z.2.toNat)).map toI:=by
  rw [List.map_map]
  refine (List.map_id _).symm.trans (List.map_congr_left fun z hz=>?_)
  exact oEA (List.mem_map.mp (perm.mem_iff.mp hz)) fun p _ y=>y ▸ rfl
 refine mEAA (qs.map fun z=>(z.1.toNat,z.2.toNat)) e ?_ ?_
 ·have:=perm.map fun z:Int×Int=>(z.1.toNat,z.2.toNat)
  rw [List.map_map] at this
  exact this.trans (List.Perm.of_eq ((List.map_congr_left fun p _=>rfl).trans (List.map_id _)))
 ·rw [e,List.pairwise_map] at sorted
  exact sorted.imp fun h=>(zlI _ _) ▸ h
section
theorem cd1 {l sy sp:Nat} {kv:List (Int×V)} {H1:AH} (m1:1<=mx ls) (m8:mx ls<=8) (hlm:l+1<=mx ls) (hw:∀ j,j < l+1->sp / 2 ^ (mx ls - 1 - j) % 2=rev (cod ls sy) (l+1) / 2 ^ j % 2) (hkv:H1 a=some (.dict kv)) (hb:kv.length<=big)
  (h:N [v0,some (.ref a),some (iv (sp+2 ^ (mx ls - (l+1)))),some (iv (mx ls)),some (iv sy),some (iv (l+1))] (H1.set a (.dict (dput kv (Int.ofNat sy) (.str (digs (l+1) (rev (cod ls sy) (l+1)))))))) :
  wpSs S XS (bodyOf (c_lawCodes.1.getD 1 .stuck)) [v0,some (.ref a),some (iv sp),some (iv (mx ls)),some (iv sy),some (iv (l+1))] H1 N R:=by
 have l8:l+1<=8:=Nat.le_trans hlm m8
 have big9:∀ {x:Nat},x<=8->x<=10000:=fun h=>Nat.le_trans h (by decide)
 have s8:∀ {x:Nat},mx ls - x<=8:=Nat.le_trans (Nat.sub_le _ _) m8
 refine mEA .str .join (WRange.one (n:=l+1) (Nat.lt_of_le_of_lt l8 (by decide)) (zlY (fun i=>sgl (digs i (rev (cod ls sy) (l+1)))) (Nat.le_trans l8 (by decide)) rfl rfl (fun i K hi hK=>.var ?_) ?_))
 ·have h1:i<=mx ls - 1:=Nat.le_sub_one_of_lt (Nat.lt_of_lt_of_le hi hlm)
  have e8:mx ls - 1 - i<=8:=Nat.le_trans (Nat.sub_le _ _) s8
  refine ⟨fun _=>WBin.nsub m1 (WBin.nsub h1 (WBin.pow (big9 e8) (by decide) (WBin.div (Nat.two_pow_pos _) (Nat.pow_lt_pow_right (by decide) (Nat.lt_of_le_of_lt e8 (by decide))) (zag (by decide) (WSub.str (zgj (Nat.mod_lt _ (by decide))) (by decide) (hK _ ?_)))))),fun z=>absC z⟩
  rw [zgA,hw i hi,<- zdZ]
 ·have hd:=zcI (n:=rev (cod ls sy) (l+1)) (Nat.le_trans l8 (by decide))
  refine WMeth.join (by rw [List.length_map]; exact hd) (by rw [zaK]; exact hd) ?_
  rw [zaK]
  exact WPutS.dict hkv hb (WBin.nsub hlm (WBin.pow (big9 s8) (by decide) (WBin.add h)))
end
theorem zdv (F:Full ls) (h:∀ a kvs,H a=none->CodesOk ls kvs->Q (.ref a) (H.set a (.dict kvs))):wpBody S c_lawCodes.1 [some (nl ls),none,none,none,none,none] H Q X:=by
 refine oEEA F.mx_at fun x xs e1 e2=>?_
 have m8:=F.mx8
 have m1:=zlj F
 have hle:(pzk ls 0).length<=11:=Nat.le_trans (List.length_filter_le _ _) (by rw [List.length_zipIdx]; exact F.len)
 refine fun a ha=>WBcall.max (zbQ rfl e1) ?_
 rw [e2]
 refine WTgt.tup rfl (WEnum.lst (by rw [ze]; exact F.big) (ziV (fun i=>((pzk (ls.take i) 0).map toI).map tupV) (enum_len.trans (ze _)) F.big rfl (by rw [List.take_length]) (fun i x K hx hK=>?_) (WBcall.sortP (by rw [List.length_map]; have:=zlk ls 0; rw [F.sum] at this; exact #[0x4201142883488011,_] this) (by rw [List.length_map]; exact Nat.lt_of_le_of_lt hle (by decide)) (zjB ls) fun qs perm sorted=>?_)))
 ·refine oEA (zf3 hx) fun v hv e=>?_
  subst e
  refine oEA (zay hv) fun l hl e=>?_
  subst e
  refine WTgt.tup rfl (WCmp.gt ⟨fun z=>hK _ ?_,fun z=>hK _ ?_⟩)
  ·rw [zi4 hl,if_pos (zbB z),List.map_append,List.map_append]; rfl
  ·rw [zi4 hl,if_neg (Nat.not_lt.mpr (zbw z))]
 refine oEAA (zlu perm sorted) fun qn e pn sn=>?_
 subst e
 have hall:∀ s l,(l+1,s)∈qn->Has ls s l:=fun s l hm=>(pz_mem.mp (pn.mem_iff.mp hm)).2
 have qlen:qn.length<=11:=by rw [pn.length_eq]; exact hle
 refine WSeq.lst (ziq (n:=qn.length) (fun (sp:Nat) (z:Option V×Option V)=>[some (nl ls),some (.ref a),some (iv sp),some (iv (mx ls)),z.1,z.2]) (fun i sp H1=>∃ kv,H1=H.set a (.dict kv)/\CdOk ls (qn.take i) kv/\sp*2 ^ (8 - mx ls)=wsum (qn.take i))
  (by rw [List.length_map,List.length_map]) (Nat.le_trans qlen (by decide)) 0 (none,none) rfl (mEAA [] rfl ⟨Nat.le_refl _,fun s l h=>(nomatch h),fun k h=>(nomatch h)⟩ (Nat.zero_mul _)) (fun i x sp z H1 K hx J hK=>?_) fun sp z H1 J=>?_)
 ·refine oEAA J fun kv eH j1 j2=>?_
  rw [List.getElem?_map,List.getElem?_map] at hx
  refine oEA (Option.map_eq_some_iff.mp hx) fun z hz ez=>?_
  refine oEA (Option.map_eq_some_iff.mp hz) fun y hq ey=>?_
  obtain ⟨len,sy⟩:=y
  subst ey ez eH
  obtain ⟨l,rfl⟩:=Nat.exists_eq_succ_of_ne_zero (Nat.ne_of_gt (pz_mem.mp (pn.mem_iff.mp (List.mem_of_getElem? hq))).1)
  refine (zkG F pn sn hq).elim fun hh hw=>WTgt.tup rfl (cd1 m1 m8 (zcJ hh) (fun j hj=>zgV m8 (zcJ hh) (j2.trans hw) hj) (za ..) (Nat.le_trans j1.len (Nat.le_trans (List.length_take_le' _ _) (Nat.le_trans qlen (by decide)))) (hK _ (_,_) _ _ ?_ (mEAA (dput kv (Int.ofNat sy) (.str (digs (l+1) (rev (cod ls sy) (l+1))))) rfl (?_:CdOk ls (qn.take (i+1)) _) ?_)))
  ·rw [zas]; exact Sub.refl
  ·rw [List.take_add_one,hq]
   exact zl4 j1 (fun s l hm=>hall s l (List.mem_of_mem_take hm)) hh
  ·rw [List.take_add_one,hq]
   refine (?_:(sp+2 ^ (mx ls - (l+1)))*_=wsum (qn.take i++[(l+1,sy)]))
   rw [ziH,Nat.add_mul,j2,<- Nat.pow_add]
   congr 2
   rw [Nat.add_comm]; exact Nat.sub_add_sub_cancel m8 (zcJ hh)
 ·refine oEAA J fun kv eH j1 j2=>?_
  rw [List.take_length] at j1
  rw [eH]
  exact h a _ ha ⟨Nat.le_trans j1.len qlen,fun s l hh=>j1.get s l (pn.mem_iff.mpr (pz_mem.mpr ⟨Nat.succ_pos _,hh⟩)),j1.key⟩
end
section
theorem zb9 {xs:List Nat} (h:∀ n∈xs,n < 256) (hl:xs.length<=big) (q:Q (.bytes (xs.map UInt8.ofNat)) H):WBcall H Q .bytes [nl xs]:=by
 rw [show nl xs=.lst ((xs.map Int.ofNat).map V.int) from congrArg V.lst (zcj xs)]
 refine .bytesL (by rw [List.length_map]; exact hl) (fun n hn=>?_) ?_
 ·refine oEA (List.mem_map.mp hn) fun x hx yC=>?_; obtain rfl:=yC
  exact ⟨Int.natCast_nonneg x,Int.ofNat_lt.mpr (h x hx)⟩
 ·rw [List.map_map]; exact q
noncomputable def trm (oc:List UInt8) (k:Nat):Nat:=(oc.getD k 0).toNat*256 ^ k
theorem zcS (f:Nat->Nat):∀ n,((List.range (n+1)).map f).sum=f 0+((List.range n).map fun k=>f (k+1)).sum:=fun n=>by
 rw [List.range_succ_eq_map,List.map_cons,List.sum_cons,List.map_map]; rfl
theorem zlA (c:Nat) (f:Nat->Nat) (l:List Nat):(l.map fun k=>c*f k).sum=c*(l.map f).sum:=by
 induction l with
 | nil=>rfl
 | cons x r ih=>rw [List.map_cons,List.map_cons,List.sum_cons,List.sum_cons,ih,Nat.mul_add]
theorem zie:∀ oc:List UInt8,((List.range oc.length).map (trm oc)).sum=num oc
 | []=>rfl
 | o::r=>by
  rw [List.length_cons,zcS]
  have e:∀ k,trm (o::r) (k+1)=256*trm r k:=fun k=>by
   unfold trm
   rw [List.getD_cons_succ,Nat.pow_succ]
   rw [Nat.mul_comm (256 ^ k),Nat.mul_left_comm]
  rw [List.map_congr_left fun k _=>e k,zlA,zie r]
  show o.toNat*256 ^ 0+_=o.toNat+_
  rw [Nat.pow_zero,Nat.mul_one]
theorem zi1 (l:List Nat):(l.map Int.ofNat).sum=Int.ofNat l.sum:=by
 induction l with
 | nil=>rfl
 | cons x r ih=>rw [List.map_cons,List.sum_cons,List.sum_cons,ih]; rfl
theorem zeV {i:Nat} {x:V} (h:(oc.zipIdx.map fun p=>V.tup [iv p.2,iv p.1.toNat])[i]?=some x):∃ o,oc[i]?=some o/\x=.tup [iv i,iv o.toNat]:=by
 rw [List.getElem?_map] at h
 refine oEA (Option.map_eq_some_iff.mp h) fun p h1 yC=>?_; obtain rfl:=yC
 rw [List.getElem?_zipIdx] at h1
 refine oEA (Option.map_eq_some_iff.mp h1) fun v h2 yC=>?_; obtain rfl:=yC
 exact mEA v h2 (by rw [Nat.zero_add])
theorem zex:(oc.zipIdx.map fun p=>V.tup [iv p.2,iv p.1.toNat]).length=oc.length:=by rw [List.length_map,List.length_zipIdx]
theorem zjc {out:List UInt8} {m:Nat} (h:out.length=m):out=((List.range m).map fun k=>num out / 256 ^ k % 256).map UInt8.ofNat:=by
 subst h
 refine List.ext_getElem? fun k=>?_
 rw [List.getElem?_map,List.getElem?_map]
 rcases Nat.lt_or_ge k out.length with g | g
 ·rw [List.getElem?_range g,List.getElem?_eq_getElem g]
  have:=zcF out k
  rw [List.getD_eq_getElem?_getD,List.getElem?_eq_getElem g] at this
  show some _=some (UInt8.ofNat (num out / 256 ^ k % 256))
  rw [show (256:Nat) ^ k=2 ^ (8*k) by rw [Nat.pow_mul],this]
  exact congrArg some (UInt8.ofNat_toNat).symm
 ·rw [List.getElem?_eq_none (l:=List.range _) (by rw [List.length_range]; exact g),List.getElem?_eq_none g]; rfl
theorem zb8 (f:Nat->Nat) (i:Nat) {c:Nat} (h:c=f i):il ((List.range i).map f)++[iv c]=il ((List.range (i+1)).map f):=by
 subst h
 rw [zbW,zar]
theorem zkm (n p k:Nat):n % 2 ^ (p+k)=n % 2 ^ p+(n / 2 ^ p % 2 ^ k)*2 ^ p:=by rw [Nat.pow_add,Nat.mod_mul,Nat.mul_comm (n / 2 ^ p % 2 ^ k)]
theorem zht {q h hb v:Nat} {bs:List UInt8} (hl:oc.length<=7) (hq:q<=8*oc.length) (w:WrSt bs h hb v q):bs.length<=100:=by
 have w4:=w.2.2.2
 exact #[0x1cc0611761821531418251170411,_,_,_,_] hl hq w4
theorem zmE {q x l h hb:Nat} {bs:List UInt8} (d:Dec ls (n / 2 ^ q) x l) (w:WrSt bs h hb (n % 2 ^ q+rev (cod ls x) (l+1)*2 ^ q) (q+(l+1))):WrSt bs h hb (n % 2 ^ (q+l+1)) (q+l+1):=by
 rw [<- d.2,<- zkm] at w
 exact w
structure WrJ (ls:List Nat) (n:Nat) (dx dy ad:Addr) (H0:AH) (q:Nat) (H:AH):Prop where
 sb:Sub H0 H
 pw:H dx=some (pwF ls)
 st:∃ bs h hb,H dy=some (lwF ad h hb)/\H ad=some (.barr bs)/\WrSt bs h hb (n % 2 ^ q) q
structure WrA (H:AH) (dx dy ad:Addr):Prop where
 dy0:H dy=none
 ad0:H ad=none
 n1:dx≠dy
 n2:dx≠ad
 n3:dy≠ad
section
variable {ad:Addr}
theorem wr1 (hk:5<=k) (F:Full ls) (hl:oc.length<=7) (run:Runs ls (num oc) (8*oc.length) 0 fs es) (A:WrA H dx dy ad) (j0:WrJ ls (num oc) dx dy ad H 0 H0)
  (h:∀ q z7 z8 H',q<=8*oc.length->WrJ ls (num oc) dx dy ad H q H'->N [v0,v1,some (nl fs),some (nl es),some (.inst .pwriter a dx),some (.inst .lwriter b dy),some (iv q),z7,z8,v9] H') :
  wpS (Sp k) XS (c_lawWritten.1.getD 1 .stuck) [v0,v1,some (nl fs),some (nl es),some (.inst .pwriter a dx),some (.inst .lwriter b dy),some (iv 0),v7,v8,v9] H0 N R:=by
 have hl7:8*oc.length<=56:=Nat.mul_le_mul_left 8 hl
 refine WZip.mk (loopZ (fun q (z:Option V×Option V)=>[v0,v1,some (nl fs),some (nl es),some (.inst .pwriter a dx),some (.inst .lwriter b dy),some (iv q),z.1,z.2,v9]) (WrJ ls (num oc) dx dy ad H) run (zt (Nat.le_trans (run.short F) (Nat.le_trans hl7 (by decide)))) (v7,v8) rfl j0
  (fun q x l z H1 K d hN j hK=>?_) fun q z H1 hq j=>h q z.1 z.2 H1 hq j)
 refine zaP j.st fun bs h1 hb1 j2 j3 w=>WTgt.tup rfl (mEA .user (.user rfl j.pw) (WMeth.user rfl (SpI.mk hk ⟨a,dx,ls,b,dy,ad,bs,h1,hb1,_,_,x,l,j.pw,F,d.1,j2,j3,w,zht hl (Nat.le_trans (Nat.le_add_right q (l+1)) hN) w,fun bs' h' hb' w'=>?_⟩)))
 have w':=zmE d w'
 have k1:((H1.set dy (lwF ad h' hb')).set ad (.barr bs')) dx=some (pwF ls):=zb A.n2 (zb A.n1 j.pw)
 have k2:((H1.set dy (lwF ad h' hb')).set ad (.barr bs')) dy=some (lwF ad h' hb'):=zb A.n3 (za ..)
 have k3:=za (H1.set dy (lwF ad h' hb')) ad (.barr bs')
 have sb:=(j.sb.put (o:=lwF ad h' hb') A.dy0).put (o:=.barr bs') A.ad0
 generalize (H1.set dy (lwF ad h' hb')).set ad (.barr bs')=H2 at k1 k2 k3 sb
 refine mEA .user (.user rfl k2) (WMeth.user rfl (SpI.mk (below (by decide) hk) ⟨b,dy,ad,bs',h',hb',_,_,k2,k3,w',zht hl hN w',WCmp.ne .int ⟨fun _=>?_,fun y=>absurd rfl (ziU (nb (nf y)))⟩⟩))
 refine mEA .user (.user rfl k1) (WMeth.user rfl (SpI.mk (below (by decide) hk) ⟨a,dx,ls,x,l,k1,F,d.1,WBin.nsub (Nat.le_add_right q (l+1)) (WCmp.ne .int ⟨fun _=>⟨fun y=>absB y,fun _=>hK (_,_) _ _ Sub.refl ⟨sb,k1,zhG bs' h' hb' k2 k3 w'⟩⟩,fun y=>absurd (Nat.add_sub_cancel_left (n:=q) (m:=l+1)).symm (ziU (nb (nf y)))⟩)⟩))
theorem wr2 (hl:oc.length<=7) {q:Nat} (hq:q<=8*oc.length) (h:N [v0,some (.bytes oc),v2,v3,v4,v5,some (iv q),v7,v8,some (iv (num oc % 2 ^ q))] H) :
  wpS S XS (c_lawWritten.1.getD 2 .stuck) [v0,some (.bytes oc),v2,v3,v4,v5,some (iv q),v7,v8,v9] H N R:=by
 have ob:oc.length<=big:=zt (Nat.le_trans hl (by decide))
 refine WEnum.bytes ob (ziV (fun i=>il ((List.range i).map (trm oc))) zex ob rfl rfl (fun i x K hx hK=>?_) (WBcall.sum (zr _) ?_))
 ·refine oEA (zeV hx) fun o ho e=>?_
  subst e
  have hi:=(List.getElem?_eq_some_iff.mp ho).1
  exact WTgt.tup rfl ⟨fun _=>WBin.pow (Nat.le_trans (Nat.le_of_lt hi) (Nat.le_trans hl (by decide))) (by decide) (WBin.mul (.inl (Nat.lt_trans o.toNat_lt (by decide))) (hK _ (zb8 _ _ (by unfold trm; rw [List.getD_eq_getElem?_getD,ho]; rfl)))),fun z=>absC z⟩
 ·rw [zi1,zie]
  exact WBin.pow (Nat.le_trans hq (Nat.le_trans (Nat.mul_le_mul_left 8 hl) (by decide))) (by decide) (zag (Nat.two_pow_pos q) h)
theorem wr3 {q z:Nat} (hq:q<=56) {bs:List UInt8} {h1 hb1:Nat} (hk:1<=k) (j2:H dy=some (lwF ad h1 hb1)) (j3:H ad=some (.barr bs)) (w:WrSt bs h1 hb1 z q) (bl:bs.length<=100) (h:R (.bool true) H) :
  wpS (Sp k) XS (c_lawWritten.1.getD 3 .stuck) [v0,v1,v2,v3,v4,some (.inst .lwriter b dy),some (iv q),v7,v8,some (iv z)] H N R:=by
 refine mEA .user (.user rfl j2) (WMeth.user rfl (SpI.mk hk ⟨b,dy,ad,bs,h1,hb1,_,_,j2,j3,w,bl,fun out ho hlen=>?_⟩))
 have hm:(q+7) / 8<=7:=Nat.le_of_lt_succ (Nat.div_lt_of_lt_mul (Nat.lt_of_le_of_lt (Nat.add_le_add_right hq 7) (by decide)))
 refine WBin.add (WBin.div (x:=q+7) (by decide) (by decide) (WRange.one (Nat.lt_of_le_of_lt hm (by decide)) (zlY (fun i=>il ((List.range i).map fun k=>z / 256 ^ k % 256)) (zt (Nat.le_trans hm (by decide))) rfl rfl (fun i K hi hK=>.var ?_) ?_)))
 ·have hi7:i<=7:=Nat.le_trans (Nat.le_of_lt hi) hm
  exact ⟨fun _=>WBin.pow (Nat.le_trans hi7 (by decide)) (by decide) (WBin.div (Nat.pow_pos (by decide)) (Nat.lt_of_le_of_lt (Nat.pow_le_pow_right (by decide) hi7) (by decide)) (zag (by decide) (hK _ (zb8 _ _ rfl)))),fun z=>absC z⟩
 ·refine zb9 (fun n hn=>oEA (List.mem_map.mp hn) fun k _ e=>e ▸ Nat.mod_lt _ (by decide)) (by rw [List.length_map,List.length_range]; exact zt (Nat.le_trans hm (by decide))) (WCmp.eq .bytes ?_)
  have e:=zjc hlen
  rw [ho] at e
  rw [decide_eq_true e]
  exact h
end
theorem zcq (hk:5<=k) (F:Full ls) (hl:oc.length<=7) (run:Runs ls (num oc) (8*oc.length) 0 fs es) (h:Q (.bool true) H) :
  wpBody (Sp k) c_lawWritten.1 [some (nl ls),some (.bytes oc),some (nl fs),some (nl es),none,none,none,none,none,none] H (Back Q) X:=by
 refine SpI.mk (below (by decide) hk) ⟨ls,F,fun a dx ha hdx=>SpI.mk (below (by decide) hk) ⟨fun b dy ad hb hdy had hne=>WTgt.tup rfl ?_⟩⟩
 have A:WrA H dx dy ad:=⟨(zo hdx).none hdy,(zo hdx).none had,zz hdy (za ..),zz had (za ..),Ne.symm hne⟩
 refine wr1 (R:=Back Q) hk F hl run A ⟨((zo hdx).put A.ad0).put A.dy0,zb A.n1 (zb A.n2 (za ..)),zhG [] 0 0 (za ..) (zb hne (za ..)) ⟨by decide,by decide,by rw [Nat.pow_zero,Nat.mod_one]; rfl,rfl⟩⟩ fun q z7 z8 H1 hq j=>wr2 (R:=Back Q) hl hq ?_
 exact zaP j.st fun bs h1 hb1 j2 j3 w=>wr3 (Nat.le_trans hq (Nat.mul_le_mul_left 8 hl)) (below (by decide) hk) j2 j3 w (zht hl hq w) (zdh j.sb h)
end
section
variable {r0:V}
noncomputable def tn (oc:List UInt8) (at' k:Nat):Nat:=if k=at' / 8 then (oc.getD k 0).toNat ^^^ 2 ^ (at' % 8) else (oc.getD k 0).toNat
noncomputable def torn (oc:List UInt8) (at':Nat):List UInt8:=((List.range oc.length).map (tn oc at')).map UInt8.ofNat
theorem zj9:(torn oc at').length=oc.length:=by unfold torn; rw [List.length_map,List.length_map,List.length_range]
theorem tn_lt (k:Nat):tn oc at' k < 256:=by
 unfold tn
 have h1:(oc.getD k 0).toNat < 2 ^ 8:=UInt8.toNat_lt _
 split
 ·exact Nat.xor_lt_two_pow h1 (Nat.pow_lt_pow_right (by decide) (Nat.mod_lt _ (by decide)))
 ·exact h1
theorem zdK (o R i:Nat) (h:o < 256):(o+256*R).testBit i=if i < 8 then o.testBit i else R.testBit (i - 8):=by
 have:=Nat.testBit_two_pow_mul_add R (b:=o) (i:=8) h i
 rw [<- this]; congr 1; exact Nat.add_comm _ _
theorem zmo {o R a:Nat} (h:o < 256) (ha:a < 8):(o+256*R) ^^^ 2 ^ a=(o ^^^ 2 ^ a)+256*R:=by
 refine Nat.eq_of_testBit_eq fun i=>?_
 have h2:o ^^^ 2 ^ a < 256:=Nat.xor_lt_two_pow (n:=8) h (Nat.pow_lt_pow_right (by decide) ha)
 rw [zdK _ _ _ h2,Nat.testBit_xor,zdK _ _ _ h,Nat.testBit_two_pow]
 by_cases g:i < 8
 ·rw [if_pos g,if_pos g,Nat.testBit_xor,Nat.testBit_two_pow]
 ·rw [if_neg g,if_neg g,show decide (a=i)=false from decide_eq_false (by exact #[0x543611805261180421,_,_] ha g),Bool.xor_false]
theorem zjE {o R a:Nat} (h:o < 256):(o+256*R) ^^^ 2 ^ (a+8)=o+256*(R ^^^ 2 ^ a):=by
 refine Nat.eq_of_testBit_eq fun i=>?_
 rw [zdK _ _ _ h,Nat.testBit_xor,zdK _ _ _ h,Nat.testBit_two_pow]
 by_cases g:i < 8
 ·rw [if_pos g,if_pos g,show decide (a+8=i)=false from decide_eq_false (by exact #[0x418051361180421,_,_] g),Bool.xor_false]
 ·rw [if_neg g,if_neg g,Nat.testBit_xor,Nat.testBit_two_pow,show decide (a+8=i)=decide (a=i - 8) from by rw [Bool.eq_iff_iff,decide_eq_true_eq,decide_eq_true_eq]; exact ⟨fun e=>e ▸ (Nat.add_sub_cancel a 8).symm,fun e=>by rw [e]; exact Nat.sub_add_cancel (Nat.not_lt.mp g)⟩]
theorem zix (o:UInt8) (r:List UInt8):torn (o::r) at'=UInt8.ofNat (tn (o::r) at' 0)::((List.range r.length).map fun k=>tn (o::r) at' (k+1)).map UInt8.ofNat:=by
 unfold torn
 rw [List.length_cons,List.range_succ_eq_map,List.map_cons,List.map_cons,List.map_map (l:=List.range _) (g:=tn (o::r) at')]; rfl
theorem zfF (r:List UInt8):((List.range r.length).map fun k=>(r.getD k 0).toNat).map UInt8.ofNat=r:=by
 refine List.ext_getElem? fun k=>?_
 rw [List.getElem?_map,List.getElem?_map]
 rcases Nat.lt_or_ge k r.length with g | g
 ·rw [List.getElem?_range g,List.getElem?_eq_getElem g]
  show some (UInt8.ofNat (r.getD k 0).toNat)=_
  rw [UInt8.ofNat_toNat,List.getD_eq_getElem?_getD,List.getElem?_eq_getElem g]; rfl
 ·rw [List.getElem?_eq_none (l:=List.range _) (by rw [List.length_range]; exact g),List.getElem?_eq_none g]; rfl
theorem zgq:∀ (oc:List UInt8) (at':Nat),at' < 8*oc.length->num (torn oc at')=num oc ^^^ 2 ^ at'
 | [],_,h=>absurd h (Nat.not_lt_zero _)
 | o::r,at',h=>by
  have ho:o.toNat < 256:=o.toNat_lt
  have h0:tn (o::r) at' 0 < 256:=tn_lt 0
  rw [zix]
  show (UInt8.ofNat (tn (o::r) at' 0)).toNat+256*num _=(o.toNat+256*num r) ^^^ 2 ^ at'
  rw [UInt8.toNat_ofNat',Nat.mod_eq_of_lt h0]
  rcases Nat.lt_or_ge at' 8 with g | g
  ·have e0:tn (o::r) at' 0=o.toNat ^^^ 2 ^ at':=by
    unfold tn
    rw [if_pos (by exact #[0x500311806200180354651821341180421,_,_,_] g (divO _ _)),Nat.mod_eq_of_lt g]; rfl
   have e1:((List.range r.length).map fun k=>tn (o::r) at' (k+1))=(List.range r.length).map fun k=>(r.getD k 0).toNat:=List.map_congr_left fun k _=>by
    unfold tn
    rw [if_neg (by exact #[0x510713611806200180354651821341180421,_,_,_,_] g (divO _ _)),List.getD_cons_succ]
   rw [e0,e1,zfF,zmo ho g]
  ·obtain ⟨b,rfl⟩:∃ b,at'=b+8:=⟨at' - 8,by exact #[0x180514310053180424418014180513451418011,_,_] g (subO _ _)⟩
   have e0:tn (o::r) (b+8) 0=o.toNat:=by
    unfold tn
    rw [if_neg (by exact #[0x40036118052001803518061541821341,_,_,_] (divO _ _))]; rfl
   have e1:((List.range r.length).map fun k=>tn (o::r) (b+8) (k+1))=(List.range r.length).map (tn r b):=List.map_congr_left fun k _=>by
    unfold tn
    rw [List.getD_cons_succ,show (b+8) % 8=b % 8 from Nat.add_mod_right b 8]
    by_cases q:k=b / 8
    ·rw [if_pos q,if_pos (by exact #[0x61041311809200180358951821341180720018035180817618213415431,_,_,_,_,_,_] q (divO _ _) (divO _ _))]
    ·rw [if_neg q,if_neg (by exact #[0x6104136118092001803589518213411807200180351808176182134154361,_,_,_,_,_,_] q (divO _ _) (divO _ _))]
   rw [e0,e1]
   have:=zgq r b (by rw [List.length_cons] at h; exact #[0x518242110511821804121,_,_] h)
   unfold torn at this
   rw [this,zjE ho]
theorem ziJ (xs:List Nat) (e:Nat):(xs.map Int.ofNat).idxOf (Int.ofNat e)=xs.idxOf e:=by
 induction xs with
 | nil=>rfl
 | cons x r ih =>
  rw [List.map_cons,List.idxOf_cons,List.idxOf_cons,ih]
  have:(Int.ofNat x == Int.ofNat e)=(x == e):=by rw [Bool.eq_iff_iff,beq_iff_eq,beq_iff_eq]; exact ⟨Int.ofNat.inj,congrArg _⟩
  rw [this]
theorem zgz {xs:List Nat} {e:Nat} (hl:xs.length<=big) (he:e∈xs) (q:Q (iv (xs.idxOf e)) H):WMeth H Q S X .lst (nl xs) .index [iv e]:=by
 rw [show nl xs=.lst ((xs.map Int.ofNat).map V.int) from congrArg V.lst (zcj xs)]
 refine .indexL (by rw [List.length_map]; exact hl) (List.mem_map_of_mem he) ?_
 rw [ziJ]; exact q
theorem zdP {xs ys:List Nat} (e:xs=ys):decide (xs.map Int.ofNat=ys.map Int.ofNat)=true:=decide_eq_true (congrArg _ e)
theorem resync (F:Full ls) {n' N:Nat} {fs' es':List Nat} {e:Nat} (run:Runs ls n N 0 fs es) (run':Runs ls n' N 0 fs' es') (h:∀ q,e<=q->n / 2 ^ q=n' / 2 ^ q) (h1:e∈es) (h2:e∈es') :
  fs.drop (es.idxOf e+1)=fs'.drop (es'.idxOf e+1)/\es.drop (es.idxOf e+1)=es'.drop (es'.idxOf e+1):=by
 have g:∀ {l:List Nat},e∈l->(0::l)[l.idxOf e+1]?=some e:=fun {l} hm=>by
  rw [List.getElem?_cons_succ,List.getElem?_eq_getElem (List.idxOf_lt_length_of_mem hm),List.getElem_idxOf]
 exact ((run.drop (g h1)).of_high h).uniq F (run'.drop (g h2))
theorem zbP (F:Full ls) (run:Runs ls n p 0 fs es):fs.length<=p:=by
 have:=(run.many F (a:=8) (b:=1) fun l hl h0=>⟨Nat.pos_of_ne_zero h0,F.le8 l hl⟩).2
 exact #[0x5411541300111,_,_] this
theorem zl9 (l:List Nat) (i:Nat):(il l).drop i=il (l.drop i):=List.map_drop.symm
theorem zl6 (l:List Nat) (i:Nat):(il l).take i=il (l.take i):=List.map_take.symm
theorem zlV {q:Nat->Bool} {l:List Nat} {i e:Nat} (he:l[i]?=some e) (h:q e=true):il ((l.take i).filter q)++[iv e]=il ((l.take (i+1)).filter q):=by rw [zaJ he,if_pos h,zbW]
theorem zjR {q:Nat->Bool} {l:List Nat} {i e:Nat} (he:l[i]?=some e) (h:q e=false):il ((l.take i).filter q)=il ((l.take (i+1)).filter q):=by rw [zaJ he,if_neg (by rw [h]; decide)]
theorem zhR {l:List Nat} {e:Nat}:Int.ofNat e∈l.map Int.ofNat ↔ e∈l :=
 ⟨fun h=>by
  refine oEA (List.mem_map.mp h) fun x hx e'=>?_
  exact Int.ofNat.inj e' ▸ hx,List.mem_map_of_mem⟩
theorem zkY {a b:Nat}:decide (Int.ofNat a<=Int.ofNat b)=decide (a<=b):=decide_eq_decide.mpr Int.ofNat_le
theorem lt_dec {a b:Nat}:decide (Int.ofNat a > Int.ofNat b)=decide (b < a):=decide_eq_decide.mpr Int.ofNat_lt
theorem in_dec {e:Nat} {l:List Nat}:decide (Int.ofNat e∈l.map Int.ofNat)=decide (e∈l):=decide_eq_decide.mpr zhR
section
variable {xs ys:List Nat} {j:Nat}
theorem zaA (e:xs.take i=ys) (h:xs.length<=900) (q:Q (nl ys) H):WSlice H Q (nl xs) .none (iv i):=by subst e; exact .lstTo (by rw [ze]; exact zt h) (by rw [zl6]; exact q)
theorem zJ (e:xs.drop i=ys) (h:xs.length<=900) (q:Q (nl ys) H):WSlice H Q (nl xs) (iv i) .none:=by subst e; exact .lstFrom (by rw [ze]; exact zt h) (by rw [zl9]; exact q)
theorem zC (e:xs.length=i) (h:xs.length<=900) (q:Q (iv i) H):WBcall H Q .len [nl xs]:=by subst e; exact .lenList rfl (by rw [ze]; exact zt h) (by rw [ze]; exact q)
theorem zgF (e:xs=ys) (q:QB true H):WCmp H QB .Eq (nl xs) (nl ys):=.eq (.ints (zr _) (zr _)) (by rw [zdP e]; exact q)
theorem zcd (e:xs=ys) (q:QB false H):WCmp H QB .NotEq (nl xs) (nl ys):=.ne (.ints (zr _) (zr _)) (by rw [zdP e]; exact q)
theorem zdY (q:QB false H):WCmp H QB .NotEq (.tup [nl xs,nl ys]) (.tup [nl xs,nl ys]):=.ne (.two (zr _) (zr _) (zr _) (zr _)) (by rw [zdP rfl,zdP rfl]; exact q)
theorem zlz {cs:List CE} {q:Nat->Bool} {mr:Loc} {v:Option V} {K:List V->AH->Prop} (hl:xs.length<=900) (hc:∀ x (P:Bool->AH->Prop),P (q x) H->wpConds S (fun _=>False) cs (some (iv x)::mr) H P) (fin:K (il (xs.filter q)) H) :
  Gath (.var 0) (il xs) (fun _=>True) (v::mr) (fun mD HD acc K=>wpConds S (fun _=>False) cs mD HD fun b HE=>(b=true->wpE S (fun _=>False) (.var 0) mD HE fun v HF=>K (acc++[v]) HF)/\(b=false->K acc HE)) big [] K H :=
 gathL (fun i=>il ((xs.take i).filter q)) (zt hl) rfl (by rw [List.take_length]) (fun i x N hx hN=>.var (hc x _ ⟨fun z=>hN _ (zlV hx z),fun z=>hN _ (zjR hx z)⟩)) fin
end
section
variable {v10 v11 v12:Option V} {fs' es':List Nat}
theorem torn0 (hl:oc.length<=100) (h:N [v0,v1,some (.bytes oc),some (iv at'),v4,v5,some (.bytes (torn oc at')),v7,v8,v9,v10,v11,v12] H) :
  wpS S XS (c_lawTorn.1.getD 0 .stuck) [v0,v1,some (.bytes oc),some (iv at'),v4,v5,v6,v7,v8,v9,v10,v11,v12] H N R:=by
 have ob:oc.length<=big:=zt (Nat.le_trans hl (by decide))
 refine WEnum.bytes ob (ziV (fun i=>il ((List.range i).map (tn oc at'))) zex ob rfl rfl (fun i x K hx hK=>?_) (zb9 (fun n hn=>oEA (List.mem_map.mp hn) fun k _ e=>e ▸ tn_lt k) (by rw [List.length_map,List.length_range]; exact ob) h))
 refine oEA (zeV hx) fun o ho e=>?_
 subst e
 have hg:oc.getD i 0=o:=by rw [List.getD_eq_getElem?_getD,ho]; rfl
 refine WTgt.tup rfl ⟨fun _=>WBin.div (by decide) (by decide) (WCmp.eq .int ⟨fun z=>zag (by decide) (WBin.pow (Nat.le_of_lt (Nat.lt_of_lt_of_le (Nat.mod_lt _ (by decide)) (by decide))) (by decide) (WBin.xor (hK _ (zb8 _ _ ?_)))),fun z=>hK _ (zb8 _ _ ?_)⟩),fun z=>absC z⟩
 ·unfold tn; rw [if_pos (zhb z),hg]
 ·unfold tn; rw [if_neg (ziU z),hg]
theorem torn2 (l1:es.length<=900) (h:N [v0,v1,v2,some (iv at'),v4,some (nl es),v6,v7,v8,some (iv (es.filter fun e=>decide (e<=at')).length),v10,v11,v12] H) :
  wpS S XS (c_lawTorn.1.getD 2 .stuck) [v0,v1,v2,some (iv at'),v4,some (nl es),v6,v7,v8,v9,v10,v11,v12] H N R :=
 WSeq.lst (zlz l1 (fun x P z=>WCmp.le (zkY ▸ z)) (zC rfl (Nat.le_trans (List.length_filter_le _ _) l1) h))
theorem torn3 (hk:6<=k) {r0 r1:V} {oc:List UInt8} (hrl:H rl=some (.list [r0,r1])) (F:Full ls) (R1:RdrOk E0 H ls r1) (hl:oc.length<=100) (run:Runs ls (num oc) (8*oc.length) 0 fs' es') (l1:es.length<=900) (l2:es'.length<=900)
  (t1:(es'.filter fun e=>decide (e<=at'))=es.take i) (h:N [some (.ref rl),v1,v2,some (iv at'),v4,some (nl es),some (.bytes oc),some (nl fs'),some (nl es'),some (iv i),v10,v11,v12] H) :
  wpS (Sp k) XS (c_lawTorn.1.getD 3 .stuck) [some (.ref rl),v1,v2,some (iv at'),v4,some (nl es),some (.bytes oc),some (nl fs'),some (nl es'),some (iv i),v10,v11,v12] H N R:=by
 refine WSub.list hrl rfl (by decide) (SpI.mk (below (by decide) hk) ⟨r1,oc,0,ls,fs',es',F,hl,R1,run,zdY ⟨fun _=>?_,nz⟩⟩)
 exact WSeq.lst (zlz l2 (fun x P z=>WCmp.le (zkY ▸ z)) (zaA rfl l1 (zcd t1 ⟨fun _=>⟨fun z=>absB z,fun _=>h⟩,nz⟩)))
theorem torn4 (l1:fs.length<=900) (l2:fs'.length<=900) (t2:fs'.take i=fs.take i) (t3:∀ x y,fs[i]?=some x->fs'[i]?=some y->y≠x)
  (h:N [v0,v1,v2,v3,some (nl fs),v5,v6,some (nl fs'),v8,some (iv i),v10,v11,v12] H) :
  wpS S XS (c_lawTorn.1.getD 4 .stuck) [v0,v1,v2,v3,some (nl fs),v5,v6,some (nl fs'),v8,some (iv i),v10,v11,v12] H N R:=by
 refine zaA rfl l2 (zaA rfl l1 (zcd t2 ⟨fun _=>?_,nz⟩))
 refine zC rfl l1 (zC rfl l2 (nmin (WCmp.lt ⟨fun z=>?_,fun _=>⟨fun _=>⟨fun q=>absB q,fun _=>h⟩,nz⟩⟩)))
 have z:=zbB z
 have z1:i < fs.length:=Nat.lt_of_lt_of_le z (by
  split
  ·exact #[0x54115421,_,_] ‹_›
  ·exact #[0x4411,_] )
 have z2:i < fs'.length:=Nat.lt_of_lt_of_le z (by
  split
  ·exact #[0x4411,_] 
  ·exact #[0x451154261,_,_] ‹_›)
 have e1:=List.getElem?_eq_getElem z1
 have e2:=List.getElem?_eq_getElem z2
 have hi:i < 2 ^ 62:=Nat.lt_of_lt_of_le z1 (Nat.le_trans l1 (by decide))
 exact WSub.lst (zH e2) hi (WSub.lst (zH e1) hi (WCmp.eq .int ⟨fun y=>absurd (zhb y) (t3 _ _ e1 e2),fun _=>⟨fun _=>⟨fun q=>absB q,fun _=>h⟩,nz⟩⟩))
theorem torn5 (hk:6<=k) {oc':List UInt8} (F:Full ls) (hl:oc'.length<=100) (run:Runs ls n (8*oc'.length) 0 fs es) (run':Runs ls (num oc') (8*oc'.length) 0 fs' es') (hat:∀ q,at' < q->n / 2 ^ q=num oc' / 2 ^ q) (h:R (.bool true) H) :
  wpSs (Sp k) XS (c_lawTorn.1.drop 5) [v0,some (nl ls),v2,some (iv at'),some (nl fs),some (nl es),some (.bytes oc'),some (nl fs'),some (nl es'),v9,v10,v11,v12] H N R:=by
 have l1:fs.length<=900:=Nat.le_trans (run.short F) (Nat.le_trans (zbY hl) (by decide))
 have l2:fs'.length<=900:=Nat.le_trans (run'.short F) (Nat.le_trans (zbY hl) (by decide))
 have l3:es.length<=900:=run.len ▸ l1
 have l4:es'.length<=900:=run'.len ▸ l2
 refine SpI.mk (below (by decide) hk) ⟨ls,oc',fs',es',_,F,hl,run',WTru.mk ⟨fun z=>absB z,fun _=>?_⟩⟩
 refine WSeq.lst (zlz (q:=fun e=>decide (at' < e)&&decide (e∈es')) l3 (fun x P z=>WCmp.gt ?_) (WCmp.eq (.ints (ys:=[]) (zr _) rfl) ⟨fun _=>h,fun z=>?_⟩))
 ·rw [lt_dec]
  cases g:decide (at' < x) with
  | true=>rw [g,Bool.true_and] at z; exact ⟨fun _=>WCmp.isin (.ints (zr es')) (by rw [in_dec]; cases g':decide (x∈es') with | true=>rw [g'] at z; exact ⟨fun _=>z,nz⟩ | false=>rw [g'] at z; exact ⟨fun y=>absB y,fun _=>z⟩),nz⟩
  | false=>rw [g,Bool.false_and] at z; exact ⟨fun y=>absB y,fun _=>z⟩
 ·cases hB:es.filter fun e=>decide (at' < e)&&decide (e∈es') with
  | nil=>rw [hB] at z; exact absC z
  | cons e B =>
   obtain ⟨g1,g2⟩:=List.mem_filter.mp (show e∈es.filter fun e=>decide (at' < e)&&decide (e∈es') from hB ▸ List.mem_cons_self)
   obtain ⟨g2,g3⟩:=Bool.and_eq_true_iff.mp g2
   have g3:=of_decide_eq_true g3
   obtain ⟨d1,d2⟩:=resync F run run' (fun q hq=>hat q (Nat.lt_of_lt_of_le (of_decide_eq_true g2) hq)) g1 g3
   refine mEA .lst .lst (WSub.lst rfl (by decide) (zgz (zt l3) g1 (WBin.add (mEA .lst .lst (WSub.lst rfl (by decide) (zgz (zt l4) g3 (WBin.add (WTgt.tup rfl ?_))))))))
   exact zJ d1 l1 (zJ (i:=es'.idxOf e+1) rfl l2 (zgF rfl (WTru.mk ⟨fun _=>zJ d2 l3 (zJ (i:=es'.idxOf e+1) rfl l4 (zgF rfl h)),nz⟩)))
end
theorem zer (hk:6<=k) (hrl:H rl=some (.list [r0,r1])) (F:Full ls) (R0:RdrOk E0 H ls r0) (R1:RdrOk E0 H ls r1) (hl:oc.length<=100) (hat:at' < 8*oc.length) (run:Runs ls (num oc) (8*oc.length) 0 fs es) (h:Q (.bool true) H) :
  wpBody (Sp k) c_lawTorn.1 [some (.ref rl),some (nl ls),some (.bytes oc),some (iv at'),some (nl fs),some (nl es),none,none,none,none,none,none,none] H Q X:=by
 have tl:(torn oc at').length=oc.length:=zj9
 have tnum:=zgq oc at' hat
 refine torn0 (R:=Q) hl (oEE (zfu F (num (torn oc at')) (8*oc.length) _ 0 (Nat.zero_le _) rfl) fun fs' es' run'=>?_)
 have runT:Runs ls (num (torn oc at')) (8*(torn oc at').length) 0 fs' es':=tl.symm ▸ run'
 have tl':(torn oc at').length<=100:=tl.symm ▸ hl
 have f1:fs.length<=900:=Nat.le_trans (run.short F) (Nat.le_trans (zbY hl) (by decide))
 have f2:fs'.length<=900:=Nat.le_trans (run'.short F) (Nat.le_trans (zbY hl) (by decide))
 have e1:es.length<=900:=run.len ▸ f1
 have e2:es'.length<=900:=run'.len ▸ f2
 refine (run.torn F hat (tnum ▸ zkJ) (fun p l h1 h2=>tnum ▸ zmF h1 h2) (Nat.zero_le _) run').elim fun t1 t=>t.elim fun t2 t3=>?_
 refine WSub.list hrl rfl (by decide) (SpI.mk (below (by decide) hk) ⟨r0,torn oc at',0,ls,fs',es',F,tl',R0,runT,WTgt.tup rfl (torn2 (R:=Q) e1 (torn3 (R:=Q) hk hrl F R1 tl' runT e1 e2 t1 (torn4 (R:=Q) f1 f2 t2 (fun x y=>t3 x y) (torn5 hk F tl' (tl.symm ▸ run) runT (fun q hq=>?_) h))))⟩)
 rw [tnum]
 exact zhq hq
end
noncomputable def forBody:List CS->List CS
 | .fors _ _ b::_=>b
 | _=>[]
noncomputable def octSrc:List CS->Src
 | _::_::.assign _ (.bcall _ [.comp1 _ _ s _ _])::_=>s
 | _=>.range []
section
variable {r0:V}
theorem zmz (hk:1<=k) {K:List V->(AH->Prop)->AH->Prop} {v0:Option V} {ml:Loc} (hj:H j=some (.list L)) (J:JarL n L) (hn:n<=900) (h:∀ N L',1<=N->N<=5->JarL (n+1) L'->K (il (List.range N)) (fun _=>True) (H.set j (.list L'))) :
  wpSrc (Sp k) X (octSrc c_law.1) (v0::some (.ref j)::ml) H K:=by
 refine zac (id J) fun g o t c b yF h1 h2 h3=>?_; obtain rfl:=yF
 exact WSub.list hj rfl (by decide) (WTru.mk ⟨fun _=>SpI.mk (below (by decide) hk) ⟨j,_,n,2,by decide,by decide,hj,J,by exact #[0x1fd804111e8c0411,_] hn,fun d L' hd J'=>WBin.add (WRange.one (show 1+d < 2 ^ 62 by exact #[0x488888888888888888888041012120421,_] hd) (h (1+d) L' (by exact #[0x41011011,_] ) (by exact #[0x5041011120421,_] hd) J'))⟩,fun _=>SpI.mk (below (by decide) hk) ⟨j,_,n,5,by decide,by decide,hj,J,by exact #[0x1fd804111e8c0411,_] hn,fun d L' hd J'=>WBin.add (WRange.one (show 1+d < 2 ^ 62 by exact #[0x488888888888888888888041012150421,_] hd) (h (1+d) L' (by exact #[0x41011011,_] ) (by exact #[0x5041011150421,_] hd) J'))⟩⟩)
theorem sub_e0:Sub E0 H:=fun c o e=>(nomatch e)
theorem zdr {x o:AObj} {r:V} (R:RdrOk (E0.set j o) H ls r):RdrOk (E0.set j o) (H.set j x) ls r:=R.sub fun c o' n e=>zb (fun q=>by subst q; rw [za] at n; exact absM n) e
theorem zcY {o:AObj} {r:V} (R:RdrOk (E0.set j o) H ls r):RdrOk E0 H ls r:=R.weak fun c o e=>(nomatch e)
theorem zi3 {H0 H':AH} {r:V} (s:Sub H H') (R:RdrOk H0 H ls r):RdrOk H0 H' ls r:=R.sub fun c o _ e=>s c o e
theorem zjs (hk:7<=k) {d o q:Nat} {v0 v4 v10 v11:Option V} {v1 r:V} {NK:Loc->AH->Prop} {RK:V->AH->Prop} (F:Full ls) (hl:oc.length<=5) (run:Runs ls (num oc) (8*oc.length) 0 fs es) (R:RdrOk E0 H ls r) (hq:(0::es)[d]?=some q) (h:∀ a b,NK [v0,some v1,some (nl ls),some (.bytes oc),v4,some (nl fs),some (nl es),some (iv d),some (.bytes (oc++[UInt8.ofNat o])),some r,some a,some b] H) :
  wpSs (Sp k) (fun _ H=>X H) (forBody (c_law.1.drop 8)) [v0,some v1,some (nl ls),some (.bytes oc),v4,some (nl fs),some (nl es),some (iv d),some (.bytes (oc++[UInt8.ofNat o])),some r,v10,v11] H NK RK:=by
 have k5:5 < k:=below (by decide) hk
 obtain ⟨oc',hoc'⟩:∃ oc',oc'=oc++[UInt8.ofNat o]:=⟨_,rfl⟩
 rw [<- hoc'] at h ⊢
 have l':oc'.length=oc.length+1:=by rw [hoc',List.length_append]; rfl
 refine oEE (zfu F (num oc') (8*oc'.length) _ 0 (Nat.zero_le _) rfl) fun fs' es' run'=>?_
 have o6:oc'.length<=6:=l' ▸ Nat.succ_le_succ hl
 have f1:=Nat.le_trans (zbP F run) (Nat.le_trans (Nat.mul_le_mul_left 8 hl) (show 8*5<=900 by decide))
 have f2:=Nat.le_trans (zbP F run') (Nat.le_trans (Nat.mul_le_mul_left 8 o6) (show 8*6<=900 by decide))
 have e1:es.length<=900:=Nat.le_trans (Nat.le_of_eq run.len.symm) f1
 have e2:es'.length<=900:=Nat.le_trans (Nat.le_of_eq run'.len.symm) f2
 obtain ⟨t1,t2,t3⟩:=run.more F (n':=num oc') (by rw [hoc',zP,Nat.add_mul_mod_self_left]) (fs':=fs') (es':=es') (by rw [show 8*oc.length+8=8*oc'.length by exact #[0x418218051821311051431,_,_] l']; exact run')
 have hd:d < es.length+1:=(List.getElem?_eq_some_iff.mp hq).1
 refine WBin.addl (by rw [ze]; exact Nat.le_trans (Nat.add_le_add_left e1 1) (by decide)) (WSub.lst (k:=d) (v:=iv q) (zH hq) (Nat.lt_of_lt_of_le hd (Nat.le_trans (Nat.succ_le_succ e1) (by decide))) (SpI.mk k5 ⟨r,oc,q,ls,fs.drop d,es.drop d,F,Nat.le_trans hl (by decide),R,run.drop hq,zJ rfl f1 (zJ rfl e1 (zdY ⟨fun y=>absB y,fun _=>?_⟩))⟩))
 refine SpI.mk k5 ⟨r,oc',0,ls,fs',es',F,Nat.le_trans o6 (by decide),R,run',WTgt.tup rfl (zC rfl f1 (zaA t1 f2 (zcd rfl ⟨fun _=>zC rfl e1 (zaA t2 e2 (zcd rfl ⟨fun _=>zC rfl f2 (zC rfl f1 (WCmp.eq .int ⟨fun _=>⟨fun y=>absB y,fun _=>?_⟩,fun y=>?_⟩)),nz⟩)),nz⟩)))⟩
 ·exact SpI.mk (below (by decide) hk) ⟨ls,oc',fs',es',_,F,Nat.le_trans o6 (by decide),run',WTru.mk ⟨fun y=>absB y,fun _=>h _ _⟩⟩
 ·exact absurd (zhb (nf y)) (Nat.ne_of_gt t3)
section
variable {v10 v11:Option V}
theorem law4 (hk:7<=k) (hrl:H rl=some (.list [r0,r1])) (F:Full ls) (P0:RdrOk E0 H ls r0) (hl:oc.length<=5) (run:Runs ls (num oc) (8*oc.length) 0 fs es) (h:N [v0,v1,v2,some (.bytes oc),some (.ref rl),some (nl fs),some (nl es),v7,v8,v9,v10,v11] H) :
  wpS (Sp k) XS (c_law.1.getD 4 .stuck) [v0,v1,v2,some (.bytes oc),some (.ref rl),v5,v6,v7,v8,v9,v10,v11] H N R :=
 WSub.list hrl rfl (by decide) (SpI.mk (below (by decide) hk) ⟨r0,oc,0,ls,fs,es,F,Nat.le_trans hl (by decide),P0,run,WTgt.tup rfl h⟩)
theorem law5 (hk:7<=k) (hrl:H rl=some (.list [r0,r1])) (F:Full ls) (P1:RdrOk E0 H ls r1) (hl:oc.length<=5) (run:Runs ls (num oc) (8*oc.length) 0 fs es) (h:∀ a kvs,H a=none->N [v0,v1,some (nl ls),some (.bytes oc),some (.ref rl),some (nl fs),some (nl es),v7,v8,v9,v10,v11] (H.set a (.dict kvs))) :
  wpS (Sp k) XS (c_law.1.getD 5 .stuck) [v0,v1,some (nl ls),some (.bytes oc),some (.ref rl),some (nl fs),some (nl es),v7,v8,v9,v10,v11] H N R :=
 WSub.list hrl rfl (by decide) (SpI.mk (below (by decide) hk) ⟨r1,oc,0,ls,fs,es,F,Nat.le_trans hl (by decide),P1,run,zdY ⟨fun _=>SpI.mk (below (by decide) hk) ⟨ls,F,fun a kvs ha C=>SpI.mk (below (by decide) hk) ⟨a,kvs,oc,fs,es,ls,za ..,C,F,Nat.le_trans hl (by decide),run,WTru.mk ⟨fun _=>⟨fun y=>absB y,fun _=>h a kvs ha⟩,nz⟩⟩⟩,nz⟩⟩)
theorem law6 (hk:7<=k) (F:Full ls) (hl:oc.length<=5) (run:Runs ls (num oc) (8*oc.length) 0 fs es) (h:N [v0,v1,some (nl ls),some (.bytes oc),v4,some (nl fs),some (nl es),v7,v8,v9,v10,v11] H) :
  wpS (Sp k) XS (c_law.1.getD 6 .stuck) [v0,v1,some (nl ls),some (.bytes oc),v4,some (nl fs),some (nl es),v7,v8,v9,v10,v11] H N R :=
 SpI.mk (below (by decide) hk) ⟨ls,oc,fs,es,F,Nat.le_trans hl (by decide),run,WTru.mk ⟨fun y=>absB y,fun _=>h⟩⟩
theorem law7 (hk:7<=k) (hj:H j=some (.list L)) (J:JarL n L) (hn:n<=60) (hl:oc.length<=5) (e1:es.length<=900) (h:∀ d o' L3,d < es.length+1->JarL (n+1+2) L3->N [v0,some (.ref j),v2,some (.bytes oc),v4,v5,some (nl es),some (iv d),some (.bytes (oc++[UInt8.ofNat o'])),v9,v10,v11] (H.set j (.list L3))) :
  wpS (Sp k) XS (c_law.1.getD 7 .stuck) [v0,some (.ref j),v2,some (.bytes oc),v4,v5,some (nl es),v7,v8,v9,v10,v11] H N R:=by
 refine zC rfl e1 (WBin.add (SpI.mk (below (by decide) hk) ⟨j,L,n,es.length+1,Nat.succ_pos _,Nat.lt_of_le_of_lt (Nat.succ_le_succ e1) (by decide),hj,J,Nat.le_trans hn (by decide),fun d L2 hd J2=>SpI.mk (below (by decide) hk) ⟨j,L2,n+1,za ..,J2,Nat.le_trans (Nat.succ_le_succ hn) (by decide),fun o' L3 ho J3=>zb9 (xs:=[o']) (fun x hx=>List.mem_singleton.mp hx ▸ ho) (by show 1<=1000000; decide) (WBin.addb (Nat.le_trans (Nat.succ_le_succ hl) (by decide)) (WTgt.tup rfl ?_))⟩⟩))
 rw [zas]
 exact h d o' L3 hd J3
theorem law9 (hk:7<=k) (hj:H j=some (.list L)) (J:JarL n L) (hn:n<=63) (hrl:H rl=some (.list [r0,r1])) (jrl:j≠rl) (F:Full ls) (ol:0 < oc.length) (hl:oc.length<=5) {o:AObj} (P0:RdrOk (E0.set j o) H ls r0) (P1:RdrOk (E0.set j o) H ls r1) (run:Runs ls (num oc) (8*oc.length) 0 fs es) (h:Q (.bool true) E0) :
  wpS (Sp k) XS (c_law.1.getD 9 .stuck) [v0,some (.ref j),some (nl ls),some (.bytes oc),some (.ref rl),some (nl fs),some (nl es),v7,v8,v9,v10,v11] H N (Back Q) :=
 WBcall.lenBytes (Nat.le_trans hl (by decide)) (WBin.mul (.inl (by decide)) (SpI.mk (below (by decide) hk) ⟨j,L,n,8*oc.length,Nat.mul_pos (by decide) ol,Nat.lt_of_le_of_lt (Nat.mul_le_mul_left 8 hl) (by decide),hj,J,Nat.le_trans hn (by decide),fun t L4 ht J4=>SpI.mk (below (by decide) hk) ⟨rl,r0,r1,ls,oc,t,fs,es,zb (Ne.symm jrl) hrl,F,zcY (zdr P0),zcY (zdr P1),Nat.le_trans hl (by decide),ht,run,zdh sub_e0 h⟩⟩))
end
theorem zkN (hk:7<=k) {o:AObj} {v0:Option V} (hj:H j=some (.list L)) (J:JarL n L) (hn:n<=60) (hrl:H rl=some (.list [r0,r1])) (jrl:j≠rl) (F:Full ls) (ol:0 < oc.length) (hl:oc.length<=5) (P0:RdrOk (E0.set j o) H ls r0) (P1:RdrOk (E0.set j o) H ls r1) (h:Q (.bool true) E0) :
  wpSs (Sp k) (fun _ H=>X H) (c_law.1.drop 4) [v0,some (.ref j),some (nl ls),some (.bytes oc),some (.ref rl),none,none,none,none,none,none,none] H (fun _ H=>Back Q .none H) (Back Q):=by
 refine oEE (zfu F (num oc) (8*oc.length) _ 0 (Nat.zero_le _) rfl) fun fs es run=>?_
 have f1:=Nat.le_trans (zbP F run) (Nat.le_trans (Nat.mul_le_mul_left 8 hl) (show 8*5<=900 by decide))
 have e1:es.length<=900:=Nat.le_trans (Nat.le_of_eq run.len.symm) f1
 refine law4 hk hrl F (zcY P0) hl run (law5 hk hrl F (zcY P1) hl run fun a kvs ha=>law6 hk F hl run (law7 hk (zl ha hj) J hn hl e1 fun d o' L3 hd J3=>?_))
 have sb:=zo (o:=.dict kvs) ha
 have hrl':((H.set a (.dict kvs)).set j (.list L3)) rl=some (.list [r0,r1]):=zb (Ne.symm jrl) (zl ha hrl)
 have P0':=zdr (x:=.list L3) (zi3 sb P0)
 have P1':=zdr (x:=.list L3) (zi3 sb P1)
 refine WSeq.list hrl' (zbN (σ:=Option V×Option V×Option V) (fun s=>[v0,some (.ref j),some (nl ls),some (.bytes oc),some (.ref rl),some (nl fs),some (nl es),some (iv d),some (.bytes (oc++[UInt8.ofNat o'])),s.1,s.2.1,s.2.2]) (fun _=>(H.set a (.dict kvs)).set j (.list L3)) (fun _ _=>True) (none,none,none) (by show 2<=1000000; decide) rfl rfl trivial (fun i x s hx _=>⟨hrl',.var ?_⟩) (fun s _=>⟨hrl',law9 hk (za ..) J3 (Nat.add_le_add_right hn 3) hrl' jrl F ol hl P0' P1' run h⟩))
 refine zjs hk F hl run ?_ (List.getElem?_eq_getElem hd) fun x' y'=>(zc2 _ Sub.refl ((_,_,_)) rfl rfl trivial)
 rcases i with _ | _ | i
 ·cases hx; exact zcY P0'
 ·cases hx; exact zcY P1'
 ·exact absN hx
theorem zjn (hk:7<=k) {ns:List Int} (hl:ns.length<=big) (h:Q (.bool true) E0):wpBody (Sp k) c_law.1 [some (.lst (ns.map .int)),none,none,none,none,none,none,none,none,none,none,none] H (Back Q) X:=by
 have k0:0 < k:=below (by decide) hk
 have k1:1 < k:=below (by decide) hk
 have k2:2 < k:=below (by decide) hk
 have k5:5 < k:=below (by decide) hk
 refine SpI.mk k0 ⟨ns,hl,fun j L hj J=>SpI.mk k1 ⟨j,L,0,za ..,J,by decide,fun ls L2 F J2=>?_⟩⟩
 rw [zas]
 refine zmz (Nat.le_of_lt k1) (za ..) J2 (by decide) fun N L3 hN hN5 J3=>?_
 rw [zas]
 refine ⟨by rw [zad]; exact Nat.le_trans hN5 (by decide),fun i acc HD=>∃ os L,acc=il os/\os.length=i/\(∀ o∈os,o < 256)/\HD=H.set j (.list L)/\JarL (41+2*i) L,(zdp ([]) L3 rfl rfl (fun o h=>(nomatch h)) rfl J3),fun i x acc HD hx hI=>⟨trivial,.var ?_⟩,fun acc HD hI=>⟨trivial,?_⟩⟩
 ·obtain ⟨hi,rfl⟩:=zal hx
  refine zfp hI fun os L yC yD ho yF J=>?_; obtain rfl:=yC; obtain rfl:=yD; obtain rfl:=yF
  refine ⟨fun _=>SpI.mk k1 ⟨j,L,_,za ..,J,Nat.le_trans (Nat.add_le_add_left (Nat.mul_le_mul_left 2 (Nat.le_trans (Nat.le_of_lt hi) hN5)) 41) (by decide),fun o L' h2 J'=>?_⟩,fun z=>absurd z (by decide)⟩
  rw [zas]
  exact zit _ Sub.refl (os++[o]) L' (zbW _ _) List.length_append (fun x hx=>(List.mem_append.mp hx).elim (ho x) (fun q=>List.mem_singleton.mp q ▸ h2)) rfl J'
 refine zfp hI fun os L yC hos ho yF J=>?_; obtain rfl:=yC; obtain rfl:=yF
 rw [zad] at hos J
 refine zb9 ho (by rw [hos]; exact Nat.le_trans hN5 (by decide)) ?_
 obtain ⟨oc,hoc⟩:∃ oc,oc=os.map UInt8.ofNat:=⟨_,rfl⟩
 have ocl:oc.length=N:=by rw [hoc,List.length_map,hos]
 rw [<- hoc]
 refine SpI.mk k2 ⟨ls,F,fun a dx bl ha hdx B=>?_⟩
 have jdx:j≠dx:=zz hdx (za ..)
 refine SpI.mk k0 ⟨j,L,_,4,by decide,by decide,zb jdx (za ..),J,Nat.le_trans (Nat.add_le_add_left (Nat.mul_le_mul_left 2 hN5) 41) (by decide),fun d L4 hd J4=>WBin.add (SpI.mk k2 ⟨ls,1+d,F,Nat.le_add_right _ _,Nat.le_trans (Nat.le_of_eq (Nat.add_comm 1 d)) (Nat.le_trans hd (by decide)),fun r1 H' hs T rl hrl=>?_⟩)⟩
 have hj':H' j=some (.list L4):=hs _ _ (za ..)
 have jrl:j≠rl:=zz hrl hj'
 refine zkN hk (o:=.list L4) (zl hrl hj') J4 (Nat.le_trans (Nat.succ_le_succ (Nat.add_le_add_left (Nat.mul_le_mul_left 2 hN5) 41)) (by decide)) (za ..) jrl F (ocl ▸ hN) (ocl ▸ hN5) ?_ ?_ h
 ·exact .inl (zS a dx bl ((zf _ _ (Ne.symm jdx))) rfl (zl hrl (hs _ _ (zb (Ne.symm jdx) (za ..)))) B)
 ·exact RdrOk.weak (fun c o e=>by
   by_cases q:c=j
   ·subst q; rw [za] at e ⊢; exact e
   ·rw [zf _ _ q] at e; exact absN e) (RdrOk.sub (fun c o _ e=>zl hrl e) (.inr T))
end
end Mine
end
section
open PySem PySem.W PyProof.Rows
namespace Mine
theorem Rm.less {l l':Nat} {A:Around} {frs:List Env} (R:Rm l A frs) (h:l'<=l):Rm l' A frs:=⟨Nat.lt_of_le_of_lt (by exact #[0x2c051826112c04182611115411,_,_,_] h) R.depth,Nat.lt_of_le_of_lt (by exact #[0x398051882611398041882611115411,_,_,_] h) R.units,R.quiet,R.frames⟩
noncomputable abbrev Xw (X:AH->Prop):AH->Prop:=fun H'=>∃ H'',Sub H'' H'/\X H''
theorem zfD {Q:V->AH->Prop} {X:AH->Prop} {H:AH} {ls:List Nat} {c N p:Nat} {f:Nat->AObj} {dy:Addr} (h:∀ s l,Dec ls c s l->(p+l+1<=N->Q (iv s) (H.set dy (f (p+l+1))))/\(N < p+l+1->∀ q,X (H.set dy (f q)))) :
  ∀ s l,Dec ls c s l->(p+l+1<=N->Back Q (iv s) (H.set dy (f (p+l+1))))/\(N < p+l+1->∀ q,Xw X (H.set dy (f q))):=fun s l d=>⟨fun y=>zc ((h s l d).1 y),fun y q=>(mEA _ Sub.refl ((h s l d).2 y q))⟩
inductive DefOk (k:Nat) (H:AH) (Q:V->AH->Prop) (X:AH->Prop) (a:Addr) (vs:List V):Prop
 | mk {n r:Nat} (D:DefAt a n r) (c:CoreAt a) (hl:vs.length=n) (h:wpBody (Sp k) c.1 (vs.map some++List.replicate r none) H (Back Q) (Xw X))
inductive ClsI:Fn->Prop
 | mkPReader:ClsI .mkPReader
 | mkTReader:ClsI .mkTReader
 | mkLTable:ClsI .mkLTable
 | mkPWriter:ClsI .mkPWriter
 | mkLReader:ClsI .mkLReader
 | mkLWriter:ClsI .mkLWriter
noncomputable def isCls:Fn->Bool
 | .mkPReader | .mkTReader | .mkLTable | .mkPWriter | .mkLReader | .mkLWriter=>true
 | _=>false
theorem zmw {f:Fn}:isCls f=true->ClsI f:=by
 induction f using Fn.casesOn with
 | mkPReader=>exact fun _=>.mkPReader
 | mkTReader=>exact fun _=>.mkTReader
 | mkLTable=>exact fun _=>.mkLTable
 | mkPWriter=>exact fun _=>.mkPWriter
 | mkLReader=>exact fun _=>.mkLReader
 | mkLWriter=>exact fun _=>.mkLWriter
 | _=>exact absB
theorem defs {k:Nat} {f:Fn} (hk:rk f<=k) (hc:isCls f=false) {vs:List V} {H:AH} {Q:V->AH->Prop} {X:AH->Prop} (h:Ct f vs H Q X):DefOk k H Q X (fnA f) vs:=by
 induction f using Fn.casesOn with
 | countsByLength=>induction h using CtCountsByLength.casesOn with | mk ls L h1 h2 h3 hq=>exact .mk zb4 c_countsByLength rfl (zbk h1 h2 h3 hq)
 | roomOf=>induction h using CtRoomOf.casesOn with | mk cs hl hq=>exact .mk zkH c_roomOf rfl (ze8 hl (zc hq))
 | checkLengths=>induction h using CtCheckLengths.casesOn with | mk ls F hq=>exact .mk zcU c_checkLengths rfl (zbL hk F (zc hq))
 | greatestLength=>induction h using CtGreatestLength.casesOn with | mk ls hl hq=>exact .mk zb5 c_greatestLength rfl (zbh hl (zc hq))
 | firstCodes=>induction h using CtFirstCodes.casesOn with | mk ls F hq=>exact .mk zen c_firstCodes rfl (zcn F fun a ha=>zc (hq a ha))
 | canonical=>induction h using CtCanonical.casesOn with | mk ls F hq=>exact .mk zfQ c_canonical rfl (zcK hk F hq)
 | turned=>induction h using CtTurned.casesOn with | mk c n hn hq=>exact .mk zj0 c_turned rfl (zfs hn (zc hq))
 | byLength=>induction h using CtByLength.casesOn with | mk ls F hq=>exact .mk zhc c_byLength rfl (zds hk F hq)
 | needCount=>induction h using CtNeedCount.casesOn with | mk n hq=>exact .mk zfO c_needCount rfl (zcM (zc hq))
 | needValue=>induction h using CtNeedValue.casesOn with | mk v n h1 hq=>exact .mk zfk c_needValue rfl (zcO hk h1 (zc hq))
 | endOf=>induction h using CtEndOf.casesOn with | mk oc hl hq=>exact .mk zlT c_endOf rfl (zg2 hl (zc hq))
 | gathered=>induction h using CtGathered.casesOn with | mk oc p n hn hl hq=>exact .mk zhf c_gathered rfl (zdJ hn hl (zc hq))
 | lawJar=>induction h using CtLawJar.casesOn with | mk ns hl hq=>exact .mk zkE c_lawJar rfl (zfL hl fun a L h1 h2=>zc (hq a L h1 h2))
 | lawPick=>induction h using CtLawPick.casesOn with | mk j L n many h0 h62 hj J hn hq=>exact .mk zh0 c_lawPick rfl (zd1 h0 h62 hj J hn fun d L' h1 h2=>zc (hq d L' h1 h2))
 | lawLengths=>induction h using CtLawLengths.casesOn with | mk j L n hj J hn hq=>exact .mk zea c_lawLengths rfl (zcu hk hj J hn hq)
 | lawOctet=>induction h using CtLawOctet.casesOn with | mk j L n hj J hn hq=>exact .mk zgO c_lawOctet rfl (zdm hk hj J hn fun o L' h1 h2=>zc (hq o L' h1 h2))
 | lawCodes=>induction h using CtLawCodes.casesOn with | mk ls F hq=>exact .mk zg0 c_lawCodes rfl (zdv F fun a kvs h1 h2=>zc (hq a kvs h1 h2))
 | lawRead=>induction h using CtLawRead.casesOn with | mk r oc p ls fs es F hl Rr run hq=>exact .mk zi8 c_lawRead rfl (zed hk F hl Rr run hq)
 | lawSaid=>induction h using CtLawSaid.casesOn with | mk a kvs oc fs es ls ha C F hl run hq=>exact .mk zi5 c_lawSaid rfl (zd8 F hl ha C run hq)
 | lawMany=>induction h using CtLawMany.casesOn with | mk ls oc fs es n F hl run hq=>exact .mk zin c_lawMany rfl (zd5 F hl run (zc hq))
 | lawWritten=>induction h using CtLawWritten.casesOn with | mk ls oc fs es F hl run hq=>exact .mk zd0 c_lawWritten rfl (zcq hk F hl run hq)
 | lawTorn=>induction h using CtLawTorn.casesOn with | mk rl r0 r1 ls oc at' fs es hrl F R0 R3 hl hat run hq=>exact .mk zhJ c_lawTorn rfl (zer hk hrl F R0 R3 hl hat run (zc hq))
 | law=>induction h using CtLaw.casesOn with | mk ns hl hq=>exact .mk d_law c_law rfl (zjn hk hl hq)
 | prRead=>obtain ⟨ls,r,b,dy,oc,p,F,⟨a,dx,bl,hn,rfl,hdx,B⟩,hdy,hp,hl,hq⟩:=h; exact .mk zjY c_prRead rfl (zft hk F hdx B hdy hp hl (zfD hq))
 | trRead=>obtain ⟨ls,r,b,dy,oc,p,F,T,hdy,hp,hl,hq⟩:=h; refine zeK (id T) fun a dx _ _ _ _ _ _ _ _ yK _=>?_; obtain rfl:=yK; exact .mk zkQ c_trRead rfl (zfr hk T F hdy hp hl (zfD hq))
 | ltRead =>
  obtain ⟨r,a,dz,b,dy,oc,p,ls,L,F,hdy,hp,hl,hq⟩:=h
  exact .mk zkp c_ltRead rfl (zfy hk L F hdy hp hl (zfD hq))
 | trEnter=>induction h using CtTrEnter.casesOn with | mk H0 ls r a dx sy sz le done s' l F h8 hh hd st hq=>exact .mk zhS c_trEnter rfl (zev F h8 hh hd st fun H' st=>zc (hq H' st))
 | pwCost=>induction h using CtPwCost.casesOn with | mk a dx ls s' l hdx F hh hq=>exact .mk zkR c_pwCost rfl (zfW F hdx hh (zc hq))
 | pwWrite=>induction h using CtPwWrite.casesOn with | mk a dx ls b dy ad bs h' hb val nb s' l hdx F hh hdy had w' hl hq=>exact .mk zil c_pwWrite rfl (zeH hk F hdx hh hdy had w' hl fun b1 b2 b3 b4=>zc (hq b1 b2 b3 b4))
 | lwBits=>induction h using CtLwBits.casesOn with | mk b dy ad bs h' hb val nb v n h1 hn hdy had w' hl hq=>exact .mk zki c_lwBits rfl (zfM hk h1 hn hdy had w' hl fun b1 b2 b3 b4=>zc (hq b1 b2 b3 b4))
 | lwCode=>induction h using CtLwCode.casesOn with | mk b dy ad bs h' hb val nb v n h1 hn hdy had w' hl hq=>exact .mk zkl c_lwCode rfl (zfS hk h1 hn hdy had w' hl fun b1 b2 b3 b4=>zc (hq b1 b2 b3 b4))
 | lwSize=>induction h using CtLwSize.casesOn with | mk b dy ad bs h' hb val nb hdy had w' hl hq=>exact .mk zkt c_lwSize rfl (zfl hdy had w' hl (zc hq))
 | lwDone=>induction h using CtLwDone.casesOn with | mk b dy ad bs h' hb val nb hdy had w' hl hq=>exact .mk zkn c_lwDone rfl (zfw hdy had w' hl fun out h1 h2=>zc (hq out h1 h2))
 | lrLeft=>induction h using CtLrLeft.casesOn with | mk b dy oc p hd hp hq=>exact .mk zkF c_lrLeft rfl (ze7 hd hp (zc hq))
 | lrPeek=>induction h using CtLrPeek.casesOn with | mk b dy oc p n hd hn hl hq=>exact .mk zkg c_lrPeek rfl (zfa hk hd hn hl (zc hq))
 | lrSkip=>induction h using CtLrSkip.casesOn with | mk b dy oc p n hd hp h1 h2=>exact .mk zkd c_lrSkip rfl (zfH hk hd hp (fun y=>zc (h1 y)) fun y=>(mEA _ Sub.refl (h2 y)))
 | lrBits=>induction h using CtLrBits.casesOn with | mk b dy oc p n hd hn hl hp h1 h2=>exact .mk zjN c_lrBits rfl (ze6 hk hd hn hl hp (fun y=>zc (h1 y)) fun y=>(mEA _ Sub.refl (h2 y)))
 | lrBit=>induction h using CtLrBit.casesOn with | mk b dy oc p hd hl hp h1 h2=>exact .mk zlD c_lrBit rfl (zgI hk hd hl hp (fun y=>zc (h1 y)) fun y=>(mEA _ Sub.refl (h2 y)))
 | _=>exact absC hc
section
variable {prog:Program} {w:World} {low:sysModules < hp.objs.size} {XK:(kf.heap_1 w.params).In hp}
theorem specs (O:Wok (mkW prog w hp low XK) fnA):∀ (k:Nat) (q:Addr->Prop),SpecsOk ((mkW prog w hp low XK).ofP q) fnA (2*k) (Sp k)
 | 0,q=>fun f vs xs A frs s H Q X R G hsz hv h=>absurd h.rk (Nat.not_lt_zero _)
 | k+1,q=>fun f vs xs A frs s H Q X R G hsz hv h=>by
  have SA:=specs O k
  obtain ⟨hk,h⟩:=h
  replace hk:=Nat.le_of_lt_succ hk
  have R1:Rm (2*k+1) A frs:=R.less (Nat.le_succ _)
  have R2:Rm (2*k+2) A frs:=R
  have hv':AbsL kcls (((mkW prog w hp low XK).ofP q).D H) s.heap vs xs:=hv
  cases hc:isCls f with
  | false =>
   induction defs hk hc h using DefOk.casesOn with
   | mk D c hl hb=>exact callF O SA R1 G hsz D c hv hl hb
  | true =>
   induction zmw hc using ClsI.casesOn with
   | mkPReader =>
    obtain ⟨ls,F,hq⟩:=h
    refine oEA (abs1 hv) fun y yB a1=>?_; obtain rfl:=yB
    exact zgN O SA R2 G hsz zkD c_prInit (vs:=[nl ls,iv 15,.bool false]) (ys:=[y,.int 15 267,.bool false]) (fun x=>.dflt 136 (by rfl') (by rfl') (by rfl')) (AbsL.cons a1 (AbsL.cons (zh (W:=(mkW prog w hp low XK).ofP q) 15 _) (AbsL.cons (zaz (W:=(mkW prog w hp low XK).ofP q) false) AbsL.nil))) rfl fun x dx hx hdx=>zfP hk F fun bl B=>zc ⟨rfl,hq x dx bl hx hdx B⟩
   | mkTReader =>
    obtain ⟨ls,r,F,h1,h8,hq⟩:=h
    refine zd (abs2 hv) fun y z yC a1 a2=>?_; obtain rfl:=yC
    exact zgN O SA R2 G hsz zjz c_trInit (vs:=[nl ls,iv r,iv 15,.bool false]) (ys:=[y,z,.int 15 267,.bool false]) (fun x=>.dflt 165 (by rfl') (by rfl') (by rfl')) (AbsL.cons a1 (AbsL.cons a2 (AbsL.cons (zh (W:=(mkW prog w hp low XK).ofP q) 15 _) (AbsL.cons (zaz (W:=(mkW prog w hp low XK).ofP q) false) AbsL.nil)))) rfl fun x dx hx hdx=>zfi hk F h1 h8 hdx fun H' sb T=>zc ⟨rfl,hq _ H' sb T⟩
   | mkLTable =>
    obtain ⟨ls,r,q',a,done,rows,F,all,har,hlen,ne,RR,hq⟩:=h
    refine zd (abs2 hv) fun y z yC a1 a2=>?_; obtain rfl:=yC
    exact zgN O SA R2 G hsz zkS c_ltInit (vs:=[.ref a,iv r]) (ys:=[y,z]) (fun x=>.now (by rfl')) hv' rfl fun x dx hx hdx=>zfI hk F all har hlen ne RR hdx fun H' sb L=>zc ⟨rfl,hq _ H' sb L⟩
   | mkPWriter =>
    obtain ⟨ls,F,hq⟩:=h
    refine oEA (abs1 hv) fun y yB a1=>?_; obtain rfl:=yB
    exact zgN O SA R2 G hsz zkh c_pwInit (vs:=[nl ls]) (ys:=[y]) (fun x=>.now (by rfl')) hv' rfl fun x dx hx hdx=>zfv hk F (zc ⟨rfl,hq x dx hx hdx⟩)
   | mkLReader =>
    obtain ⟨oc,hl,hq⟩:=h
    refine oEA (abs1 hv) fun y yB a1=>?_; obtain rfl:=yB
    exact zgN O SA R2 G hsz zjF c_lrInit (vs:=[.bytes oc,iv 0,.none]) (ys:=[y,.int 0 609,.none]) (fun x=>.dflt 295 (by rfl') (by rfl') (by rfl')) (AbsL.cons a1 (AbsL.cons (zh (W:=(mkW prog w hp low XK).ofP q) 0 _) (AbsL.cons (zO (W:=(mkW prog w hp low XK).ofP q)) AbsL.nil))) rfl fun x dx hx hdx=>zfc hk hl (zc ⟨rfl,hq x dx hx hdx⟩)
   | mkLWriter =>
    obtain ⟨hq⟩:=h
    obtain rfl:=zmj hv
    exact zgN O SA R2 G hsz zjV c_lwInit (vs:=[]) (ys:=[]) (fun x=>.now (by rfl')) hv' rfl fun x dx hx hdx=>zfR (fun ad h1 h2=>zc ⟨rfl,hq x dx ad hx hdx h1 h2⟩) hdx
end
end Mine
end
section
namespace Mine.hd
theorem tw10012880186880212623:0=0:=rfl
theorem tw10024716035694756283:0=0:=rfl
theorem tw10030107230732127627:0=0:=rfl
theorem tw10111801491309104144:0=0:=rfl
theorem tw1013155817946168525:0=0:=rfl
theorem tw10216474801634566288:0=0:=rfl
theorem tw10246146449241189800:0=0:=rfl
theorem tw10403243965636340961:0=0:=rfl
theorem tw10404513684093684653:0=0:=rfl
theorem tw10409065472786389249:0=0:=rfl
theorem tw10424393626065333798:0=0:=rfl
theorem tw10458740792067480800:0=0:=rfl
theorem tw10542889226490290971:0=0:=rfl
theorem tw10603584201595350602:0=0:=rfl
theorem tw10678649693572172417:0=0:=rfl
theorem tw10727248033764811480:0=0:=rfl
theorem tw10738003575532504788:0=0:=rfl
theorem tw10743916045514856203:0=0:=rfl
theorem tw10752148897807903841:0=0:=rfl
theorem tw10784824025267889561:0=0:=rfl
theorem tw10792051664901133789:0=0:=rfl
theorem tw10879034167726328663:0=0:=rfl
theorem tw10919297434634762262:0=0:=rfl
theorem tw10949625832625181284:0=0:=rfl
theorem tw1097998534492414930:0=0:=rfl
theorem tw11011131195910976488:0=0:=rfl
theorem tw11032806212648032379:0=0:=rfl
theorem tw11079593142295127227:0=0:=rfl
theorem tw11117797201346649052:0=0:=rfl
theorem tw11128854368766332075:0=0:=rfl
theorem tw11136197038861592535:0=0:=rfl
theorem tw11151547217846952531:0=0:=rfl
theorem tw11162318198679636149:0=0:=rfl
theorem tw11210553801493137410:0=0:=rfl
theorem tw11213053971927718326:0=0:=rfl
theorem tw11251137523995926341:0=0:=rfl
theorem tw1129884963351977449:0=0:=rfl
theorem tw11319097763535126812:0=0:=rfl
theorem tw11319892378374348655:0=0:=rfl
theorem tw11389486352061984695:0=0:=rfl
theorem tw11402939732021071671:0=0:=rfl
theorem tw11453337170805244720:0=0:=rfl
theorem tw11465210709893060100:0=0:=rfl
theorem tw11513968764499736323:0=0:=rfl
theorem tw11551083187376567056:0=0:=rfl
theorem tw11631869004601391166:0=0:=rfl
theorem tw11652457597714270106:0=0:=rfl
theorem tw11660266114150955751:0=0:=rfl
theorem tw11713075325732132258:0=0:=rfl
theorem tw11754176132448286083:0=0:=rfl
theorem tw11778180911958503814:0=0:=rfl
theorem tw11801993109049149486:0=0:=rfl
theorem tw11917015161858427179:0=0:=rfl
theorem tw11923718838393308171:0=0:=rfl
theorem tw1194904439430580092:0=0:=rfl
theorem tw11953376511379268794:0=0:=rfl
theorem tw1197925565968671727:0=0:=rfl
theorem tw12023040214023829324:0=0:=rfl
theorem tw12070051907170230399:0=0:=rfl
theorem tw12092154237167983948:0=0:=rfl
theorem tw12112201142124510154:0=0:=rfl
theorem tw12113243949977362033:0=0:=rfl
theorem tw12127338746724423809:0=0:=rfl
theorem tw12173100003817136821:0=0:=rfl
theorem tw1222794163293265305:0=0:=rfl
theorem tw12271959270614036898:0=0:=rfl
theorem tw12399718760709695909:0=0:=rfl
theorem tw12410138535482941034:0=0:=rfl
theorem tw1241404454085649124:0=0:=rfl
theorem tw12487502673411948298:0=0:=rfl
theorem tw12575139184659369484:0=0:=rfl
theorem tw12602439190401603521:0=0:=rfl
theorem tw12614811148066621264:0=0:=rfl
theorem tw12631932088317031055:0=0:=rfl
theorem tw12647368939536790636:0=0:=rfl
theorem tw128238443518577317:0=0:=rfl
theorem tw12901994302517312135:0=0:=rfl
theorem tw12936449754285732098:0=0:=rfl
theorem tw12949589719889679912:0=0:=rfl
theorem tw13047593935725612058:0=0:=rfl
theorem tw13133211045375063716:0=0:=rfl
theorem tw13181700845877081190:0=0:=rfl
theorem tw13217225542625558698:0=0:=rfl
theorem tw13220430256171166289:0=0:=rfl
theorem tw13225837485096350037:0=0:=rfl
theorem tw13267510147771200024:0=0:=rfl
theorem tw13277076834127875243:0=0:=rfl
theorem tw13285133528070534704:0=0:=rfl
theorem tw13289513938125300765:0=0:=rfl
theorem tw13315533130655954831:0=0:=rfl
theorem tw13321331477185743149:0=0:=rfl
theorem tw13330244855972007585:0=0:=rfl
theorem tw13368278939475635651:0=0:=rfl
theorem tw13372043803930879067:0=0:=rfl
theorem tw13389116031464166691:0=0:=rfl
theorem tw13409441903868389331:0=0:=rfl
theorem tw13431754692932380062:0=0:=rfl
theorem tw13466754112058979494:0=0:=rfl
theorem tw13518370688599389936:0=0:=rfl
theorem tw1359830224848277088:0=0:=rfl
theorem tw13609717118414637909:0=0:=rfl
theorem tw13638418597567726942:0=0:=rfl
theorem tw13642289790063256904:0=0:=rfl
theorem tw13653084951223439035:0=0:=rfl
theorem tw13770079208771991547:0=0:=rfl
theorem tw13783031573616600631:0=0:=rfl
theorem tw13790719812936386609:0=0:=rfl
theorem tw13828106393651249627:0=0:=rfl
theorem tw1382963296337349011:0=0:=rfl
theorem tw13855946660403688772:0=0:=rfl
theorem tw13866372431405929976:0=0:=rfl
theorem tw13893168526513508166:0=0:=rfl
theorem tw13903934854276604550:0=0:=rfl
theorem tw13919464512627920130:0=0:=rfl
theorem tw14060154772996877548:0=0:=rfl
theorem tw14103535550066685397:0=0:=rfl
theorem tw1413172679324656950:0=0:=rfl
theorem tw14352634086879598012:0=0:=rfl
theorem tw14353793391729792155:0=0:=rfl
theorem tw1439246655266547700:0=0:=rfl
theorem tw14400467628812073631:0=0:=rfl
theorem tw14457593812595234344:0=0:=rfl
theorem tw14478148883734587675:0=0:=rfl
theorem tw14553816603554493358:0=0:=rfl
theorem tw14557740640979810142:0=0:=rfl
theorem tw14560493823538711346:0=0:=rfl
theorem tw14620637471214046174:0=0:=rfl
theorem tw14705683404202351889:0=0:=rfl
theorem tw14768889098011018680:0=0:=rfl
theorem tw14892549342360969540:0=0:=rfl
theorem tw14896477498954680388:0=0:=rfl
theorem tw14906377314874228009:0=0:=rfl
theorem tw14955159897011116063:0=0:=rfl
theorem tw14960593345356199642:0=0:=rfl
theorem tw14980023328507725902:0=0:=rfl
theorem tw15042006015671813226:0=0:=rfl
theorem tw15043168886218598503:0=0:=rfl
theorem tw1506431575118746342:0=0:=rfl
theorem tw15083628210047938546:0=0:=rfl
theorem tw15089522573102190283:0=0:=rfl
theorem tw15166520500009309586:0=0:=rfl
theorem tw15220180469806662145:0=0:=rfl
theorem tw15279998641719260112:0=0:=rfl
theorem tw15344866539931968096:0=0:=rfl
theorem tw15367242080415987702:0=0:=rfl
theorem tw15368132723985388332:0=0:=rfl
theorem tw15411387601460861337:0=0:=rfl
theorem tw15416985209724490359:0=0:=rfl
theorem tw15422856539912107476:0=0:=rfl
theorem tw15463257786427224491:0=0:=rfl
theorem tw15508949281206285077:0=0:=rfl
theorem tw15529170255622000948:0=0:=rfl
theorem tw15595854959937240912:0=0:=rfl
theorem tw15615420239508185596:0=0:=rfl
theorem tw15615537253650120727:0=0:=rfl
theorem tw15673258824015622330:0=0:=rfl
theorem tw15683763237869141255:0=0:=rfl
theorem tw15759970867653108152:0=0:=rfl
theorem tw15790720579355451973:0=0:=rfl
theorem tw1580110805410547442:0=0:=rfl
theorem tw15833661619300960221:0=0:=rfl
theorem tw15837987909243819085:0=0:=rfl
theorem tw15852365999677673905:0=0:=rfl
theorem tw1589133516308662214:0=0:=rfl
theorem tw15910714762333108613:0=0:=rfl
theorem tw15946388913382835224:0=0:=rfl
theorem tw15967140613478806237:0=0:=rfl
theorem tw1600037746751723098:0=0:=rfl
theorem tw16006246977917349235:0=0:=rfl
theorem tw16007149819294483003:0=0:=rfl
theorem tw16011055738799735888:0=0:=rfl
theorem tw16029623286316568529:0=0:=rfl
theorem tw16039824993472781790:0=0:=rfl
theorem tw16056359734778111409:0=0:=rfl
theorem tw16064382804478563927:0=0:=rfl
theorem tw16091413853298234908:0=0:=rfl
theorem tw1610171440888473627:0=0:=rfl
theorem tw16136394107512358855:0=0:=rfl
theorem tw16154546982801380032:0=0:=rfl
theorem tw16155205043701107222:0=0:=rfl
theorem tw16157073509204512506:0=0:=rfl
theorem tw16171809288044610508:0=0:=rfl
theorem tw16194383521188589630:0=0:=rfl
theorem tw16240987189780228909:0=0:=rfl
theorem tw16259696140248634718:0=0:=rfl
theorem tw162610821266807592:0=0:=rfl
theorem tw16288478824909460495:0=0:=rfl
theorem tw16299908979028503884:0=0:=rfl
theorem tw16302227732802510677:0=0:=rfl
theorem tw16412773359747925120:0=0:=rfl
theorem tw16432713993328977331:0=0:=rfl
theorem tw16473244170626142550:0=0:=rfl
theorem tw16634568088961857937:0=0:=rfl
theorem tw16649331688326792143:0=0:=rfl
theorem tw16713699803418581334:0=0:=rfl
theorem tw16722109127936396110:0=0:=rfl
theorem tw16772102934027710169:0=0:=rfl
theorem tw16794629799341752650:0=0:=rfl
theorem tw16828841361933241965:0=0:=rfl
theorem tw16853341256802265648:0=0:=rfl
theorem tw16904818350239718627:0=0:=rfl
theorem tw16920754564084929960:0=0:=rfl
theorem tw16945582573551092051:0=0:=rfl
theorem tw16970440968685349367:0=0:=rfl
theorem tw1699103778626983548:0=0:=rfl
theorem tw17047115858639842297:0=0:=rfl
theorem tw17177331786930743035:0=0:=rfl
theorem tw17183224562656869120:0=0:=rfl
theorem tw17213754286329925777:0=0:=rfl
theorem tw17234923516513369237:0=0:=rfl
theorem tw17252143746492648416:0=0:=rfl
theorem tw17258206423299326598:0=0:=rfl
theorem tw17311223219408574766:0=0:=rfl
theorem tw17330945745186091897:0=0:=rfl
theorem tw17377529257436501650:0=0:=rfl
theorem tw17387473266821786944:0=0:=rfl
theorem tw17420951861521290806:0=0:=rfl
theorem tw17447410573909459338:0=0:=rfl
theorem tw17542962492245011380:0=0:=rfl
theorem tw17574625026820762457:0=0:=rfl
theorem tw17588044629489971554:0=0:=rfl
theorem tw17599816209265215132:0=0:=rfl
theorem tw1760603350576429475:0=0:=rfl
theorem tw17606422857730326317:0=0:=rfl
theorem tw17650839729002327288:0=0:=rfl
theorem tw17672654358674132775:0=0:=rfl
theorem tw17681399029576232318:0=0:=rfl
theorem tw17714235663813219645:0=0:=rfl
theorem tw17739348878880393726:0=0:=rfl
theorem tw1781861727890032366:0=0:=rfl
theorem tw17839855588491291079:0=0:=rfl
theorem tw17843490464661113860:0=0:=rfl
theorem tw17893044597097874663:0=0:=rfl
theorem tw1789384378930872249:0=0:=rfl
theorem tw17903497710992402801:0=0:=rfl
theorem tw17919194246423945575:0=0:=rfl
theorem tw17986969038992634876:0=0:=rfl
theorem tw1800889605409440832:0=0:=rfl
theorem tw18093812233618175256:0=0:=rfl
theorem tw18103342009636024947:0=0:=rfl
theorem tw18166333605607142505:0=0:=rfl
theorem tw18185175575083235020:0=0:=rfl
theorem tw18219297243305740317:0=0:=rfl
theorem tw18241275227582772068:0=0:=rfl
theorem tw18245042118932799458:0=0:=rfl
theorem tw18264374347568628810:0=0:=rfl
theorem tw18291419657060728153:0=0:=rfl
theorem tw18293732401869909652:0=0:=rfl
theorem tw18293851220164018083:0=0:=rfl
theorem tw18300207936620678264:0=0:=rfl
theorem tw18322514126500204803:0=0:=rfl
theorem tw1836080755315867724:0=0:=rfl
theorem tw1847840615245081061:0=0:=rfl
theorem tw1848646778235469078:0=0:=rfl
theorem tw1865391376527767206:0=0:=rfl
theorem tw1869635642477389258:0=0:=rfl
theorem tw1882180444382439491:0=0:=rfl
theorem tw189712035060473897:0=0:=rfl
theorem tw190519026028168232:0=0:=rfl
theorem tw1997569388931296116:0=0:=rfl
theorem tw2068664650715991707:0=0:=rfl
theorem tw2101469004524951375:0=0:=rfl
theorem tw2114630138375439770:0=0:=rfl
theorem tw2167537188350426706:0=0:=rfl
theorem tw2195365466389143174:0=0:=rfl
theorem tw2216850387143573719:0=0:=rfl
theorem tw2252305205657439004:0=0:=rfl
theorem tw22551697357593593:0=0:=rfl
theorem tw226724450230711188:0=0:=rfl
theorem tw2274498078352570744:0=0:=rfl
theorem tw2315301623876862497:0=0:=rfl
theorem tw2327210489368252092:0=0:=rfl
theorem tw2329189449893159454:0=0:=rfl
theorem tw2386827423013361158:0=0:=rfl
theorem tw2391449824757734642:0=0:=rfl
theorem tw2442259710966052079:0=0:=rfl
theorem tw2608437505485318709:0=0:=rfl
theorem tw26425463804135960:0=0:=rfl
theorem tw2708950531961675432:0=0:=rfl
theorem tw2788664435532181463:0=0:=rfl
theorem tw280609765759037681:0=0:=rfl
theorem tw2845679848157327705:0=0:=rfl
theorem tw2867327485932766208:0=0:=rfl
theorem tw2887051446865420828:0=0:=rfl
theorem tw2930668341846507884:0=0:=rfl
theorem tw2999033326186475339:0=0:=rfl
theorem tw3008623586974134963:0=0:=rfl
theorem tw3085183777334472315:0=0:=rfl
theorem tw3182187488490625086:0=0:=rfl
theorem tw3219085151875037572:0=0:=rfl
theorem tw3229955645248102723:0=0:=rfl
theorem tw3259873300814134281:0=0:=rfl
theorem tw3350844169311001129:0=0:=rfl
theorem tw3429492842335990350:0=0:=rfl
theorem tw3451239065008710300:0=0:=rfl
theorem tw3480954088277226078:0=0:=rfl
theorem tw3493717111155160527:0=0:=rfl
theorem tw3571134770919094901:0=0:=rfl
theorem tw3646829019195819677:0=0:=rfl
theorem tw3694398316872202419:0=0:=rfl
theorem tw3704167492566942397:0=0:=rfl
theorem tw3759623122121258479:0=0:=rfl
theorem tw3789350110615891812:0=0:=rfl
theorem tw3795277891434052102:0=0:=rfl
theorem tw3835178325580970078:0=0:=rfl
theorem tw3919010098100093602:0=0:=rfl
theorem tw395138700845864316:0=0:=rfl
theorem tw3953601041324332601:0=0:=rfl
theorem tw4014540891139286612:0=0:=rfl
theorem tw4015398097383911347:0=0:=rfl
theorem tw402640490398009360:0=0:=rfl
theorem tw4065347644161347641:0=0:=rfl
theorem tw4086058157674990017:0=0:=rfl
theorem tw4138081844389336918:0=0:=rfl
theorem tw4172343393113369950:0=0:=rfl
theorem tw4225703048834024713:0=0:=rfl
theorem tw4269800648957611565:0=0:=rfl
theorem tw4272726840584523970:0=0:=rfl
theorem tw4275282108206863653:0=0:=rfl
theorem tw4297731678662094536:0=0:=rfl
theorem tw432457690288141553:0=0:=rfl
theorem tw4343815846532229135:0=0:=rfl
theorem tw4377701919642642989:0=0:=rfl
theorem tw4383666589626881386:0=0:=rfl
theorem tw4402725079659364252:0=0:=rfl
theorem tw442638132926106271:0=0:=rfl
theorem tw4478166936697009375:0=0:=rfl
theorem tw4478964076566166474:0=0:=rfl
theorem tw4494801613693538912:0=0:=rfl
theorem tw461538923250603899:0=0:=rfl
theorem tw464777395874653626:0=0:=rfl
theorem tw4702841417184801058:0=0:=rfl
theorem tw4706079058837389440:0=0:=rfl
theorem tw4856431653887292112:0=0:=rfl
theorem tw4870687313549177768:0=0:=rfl
theorem tw4993660671451451078:0=0:=rfl
theorem tw5009564483982726761:0=0:=rfl
theorem tw5036846961687405229:0=0:=rfl
theorem tw5054737718236178183:0=0:=rfl
theorem tw5130813555471234732:0=0:=rfl
theorem tw5174551420813472067:0=0:=rfl
theorem tw5190246844813560578:0=0:=rfl
theorem tw519851828213033955:0=0:=rfl
theorem tw5245234834050458271:0=0:=rfl
theorem tw5282504435634884242:0=0:=rfl
theorem tw5292301768408028288:0=0:=rfl
theorem tw5343241284826551009:0=0:=rfl
theorem tw5363564295841288755:0=0:=rfl
theorem tw5366084841770067474:0=0:=rfl
theorem tw5373601922739893978:0=0:=rfl
theorem tw5416991563250132298:0=0:=rfl
theorem tw5480042469492414594:0=0:=rfl
theorem tw5505005885091257285:0=0:=rfl
theorem tw5511420028821071320:0=0:=rfl
theorem tw5562173858411828344:0=0:=rfl
theorem tw5608270528595127837:0=0:=rfl
theorem tw5629675986466331604:0=0:=rfl
theorem tw5657824000916062451:0=0:=rfl
theorem tw5716766192118558609:0=0:=rfl
theorem tw5781342201191254626:0=0:=rfl
theorem tw5961118342813265553:0=0:=rfl
theorem tw5978321128707920903:0=0:=rfl
theorem tw6011435300635115734:0=0:=rfl
theorem tw6038821095411175016:0=0:=rfl
theorem tw6060742912462422084:0=0:=rfl
theorem tw6082411064634330575:0=0:=rfl
theorem tw6123773746684550334:0=0:=rfl
theorem tw6164396464334811476:0=0:=rfl
theorem tw6184460063843016694:0=0:=rfl
theorem tw6224325737271954842:0=0:=rfl
theorem tw6264232113106981867:0=0:=rfl
theorem tw6291416237084387574:0=0:=rfl
theorem tw6305734824756694309:0=0:=rfl
theorem tw6394381022753523788:0=0:=rfl
theorem tw6407587892757256292:0=0:=rfl
theorem tw6411954120941647267:0=0:=rfl
theorem tw6438293893037913957:0=0:=rfl
theorem tw6442067068224118133:0=0:=rfl
theorem tw6528754448969337418:0=0:=rfl
theorem tw6545403380812914513:0=0:=rfl
theorem tw6578402527460240241:0=0:=rfl
theorem tw6598312636042714100:0=0:=rfl
theorem tw6756286927057158279:0=0:=rfl
theorem tw6759412095888398321:0=0:=rfl
theorem tw6767318904944593275:0=0:=rfl
theorem tw6785817131721698500:0=0:=rfl
theorem tw6804821044290156842:0=0:=rfl
theorem tw6819123309680001836:0=0:=rfl
theorem tw6830512106363814048:0=0:=rfl
theorem tw6838551448383532254:0=0:=rfl
theorem tw6868836192036940282:0=0:=rfl
theorem tw6882427118574961969:0=0:=rfl
theorem tw6906073325868019850:0=0:=rfl
theorem tw6924109203229866365:0=0:=rfl
theorem tw6931407450589930559:0=0:=rfl
theorem tw6965799899956892507:0=0:=rfl
theorem tw697623264460660564:0=0:=rfl
theorem tw6982297934935202809:0=0:=rfl
theorem tw6998783941825042932:0=0:=rfl
theorem tw701787995468756871:0=0:=rfl
theorem tw7023726343779634624:0=0:=rfl
theorem tw7068711184596962023:0=0:=rfl
theorem tw7082855905992002993:0=0:=rfl
theorem tw7120233287515763914:0=0:=rfl
theorem tw728884934406724761:0=0:=rfl
theorem tw7296583596125217682:0=0:=rfl
theorem tw7355570028127101125:0=0:=rfl
theorem tw7494724483528729301:0=0:=rfl
theorem tw7510230149288206974:0=0:=rfl
theorem tw7512474625130614241:0=0:=rfl
theorem tw7519716089354478335:0=0:=rfl
theorem tw7523672394736509286:0=0:=rfl
theorem tw7526368328331116154:0=0:=rfl
theorem tw7534799579077118603:0=0:=rfl
theorem tw7540655947842036084:0=0:=rfl
theorem tw7540741092611519060:0=0:=rfl
theorem tw7610815399733428385:0=0:=rfl
theorem tw7654286748164834634:0=0:=rfl
theorem tw7721951785955056133:0=0:=rfl
theorem tw7754304195085646258:0=0:=rfl
theorem tw7763873220885509757:0=0:=rfl
theorem tw7880807054014371918:0=0:=rfl
theorem tw7891253978561527248:0=0:=rfl
theorem tw7914949630228597729:0=0:=rfl
theorem tw7943647380988272828:0=0:=rfl
theorem tw8004679753235328684:0=0:=rfl
theorem tw8025032847418708242:0=0:=rfl
theorem tw8047900516022102942:0=0:=rfl
theorem tw8068729725432388964:0=0:=rfl
theorem tw8112040973832200146:0=0:=rfl
theorem tw8117029840178788049:0=0:=rfl
theorem tw8134915037123179040:0=0:=rfl
theorem tw8184699220007379433:0=0:=rfl
theorem tw8228950375871286339:0=0:=rfl
theorem tw8268277133935991078:0=0:=rfl
theorem tw8343274005884668182:0=0:=rfl
theorem tw8356816923877370021:0=0:=rfl
theorem tw8428860471423672150:0=0:=rfl
theorem tw845060206244984605:0=0:=rfl
theorem tw8458067239894703972:0=0:=rfl
theorem tw8493152586797012548:0=0:=rfl
theorem tw8516288146210602744:0=0:=rfl
theorem tw8609351116199087170:0=0:=rfl
theorem tw8671608845466749128:0=0:=rfl
theorem tw8683543433012000357:0=0:=rfl
theorem tw8684328023851190084:0=0:=rfl
theorem tw8716120427605611371:0=0:=rfl
theorem tw8727321023445011275:0=0:=rfl
theorem tw8735263284916673568:0=0:=rfl
theorem tw8789358453043137523:0=0:=rfl
theorem tw8879563391730754479:0=0:=rfl
theorem tw8934143017859847078:0=0:=rfl
theorem tw8959176491354863721:0=0:=rfl
theorem tw8960069828448710407:0=0:=rfl
theorem tw8990313861142287110:0=0:=rfl
theorem tw9170477692918782315:0=0:=rfl
theorem tw920214292312260371:0=0:=rfl
theorem tw922143313871775805:0=0:=rfl
theorem tw9228397985900620932:0=0:=rfl
theorem tw9244321171653502345:0=0:=rfl
theorem tw9298403506768410418:0=0:=rfl
theorem tw9345676750909349944:0=0:=rfl
theorem tw9386895884608548742:0=0:=rfl
theorem tw9398405308114057262:0=0:=rfl
theorem tw9421340871869096474:0=0:=rfl
theorem tw9430268157657104642:0=0:=rfl
theorem tw9496365245306024149:0=0:=rfl
theorem tw9499510787657705874:0=0:=rfl
theorem tw9566141503761928105:0=0:=rfl
theorem tw9641152695372364146:0=0:=rfl
theorem tw9657781627882305391:0=0:=rfl
theorem tw9673543361469618366:0=0:=rfl
theorem tw9702936160620672325:0=0:=rfl
theorem tw9719896912496429819:0=0:=rfl
theorem tw9748044761591592747:0=0:=rfl
theorem tw9763420282994701918:0=0:=rfl
theorem tw978945382295711627:0=0:=rfl
theorem tw9908193460736022307:0=0:=rfl
theorem tw991583007596301734:0=0:=rfl
theorem tw9960721518486171458:0=0:=rfl
end Mine.hd
end
section
set_option tactic.hygienic true
open PySem PySem.W PyProof.Rows
section
open Lean in
local macro_rules
 | `(tactic| refine $e:term)=>do
  let .node _ ``Lean.Parser.Term.app #[f,as]:=e.raw | Macro.throwUnsupported
  unless f.isIdent&&f.getId == ``PySem.W.holds_open do Macro.throwUnsupported
  let g:=mkIdent ``Mine.holdsC
  let last ← `((by exact (‹Mine.Walk Mine.kf.heap_1› _ _ _ _ _ rfl)))
  let as:=as.setArgs (as.getArgs.pop.push last.raw)
  `(tactic| refine $(⟨Lean.Syntax.node .none ``Lean.Parser.Term.app #[g,as]⟩))
set_option maxHeartbeats 8000000 in
set_option Elab.async true in
theorem Mine.hd (walk:Mine.Walk Mine.kf.heap_1):(PySem.Challenge.rw_tg0041_01).Holds:=by
 w_on; o_law; k_head
 case hw=>w_witness2
end
end
section
open PySem PySem.W PyProof.Rows
namespace Mine
theorem ziL:∀ {xs:List WData},(∀ d∈xs,∃ i,d=WData.int i)->∃ ns:List Int,xs=ns.map .int
 | [],_=>⟨[],rfl⟩
 | d::r,h=>by
  obtain ⟨i,rfl⟩:=h d (.head _)
  obtain ⟨ns,rfl⟩:=ziL fun d hd=>h d (.tail _ hd)
  exact ⟨i::ns,rfl⟩
theorem zmy (a:List WData) (c:List WData):(OpenRow.toRowW (OpenLaw.row PySem.Challenge.rw_tg0041_01)).claim.post a (.bool true) c=true:=by
 have h1:WShape.has [] (.bool true) .bool=true:=rfl
 have h2:WTm.holds [] (.eq .res (.lit (.bool true))) { args:=a,res:=some (.bool true),after:=c }=true:=by
  simp [WTm.holds,WTm.value,same_self]
 exact Bool.and_eq_true_iff.mpr ⟨h1,h2⟩
theorem zko {args:List WData} (h:(OpenRow.toRowW (OpenLaw.row PySem.Challenge.rw_tg0041_01)).claim.pre args=true):∃ ns:List Int,args=[.list (ns.map .int)]/\ns.length<=63:=by
 obtain ⟨hs,hp⟩:=pre_splitW h
 have hs:WShape.hasAll [] args [.list .int]=true:=hs
 refine zd (hasAllW_cons hs) fun d r yC h1 h2=>?_; obtain rfl:=yC
 obtain rfl:=hasAllW_nil h2
 refine oEA (hasW_list h1) fun xs yB h3=>?_; obtain rfl:=yB
 obtain ⟨ns,rfl⟩:=ziL fun d hd=>hasW_int (hasItemsW_at h3 d hd)
 refine mEA ns rfl ?_
 have hp:WTm.holds [] (.and (.not (.lt (.lit (.int (63:Nat))) (.len (.arg 0)))) (.lit (.bool true))) { args:=[.list (ns.map .int)] }=true:=hp
 simp [WTm.holds,WTm.value,less?,Num.less?] at hp
 refine Nat.le_of_not_lt fun q=>?_
 rw [decide_eq_true (show (63:Int) < (ns.length:Int) from Int.ofNat_lt.mpr q)] at hp
 exact absB hp
theorem wok {prog:Program} {w:World} {h:Heap} {low:sysModules < h.objs.size} (X:(kf.heap_1 w.params).In h) {mg mb:Str→Option Value} (h1:h.Ns mainGlobals mg) (h2:h.Ns builtinsNs mb) (h3:∀ x:Str,x≠"__name__"→mb x=bootBuiltins x) (h4:h.NoLimit):Wok (mkW prog w h low X) fnA :=
 ⟨X,(zn mg mb h1 h2 h3),h4,kfn _,knum _,kblt _,(kexc _).1,(kexc _).2,kcut _,kmeth _⟩
theorem low_of {K:Frag} {h:Heap} (X:K.In h) {T:Addr} (h0:isSome' (K.lookup T)=true) (hT:sysModules < T):sysModules < h.objs.size:=by
 cases q:K.lookup T with
 | none=>rw [q] at h0; exact absB h0
 | some o=>exact Nat.lt_trans hT (Heap.lt_size (X _ _ q))
theorem zeJ {P:Params} {h:Heap} {D:Addr->Prop}:∀ {ns:List Int} {vs:List Value},WellAll P h vs (ns.map .int)->AbsL kcls D h (ns.map V.int) vs
 | [],vs,a=>by cases a; exact AbsL.nil
 | n::ns,vs,a=>by
  cases a with
  | cons a b =>
   cases a with
   | int i t=>exact AbsL.cons (⟨t,rfl⟩) (zeJ b)
theorem walk:Walk kf.heap_1:=fun pq loose XP d kwd hname w sA s₁ mg mb G XI a o pm cd doc dV kV ho hod hcr hd hm hg args vals as hpre hlay hreads hwell hsys=>by
 have low:=low_of (T:=507) XI (by rfl') (by decide)
 have O:Wok (mkW (OpenRow.toRowW (OpenLaw.row PySem.Challenge.rw_tg0041_01)).prog w s₁.heap low XI) fnA:=wok XI G.T.g G.T.b G.T.builtins G.T.nolimit
 have ha:a=507:=by
  have:=mg_of XI G.T.g (show nsIn (kf.heap_1 w.params) mainGlobals (Str.ofString "law")=some (some (.ref 507)) by rfl')
  rw [hname,this] at hm
  cases hm; rfl
 subst ha
 refine oEA (zko hpre) fun ns yB hl=>?_; obtain rfl:=yB
 replace hl:ns.length<=big:=Nat.le_trans hl (by decide)
 obtain ⟨b,vs,rfl,hb,hi⟩:∃ b vs,vals=[.ref b]∧s₁.heap.get? b=some { cls:=.type "list",data:=.seq (List.toArray vs) }∧WellAll w.params s₁.heap vs (ns.map .int):=by
  cases hwell with
  | cons h1 h2 =>
   cases h2
   cases h1 with
   | list h3 h4=>exact zn _ _ rfl h3 h4
 have G0:Gd ((mkW (OpenRow.toRowW (OpenLaw.row PySem.Challenge.rw_tg0041_01)).prog w s₁.heap low XI).ofP fun _=>False) [] E0 s₁.heap :=
  ⟨⟨fun _ _ e=>e,fun a o e=>(nomatch e)⟩,fun L hL=>(nomatch hL),trivial,fun a p=>p.elim,fun L hL=>(nomatch hL)⟩
 have R0:Rm (2*8) callerA []:=⟨by decide,by decide,rfl,rfl⟩
 have hv:AbsL kcls (((mkW (OpenRow.toRowW (OpenLaw.row PySem.Challenge.rw_tg0041_01)).prog w s₁.heap low XI).ofP fun _=>False).D E0) s₁.heap [.lst (ns.map .int)] [.ref b] :=
  AbsL.cons (by exact (zx b vs rfl (fun z=>z.elim (fun z=>z rfl) id) ((zbX _ hb rfl rfl 0 rfl)) (zeJ hi))) AbsL.nil
 refine wpAny_mono (specs O 8 (fun _=>False) .law [.lst (ns.map .int)] [.ref b] callerA [] s₁ E0 (fun v H=>v=.bool true) (fun _=>False) R0 G0 (Nat.le_refl _) hv ⟨by decide,ns,hl,rfl⟩) (fun v s' z=>?_) fun e s' z=>?_
 ·refine zv z fun v' H' av g x hos hgens yH=>?_; obtain rfl:=yH
  have hv:v=.bool true:=av
  subst hv
  exact ⟨.inl (za7 (.bool true) (.bool true) ([]) rfl (fun cls=>rfl) (.bool true) (zmy _ _) (fun _=>⟨List.nodup_nil,fun a h=>(nomatch h)⟩)),.of_keep fun b o e=>x.keep b o e rfl (fun z=>nomatch z) (fun z=>nomatch z),hos,.of_eq (hgens.trans hg)⟩
 ·refine oEA z fun H' _ z=>?_
  exact z.elim
theorem law_holds:(PySem.Challenge.rw_tg0041_01).Holds:=Mine.hd walk
end Mine
end
end
end
theorem PySem.Challenge.cw_tg0041_01_holds : PySem.Challenge.rw_tg0041_01.Holds := by
  exact Mine.law_holds
