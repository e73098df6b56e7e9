import PyProof.Rows.All
import Wide.All
import OpenK.AllK
import Wide.FinOn
import Lean
import PySem.Challenge.RW_xw0134_01
set_option Elab.async false
set_option maxRecDepth 100000
set_option maxHeartbeats 2000000
set_option linter.unusedVariables false
set_option linter.unusedSimpArgs false
set_option bootstrap.genMatcherCode false
set_option tactic.hygienic false
set_option genSizeOf false
set_option genInjectivity false
set_option genCtorIdx false
open PySem PySem.W PyProof.Rows
namespace Mine
section
abbrev VP:=PySem.Value->PySem.Shared->Prop
abbrev Kp (h h':PySem.Heap):Prop:=∀ b o,h.get? b=some o->h'.get? b=some o
theorem ea1_1 {α:Sort _} {p:α->Prop} {G:Prop} (H:∃ x,p x) (F:∀ x,p x->G):G:=H.elim F
theorem ea2_1 {α β:Sort _} {p:α->β->Prop} {G:Prop} (H:∃ x y,p x y) (F:∀ x y,p x y->G):G:=ea1_1 H fun x h=>ea1_1 h (F x)
theorem ea3_1 {α β γ:Sort _} {p:α->β->γ->Prop} {G:Prop} (H:∃ x y z,p x y z) (F:∀ x y z,p x y z->G):G:=ea2_1 H fun x y h=>ea1_1 h (F x y)
theorem ea4_1 {α β γ δ:Sort _} {p:α->β->γ->δ->Prop} {G:Prop} (H:∃ x y z u,p x y z u) (F:∀ x y z u,p x y z u->G):G:=ea3_1 H fun x y z h=>ea1_1 h (F x y z)
theorem ea6_1 {α β γ δ ε ζ:Sort _} {p:α->β->γ->δ->ε->ζ->Prop} {G:Prop} (H:∃ x y z u v w,p x y z u v w) (F:∀ x y z u v w,p x y z u v w->G):G:=ea4_1 H fun x y z u h=>ea2_1 h (F x y z u)
theorem ea8_1 {α β γ δ ε ζ η θ:Sort _} {p:α->β->γ->δ->ε->ζ->η->θ->Prop} {G:Prop} (H:∃ x y z u v w s t,p x y z u v w s t) (F:∀ x y z u v w s t,p x y z u v w s t->G):G:=ea6_1 H fun x y z u v w h=>ea2_1 h (F x y z u v w)
theorem ea0_2 {a b G:Prop} (H:a/\b) (F:a->b->G):G:=F H.1 H.2
theorem ea0_3 {a b c G:Prop} (H:a/\b/\c) (F:a->b->c->G):G:=ea0_2 H.2 (F H.1)
theorem ea0_4 {a b c d G:Prop} (H:a/\b/\c/\d) (F:a->b->c->d->G):G:=ea0_3 H.2 (F H.1)
theorem ea0_5 {a b c d e G:Prop} (H:a/\b/\c/\d/\e) (F:a->b->c->d->e->G):G:=ea0_4 H.2 (F H.1)
theorem ea0_6 {a b c d e f G:Prop} (H:a/\b/\c/\d/\e/\f) (F:a->b->c->d->e->f->G):G:=ea0_5 H.2 (F H.1)
theorem ea0_7 {a b c d e f g G:Prop} (H:a/\b/\c/\d/\e/\f/\g) (F:a->b->c->d->e->f->g->G):G:=ea0_6 H.2 (F H.1)
theorem ea0_8 {a b c d e f g h G:Prop} (H:a/\b/\c/\d/\e/\f/\g/\h) (F:a->b->c->d->e->f->g->h->G):G:=ea0_7 H.2 (F H.1)
theorem ea0_9 {a b c d e f g h i G:Prop} (H:a/\b/\c/\d/\e/\f/\g/\h/\i) (F:a->b->c->d->e->f->g->h->i->G):G:=ea0_8 H.2 (F H.1)
theorem ea0_10 {a b c d e f g h i j G:Prop} (H:a/\b/\c/\d/\e/\f/\g/\h/\i/\j) (F:a->b->c->d->e->f->g->h->i->j->G):G:=ea0_9 H.2 (F H.1)
theorem ea0_11 {a b c d e f g h i j k G:Prop} (H:a/\b/\c/\d/\e/\f/\g/\h/\i/\j/\k) (F:a->b->c->d->e->f->g->h->i->j->k->G):G:=ea0_10 H.2 (F H.1)
theorem ea1_2 {α:Sort _} {a b:α->Prop} {G:Prop} (H:∃ x,a x/\b x) (F:∀ x,a x->b x->G):G:=ea1_1 H fun x h=>ea0_2 h (F x)
theorem ea1_3 {α:Sort _} {a b c:α->Prop} {G:Prop} (H:∃ x,a x/\b x/\c x) (F:∀ x,a x->b x->c x->G):G:=ea1_1 H fun x h=>ea0_3 h (F x)
theorem ea1_4 {α:Sort _} {a b c d:α->Prop} {G:Prop} (H:∃ x,a x/\b x/\c x/\d x) (F:∀ x,a x->b x->c x->d x->G):G:=ea1_1 H fun x h=>ea0_4 h (F x)
theorem ea1_5 {α:Sort _} {a b c d e:α->Prop} {G:Prop} (H:∃ x,a x/\b x/\c x/\d x/\e x) (F:∀ x,a x->b x->c x->d x->e x->G):G:=ea1_1 H fun x h=>ea0_5 h (F x)
theorem ea2_2 {α β:Sort _} {a b:α->β->Prop} {G:Prop} (H:∃ x y,a x y/\b x y) (F:∀ x y,a x y->b x y->G):G:=ea2_1 H fun x y h=>ea0_2 h (F x y)
theorem ea2_3 {α β:Sort _} {a b c:α->β->Prop} {G:Prop} (H:∃ x y,a x y/\b x y/\c x y) (F:∀ x y,a x y->b x y->c x y->G):G:=ea2_1 H fun x y h=>ea0_3 h (F x y)
theorem ea2_4 {α β:Sort _} {a b c d:α->β->Prop} {G:Prop} (H:∃ x y,a x y/\b x y/\c x y/\d x y) (F:∀ x y,a x y->b x y->c x y->d x y->G):G:=ea2_1 H fun x y h=>ea0_4 h (F x y)
theorem ea2_5 {α β:Sort _} {a b c d e:α->β->Prop} {G:Prop} (H:∃ x y,a x y/\b x y/\c x y/\d x y/\e x y) (F:∀ x y,a x y->b x y->c x y->d x y->e x y->G):G:=ea2_1 H fun x y h=>ea0_5 h (F x y)
theorem ea2_6 {α β:Sort _} {a b c d e f:α->β->Prop} {G:Prop} (H:∃ x y,a x y/\b x y/\c x y/\d x y/\e x y/\f x y) (F:∀ x y,a x y->b x y->c x y->d x y->e x y->f x y->G):G:=ea2_1 H fun x y h=>ea0_6 h (F x y)
theorem ea2_8 {α β:Sort _} {a b c d e f g h:α->β->Prop} {G:Prop} (H:∃ x y,a x y/\b x y/\c x y/\d x y/\e x y/\f x y/\g x y/\h x y) (F:∀ x y,a x y->b x y->c x y->d x y->e x y->f x y->g x y->h x y->G):G:=ea2_1 H fun x y h=>ea0_8 h (F x y)
theorem ea3_2 {α β γ:Sort _} {a b:α->β->γ->Prop} {G:Prop} (H:∃ x y z,a x y z/\b x y z) (F:∀ x y z,a x y z->b x y z->G):G:=ea3_1 H fun x y z h=>ea0_2 h (F x y z)
theorem ea3_3 {α β γ:Sort _} {a b c:α->β->γ->Prop} {G:Prop} (H:∃ x y z,a x y z/\b x y z/\c x y z) (F:∀ x y z,a x y z->b x y z->c x y z->G):G:=ea3_1 H fun x y z h=>ea0_3 h (F x y z)
theorem ea3_4 {α β γ:Sort _} {a b c d:α->β->γ->Prop} {G:Prop} (H:∃ x y z,a x y z/\b x y z/\c x y z/\d x y z) (F:∀ x y z,a x y z->b x y z->c x y z->d x y z->G):G:=ea3_1 H fun x y z h=>ea0_4 h (F x y z)
theorem ea3_5 {α β γ:Sort _} {a b c d e:α->β->γ->Prop} {G:Prop} (H:∃ x y z,a x y z/\b x y z/\c x y z/\d x y z/\e x y z) (F:∀ x y z,a x y z->b x y z->c x y z->d x y z->e x y z->G):G:=ea3_1 H fun x y z h=>ea0_5 h (F x y z)
theorem ea3_6 {α β γ:Sort _} {a b c d e f:α->β->γ->Prop} {G:Prop} (H:∃ x y z,a x y z/\b x y z/\c x y z/\d x y z/\e x y z/\f x y z) (F:∀ x y z,a x y z->b x y z->c x y z->d x y z->e x y z->f x y z->G):G:=ea3_1 H fun x y z h=>ea0_6 h (F x y z)
theorem ea4_5 {α β γ δ:Sort _} {a b c d e:α->β->γ->δ->Prop} {G:Prop} (H:∃ x y z u,a x y z u/\b x y z u/\c x y z u/\d x y z u/\e x y z u) (F:∀ x y z u,a x y z u->b x y z u->c x y z u->d x y z u->e x y z u->G):G:=ea4_1 H fun x y z u h=>ea0_5 h (F x y z u)
theorem ea6_4 {α β γ δ ε ζ:Sort _} {a b c d:α->β->γ->δ->ε->ζ->Prop} {G:Prop} (H:∃ x y z u v w,a x y z u v w/\b x y z u v w/\c x y z u v w/\d x y z u v w) (F:∀ x y z u v w,a x y z u v w->b x y z u v w->c x y z u v w->d x y z u v w->G):G:=ea6_1 H fun x y z u v w h=>ea0_4 h (F x y z u v w)
theorem ea6_5 {α β γ δ ε ζ:Sort _} {a b c d e:α->β->γ->δ->ε->ζ->Prop} {G:Prop} (H:∃ x y z u v w,a x y z u v w/\b x y z u v w/\c x y z u v w/\d x y z u v w/\e x y z u v w) (F:∀ x y z u v w,a x y z u v w->b x y z u v w->c x y z u v w->d x y z u v w->e x y z u v w->G):G:=ea6_1 H fun x y z u v w h=>ea0_5 h (F x y z u v w)
theorem nb {n m:Nat} (h:Nat.ble n m=true):n<=m:=Nat.le_of_ble_eq_true h
def tcR:Lean.Syntax:=.node .none `Lean.Parser.Tactic.tacticSeq #[.node .none `Lean.Parser.Tactic.tacticSeq1Indented #[.node .none `null #[.node .none `Lean.Parser.Tactic.tacticRfl #[.atom .none "rfl"]]]]
def tcK:Lean.Syntax:=.node .none `Lean.Parser.Tactic.tacticSeq #[.node .none `Lean.Parser.Tactic.tacticSeq1Indented #[.node .none `null #[.node .none `tacticKernel_rfl #[.atom .none "kernel_rfl"]]]]
theorem tp {n m:Nat} {P:Prop} (q:P) (h:autoParam (Nat.ble n m=true) tcR):n<=m/\P:=⟨nb h,q⟩
@[elab_as_elim] theorem qE.{u} {α:Sort u} {a:α} {P:α->Prop} {b:α} (h:a=b) (q:P b):P a:=h▸q
@[elab_as_elim] theorem qB.{u} {α:Sort u} {a:α} {P:α->Prop} {b:α} (h:b=a) (q:P b):P a:=h▸q
@[elab_as_elim] theorem gn.{u} {α:Sort u} {P:α->Prop} (a:α) (q:∀ x,P x):P a:=q a
@[elab_as_elim] theorem gnE.{u} {α:Sort u} {P:α->Prop} (a:α) (q:∀ x,a=x->P x):P a:=q a rfl
noncomputable def w0:PySem.World:=⟨fun ξ ξ=>0,{ strHash:=fun ξ=>0,shareClass:=fun ξ=>0,mergeTok:=id,idOf:=fun ξ=>0,idOfShared:=fun ξ ξ=>0,followText:=fun ξ=>true,idOfImm:=fun ξ=>0 }⟩
noncomputable def a0:PySem.Around:={}
noncomputable def d0:PySem.Drawn:={}
noncomputable def sh0:PySem.Shared:={}
section
variable {A:Type}
noncomputable def et1 (n:Nonempty (A)) (P:A->Prop):A:=@Classical.epsilon _ n fun t=>¬ P t
theorem al1 [n:Nonempty (A)] {P:A->Prop} (h:P (et1 n P)):∀ a,P a:=fun a=>Classical.byContradiction fun p=>Classical.epsilon_spec (p:=fun t:A=>¬ P t) ⟨(a),p⟩ h
end
section
variable {A B:Type}
noncomputable def et2 (n:Nonempty (A×B)) (P:A->B->Prop):A×B:=@Classical.epsilon _ n fun t=>¬ P t.1 t.2
theorem al2 [n:Nonempty (A×B)] {P:A->B->Prop} (h:P (et2 n P).1 (et2 n P).2):∀ a b,P a b:=fun a b=>Classical.byContradiction fun p=>Classical.epsilon_spec (p:=fun t:A×B=>¬ P t.1 t.2) ⟨(a,b),p⟩ h
end
section
variable {A B C:Type}
noncomputable def et3 (n:Nonempty (A×B×C)) (P:A->B->C->Prop):A×B×C:=@Classical.epsilon _ n fun t=>¬ P t.1 t.2.1 t.2.2
theorem al3 [n:Nonempty (A×B×C)] {P:A->B->C->Prop} (h:P (et3 n P).1 (et3 n P).2.1 (et3 n P).2.2):∀ a b c,P a b c:=fun a b c=>Classical.byContradiction fun p=>Classical.epsilon_spec (p:=fun t:A×B×C=>¬ P t.1 t.2.1 t.2.2) ⟨(a,b,c),p⟩ h
end
section
variable {A B C D:Type}
noncomputable def et4 (n:Nonempty (A×B×C×D)) (P:A->B->C->D->Prop):A×B×C×D:=@Classical.epsilon _ n fun t=>¬ P t.1 t.2.1 t.2.2.1 t.2.2.2
theorem al4 [n:Nonempty (A×B×C×D)] {P:A->B->C->D->Prop} (h:P (et4 n P).1 (et4 n P).2.1 (et4 n P).2.2.1 (et4 n P).2.2.2):∀ a b c d,P a b c d:=fun a b c d=>Classical.byContradiction fun p=>Classical.epsilon_spec (p:=fun t:A×B×C×D=>¬ P t.1 t.2.1 t.2.2.1 t.2.2.2) ⟨(a,b,c,d),p⟩ h
end
section
variable {A B C D E:Type}
noncomputable def et5 (n:Nonempty (A×B×C×D×E)) (P:A->B->C->D->E->Prop):A×B×C×D×E:=@Classical.epsilon _ n fun t=>¬ P t.1 t.2.1 t.2.2.1 t.2.2.2.1 t.2.2.2.2
theorem al5 [n:Nonempty (A×B×C×D×E)] {P:A->B->C->D->E->Prop} (h:P (et5 n P).1 (et5 n P).2.1 (et5 n P).2.2.1 (et5 n P).2.2.2.1 (et5 n P).2.2.2.2):∀ a b c d e,P a b c d e:=fun a b c d e=>Classical.byContradiction fun p=>Classical.epsilon_spec (p:=fun t:A×B×C×D×E=>¬ P t.1 t.2.1 t.2.2.1 t.2.2.2.1 t.2.2.2.2) ⟨(a,b,c,d,e),p⟩ h
end
section
variable {A B C D E F:Type}
noncomputable def et6 (n:Nonempty (A×B×C×D×E×F)) (P:A->B->C->D->E->F->Prop):A×B×C×D×E×F:=@Classical.epsilon _ n fun t=>¬ P t.1 t.2.1 t.2.2.1 t.2.2.2.1 t.2.2.2.2.1 t.2.2.2.2.2
theorem al6 [n:Nonempty (A×B×C×D×E×F)] {P:A->B->C->D->E->F->Prop} (h:P (et6 n P).1 (et6 n P).2.1 (et6 n P).2.2.1 (et6 n P).2.2.2.1 (et6 n P).2.2.2.2.1 (et6 n P).2.2.2.2.2):∀ a b c d e f,P a b c d e f:=fun a b c d e f=>Classical.byContradiction fun p=>Classical.epsilon_spec (p:=fun t:A×B×C×D×E×F=>¬ P t.1 t.2.1 t.2.2.1 t.2.2.2.1 t.2.2.2.2.1 t.2.2.2.2.2) ⟨(a,b,c,d,e,f),p⟩ h
end
section
variable {A B C D E F G:Type}
noncomputable def et7 (n:Nonempty (A×B×C×D×E×F×G)) (P:A->B->C->D->E->F->G->Prop):A×B×C×D×E×F×G:=@Classical.epsilon _ n fun t=>¬ P t.1 t.2.1 t.2.2.1 t.2.2.2.1 t.2.2.2.2.1 t.2.2.2.2.2.1 t.2.2.2.2.2.2
theorem al7 [n:Nonempty (A×B×C×D×E×F×G)] {P:A->B->C->D->E->F->G->Prop} (h:P (et7 n P).1 (et7 n P).2.1 (et7 n P).2.2.1 (et7 n P).2.2.2.1 (et7 n P).2.2.2.2.1 (et7 n P).2.2.2.2.2.1 (et7 n P).2.2.2.2.2.2):∀ a b c d e f g,P a b c d e f g:=fun a b c d e f g=>Classical.byContradiction fun p=>Classical.epsilon_spec (p:=fun t:A×B×C×D×E×F×G=>¬ P t.1 t.2.1 t.2.2.1 t.2.2.2.1 t.2.2.2.2.1 t.2.2.2.2.2.1 t.2.2.2.2.2.2) ⟨(a,b,c,d,e,f,g),p⟩ h
end
section
variable {A B C D E F G H:Type}
noncomputable def et8 (n:Nonempty (A×B×C×D×E×F×G×H)) (P:A->B->C->D->E->F->G->H->Prop):A×B×C×D×E×F×G×H:=@Classical.epsilon _ n fun t=>¬ P t.1 t.2.1 t.2.2.1 t.2.2.2.1 t.2.2.2.2.1 t.2.2.2.2.2.1 t.2.2.2.2.2.2.1 t.2.2.2.2.2.2.2
theorem al8 [n:Nonempty (A×B×C×D×E×F×G×H)] {P:A->B->C->D->E->F->G->H->Prop} (h:P (et8 n P).1 (et8 n P).2.1 (et8 n P).2.2.1 (et8 n P).2.2.2.1 (et8 n P).2.2.2.2.1 (et8 n P).2.2.2.2.2.1 (et8 n P).2.2.2.2.2.2.1 (et8 n P).2.2.2.2.2.2.2):∀ a b c d e f g i,P a b c d e f g i:=fun a b c d e f g i=>Classical.byContradiction fun p=>Classical.epsilon_spec (p:=fun t:A×B×C×D×E×F×G×H=>¬ P t.1 t.2.1 t.2.2.1 t.2.2.2.1 t.2.2.2.2.1 t.2.2.2.2.2.1 t.2.2.2.2.2.2.1 t.2.2.2.2.2.2.2) ⟨(a,b,c,d,e,f,g,i),p⟩ h
end
section
variable {A B C D E F G H I:Type}
noncomputable def et9 (n:Nonempty (A×B×C×D×E×F×G×H×I)) (P:A->B->C->D->E->F->G->H->I->Prop):A×B×C×D×E×F×G×H×I:=@Classical.epsilon _ n fun t=>¬ P t.1 t.2.1 t.2.2.1 t.2.2.2.1 t.2.2.2.2.1 t.2.2.2.2.2.1 t.2.2.2.2.2.2.1 t.2.2.2.2.2.2.2.1 t.2.2.2.2.2.2.2.2
theorem al9 [n:Nonempty (A×B×C×D×E×F×G×H×I)] {P:A->B->C->D->E->F->G->H->I->Prop} (h:P (et9 n P).1 (et9 n P).2.1 (et9 n P).2.2.1 (et9 n P).2.2.2.1 (et9 n P).2.2.2.2.1 (et9 n P).2.2.2.2.2.1 (et9 n P).2.2.2.2.2.2.1 (et9 n P).2.2.2.2.2.2.2.1 (et9 n P).2.2.2.2.2.2.2.2):∀ a b c d e f g i j,P a b c d e f g i j:=fun a b c d e f g i j=>Classical.byContradiction fun p=>Classical.epsilon_spec (p:=fun t:A×B×C×D×E×F×G×H×I=>¬ P t.1 t.2.1 t.2.2.1 t.2.2.2.1 t.2.2.2.2.1 t.2.2.2.2.2.1 t.2.2.2.2.2.2.1 t.2.2.2.2.2.2.2.1 t.2.2.2.2.2.2.2.2) ⟨(a,b,c,d,e,f,g,i,j),p⟩ h
end
section
variable {A B C D E F G H I J:Type}
noncomputable def et10 (n:Nonempty (A×B×C×D×E×F×G×H×I×J)) (P:A->B->C->D->E->F->G->H->I->J->Prop):A×B×C×D×E×F×G×H×I×J:=@Classical.epsilon _ n fun t=>¬ P t.1 t.2.1 t.2.2.1 t.2.2.2.1 t.2.2.2.2.1 t.2.2.2.2.2.1 t.2.2.2.2.2.2.1 t.2.2.2.2.2.2.2.1 t.2.2.2.2.2.2.2.2.1 t.2.2.2.2.2.2.2.2.2
theorem al10 [n:Nonempty (A×B×C×D×E×F×G×H×I×J)] {P:A->B->C->D->E->F->G->H->I->J->Prop} (h:P (et10 n P).1 (et10 n P).2.1 (et10 n P).2.2.1 (et10 n P).2.2.2.1 (et10 n P).2.2.2.2.1 (et10 n P).2.2.2.2.2.1 (et10 n P).2.2.2.2.2.2.1 (et10 n P).2.2.2.2.2.2.2.1 (et10 n P).2.2.2.2.2.2.2.2.1 (et10 n P).2.2.2.2.2.2.2.2.2):∀ a b c d e f g i j k,P a b c d e f g i j k:=fun a b c d e f g i j k=>Classical.byContradiction fun p=>Classical.epsilon_spec (p:=fun t:A×B×C×D×E×F×G×H×I×J=>¬ P t.1 t.2.1 t.2.2.1 t.2.2.2.1 t.2.2.2.2.1 t.2.2.2.2.2.1 t.2.2.2.2.2.2.1 t.2.2.2.2.2.2.2.1 t.2.2.2.2.2.2.2.2.1 t.2.2.2.2.2.2.2.2.2) ⟨(a,b,c,d,e,f,g,i,j,k),p⟩ h
end
section
variable {A B C D E F G H I J K L:Type}
noncomputable def et12 (n:Nonempty (A×B×C×D×E×F×G×H×I×J×K×L)) (P:A->B->C->D->E->F->G->H->I->J->K->L->Prop):A×B×C×D×E×F×G×H×I×J×K×L:=@Classical.epsilon _ n fun t=>¬ P t.1 t.2.1 t.2.2.1 t.2.2.2.1 t.2.2.2.2.1 t.2.2.2.2.2.1 t.2.2.2.2.2.2.1 t.2.2.2.2.2.2.2.1 t.2.2.2.2.2.2.2.2.1 t.2.2.2.2.2.2.2.2.2.1 t.2.2.2.2.2.2.2.2.2.2.1 t.2.2.2.2.2.2.2.2.2.2.2
theorem al12 [n:Nonempty (A×B×C×D×E×F×G×H×I×J×K×L)] {P:A->B->C->D->E->F->G->H->I->J->K->L->Prop} (h:P (et12 n P).1 (et12 n P).2.1 (et12 n P).2.2.1 (et12 n P).2.2.2.1 (et12 n P).2.2.2.2.1 (et12 n P).2.2.2.2.2.1 (et12 n P).2.2.2.2.2.2.1 (et12 n P).2.2.2.2.2.2.2.1 (et12 n P).2.2.2.2.2.2.2.2.1 (et12 n P).2.2.2.2.2.2.2.2.2.1 (et12 n P).2.2.2.2.2.2.2.2.2.2.1 (et12 n P).2.2.2.2.2.2.2.2.2.2.2):∀ a b c d e f g i j k l m,P a b c d e f g i j k l m:=fun a b c d e f g i j k l m=>Classical.byContradiction fun p=>Classical.epsilon_spec (p:=fun t:A×B×C×D×E×F×G×H×I×J×K×L=>¬ P t.1 t.2.1 t.2.2.1 t.2.2.2.1 t.2.2.2.2.1 t.2.2.2.2.2.1 t.2.2.2.2.2.2.1 t.2.2.2.2.2.2.2.1 t.2.2.2.2.2.2.2.2.1 t.2.2.2.2.2.2.2.2.2.1 t.2.2.2.2.2.2.2.2.2.2.1 t.2.2.2.2.2.2.2.2.2.2.2) ⟨(a,b,c,d,e,f,g,i,j,k,l,m),p⟩ h
end
section
variable {A B C D E F G H I J K L M N:Type}
noncomputable def et14 (n:Nonempty (A×B×C×D×E×F×G×H×I×J×K×L×M×N)) (P:A->B->C->D->E->F->G->H->I->J->K->L->M->N->Prop):A×B×C×D×E×F×G×H×I×J×K×L×M×N:=@Classical.epsilon _ n fun t=>¬ P t.1 t.2.1 t.2.2.1 t.2.2.2.1 t.2.2.2.2.1 t.2.2.2.2.2.1 t.2.2.2.2.2.2.1 t.2.2.2.2.2.2.2.1 t.2.2.2.2.2.2.2.2.1 t.2.2.2.2.2.2.2.2.2.1 t.2.2.2.2.2.2.2.2.2.2.1 t.2.2.2.2.2.2.2.2.2.2.2.1 t.2.2.2.2.2.2.2.2.2.2.2.2.1 t.2.2.2.2.2.2.2.2.2.2.2.2.2
theorem al14 [n:Nonempty (A×B×C×D×E×F×G×H×I×J×K×L×M×N)] {P:A->B->C->D->E->F->G->H->I->J->K->L->M->N->Prop} (h:P (et14 n P).1 (et14 n P).2.1 (et14 n P).2.2.1 (et14 n P).2.2.2.1 (et14 n P).2.2.2.2.1 (et14 n P).2.2.2.2.2.1 (et14 n P).2.2.2.2.2.2.1 (et14 n P).2.2.2.2.2.2.2.1 (et14 n P).2.2.2.2.2.2.2.2.1 (et14 n P).2.2.2.2.2.2.2.2.2.1 (et14 n P).2.2.2.2.2.2.2.2.2.2.1 (et14 n P).2.2.2.2.2.2.2.2.2.2.2.1 (et14 n P).2.2.2.2.2.2.2.2.2.2.2.2.1 (et14 n P).2.2.2.2.2.2.2.2.2.2.2.2.2):∀ a b c d e f g i j k l m o q,P a b c d e f g i j k l m o q:=fun a b c d e f g i j k l m o q=>Classical.byContradiction fun p=>Classical.epsilon_spec (p:=fun t:A×B×C×D×E×F×G×H×I×J×K×L×M×N=>¬ P t.1 t.2.1 t.2.2.1 t.2.2.2.1 t.2.2.2.2.1 t.2.2.2.2.2.1 t.2.2.2.2.2.2.1 t.2.2.2.2.2.2.2.1 t.2.2.2.2.2.2.2.2.1 t.2.2.2.2.2.2.2.2.2.1 t.2.2.2.2.2.2.2.2.2.2.1 t.2.2.2.2.2.2.2.2.2.2.2.1 t.2.2.2.2.2.2.2.2.2.2.2.2.1 t.2.2.2.2.2.2.2.2.2.2.2.2.2) ⟨(a,b,c,d,e,f,g,i,j,k,l,m,o,q),p⟩ h
end
section
variable {A B C D E F G H I J K L M N O Q R S T:Type}
noncomputable def et19 (n:Nonempty (A×B×C×D×E×F×G×H×I×J×K×L×M×N×O×Q×R×S×T)) (P:A->B->C->D->E->F->G->H->I->J->K->L->M->N->O->Q->R->S->T->Prop):A×B×C×D×E×F×G×H×I×J×K×L×M×N×O×Q×R×S×T:=@Classical.epsilon _ n fun t=>¬ P t.1 t.2.1 t.2.2.1 t.2.2.2.1 t.2.2.2.2.1 t.2.2.2.2.2.1 t.2.2.2.2.2.2.1 t.2.2.2.2.2.2.2.1 t.2.2.2.2.2.2.2.2.1 t.2.2.2.2.2.2.2.2.2.1 t.2.2.2.2.2.2.2.2.2.2.1 t.2.2.2.2.2.2.2.2.2.2.2.1 t.2.2.2.2.2.2.2.2.2.2.2.2.1 t.2.2.2.2.2.2.2.2.2.2.2.2.2.1 t.2.2.2.2.2.2.2.2.2.2.2.2.2.2.1 t.2.2.2.2.2.2.2.2.2.2.2.2.2.2.2.1 t.2.2.2.2.2.2.2.2.2.2.2.2.2.2.2.2.1 t.2.2.2.2.2.2.2.2.2.2.2.2.2.2.2.2.2.1 t.2.2.2.2.2.2.2.2.2.2.2.2.2.2.2.2.2.2
theorem al19 [n:Nonempty (A×B×C×D×E×F×G×H×I×J×K×L×M×N×O×Q×R×S×T)] {P:A->B->C->D->E->F->G->H->I->J->K->L->M->N->O->Q->R->S->T->Prop} (h:P (et19 n P).1 (et19 n P).2.1 (et19 n P).2.2.1 (et19 n P).2.2.2.1 (et19 n P).2.2.2.2.1 (et19 n P).2.2.2.2.2.1 (et19 n P).2.2.2.2.2.2.1 (et19 n P).2.2.2.2.2.2.2.1 (et19 n P).2.2.2.2.2.2.2.2.1 (et19 n P).2.2.2.2.2.2.2.2.2.1 (et19 n P).2.2.2.2.2.2.2.2.2.2.1 (et19 n P).2.2.2.2.2.2.2.2.2.2.2.1 (et19 n P).2.2.2.2.2.2.2.2.2.2.2.2.1 (et19 n P).2.2.2.2.2.2.2.2.2.2.2.2.2.1 (et19 n P).2.2.2.2.2.2.2.2.2.2.2.2.2.2.1 (et19 n P).2.2.2.2.2.2.2.2.2.2.2.2.2.2.2.1 (et19 n P).2.2.2.2.2.2.2.2.2.2.2.2.2.2.2.2.1 (et19 n P).2.2.2.2.2.2.2.2.2.2.2.2.2.2.2.2.2.1 (et19 n P).2.2.2.2.2.2.2.2.2.2.2.2.2.2.2.2.2.2):∀ a b c d e f g i j k l m o q r s u v w,P a b c d e f g i j k l m o q r s u v w:=fun a b c d e f g i j k l m o q r s u v w=>Classical.byContradiction fun p=>Classical.epsilon_spec (p:=fun t:A×B×C×D×E×F×G×H×I×J×K×L×M×N×O×Q×R×S×T=>¬ P t.1 t.2.1 t.2.2.1 t.2.2.2.1 t.2.2.2.2.1 t.2.2.2.2.2.1 t.2.2.2.2.2.2.1 t.2.2.2.2.2.2.2.1 t.2.2.2.2.2.2.2.2.1 t.2.2.2.2.2.2.2.2.2.1 t.2.2.2.2.2.2.2.2.2.2.1 t.2.2.2.2.2.2.2.2.2.2.2.1 t.2.2.2.2.2.2.2.2.2.2.2.2.1 t.2.2.2.2.2.2.2.2.2.2.2.2.2.1 t.2.2.2.2.2.2.2.2.2.2.2.2.2.2.1 t.2.2.2.2.2.2.2.2.2.2.2.2.2.2.2.1 t.2.2.2.2.2.2.2.2.2.2.2.2.2.2.2.2.1 t.2.2.2.2.2.2.2.2.2.2.2.2.2.2.2.2.2.1 t.2.2.2.2.2.2.2.2.2.2.2.2.2.2.2.2.2.2) ⟨(a,b,c,d,e,f,g,i,j,k,l,m,o,q,r,s,u,v,w),p⟩ h
end
section
variable {A B C D E F G H I J K L M N O Q R S T U V W X Y Z Γ Δ Θ Ω:Type}
noncomputable def et29 (n:Nonempty (A×B×C×D×E×F×G×H×I×J×K×L×M×N×O×Q×R×S×T×U×V×W×X×Y×Z×Γ×Δ×Θ×Ω)) (P:A->B->C->D->E->F->G->H->I->J->K->L->M->N->O->Q->R->S->T->U->V->W->X->Y->Z->Γ->Δ->Θ->Ω->Prop):A×B×C×D×E×F×G×H×I×J×K×L×M×N×O×Q×R×S×T×U×V×W×X×Y×Z×Γ×Δ×Θ×Ω:=@Classical.epsilon _ n fun t=>¬ P t.1 t.2.1 t.2.2.1 t.2.2.2.1 t.2.2.2.2.1 t.2.2.2.2.2.1 t.2.2.2.2.2.2.1 t.2.2.2.2.2.2.2.1 t.2.2.2.2.2.2.2.2.1 t.2.2.2.2.2.2.2.2.2.1 t.2.2.2.2.2.2.2.2.2.2.1 t.2.2.2.2.2.2.2.2.2.2.2.1 t.2.2.2.2.2.2.2.2.2.2.2.2.1 t.2.2.2.2.2.2.2.2.2.2.2.2.2.1 t.2.2.2.2.2.2.2.2.2.2.2.2.2.2.1 t.2.2.2.2.2.2.2.2.2.2.2.2.2.2.2.1 t.2.2.2.2.2.2.2.2.2.2.2.2.2.2.2.2.1 t.2.2.2.2.2.2.2.2.2.2.2.2.2.2.2.2.2.1 t.2.2.2.2.2.2.2.2.2.2.2.2.2.2.2.2.2.2.1 t.2.2.2.2.2.2.2.2.2.2.2.2.2.2.2.2.2.2.2.1 t.2.2.2.2.2.2.2.2.2.2.2.2.2.2.2.2.2.2.2.2.1 t.2.2.2.2.2.2.2.2.2.2.2.2.2.2.2.2.2.2.2.2.2.1 t.2.2.2.2.2.2.2.2.2.2.2.2.2.2.2.2.2.2.2.2.2.2.1 t.2.2.2.2.2.2.2.2.2.2.2.2.2.2.2.2.2.2.2.2.2.2.2.1 t.2.2.2.2.2.2.2.2.2.2.2.2.2.2.2.2.2.2.2.2.2.2.2.2.1 t.2.2.2.2.2.2.2.2.2.2.2.2.2.2.2.2.2.2.2.2.2.2.2.2.2.1 t.2.2.2.2.2.2.2.2.2.2.2.2.2.2.2.2.2.2.2.2.2.2.2.2.2.2.1 t.2.2.2.2.2.2.2.2.2.2.2.2.2.2.2.2.2.2.2.2.2.2.2.2.2.2.2.1 t.2.2.2.2.2.2.2.2.2.2.2.2.2.2.2.2.2.2.2.2.2.2.2.2.2.2.2.2
theorem al29 [n:Nonempty (A×B×C×D×E×F×G×H×I×J×K×L×M×N×O×Q×R×S×T×U×V×W×X×Y×Z×Γ×Δ×Θ×Ω)] {P:A->B->C->D->E->F->G->H->I->J->K->L->M->N->O->Q->R->S->T->U->V->W->X->Y->Z->Γ->Δ->Θ->Ω->Prop} (h:P (et29 n P).1 (et29 n P).2.1 (et29 n P).2.2.1 (et29 n P).2.2.2.1 (et29 n P).2.2.2.2.1 (et29 n P).2.2.2.2.2.1 (et29 n P).2.2.2.2.2.2.1 (et29 n P).2.2.2.2.2.2.2.1 (et29 n P).2.2.2.2.2.2.2.2.1 (et29 n P).2.2.2.2.2.2.2.2.2.1 (et29 n P).2.2.2.2.2.2.2.2.2.2.1 (et29 n P).2.2.2.2.2.2.2.2.2.2.2.1 (et29 n P).2.2.2.2.2.2.2.2.2.2.2.2.1 (et29 n P).2.2.2.2.2.2.2.2.2.2.2.2.2.1 (et29 n P).2.2.2.2.2.2.2.2.2.2.2.2.2.2.1 (et29 n P).2.2.2.2.2.2.2.2.2.2.2.2.2.2.2.1 (et29 n P).2.2.2.2.2.2.2.2.2.2.2.2.2.2.2.2.1 (et29 n P).2.2.2.2.2.2.2.2.2.2.2.2.2.2.2.2.2.1 (et29 n P).2.2.2.2.2.2.2.2.2.2.2.2.2.2.2.2.2.2.1 (et29 n P).2.2.2.2.2.2.2.2.2.2.2.2.2.2.2.2.2.2.2.1 (et29 n P).2.2.2.2.2.2.2.2.2.2.2.2.2.2.2.2.2.2.2.2.1 (et29 n P).2.2.2.2.2.2.2.2.2.2.2.2.2.2.2.2.2.2.2.2.2.1 (et29 n P).2.2.2.2.2.2.2.2.2.2.2.2.2.2.2.2.2.2.2.2.2.2.1 (et29 n P).2.2.2.2.2.2.2.2.2.2.2.2.2.2.2.2.2.2.2.2.2.2.2.1 (et29 n P).2.2.2.2.2.2.2.2.2.2.2.2.2.2.2.2.2.2.2.2.2.2.2.2.1 (et29 n P).2.2.2.2.2.2.2.2.2.2.2.2.2.2.2.2.2.2.2.2.2.2.2.2.2.1 (et29 n P).2.2.2.2.2.2.2.2.2.2.2.2.2.2.2.2.2.2.2.2.2.2.2.2.2.2.1 (et29 n P).2.2.2.2.2.2.2.2.2.2.2.2.2.2.2.2.2.2.2.2.2.2.2.2.2.2.2.1 (et29 n P).2.2.2.2.2.2.2.2.2.2.2.2.2.2.2.2.2.2.2.2.2.2.2.2.2.2.2.2):∀ a b c d e f g i j k l m o q r s u v w x y z α β γ δ ε ζ η,P a b c d e f g i j k l m o q r s u v w x y z α β γ δ ε ζ η:=fun a b c d e f g i j k l m o q r s u v w x y z α β γ δ ε ζ η=>Classical.byContradiction fun p=>Classical.epsilon_spec (p:=fun t:A×B×C×D×E×F×G×H×I×J×K×L×M×N×O×Q×R×S×T×U×V×W×X×Y×Z×Γ×Δ×Θ×Ω=>¬ P t.1 t.2.1 t.2.2.1 t.2.2.2.1 t.2.2.2.2.1 t.2.2.2.2.2.1 t.2.2.2.2.2.2.1 t.2.2.2.2.2.2.2.1 t.2.2.2.2.2.2.2.2.1 t.2.2.2.2.2.2.2.2.2.1 t.2.2.2.2.2.2.2.2.2.2.1 t.2.2.2.2.2.2.2.2.2.2.2.1 t.2.2.2.2.2.2.2.2.2.2.2.2.1 t.2.2.2.2.2.2.2.2.2.2.2.2.2.1 t.2.2.2.2.2.2.2.2.2.2.2.2.2.2.1 t.2.2.2.2.2.2.2.2.2.2.2.2.2.2.2.1 t.2.2.2.2.2.2.2.2.2.2.2.2.2.2.2.2.1 t.2.2.2.2.2.2.2.2.2.2.2.2.2.2.2.2.2.1 t.2.2.2.2.2.2.2.2.2.2.2.2.2.2.2.2.2.2.1 t.2.2.2.2.2.2.2.2.2.2.2.2.2.2.2.2.2.2.2.1 t.2.2.2.2.2.2.2.2.2.2.2.2.2.2.2.2.2.2.2.2.1 t.2.2.2.2.2.2.2.2.2.2.2.2.2.2.2.2.2.2.2.2.2.1 t.2.2.2.2.2.2.2.2.2.2.2.2.2.2.2.2.2.2.2.2.2.2.1 t.2.2.2.2.2.2.2.2.2.2.2.2.2.2.2.2.2.2.2.2.2.2.2.1 t.2.2.2.2.2.2.2.2.2.2.2.2.2.2.2.2.2.2.2.2.2.2.2.2.1 t.2.2.2.2.2.2.2.2.2.2.2.2.2.2.2.2.2.2.2.2.2.2.2.2.2.1 t.2.2.2.2.2.2.2.2.2.2.2.2.2.2.2.2.2.2.2.2.2.2.2.2.2.2.1 t.2.2.2.2.2.2.2.2.2.2.2.2.2.2.2.2.2.2.2.2.2.2.2.2.2.2.2.1 t.2.2.2.2.2.2.2.2.2.2.2.2.2.2.2.2.2.2.2.2.2.2.2.2.2.2.2.2) ⟨(a,b,c,d,e,f,g,i,j,k,l,m,o,q,r,s,u,v,w,x,y,z,α,β,γ,δ,ε,ζ,η),p⟩ h
end
end
theorem said:PySem.Challenge.rw_xw0134_01.wellSaid=true:=by
 unfold OpenLaw.wellSaid
 repeat' (with_reducible refine look_both ?_ ?_)
 all_goals try unfold OpenRow.wellSaid
 all_goals try repeat' (with_reducible refine look_both ?_ ?_)
 all_goals try unfold OpenRow.partSaid
 all_goals try repeat' (with_reducible refine look_both ?_ ?_)
 all_goals try unfold looksOpen
 all_goals try repeat' (with_reducible refine look_both ?_ ?_)
 all_goals first | decide +kernel
theorem runN_pred {den:Code->Sem Fin} {p:Program} {w:World}:∀ {n:Nat} {s:Shared} {t:Thread} {o:Outcome} {s':Shared},
 runN den p w n s t=.halted o s'->∃ k s₁ t₁,runN den p w k s t=.running s₁ t₁/\step den p w s₁ t₁=.halt o s'
 | 0,_,_,_,_,h=>by injection h
 | n+1,s,t,o,s',h=>by
  simp only [runN] at h
  induction hs:step den p w s t with
  | go s₂ t₂=>
   replace h:=hs▸h
   exact ea3_2 (runN_pred h) fun k s₁ t₁ e1 e2=>⟨k+1,s₁,t₁,by simp only [runN,hs];exact e1,e2⟩
  | halt o₂ s₂=>replace h:=hs▸h;cases h;exact ⟨0,s,t,rfl,hs⟩
theorem sched_running {den:Code->Sem Fin} {p:Program} {w:World}:∀ {n:Nat} {s:Shared} {t:Thread} {s':Shared} {t':Thread},
 runN den p w n s t=.running s' t'->(∀ k s₁ t₁,runN den p w k s t=.running s₁ t₁->t₁.calm=true)->s.asleep →
 schedN den p w n (.single s t)=.running (.single s' t')
 | 0,_,_,_,_,h,_,_=>by cases h;rfl
 | n+1,s,t,s',t',h,hc,hz=>by
  simp only [runN] at h
  induction hs:step den p w s t with
  | halt o₂ s₂=>replace h:=hs▸h;injection h
  | go s₂ t₂=>
   replace h:=hs▸h
   have e:sstep den p w (.single s t)=.go (.single s₂ t₂):=by
    rcases sstep_single den p w s t (hc 0 s t rfl) hz with e | e
    · refine qE e (qE hs ?_);rfl
    · replace e:=hs▸e;injection e
   simp only [schedN,e]
   exact sched_running h (fun k s₁ t₁ hk=>hc (k+1) s₁ t₁ (by simp only [runN,hs];exact hk)) (Shared.asleep_of_life (step_life den p w s s₂ t t₂ hs) hz)
noncomputable def isDn:Step->Bool | .halt (.done _) _=>true | _=>false
theorem nd {a b:Step} {C:Prop} (h:a=b) (e:isDn b=true) (x:isDn a=false):C:=by rw [h,e] at x;injection x
theorem fin_dn {o:Outcome} {s:Shared} (h:∀ f,o≠.done f):isDn (finish o s)=false:=by
 unfold finish
 split
 · rfl
 · cases o <;> first | rfl | exact absurd rfl (h _)
theorem halt_through {den:Code->Sem Fin} {p:Program} {w:World} {s s':Shared} {t:Thread} {f:Flow} (h:step den p w s t=.halt (.done f) s'):through t=true/\s'=s:=by
 revert s' t f h
 revert den p w s
 refine no_implicit_lambda% (al4 (n:=⟨(default,default,w0,sh0)⟩) ?_)
 generalize et4 _ _=υ
 generalize υ.1=den,υ.2.1=p,υ.2.2.1=w,υ.2.2.2=s
 intro s' t f h
 obtain ⟨heap,gens,drawn,toks,os⟩:=s
 obtain ⟨cur,code,pos,stack⟩:=t
 induction cur with
 | pure fin=>
  induction fin with
  | done f'=>
   induction stack using List.casesOn with
   | nil=>
    replace h:finish (.done f') ⟨heap,gens,drawn,toks,os⟩=.halt (.done f) s':=h
    unfold finish at h
    split at h
    · cases h
    · cases h;exact ⟨rfl,rfl⟩
   | cons a r=>cases a <;> exact nd h rfl rfl
  | again c=>exact nd h rfl rfl
 | raise e=>
  induction stack using List.casesOn with
  | nil=>exact nd h rfl (fin_dn fun f x=>by injection x)
  | cons a r=>cases a <;> exact nd h rfl rfl
 | _=>first
  | exact nd h rfl rfl
  | (refine nd h rfl ?_;clear h;unfold step;dsimp only;(repeat' split) <;> rfl)
theorem run_through {p:Program} {w:World} {t:Sem Fin} {s:Shared} {P:Shared->Prop} (hz:s.asleep)
 (h:wpAny (model p w) callerA t (fun fin s'=>(∃ f,fin=.done f)/\P s'/\s'.gens=#[]) (fun ξ ξ=>False) s) :
 ∃ n t' s',schedN (denote table) p w n (.single s ⟨t,.builtin "claim.caller" {},default,[]⟩)=.running (.single s' t')/\through t'=true ∧
  P s'/\s'.gens=#[]/\s'.heap.life=s.heap.life:=by
 have h':=wp_of_wpAny_done (R:=fun r s'=>((∃ f,r=.ok f)/\P s'/\s'.gens=#[])/\leftWithCleanup s'.gens=false) caller_in
  (wpAny_mono h (fun fin s' ⟨⟨f,e⟩,a,b⟩=>⟨f,e,⟨⟨f,rfl⟩,a,b⟩,by refine qE b ?_;simp [leftWithCleanup]⟩) fun ξ ξ q=>q.elim) default
 refine ea3_4 ((wp_iff_halts (M:=model p w) (R:=fun r s'=>(∃ f,r=.ok f)/\P s'/\s'.gens=#[]) ..).mp h') fun n r s₁ hn z1 hP hg=>?_;refine ea1_1 z1 fun f z2=>?_;clear z1;subst z2
 refine ea1_3 (runNI_real _ _ _ hn (outcomeOf_ends _)) fun s₂ hr hf hc=>?_
 obtain rfl:s₂=s₁:=Shared.eq_of_forget_eq hf hg
 refine ea3_2 (runN_pred hr) fun k s₃ t₃ e1 e2=>?_
 refine ea0_2 (halt_through (f:=f) e2) fun e3 z1=>?_;subst z1
 exact ⟨k,t₃,s₂,sched_running e1 hc hz,e3,hP,hg,runN_life_running e1⟩
structure TopEnd (p:Program) (s₀ s₁:Shared):Prop where
 g:∃ mg,s₁.heap.Ns mainGlobals mg/\(∀ x v,mg x=some v->x∈startupNames\/x∈p.boundNames) ∧
  ∀ x:Str,x∈("__builtins__":Str)::laidNames->mg x=globalOf s₀.heap x
 st:∃ mc,s₁.heap.Ns cStatics mc/\∀ k v,mc k=some v->k.opensWith "type.__subclasses__."=true
 keep:∀ b o,s₀.heap.get? b=some o->b≠mainNs->b≠cStatics->s₁.heap.get? b=some o
 os:s₁.os=s₀.os
theorem globalOf_ns {h:Heap} {m} (hn:h.Ns mainGlobals m) (x:Str):globalOf h x=m x:=by
 refine ea3_4 hn fun o es ep e d k f=>?_;clear hn
 unfold globalOf
 refine qE (show h.get? mainNs=some o from e) ?_
 simp only [d]
 exact f x
theorem staticOf_ns {h:Heap} {m} (hn:h.Ns cStatics m) (x:Str):staticOf h x=m x:=by
 refine ea3_4 hn fun o es ep e d k f=>?_;clear hn
 unfold staticOf
 refine qE e ?_
 simp only [d]
 exact f x
theorem builtinOf_ns {h:Heap} {m} (hn:h.Ns builtinsNs m) (x:Str):builtinOf h x=m x:=by
 refine ea3_4 hn fun o es ep e d k f=>?_;clear hn
 unfold builtinOf
 refine qE e ?_
 simp only [d]
 exact f x
theorem topRan_of {p:Program} {w:World} {s₀ s₁:Shared} {q:Program} {mb mg c Pl} (B:BootLeft9 q s₀.heap mb mg c Pl)
 (hi:importedModules p.main.body=[]) {n t} (hr:schedN (denote table) p w n (.single s₀ (topStub p))=.running (.single s₁ t)) (ht:through t=true)
 (hl:s₁.heap.life=s₀.heap.life) (hg:s₁.gens=#[]) (Z:TopEnd p s₀ s₁):TopRan p w s₀ s₁:=by
 obtain ⟨⟨mg₁,G1,G2,G3⟩,⟨mc,S1,S2⟩,K,O⟩:=Z
 have bb:builtinsNs≠mainNs/\builtinsNs≠cStatics:=by decide
 have Bb:s₁.heap.Ns builtinsNs mb:=by
  exact ea3_2 B.b fun o es ep e r=>⟨o,es,ep,K _ _ e bb.1 bb.2,r⟩
 have boot:∀ x:Str,x≠"__name__"->mb x=bootBuiltins x:=B.builtins
 refine ⟨⟨n,t,hr,ht⟩,hl,Shared.rest_eq O,fun b o e h=>K b o e (fun z=>h (.inl z)) (fun z=>h (.inr (.inl z))),?_,?_,?_,?_,?_,?_,?_,?_⟩
 · intro key v e
   rw [staticOf_ns S1] at e
   exact .inr (.inl (by unfold runKey;refine qE (S2 key v e) ?_;rfl))
 · intro key
   rw [staticOf_ns S1,staticOf_ns B.statics]
   induction e:mc key with
   | none=>exact .inl rfl
   | some v=>exact .inr (.inr (.inl (S2 key v e)))
 · refine ea3_4 G1 fun o es ep e d k ξ=>?_;clear G1
   exact ⟨o,es,ep,e,d,fun x hx=>k x hx⟩
 · intro x hx
   rw [builtinOf_ns Bb,boot x hx]
   rfl
 · refine ea2_8 B.bmod fun bm o h1 h2 h3 h4 h5 h6 h7 h8=>⟨bm,o,?_,K _ _ h5 h3 ?_,h6,h7⟩
   · rw [globalOf_ns G1,G3 _ (List.mem_cons_self ..),globalOf_ns B.g,h1]
   · intro z
     refine ea3_3 B.statics fun o' es ep e d ξ=>?_
     replace e:=h5▸z.symm▸e
     cases e
     replace d:=h8▸d;injection d
 · refine qE hg ?_;intro g hg';simp at hg'
 · intro x v e
   rw [globalOf_ns G1] at e
   exact G2 x v e
 · intro x hx
   rw [globalOf_ns G1]
   exact G3 x (List.mem_cons_of_mem _ hx)
theorem wpAny_topStub {p:Program} {w:World} {s₀:Shared} {q:Program} {mb mg c₀ P₀} {Z:Shared->Prop} (B:BootLeft9 q s₀.heap mb mg c₀ P₀)
 (hann:hasAnns (behindTheImports p)=false) (hdoc:docOf (behindTheImports p)=none)
 (hbody:∀ h tk c Pl F,h.Main mg c Pl #[]->(Kp s₀.heap h)->s₀.heap.objs.size<=c->s₀.heap.objs.size<=Pl →
  wpAny (model p w) (callerA.deeper (mainEnv p c F)) (execs (behindTheImports p) (mainEnv p c F)) (fun ξ s'=>Z s') (fun ξ ξ=>False) { s₀ with heap:=h,toks:=tk }) :
 wpAny (model p w) callerA (topStub p).cur (fun fin s'=>(∃ f,fin=.done f)/\Z s') (fun ξ ξ=>False) s₀:=by
 unfold topStub
 refine wpAny_bind (wpAny_moduleCode fun c Pl h₁ tk₁ hk hc hPl hcode=>?_)
 unfold newBodyFrame
 have G:=B.g.keeps hk
 refine wpAny_bind (wpAny_bind (wpAny_nsGet G (wpAny_alloc ?_)))
 refine wpAny_bind (wpAny_run (codeAny_body hann hdoc ?_))
 have M:h₁.Main mg c Pl #[]:=by
  refine ea2_6 B.bmod fun bm o h1 h2 h3 h4 h5 h6=>⟨G,hcode,⟨Nat.lt_of_lt_of_le B.g.lt hc,Nat.lt_of_lt_of_le B.g.lt hPl⟩,bm,o,h1,h2,h3,Nat.ne_of_lt (Nat.lt_of_lt_of_le (Heap.lt_size h5) hPl),hk _ _ h5,h6⟩
 have hp:∀ o,∀ b ob,h₁.get? b=some ob->(h₁.push o).get? b=some ob:=fun o b ob e=>Heap.get?_push_of_some _ e
 exact wpAny_mono (hbody _ _ c Pl _ (M.keeps (hp _)) (fun b o e=>hp _ _ _ (hk b o e)) hc hPl) (fun f s' z=>wpAny_pure ⟨⟨_,rfl⟩,z⟩) (fun ξ ξ z=>z.elim)
abbrev prg:Program:=PySem.Challenge.pw_xw0134_01
abbrev lawRow:OpenRow:=PySem.Challenge.rw_xw0134_01.row
theorem boot9 (w:World):(∃ s,AfterRun (opening prg) w s)/\∀ s,AfterRun (opening prg) w s->(∃ mb mg c Pl,BootLeft9 (opening prg) s.heap mb mg c Pl)/\s.gens=#[]:=
 AfterImport.of_body9 (prog:=opening prg) (w:=w) (P:=fun s=>(∃ mb mg c Pl,BootLeft9 (opening prg) s.heap mb mg c Pl)/\s.gens=#[])
  (out:=#[]) (fun hp tk mb mg c Pl F B=>codeAny_body rfl rfl (wpAny_execs_nil (E:=fun ξ ξ=>False) ⟨⟨_,rfl⟩,.of B.toBootLeft (fun ξ ξ ξ ξ e=>e) B.g,⟨⟨_,_,_,_,B⟩,rfl⟩,rfl⟩ |> fun h=>wpAny_mono h (fun ξ ξ x=>x) (fun ξ ξ x=>x.elim))) rfl
theorem prg_bare:prg.bare:=⟨rfl,rfl,rfl,rfl,rfl,by decide +kernel⟩
theorem prg_opens:opensWell prg=true:=by decide +kernel
theorem prg_wit:lawRow.toRowW.promised:=by w_witness2
theorem holds_by_top (said:lawRow.wellSaid=true) (Facts:World->Shared->Prop)
 (body:∀ (w:World) (s₀:Shared) (mb mg:Str->Option Value) (c₀ P₀:Addr),BootLeft9 (opening prg) s₀.heap mb mg c₀ P₀->s₀.gens=#[] →
  ∀ h tk c Pl F,h.Main mg c Pl #[]->(Kp s₀.heap h)->s₀.heap.objs.size<=c->s₀.heap.objs.size<=Pl →
   wpAny (model prg w) (callerA.deeper (mainEnv prg c F)) (execs prg.main.body (mainEnv prg c F)) (fun ξ s'=>(TopEnd prg s₀ s'/\Facts w s')/\s'.gens=#[]) (fun ξ ξ=>False) { s₀ with heap:=h,toks:=tk })
 (defs:∀ w s,Facts w s->isTheDefsW prg s.heap "law")
 (call:∀ w s s₁ (ns:List Int) (a:Addr) (its:Array Value),Facts w s->(Kp s.heap s₁.heap)->s₁.gens=#[] →
  s₁.heap.IsList a its->IntsAre its.toList ns->ns.length<=63 →
  ∃ f,globalOf s.heap "law"=some f/\wpAny (model prg w) callerA (PySem.call f [.ref a])
   (fun v s'=>v=.bool true/\(Kp s₁.heap s'.heap)/\s'.os=s₁.os/\s'.gens=#[]) (fun ξ ξ=>False) s₁):lawRow.Holds:=by
 refine ⟨said,prg_wit,⟨prg_bare,prg_opens,rfl⟩,prg_wit.witness,fun w=>⟨(boot9 w).1,fun s₀ hs₀=>?_⟩⟩
 refine ea0_2 ((boot9 w).2 s₀ hs₀) fun z1 hg₀=>?_;refine ea4_1 z1 fun mb mg c₀ P₀ B=>?_;clear z1
 refine ea3_5 (run_through (p:=prg) (w:=w) (t:=(topStub prg).cur) (P:=fun s'=>TopEnd prg s₀ s'/\Facts w s') (AfterImport.life hs₀)
  (wpAny_mono (wpAny_topStub (Z:=fun s'=>(TopEnd prg s₀ s'/\Facts w s')/\s'.gens=#[]) B rfl rfl (fun h tk c Pl F M k hc hP=>body w s₀ mb mg c₀ P₀ B hg₀ h tk c Pl F M k hc hP))
   (fun ξ ξ z=>⟨z.1,z.2.1,z.2.2⟩) fun ξ ξ z=>z)) fun n t s hr ht z1 hg hl=>?_;refine ea0_2 z1 fun Z X=>?_;clear z1
 have T:TopRan prg w s₀ s:=topRan_of B rfl hr ht hl hg Z
 have hz:s.asleep:=Shared.asleep_of_life hl (AfterImport.life hs₀)
 have hN:∃ m,s.heap.Ns mainGlobals m:=let ⟨mg₁,G,_⟩:=Z.g;⟨mg₁,G⟩
 refine ⟨s₀,rfl,hg₀,s,T,?_,(fun x hx=>nomatch hx),(fun x hx=>nomatch hx),?_⟩
 · intro x hx
   obtain rfl:x="law":=by
    have:x∈[(PySem.Str.ofString "law")]:=hx
    simpa using this
   exact defs w s X
 refine ClaimW.callFrom_of_specG (c:=lawRow.toRowW.claim) hz hg fun args hpre hlay ord hord=>?_
 refine ea1_1 (Option.isSome_iff_exists.mp (layAllW_isSome (P:=w.params) (ord:=ord) (cl:=classAt s.heap) (R:=lawRow.toRowW.records) (fun c hc=>by injection hc) args lawRow.toRowW.args s (pre_splitW hpre).1)) fun z1 hlaid=>?_;obtain ⟨vs,s₁⟩:=z1
 have keeps:=layAllW_keeps _ _ _ hlaid
 have hal:=layAllW_rest _ _ _ hlaid
 refine ea1_3 (reads_layAllW hord _ _ _ hlaid hlay s₁.heap (fun ξ ξ e=>e)) fun as hrd hin hold=>?_
 have L:Laid lawRow.toRowW.records w s s₁ args vs as:=⟨⟨ord,hord,hlaid⟩,hrd,hin,hold,keeps,hal.1.trans hg,hal.2.2.1⟩
 have hi:=ident_freeW (r:=lawRow.toRowW) rfl rfl rfl
 have hwl:=L.well
 have hlo:∀ a∈as,(a==sysModules)=false:=L.low (by
  refine ea4_1 hN fun m o es ep y46=>?_;refine ea0_2 y46 fun e ξ=>?_;clear y46;clear hN
  exact Nat.lt_of_lt_of_le (by decide) (Nat.le_of_lt (Heap.lt_size e)))
 refine ⟨vs,s₁,hlaid,?_⟩
 have hg₁:=L.gens
 wrow_args hpre hlay hrd hwl hlo
 refine ea1_1 hN fun mgg G=>?_;clear hN
 have G':=Heap.Ns.keeps G keeps
 (with_reducible rename IntsAre _ _=>hI);(with_reducible rename Heap.IsList _ _ _=>hL)
 refine ea1_2 (call w s s₁ _ _ _ X keeps hg₁ hL (by simpa using hI) (by omega)) fun f hf hw=>wpAny_bind (wpAny_nsGet G' ?_)
 refine qE (show mgg lawRow.name=some f from (globalOf_ns G _).symm.trans hf) (wpAny_bind (wpAny_mono hw (fun v s' z=>wpAny_pure ?_) (fun ξ ξ z=>z.elim)))
 refine ea0_4 z fun z1 hk hos hg'=>?_;clear z;subst z1
 have g:∀ args,GoodW lawRow.toRowW.claim (classAt s.heap) (ExcName.means s.heap) args s₁ (.ok (.ret (.bool true))) s':=fun args=>
  ⟨.inl ⟨_,.bool true,[],rfl,fun ξ=>rfl,.bool true,postW_of rfl (w_eq_bool (w_res rfl) w_lit) rfl,fun ξ=>⟨.nil,fun ξ h=>nomatch h⟩⟩,hk,hos,hg'⟩
 have y:=(g _).toG.laid (c:=lawRow.toRowW.claim) rfl rfl hi L
 exact ⟨_,rfl,y.1,y.2.1,y.2.2,fun q=>nomatch q⟩
open PySem.Calls Builtin
section
theorem tl_dict_iter:typeLookup (.type "dict") "__iter__"=pure (some (.builtin "dict.__iter__")):=by rw [typeLookup_type,builtinLookup_eq_fast];kernel_rfl
theorem tl_type_mro:typeLookup (.type "type") "mro"=pure (some (.builtin "type.mro")):=by rw [typeLookup_type,builtinLookup_eq_fast];kernel_rfl
theorem tl_fn_sn:typeLookup (.type "function") "__set_name__"=pure none:=by rw [typeLookup_type,builtinLookup_eq_fast];kernel_rfl
theorem tl_tuple_sn:typeLookup (.type "tuple") "__set_name__"=pure none:=by rw [typeLookup_type,builtinLookup_eq_fast];kernel_rfl
theorem tl_gs_sn:typeLookup (.type "getset_descriptor") "__set_name__"=pure none:=by rw [typeLookup_type,builtinLookup_eq_fast];kernel_rfl
theorem tl_str_sn:typeLookup (.type "str") "__set_name__"=pure none:=by rw [typeLookup_type,builtinLookup_eq_fast];kernel_rfl
theorem tl_int_sn:typeLookup (.type "int") "__set_name__"=pure none:=by rw [typeLookup_type,builtinLookup_eq_fast];kernel_rfl
theorem tl_none_sn:typeLookup (.type "NoneType") "__set_name__"=pure none:=by rw [typeLookup_type,builtinLookup_eq_fast];kernel_rfl
theorem sub_tup:isSubtype (.type "tuple") (.type "tuple")=pure true:=by rw [isSubtype_type];kernel_rfl
theorem sub_dct:isSubtype (.type "dict") (.type "dict")=pure true:=by rw [isSubtype_type];kernel_rfl
theorem sub_typ:isSubtype (.type "type") (.type "type")=pure true:=by rw [isSubtype_type];kernel_rfl
theorem lk_use {α:Type} {M:Model} {A:Around} {E:VP} {s:Shared} {h:Heap} {t:Sem α} {r:α} {Q:α->Shared->Prop} (x:Looks M h t r) (k:∀ b o,h.get? b=some o->s.heap.get? b=some o) (q:Q r s):wpAny M A t Q E s:=x _ _ _ _ k q
theorem by_key {P G:Prop} (k:P->G) (p:P):G:=k p
theorem by_key2 {R C:Heap->Prop} {G:Prop} (k:(∀ h,C h->R h)->G) (p:∀ h,C h->R h):G:=k p
theorem by_key3 {R:Heap->Nat->Prop} {C:Heap->Prop} {G:Prop} (k:(∀ h t,C h->R h t)->G) (p:∀ h t,C h->R h t):G:=k p
noncomputable def isVal:Data->Bool | .func _=>true | .seq ..=>true | .fields _=>true | _=>false
noncomputable def SoftV (o:Obj):Prop:=(o.cls=.type "function"\/o.cls=.type "tuple"\/o.cls=.type "getset_descriptor")/\isVal o.data=true
noncomputable def SoftO (o:Obj):Prop:=isVal o.data=true/\o.cls≠.type "type"
theorem SoftV.soft {o:Obj} (x:SoftV o):SoftO o:=⟨x.2,by rcases x.1 with e | e | e <;> refine qE e ?_ <;> simp⟩
noncomputable def VO (h:Heap):Value->Prop
 | .ref b=>∃ o,h.get? b=some o/\SoftV o
 | .str ..=>True
 | .int ..=>True
 | .none=>True
 | _=>False
theorem wpAny_pureEq {α:Type} {M:Model} {A:Around} {E:VP} {s:Shared} {t:Sem α} {a:α} {Q:α->Shared->Prop} (e:t=pure a) (h:Q a s):wpAny M A t Q E s:=e▸wpAny_pure h
theorem vo_setname {M:Model} {A:Around} {E:VP} {s:Shared} {v:Value} {Q:Option Value->Shared->Prop} (hv:VO s.heap v) (h:Q none s):wpAny M A (specialOf v "__set_name__") Q E s:=by
 unfold specialOf
 induction v with
 | ref b=>
  refine ea1_3 hv fun o ho hc ξ=>?_;clear hv
  refine wpAny_bind (wpAny_bind (wpAny_loadPart ho (wpAny_pure ?_)))
  rcases hc with e | e | e <;> refine qE e ?_
  · exact wpAny_pureEq tl_fn_sn h
  · exact wpAny_pureEq tl_tuple_sn h
  · exact wpAny_pureEq tl_gs_sn h
 | str=>exact wpAny_bind (wpAny_pure (wpAny_pureEq tl_str_sn h))
 | int=>exact wpAny_bind (wpAny_pure (wpAny_pureEq tl_int_sn h))
 | none=>exact wpAny_bind (wpAny_pure (wpAny_pureEq tl_none_sn h))
 | _=>exact hv.elim
theorem laid_false {k v:Value} {h:Heap} (hv:VO h v):laidUnderItsOwnName k v=false:=by
 cases v <;> first | exact hv.elim | (cases k <;> rfl)
theorem forIn_skip {α β:Type} {M:Model} {A:Around} {E:VP} {s:Shared} {f:α->β->Sem (ForInStep β)} {Q:β->Shared->Prop} :
 ∀ {l:List α} {c:β},(∀ x∈l,∀ (Q:ForInStep β->Shared->Prop),Q (.yield c) s->wpAny M A (f x c) Q E s)->Q c s->wpAny M A (forIn l c f) Q E s
 | [],c,_,q=>wpAny_pure q
 | x::l,c,h,q=>by
  rw [List.forIn_cons]
  exact wpAny_bind (h x (List.mem_cons_self ..) _ (forIn_skip (fun y hy=>h y (List.mem_cons_of_mem _ hy)) q))
structure NsE (h:Heap) (n:Addr) (es:Array DictEntry) (m:Str->Option Value):Prop where
 at_:∃ ep,h.get? n=some { cls:=.type "dict",data:=.dict es ep }
 k:StrKeys es
 u:UniqKeys es
 f:∀ name,nsFind es name=m name
theorem NsE.ns {h n es m} (x:NsE h n es m):h.Ns n m:=let ⟨ep,e⟩:=x.at_;⟨_,es,ep,e,rfl,x.k,x.f⟩
theorem NsE.keeps {h h':Heap} {n es m} (x:NsE h n es m) (k:∀ o,h.get? n=some o->h'.get? n=some o):NsE h' n es m:=⟨let ⟨ep,e⟩:=x.at_;⟨ep,k _ e⟩,x.k,x.u,x.f⟩
theorem NsE.any {h n es m} (x:NsE h n es m) (name:Str):es.any (·.key.isStr name)=(m name).isSome:=by
 refine qB (x.f name) ?_;simp only [nsFind,findBy,Option.isSome_map]
 rw [Bool.eq_iff_iff];simp only [Array.find?_isSome,Array.any_eq_true]
 constructor
 · rintro ⟨i,hi,hp⟩;exact ⟨_,Array.getElem_mem hi,hp⟩
 · rintro ⟨x,hx,hp⟩;obtain ⟨i,hi,rfl⟩:=Array.mem_iff_getElem.mp hx;exact ⟨i,hi,hp⟩
theorem NsE.find_none {h n es m} (x:NsE h n es m) {name:Str} (e:m name=none):es.find? (·.key.isStr name)=none:=by
 have:=x.f name
 replace this:=e▸this
 simpa [nsFind,findBy] using this
theorem find_of_mem {l:List DictEntry} {e:DictEntry} {k:Str} (u:l.Pairwise fun a b=>∀ n,a.key.isStr n=true->b.key.isStr n=true->False) (he:e∈l) (hk:e.key.isStr k=true):l.find? (fun d=>d.key.isStr k)=some e:=by
 induction l with
 | nil=>cases he
 | cons d r ih=>
  rw [List.pairwise_cons] at u
  rcases List.mem_cons.mp he with rfl | he'
  · exact List.find?_cons_of_pos hk
  · refine qE (List.find?_cons_of_neg (p:=fun d:DictEntry=>d.key.isStr k) (fun hd=>u.1 e he' k hd hk)) ?_
    exact ih u.2 he'
theorem NsE.mem {h n es m} (x:NsE h n es m) {e:DictEntry} (he:e∈es):∃ k t,e.key=.str k t/\m k=some e.val:=by
 refine ea2_1 (x.k e he) fun k t hk=>⟨k,t,hk,?_⟩
 refine qB (x.f k) ?_
 obtain ⟨l⟩:=es
 show ((Array.mk l).find? fun d=>d.key.isStr k).map (·.val)=_
 rw [List.find?_toArray,find_of_mem x.u (by simpa using he) (by refine qE hk ?_;exact beq_self_eq_true k)]
 rfl
theorem NsE.set {M:Model} {A:Around} {E:VP} {s:Shared} {n es m} (x:NsE s.heap n es m) {name:Str} {v:Value} {Q:Unit->Shared->Prop}
 (h:∀ h' es',NsE h' n es' (fun y=>if y=name then some v else m y)->Heap.SameBut n s.heap h'->es'.size<=es.size+1->Q () { s with heap:=h',toks:=s.toks+1 }):wpAny M A (nsSet n name v) Q E s:=by
 obtain ⟨⟨ep,ho⟩,hk,hu,hm⟩:=x
 intro Γ p ξ
 simp only [nsSet,strHash,Sem.wp_bind',Sem.wp_cmd_ask,Sem.wp_pure',Sem.wp_cmd_mkText]
 rw [Sem.wp_loadPart_of M Γ _ p { s with toks:=s.toks+1 } (o:={ cls:=.type "dict",data:=.dict es ep }) _ ho]
 have hany:es.any (·.refKey)=false:=by
  rw [Array.any_eq_false'];intro e he;refine ea2_1 (hk e he) fun n t h=>?_;simp [DictEntry.refKey,h]
 simp only [aRefKeyMayBeTheName_eq,aRefKeyMayBeTheNameByArray,hany,Bool.and_false,Bool.false_eq_true,if_false,Sem.wp_cmd_updatePart]
 refine ⟨by refine qE ho ?_;rfl,?_⟩
 induction hi:es.findIdx? (·.key.isStr name) with
 | some i=>
  refine h _ (es.modify i fun e=>{ e with val:=v }) ⟨⟨ep,(Heap.get?_update_self _ ho (by simp only [Obj.putName_eq,Obj.putNameByArray,hi];rfl)).trans (by simp only [Obj.putName_eq,Obj.putNameByArray,hi])⟩,hk.modify _ _,hu.modify _ _,fun x=>?_⟩ (Heap.SameBut.update ..) (by simp)
  rw [← hm];exact findBy_modify (fun n v=>v.isStr n) Value.isStr_inj es name x v i hi
 | none=>
  refine h _ (es.push ⟨_,.str name s.toks,v⟩) ⟨⟨ep+1,(Heap.get?_update_self _ ho (by simp only [Obj.putName_eq,Obj.putNameByArray,hi];rfl)).trans (by simp only [Obj.putName_eq,Obj.putNameByArray,hi];rfl)⟩,hk.push _ _ _ _,hu.push _ _ _ _ hi,fun x=>?_⟩ (Heap.SameBut.update ..) (by simp)
  rw [← hm]
  exact findBy_push (fun n v=>v.isStr n) es name x _ _ v (fun y=>by
   show (name==y)=decide (y=name)
   by_cases h:y=name
   · subst h;simp
   · have:¬ name=y:=fun e=>h e.symm
     simp [h,this]) hi
theorem NsE.del {M:Model} {A:Around} {E:VP} {s:Shared} {n es m} (x:NsE s.heap n es m) {name:Str} {Q:Bool->Shared->Prop}
 (h:∀ h' es',NsE h' n es' (fun y=>if y=name then none else m y)->Heap.SameBut n s.heap h'->Q (m name).isSome { s with heap:=h' }):wpAny M A (nsDel n name) Q E s:=by
 have hsome:=x.any name
 obtain ⟨⟨ep,ho⟩,hk,hu,hm⟩:=x
 have hany:es.any (·.refKey)=false:=by
  rw [Array.any_eq_false'];intro e he;refine ea2_1 (hk e he) fun n t h=>?_;simp [DictEntry.refKey,h]
 have hhas:nsHas name { cls:=.type "dict",data:=.dict es ep }=pure (es.any (·.key.isStr name)):=by
  refine qE nsHas_eq ?_;unfold nsHasByArray
  show (if (es.any fun x=>x.key.isStr name)=true then _ else _)=_
  refine gn (es.any fun x=>x.key.isStr name) fun b=>?_
  cases b <;> simp [hany]
 unfold nsDel
 refine wpAny_bind (wpAny_loadPart ho ?_)
 refine qE hhas (wpAny_bind (wpAny_pure ?_))
 induction hi:es.findIdx? (·.key.isStr name) with
 | some i=>
  have ht:es.any (·.key.isStr name)=true:=by
   rw [Array.findIdx?_eq_some_iff_getElem] at hi
   refine ea1_2 hi fun hl hp ξ=>?_;clear hi
   exact Array.any_eq_true.mpr ⟨i,hl,hp⟩
  refine qE ht (qE (if_pos rfl) ?_)
  refine wpAny_bind (wpAny_updatePart ho (wpAny_pure ?_))
  replace hsome:=ht▸hsome
  refine qE (show true=(m name).isSome from hsome) (h _ (es.eraseIdxIfInBounds i) ⟨⟨ep+1,(Heap.get?_update_self _ ho (by simp only [Obj.dropName_eq,Obj.dropNameByArray,hi];rfl)).trans (by simp only [Obj.dropName_eq,Obj.dropNameByArray,hi])⟩,hk.erase _,hu.erase _,fun y=>?_⟩ (Heap.SameBut.update ..))
  exact qE (nsFind_erase hu hi y) (qE (hm y) rfl)
 | none=>
  have ht:es.any (·.key.isStr name)=false:=by
   rw [Array.findIdx?_eq_none_iff] at hi
   rw [Array.any_eq_false']
   intro e he
   have:=hi e he
   simpa using this
  refine qE ht ?_
  replace hsome:=ht▸hsome
  have hn:m name=none:=by induction q:m name with | none=>rfl | some v=>replace hsome:=q▸hsome;injection hsome
  refine wpAny_pure (qE (show false=(m name).isSome from hsome) (h s.heap es ⟨⟨ep,ho⟩,hk,hu,fun y=>?_⟩ ⟨rfl,fun ξ ξ=>rfl⟩))
  refine qE (hm y) ?_
  by_cases e:y=name
  · subst e;exact qE (if_pos rfl) (qE hn rfl)
  · exact qE (if_neg e) rfl
section
variable {M:Model} {A:Around} {E:VP} {h:Heap} {g:Array GenState} {d:Drawn} {t:Nat} {os:OsState}
theorem upd_cls {a:Addr} {c dd cd sl} {f:ClassData->ClassData} {Q:Unit->Shared->Prop} (ho:h.get? a=some { cls:=c,dict:=dd,data:=.cls cd,slots:=sl })
 (hl:(f cd).subclasses.length<=sizeLine) (hn:(f cd).slotNames.length<=sizeLine)
 (q:∀ h',h'.get? a=some { cls:=c,dict:=dd,data:=.cls (f cd),slots:=sl }->Heap.SameBut a h h'->Q () ⟨h',g,d,t,os⟩):wpAny M A (updateCls a f) Q E ⟨h,g,d,t,os⟩:=by
 unfold updateCls
 refine wpAny_bind (wpAny_load ho ?_)
 have e:=Heap.get?_update_self (Obj.mapCls f) ho rfl
 refine wpAny_bind (wpAny_update ho ?_)
 unfold lookBehind
 refine wpAny_bind (wpAny_loadPart e ?_)
 show wpAny M A (match (if (f cd).subclasses.length > sizeLine||(f cd).slotNames.length > sizeLine then some "class:memory" else none:Option String) with | some what=>unsupported what | _=>pure ()) Q E _
 refine qE (if_neg (by simp only [gt_iff_lt,Bool.or_eq_true,decide_eq_true_eq,not_or,Nat.not_lt];exact ⟨hl,hn⟩)) ?_
 exact wpAny_pure (q _ e (Heap.SameBut.update ..))
theorem set_slot {a:Addr} {c dd dt sl} {i:Nat} {v:Option Value} {Q:Unit->Shared->Prop} (ho:h.get? a=some { cls:=c,dict:=dd,data:=dt,slots:=sl }) (hf:(Obj.isFreed { cls:=c,dict:=dd,data:=dt,slots:=sl })=false) (hi:i<100)
 (q:∀ h',h'.get? a=some { cls:=c,dict:=dd,data:=dt,slots:=(sl++Array.replicate (i+1-sl.size) none).setIfInBounds i v }->Heap.SameBut a h h'->Q () ⟨h',g,d,t,os⟩):wpAny M A (setSlotAt a i v) Q E ⟨h,g,d,t,os⟩:=by
 unfold setSlotAt
 refine wpAny_ite_false (decide_eq_false (fun e:i ≥ sizeLine=>Nat.lt_irrefl _ (Nat.lt_of_lt_of_le (Nat.lt_trans hi (by decide:(100:Nat)<sizeLine)) e))) ?_
 have hf':Obj.isFreed { cls:=c,dict:=dd,data:=dt,slots:=(sl++Array.replicate (i+1-sl.size) none).setIfInBounds i v }=false:=by
  cases dt <;> first | rfl | exact hf
 have e:=Heap.get?_update_self (fun o=>{ o with slots:=(o.slots++Array.replicate (i+1-o.slots.size) none).setIfInBounds i v }) ho hf'
 exact wpAny_updatePart ho (q _ e (Heap.SameBut.update ..))
theorem slot_at {a:Addr} {o:Obj} {i:Nat} {Q:Option Value->Shared->Prop} (ho:h.get? a=some o) (q:Q (o.slots[i]?).join ⟨h,g,d,t,os⟩):wpAny M A (slotAt a i) Q E ⟨h,g,d,t,os⟩:=by
 unfold slotAt
 exact wpAny_bind (wpAny_loadPart ho (wpAny_pure q))
end
structure CS (h0 h:Heap) (n:Addr) (es:Array DictEntry) (m:Str->Option Value):Prop where
 K:∀ b o,h0.get? b=some o->h.get? b=some o
 N:NsE h n es m
 V:∀ k v,m k=some v->VO h v
 ln:h0.objs.size<=n
 lt:n<h.objs.size
 l0:h0.objs.size<=h.objs.size
noncomputable abbrev clsObj (sl:Array (Option Value)) (cd:ClassData):Obj:={ cls:=.type "type",data:=.cls cd,slots:=sl }
structure CC (h0 h:Heap) (n a:Addr) (o:Obj) (es:Array DictEntry) (m:Str->Option Value):Prop extends CS h0 h n es m where
 C:h.get? a=some o
 c:o.cls=.type "type"
 ne:n≠a
 la:h0.objs.size<=a
theorem VO.keeps {h h':Heap} {v:Value} (x:VO h v) (k:∀ b o,h.get? b=some o->SoftO o->h'.get? b=some o):VO h' v:=by
 cases v <;> first | exact x | (refine ea1_2 x fun o e c=>?_;clear x;exact ⟨o,k _ _ e c.soft,c⟩)
theorem CS.notN {h0 h n es m} (x:CS h0 h n es m) {b:Addr} {o:Obj} (e:h.get? b=some o) (c:SoftO o):b≠n:=by
 rintro rfl
 refine ea1_1 x.N.at_ fun ep hn=>?_
 replace e:=hn▸e;cases e
 cases (show false=true from c.1)
theorem CC.notA {h0 h n a o es m} (x:CC h0 h n a o es m) {b:Addr} {o':Obj} (e:h.get? b=some o') (c:SoftO o'):b≠a:=by
 rintro rfl
 replace e:=x.C▸e;cases e
 exact c.2 x.c
section
variable {M:Model} {A:Around} {E:VP} {h h0:Heap} {g:Array GenState} {d:Drawn} {t:Nat} {os:OsState} {n a:Addr} {o:Obj} {es:Array DictEntry} {m:Str->Option Value}
theorem CC.set (x:CC h0 h n a o es m) {name:Str} {v:Value} {Q:Unit->Shared->Prop} (hv:VO h v)
 (q:∀ h' t' es',CC h0 h' n a o es' (fun y=>if y=name then some v else m y)->Q () ⟨h',g,d,t',os⟩):wpAny M A (nsSet n name v) Q E ⟨h,g,d,t,os⟩:=by
 refine x.N.set (s:=⟨h,g,d,t,os⟩) fun h' es' N S z=>q h' _ es' { K:=fun b o e=>?_,N:=N,V:=?_,ln:=x.ln,lt:=by refine qE S.1 ?_;exact x.lt,l0:=by refine qE S.1 ?_;exact x.l0,C:=by refine qE (S.2 _ x.ne.symm) ?_;exact x.C,c:=x.c,ne:=x.ne,la:=x.la }
 · rw [S.2 _ (fun e'=>absurd (Heap.lt_size e) (by refine qE e' ?_;exact Nat.not_lt.mpr x.ln))];exact x.K _ _ e
 · have kv:∀ v,VO h v->VO h' v:=fun v y=>y.keeps fun b o e c=>by refine qE (S.2 _ (x.notN e c)) ?_;exact e
   intro k w e
   by_cases hk:k=name
   · replace e:=if_pos hk▸e;cases e;exact kv _ hv
   · replace e:=if_neg hk▸e;exact kv _ (x.V _ _ e)
theorem CC.del (x:CC h0 h n a o es m) {name:Str} {Q:Bool->Shared->Prop}
 (q:∀ h' es',CC h0 h' n a o es' (fun y=>if y=name then none else m y)->Q (m name).isSome ⟨h',g,d,t,os⟩):wpAny M A (nsDel n name) Q E ⟨h,g,d,t,os⟩:=by
 refine x.N.del (s:=⟨h,g,d,t,os⟩) fun h' es' N S=>q h' es' { K:=fun b o e=>?_,N:=N,V:=?_,ln:=x.ln,lt:=by refine qE S.1 ?_;exact x.lt,l0:=by refine qE S.1 ?_;exact x.l0,C:=by refine qE (S.2 _ x.ne.symm) ?_;exact x.C,c:=x.c,ne:=x.ne,la:=x.la }
 · rw [S.2 _ (fun e'=>absurd (Heap.lt_size e) (by refine qE e' ?_;exact Nat.not_lt.mpr x.ln))];exact x.K _ _ e
 · have kv:∀ v,VO h v->VO h' v:=fun v y=>y.keeps fun b o e c=>by refine qE (S.2 _ (x.notN e c)) ?_;exact e
   intro k w e
   by_cases hk:k=name
   · replace e:=if_pos hk▸e;injection e
   · replace e:=if_neg hk▸e;exact kv _ (x.V _ _ e)
theorem CC.setC (x:CC h0 h n a o es m) {h':Heap} {o':Obj} (e:h'.get? a=some o') (S:Heap.SameBut a h h') (c:o'.cls=.type "type"):CC h0 h' n a o' es m:=
 { K:=fun b o e=>by rw [S.2 _ (fun e'=>absurd (Heap.lt_size e) (by refine qE e' ?_;exact Nat.not_lt.mpr x.la))];exact x.K _ _ e,N:=x.N.keeps fun ξ e=>by refine qE (S.2 _ x.ne) ?_;exact e,V:=fun k v e=>(x.V k v e).keeps fun b o e c=>by refine qE (S.2 _ (x.notA e c)) ?_;exact e,ln:=x.ln,lt:=by refine qE S.1 ?_;exact x.lt,l0:=by refine qE S.1 ?_;exact x.l0,C:=e,c:=c,ne:=x.ne,la:=x.la }
theorem CC.get (x:CC h0 h n a o es m) {name:Str} {Q:Option Value->Shared->Prop} (q:Q (m name) ⟨h,g,d,t,os⟩):wpAny M A (nsGet n name) Q E ⟨h,g,d,t,os⟩:=wpAny_nsGet x.N.ns q
theorem CC.getE (x:CC h0 h n a o es m) {name:Str} {r:Option Value} (e:m name=r) {Q:Option Value->Shared->Prop} (q:Q r ⟨h,g,d,t,os⟩):wpAny M A (nsGet n name) Q E ⟨h,g,d,t,os⟩:=x.get (e.symm▸q)
theorem CC.conv (x:CC h0 h n a o es m) {o':Obj} (e:o=o'):CC h0 h n a o' es m:=e▸x
theorem CC.push (x:CC h0 h n a o es m) (o':Obj):CC h0 (h.push o') n a o es m:=
 { K:=fun b o e=>Heap.get?_push_of_some _ (x.K _ _ e),N:=x.N.keeps fun ξ e=>Heap.get?_push_of_some _ e,V:=fun k v e=>(x.V k v e).keeps fun b o e c=>Heap.get?_push_of_some _ e,ln:=x.ln,lt:=by rw [Heap.objs_push,Array.size_push];exact Nat.lt_succ_of_lt x.lt,l0:=by rw [Heap.objs_push,Array.size_push];exact Nat.le_succ_of_le x.l0,C:=Heap.get?_push_of_some _ x.C,c:=x.c,ne:=x.ne,la:=x.la }
theorem CS.make {nA:Addr} {m0} (N:NsE h nA es m0) (hV:∀ k v,m0 k=some v->VO h v) (hz:es.size<=10000) {Q:VP}
 (q:∀ h1 n,CS h h1 n es m0->Q (.ref n) ⟨h1,g,d,t,os⟩):wpAny M A (newObj (.type "dict") (.dict es)) Q E ⟨h,g,d,t,os⟩:=by
 refine wpAny_newObj_type (s:=⟨h,g,d,t,os⟩) (q _ _ ?_) (show es.size<=sizeLine+1 from Nat.le_trans hz (nb rfl))
 exact { K:=fun b o e=>Heap.get?_push_of_some _ e,N:=⟨⟨0,Heap.get?_push_size h rfl⟩,N.k,N.u,N.f⟩,V:=fun k v e=>(hV k v e).keeps fun b o e c=>Heap.get?_push_of_some _ e,ln:=Nat.le_refl _,lt:=by rw [Heap.objs_push,Array.size_push];exact Nat.lt_succ_self _,l0:=by rw [Heap.objs_push,Array.size_push];exact Nat.le_succ _ }
theorem CC.make (x:CS h0 h n es m) {cd:ClassData} {Q:Addr->Shared->Prop}
 (q:∀ h1 a,CC h0 h1 n a { cls:=.type "type",data:=.cls cd } es m->Q a ⟨h1,g,d,t,os⟩):wpAny M A (alloc { cls:=.type "type",data:=.cls cd }) Q E ⟨h,g,d,t,os⟩:=by
 refine wpAny_alloc (q _ _ ?_)
 exact { K:=fun b o e=>Heap.get?_push_of_some _ (x.K _ _ e),N:=x.N.keeps fun ξ e=>Heap.get?_push_of_some _ e,V:=fun k v e=>(x.V k v e).keeps fun b o e c=>Heap.get?_push_of_some _ e,ln:=x.ln,lt:=by rw [Heap.objs_push,Array.size_push];exact Nat.lt_succ_of_lt x.lt,l0:=by rw [Heap.objs_push,Array.size_push];exact Nat.le_succ_of_le x.l0,C:=Heap.get?_push_size h rfl,c:=rfl,ne:=fun e=>absurd x.lt (by refine qE e ?_;exact Nat.lt_irrefl _),la:=x.l0 }
theorem CS.get (x:CS h0 h n es m) {name:Str} {Q:Option Value->Shared->Prop} (q:Q (m name) ⟨h,g,d,t,os⟩):wpAny M A (nsGet n name) Q E ⟨h,g,d,t,os⟩:=wpAny_nsGet x.N.ns q
theorem CC.slot (x:CC h0 h n a o es m) {i:Nat} {v:Option Value} {c dd dt sl} (e:o={ cls:=c,dict:=dd,data:=dt,slots:=sl }) (hf:Obj.isFreed o=false) (hi:i<100) {Q:Unit->Shared->Prop}
 (q:∀ h',CC h0 h' n a { cls:=c,dict:=dd,data:=dt,slots:=(sl++Array.replicate (i+1-sl.size) none).setIfInBounds i v } es m->Q () ⟨h',g,d,t,os⟩):wpAny M A (setSlotAt a i v) Q E ⟨h,g,d,t,os⟩:=by
 subst e
 exact set_slot x.C hf hi fun h' e S=>q h' (x.setC e S x.c)
theorem CC.upd (x:CC h0 h n a o es m) {c dd cd sl} (e:o={ cls:=c,dict:=dd,data:=.cls cd,slots:=sl }) {f:ClassData->ClassData} (hl:(f cd).subclasses.length<=sizeLine) (hn:(f cd).slotNames.length<=sizeLine) {Q:Unit->Shared->Prop}
 (q:∀ h',CC h0 h' n a { cls:=c,dict:=dd,data:=.cls (f cd),slots:=sl } es m->Q () ⟨h',g,d,t,os⟩):wpAny M A (updateCls a f) Q E ⟨h,g,d,t,os⟩:=by
 subst e
 exact upd_cls x.C hl hn fun h' e S=>q h' (x.setC e S x.c)
theorem CC.look {sl cd bm} (x:CC h0 h n a (clsObj sl cd) es m) (hmro:cd.mro=.ref a::bm) (hns:cd.ns=n) {name:Str} {r:Option Value} (hm:m name=none) (hb:Looks M h0 (lookupAlong bm name) r) {Q:Option Value->Shared->Prop} (q:Q r ⟨h,g,d,t,os⟩) :
 wpAny M A (typeLookup (.ref a) name) Q E ⟨h,g,d,t,os⟩:=by
 rw [typeLookup_eq]
 unfold mroOf
 refine wpAny_bind (wpAny_bind ?_)
 unfold classData
 refine wpAny_bind (wpAny_load x.C (wpAny_pure (wpAny_pure ?_)))
 rw [hmro,lookupAlong_cons]
 refine wpAny_bind ?_
 unfold classOwn classData
 refine wpAny_bind (wpAny_bind (wpAny_load x.C (wpAny_pure ?_)))
 refine qE hns (x.getE hm (hb _ _ _ _ x.K q))
theorem CC.getset (x:CC h0 h n a o es m) {vs:List Value} (hz:vs.length<=100) {Q:VP}
 (q:∀ h' v,CC h0 h' n a o es m->VO h' v->Q v ⟨h',g,d,t,os⟩):wpAny M A (newFields "getset_descriptor" vs) Q E ⟨h,g,d,t,os⟩:=by
 unfold newFields
 refine wpAny_newObj_type (s:=⟨h,g,d,t,os⟩) (q _ _ (x.push _) ⟨_,Heap.get?_push_size h rfl,.inr (.inr rfl),rfl⟩) (show vs.toArray.size<=sizeLine+2 from ?_)
 exact qE List.size_toArray (Nat.le_trans hz (nb rfl))
theorem slots_push {l:List (Option Value)} {i:Nat} {v:Option Value} (hi:l.length=i):(l.toArray++Array.replicate (i+1-l.toArray.size) none).setIfInBounds i v=(l++[v]).toArray:=by
 subst hi
 apply Array.ext'
 rw [List.size_toArray,Nat.add_sub_cancel_left]
 simp
theorem CC.slotP {l:List (Option Value)} {cd:ClassData} (x:CC h0 h n a (clsObj l.toArray cd) es m) {i:Nat} {v:Option Value} (hi:l.length=i) (h100:i<100) {Q:Unit->Shared->Prop}
 (q:∀ h',CC h0 h' n a (clsObj (l++[v]).toArray cd) es m->Q () ⟨h',g,d,t,os⟩):wpAny M A (setSlotAt a i v) Q E ⟨h,g,d,t,os⟩:=
 x.slot rfl rfl h100 fun h' y=>q h' (y.conv (by exact qE (slots_push hi) rfl))
end
structure CD (h0 h:Heap) (wr n a:Addr) (o:Obj) (es:Array DictEntry) (m:Str->Option Value):Prop where
 K:∀ b o,b≠wr->h0.get? b=some o->h.get? b=some o
 N:NsE h n es m
 V:∀ k v,m k=some v->VO h v
 C:h.get? a=some o
 c:o.cls=.type "type"
 ne:n≠a
 ln:h0.objs.size<=n
 la:h0.objs.size<=a
theorem CD.keeps {h0 h h':Heap} {wr n a o es m} (x:CD h0 h wr n a o es m) (k:∀ b o,h.get? b=some o->h'.get? b=some o):CD h0 h' wr n a o es m:=
 { K:=fun b o hb e=>k _ _ (x.K b o hb e),N:=x.N.keeps (k _),V:=fun i v e=>(x.V i v e).keeps fun b o e ξ=>k b o e,C:=k _ _ x.C,c:=x.c,ne:=x.ne,ln:=x.ln,la:=x.la }
theorem CC.toCD {h0 h h':Heap} {n a o es m} (x:CC h0 h n a o es m) {wr:Addr} (hl:wr<h0.objs.size) (hc:∀ o,h.get? wr=some o->SoftO o->False) (S:Heap.SameBut wr h h'):CD h0 h' wr n a o es m:=
 { K:=fun b o hb e=>(S.2 b hb).trans (x.K _ _ e),N:=x.N.keeps fun ξ e=>(S.2 _ (fun e'=>absurd hl (by refine qB e' ?_;exact Nat.not_lt.mpr x.ln))).trans e,V:=fun k v e=>(x.V k v e).keeps fun b o e c=>(S.2 b (fun e'=>hc o (e'▸e) c)).trans e,C:=(S.2 _ (fun e'=>absurd hl (by refine qB e' ?_;exact Nat.not_lt.mpr x.la))).trans x.C,c:=x.c,ne:=x.ne,ln:=x.ln,la:=x.la }
noncomputable def noteBase (b:Value) (a:Addr):Sem Unit:=
 forIn [b] PUnit.unit fun (b:Value) (ξ:PUnit)=>do
  if let .ref ba:=b then updateCls ba fun c=>{ c with subclasses:=c.subclasses++[.ref a] }
  if let (.type bn,.ref sa):=(b,Value.ref a) then noteSubclassOfBuiltin bn sa
  pure (ForInStep.yield PUnit.unit)
end
section
open PySem.W.X
theorem ec {h:Heap} {O:Obj} {R:Heap->Addr->Prop} (q:∀ h' x,(∀ b o,h.get? b=some o->h'.get? b=some o)->h'.get? x=some O->h.get? x=none->R h' x) {h' x n} (d:Mem h h' [] ((x,O)::n)):R h' x:=q _ _ (fun b o e=>d.keep b o e (by simp [away])) (d.nw _ (.head _)).1 (d.nw _ (.head _)).2
noncomputable abbrev prepObj:Obj:=⟨.type "builtin_function_or_method",none,.fields #[.builtin "type.__prepare__",.type "type"],#[]⟩
section
set_option hygiene false in
local macro_rules | `(tactic| x_close) => `(tactic| exact ec q (by assumption))
theorem prep_call {prog:Program} {w:World} {A:Around} {E:VP} {h:Heap} {d t os} {Q:VP} {pA bT:Addr} {nm:Str} {tn:Tok} {g}
 (hp:h.get? pA=some ⟨.type "builtin_function_or_method",none,.fields #[.builtin "type.__prepare__",.type "type"],#[]⟩) (hg:g=#[])
 (q:∀ h' nA,(∀ b o,h.get? b=some o->h'.get? b=some o)->h'.get? nA=some ⟨.type "dict",none,.dict #[] 0,#[]⟩->h.get? nA=none->Q (.ref nA) ⟨h',#[],d,t,os⟩) :
 wpAny (model prog w) A (PySem.call (.ref pA) [.str nm tn,.ref bT]) Q E ⟨h,g,d,t,os⟩:=by
 x_run
theorem tga_call {prog:Program} {w:World} {A:Around} {E:VP} {h:Heap} {d t os} {Q:VP} {tn:Tok} {g}
 (hg:g=#[])
 (q:∀ h' pA,(∀ b o,h.get? b=some o->h'.get? b=some o)->h'.get? pA=some prepObj->h.get? pA=none->Q (.ref pA) ⟨h',#[],d,t,os⟩) :
 wpAny (model prog w) A (PySem.call (.builtin "type.__getattribute__") [.type "type",.str "__prepare__" tn]) Q E ⟨h,g,d,t,os⟩:=by
 x_run
theorem sup_make0 {prog:Program} {w:World} {A:Around} {E:VP} {h:Heap} {g d t os} {Q:VP} {a n b0 fA:Addr} {nm q:Str} {k0 k1 k2 k3 k4 k5:Option Value} {bs:List Value} {sn:List Str} (ha:h.get? a=some ⟨.type "type",none,.cls ⟨nm,bs,[.ref a,.type "object"],n,q,true,sn,[],false,none,false⟩,#[k0,k1,k2,k3,k4,k5]⟩) (hg:g=#[])
 (q:∀ h' sA,(∀ b o,h.get? b=some o->h'.get? b=some o)->h'.get? sA=some ⟨.type "super",none,.fields #[.ref a,.ref a,.ref a],#[]⟩->h.get? sA=none->Q (.ref sA) ⟨h',#[],d,t,os⟩) :
 wpAny (model prog w) A (PySem.call (.type "super") [.ref a,.ref a]) Q E ⟨h,g,d,t,os⟩:=by
 x_run
theorem sup_get0 {prog:Program} {w:World} {A:Around} {E:VP} {h:Heap} {g d t os} {Q:VP} {a n b0 fA:Addr} {nm q:Str} {k0 k1 k2 k3 k4 k5:Option Value} {bs:List Value} {sn:List Str} (ha:h.get? a=some ⟨.type "type",none,.cls ⟨nm,bs,[.ref a,.type "object"],n,q,true,sn,[],false,none,false⟩,#[k0,k1,k2,k3,k4,k5]⟩) (hg:g=#[])
 (q:∀ h' sA,(∀ b o,h.get? b=some o->h'.get? b=some o)->h'.get? sA=some ⟨.type "builtin_function_or_method",none,.fields #[.builtin "object.__init_subclass__",.ref a],#[]⟩->h.get? sA=none->Q (.ref sA) ⟨h',#[],d,t,os⟩) :
 wpAny (model prog w) A (PySem.call (.builtin "classmethod_descriptor.__get__") [.builtin "object.__init_subclass__",.none,.ref a]) Q E ⟨h,g,d,t,os⟩:=by
 x_run
theorem sup_make1 {prog:Program} {w:World} {A:Around} {E:VP} {h:Heap} {g d t os} {Q:VP} {a n b0 fA:Addr} {nm q:Str} {k0 k1 k2 k3 k4 k5:Option Value} {bs:List Value} {sn:List Str} (ha:h.get? a=some ⟨.type "type",none,.cls ⟨nm,bs,[.ref a,.type "Exception",.type "BaseException",.type "object"],n,q,true,sn,[],false,none,false⟩,#[k0,k1,k2,k3,k4,k5]⟩) (hg:g=#[])
 (q:∀ h' sA,(∀ b o,h.get? b=some o->h'.get? b=some o)->h'.get? sA=some ⟨.type "super",none,.fields #[.ref a,.ref a,.ref a],#[]⟩->h.get? sA=none->Q (.ref sA) ⟨h',#[],d,t,os⟩) :
 wpAny (model prog w) A (PySem.call (.type "super") [.ref a,.ref a]) Q E ⟨h,g,d,t,os⟩:=by
 x_run
theorem sup_get1 {prog:Program} {w:World} {A:Around} {E:VP} {h:Heap} {g d t os} {Q:VP} {a n b0 fA:Addr} {nm q:Str} {k0 k1 k2 k3 k4 k5:Option Value} {bs:List Value} {sn:List Str} (ha:h.get? a=some ⟨.type "type",none,.cls ⟨nm,bs,[.ref a,.type "Exception",.type "BaseException",.type "object"],n,q,true,sn,[],false,none,false⟩,#[k0,k1,k2,k3,k4,k5]⟩) (hg:g=#[])
 (q:∀ h' sA,(∀ b o,h.get? b=some o->h'.get? b=some o)->h'.get? sA=some ⟨.type "builtin_function_or_method",none,.fields #[.builtin "object.__init_subclass__",.ref a],#[]⟩->h.get? sA=none->Q (.ref sA) ⟨h',#[],d,t,os⟩) :
 wpAny (model prog w) A (PySem.call (.builtin "classmethod_descriptor.__get__") [.builtin "object.__init_subclass__",.none,.ref a]) Q E ⟨h,g,d,t,os⟩:=by
 x_run
theorem sup_make2 {prog:Program} {w:World} {A:Around} {E:VP} {h:Heap} {g d t os} {Q:VP} {a n b0 fA:Addr} {nm q:Str} {k0 k1 k2 k3 k4 k5:Option Value} {bs:List Value} {sn:List Str} (ha:h.get? a=some ⟨.type "type",none,.cls ⟨nm,bs,[.ref a,.ref b0,.type "object"],n,q,true,sn,[],false,none,false⟩,#[k0,k1,k2,k3,k4,k5]⟩) (hg:g=#[])
 (q:∀ h' sA,(∀ b o,h.get? b=some o->h'.get? b=some o)->h'.get? sA=some ⟨.type "super",none,.fields #[.ref a,.ref a,.ref a],#[]⟩->h.get? sA=none->Q (.ref sA) ⟨h',#[],d,t,os⟩) :
 wpAny (model prog w) A (PySem.call (.type "super") [.ref a,.ref a]) Q E ⟨h,g,d,t,os⟩:=by
 x_run
theorem sup_get2 {prog:Program} {w:World} {A:Around} {E:VP} {h:Heap} {g d t os} {Q:VP} {a n b0 fA:Addr} {nm q:Str} {k0 k1 k2 k3 k4 k5:Option Value} {bs:List Value} {sn:List Str} (ha:h.get? a=some ⟨.type "type",none,.cls ⟨nm,bs,[.ref a,.ref b0,.type "object"],n,q,true,sn,[],false,none,false⟩,#[k0,k1,k2,k3,k4,k5]⟩) (hg:g=#[])
 (q:∀ h' sA,(∀ b o,h.get? b=some o->h'.get? b=some o)->h'.get? sA=some ⟨.type "builtin_function_or_method",none,.fields #[.builtin "object.__init_subclass__",.ref a],#[]⟩->h.get? sA=none->Q (.ref sA) ⟨h',#[],d,t,os⟩) :
 wpAny (model prog w) A (PySem.call (.builtin "classmethod_descriptor.__get__") [.builtin "object.__init_subclass__",.none,.ref a]) Q E ⟨h,g,d,t,os⟩:=by
 x_run
theorem sup_make3 {prog:Program} {w:World} {A:Around} {E:VP} {h:Heap} {g d t os} {Q:VP} {a n b0 fA:Addr} {nm q:Str} {k0 k1 k2 k3 k4 k5:Option Value} {bs:List Value} {sn:List Str} (ha:h.get? a=some ⟨.type "type",none,.cls ⟨nm,bs,[.ref a,.ref b0,.type "Exception",.type "BaseException",.type "object"],n,q,true,sn,[],false,none,false⟩,#[k0,k1,k2,k3,k4,k5]⟩) (hg:g=#[])
 (q:∀ h' sA,(∀ b o,h.get? b=some o->h'.get? b=some o)->h'.get? sA=some ⟨.type "super",none,.fields #[.ref a,.ref a,.ref a],#[]⟩->h.get? sA=none->Q (.ref sA) ⟨h',#[],d,t,os⟩) :
 wpAny (model prog w) A (PySem.call (.type "super") [.ref a,.ref a]) Q E ⟨h,g,d,t,os⟩:=by
 x_run
theorem sup_get3 {prog:Program} {w:World} {A:Around} {E:VP} {h:Heap} {g d t os} {Q:VP} {a n b0 fA:Addr} {nm q:Str} {k0 k1 k2 k3 k4 k5:Option Value} {bs:List Value} {sn:List Str} (ha:h.get? a=some ⟨.type "type",none,.cls ⟨nm,bs,[.ref a,.ref b0,.type "Exception",.type "BaseException",.type "object"],n,q,true,sn,[],false,none,false⟩,#[k0,k1,k2,k3,k4,k5]⟩) (hg:g=#[])
 (q:∀ h' sA,(∀ b o,h.get? b=some o->h'.get? b=some o)->h'.get? sA=some ⟨.type "builtin_function_or_method",none,.fields #[.builtin "object.__init_subclass__",.ref a],#[]⟩->h.get? sA=none->Q (.ref sA) ⟨h',#[],d,t,os⟩) :
 wpAny (model prog w) A (PySem.call (.builtin "classmethod_descriptor.__get__") [.builtin "object.__init_subclass__",.none,.ref a]) Q E ⟨h,g,d,t,os⟩:=by
 x_run
end
theorem sigI:Manifest.signature? "object.__init_subclass__"=some ⟨.noArgs,"object.__init_subclass__","__init_subclass__",.cls,[]⟩:=by kernel_rfl
theorem kindI:builtinKind "object.__init_subclass__"=some .classMethod:=by refine qE builtinKind_eq_fast ?_;kernel_rfl
theorem entryI:entryFor table "object.__init_subclass__"=some Builtin.«object.__init_subclass__»:=entryFor_of_tree (by kernel_rfl)
theorem varI:Manifest.varargsMethods.contains "object.__init_subclass__"=false:=by kernel_rfl
theorem argsI {M:Model} {A:Around} {E:VP} {s:Shared} {Q:Unit->Shared->Prop} (full:String) (hf:(full != "*")=true) (a:Addr) (q:Q () s):wpAny M A (Bind.checkArgs "object.__init_subclass__" ⟨.noArgs,full,"__init_subclass__",.cls,[]⟩ ⟨[.ref a],[]⟩) Q E s:=by
 unfold Bind.checkArgs Bind.printed
 dsimp only
 refine qE (if_pos hf) ?_
 repeat lk
 exact q
theorem full_ne (x y:String):((toString x++toString "."++toString y) != "*")=true:=by
 rw [bne_iff_ne]
 intro e
 have:=congrArg (fun s=>s.toList) e
 rw [String.toList_append,String.toList_append,List.append_assoc] at this
 induction hx:(toString x).toList using List.casesOn with
 | nil=>replace this:=hx▸this;exact absurd (List.cons.inj this).1 (by decide)
 | cons c r=>replace this:=hx▸this;have h2:=(List.cons.inj this).2;exact absurd (List.append_eq_nil_iff.mp (List.append_eq_nil_iff.mp h2).2).1 (by decide)
theorem sub_tm:isSubtype (.type "type") (.type "module")=pure false:=by rw [isSubtype_type];kernel_rfl
theorem sup_call {prog:Program} {w:World} {A:Around} {E:VP} {h:Heap} {g d t os} {Q:VP} {a fA:Addr} {sl:Array (Option Value)} {cd:ClassData}
 (ha:h.get? a=some ⟨.type "type",none,.cls cd,sl⟩)
 (hs:h.get? fA=some ⟨.type "builtin_function_or_method",none,.fields #[.builtin "object.__init_subclass__",.ref a],#[]⟩) (q:Q .none ⟨h,g,d,t,os⟩) :
 wpAny (model prog w) A (PySem.call (.ref fA) []) Q E ⟨h,g,d,t,os⟩:=by
 revert ha hs q
 revert prog w A E h g d t os Q a fA sl cd
 refine no_implicit_lambda% (al14 (n:=⟨(default,w0,a0,default,default,default,d0,default)⟩) ?_)
 generalize et14 _ _=υ
 generalize υ.1=prog,υ.2.1=w,υ.2.2.1=A,υ.2.2.2.1=E,υ.2.2.2.2.1=h,υ.2.2.2.2.2.1=g,υ.2.2.2.2.2.2.1=d,υ.2.2.2.2.2.2.2.1=t,υ.2.2.2.2.2.2.2.2.1=os,υ.2.2.2.2.2.2.2.2.2.1=Q,υ.2.2.2.2.2.2.2.2.2.2.1=a,υ.2.2.2.2.2.2.2.2.2.2.2.1=fA,υ.2.2.2.2.2.2.2.2.2.2.2.2.1=sl,υ.2.2.2.2.2.2.2.2.2.2.2.2.2=cd
 intro ha hs q
 refine wpAny_call (codeAny_of_tree ?_)
 show wpAny _ _ (callAny (.ref fA) _) _ _ _
 unfold callAny
 refine wpAny_bind (wpAny_load hs ?_)
 iterate 3 lk
 refine wpAny_ite_true rfl (wpAny_bind ?_)
 unfold checkBoundCall
 refine qE sigI ?_
 dsimp only
 refine qE kindI ?_
 dsimp only
 refine wpAny_ite_false rfl ?_
 unfold isInstance
 refine wpAny_bind (wpAny_bind (wpAny_bind (wpAny_load ha (wpAny_pure (wpAny_pureEq sub_tm ?_)))))
 refine wpAny_ite_false (by refine qE varI ?_;rfl) ?_
 refine wpAny_bind (wpAny_bind (wpAny_load ha (wpAny_pure ?_)))
 refine wpAny_ite_true rfl (wpAny_bind (wpAny_pure ?_))
 refine wpAny_bind (wpAny_bind (wpAny_load ha (wpAny_pure ?_)))
 refine wpAny_bind (wpAny_bind (wpAny_load ha (wpAny_pure ?_)))
 refine wpAny_ite_true rfl (argsI _ (full_ne _ _) _ (wpAny_pure ⟨Code.quiet_builtin _ (by decide +kernel),codeAny_builtin entryI ?_⟩))
 unfold Builtin.«object.__init_subclass__»
 exact wpAny_ite_true rfl (wpAny_pure q)
end
theorem forIn_skip_app {α β:Type} {M:Model} {A:Around} {E:VP} {s:Shared} {f:α->β->Sem (ForInStep β)} {Q:β->Shared->Prop} {y:α} :
 ∀ {l:List α} {c:β},(∀ x∈l,∀ (Q:ForInStep β->Shared->Prop),Q (.yield c) s->wpAny M A (f x c) Q E s)->wpAny M A (f y c) (fun r s=>Q (match r with | .yield b=>b | .done b=>b) s) E s->wpAny M A (forIn (l++[y]) c f) Q E s
 | [],c,_,q=>by
  rw [List.nil_append,List.forIn_cons]
  refine wpAny_bind (wpAny_mono q (fun r s z=>?_) fun ξ ξ z=>z)
  cases r <;> exact wpAny_pure z
 | x::l,c,h,q=>by
  rw [List.cons_append,List.forIn_cons]
  exact wpAny_bind (h x (List.mem_cons_self ..) _ (forIn_skip_app (fun y hy=>h y (List.mem_cons_of_mem _ hy)) q))
theorem entryS:entryFor table "super.__getattribute__"=some Builtin.«super.__getattribute__»:=entryFor_of_tree (by kernel_rfl)
theorem tl_super_ga:typeLookup (.type "super") "__getattribute__"=pure (some (.builtin "super.__getattribute__")):=by rw [typeLookup_type,builtinLookup_eq_fast];kernel_rfl
theorem own_oi:builtinOwn "object" "__init_subclass__"=some (.builtin "object.__init_subclass__"):=by refine qE builtinOwn_eq_fast ?_;kernel_rfl
theorem bt_oi:builtinType "object.__init_subclass__"=pure (.type "classmethod_descriptor"):=by refine qE builtinType_eq_fast ?_;kernel_rfl
theorem tl_cmd:typeLookup (.type "classmethod_descriptor") "__get__"=pure (some (.builtin "classmethod_descriptor.__get__")):=by rw [typeLookup_type,builtinLookup_eq_fast];kernel_rfl
theorem bt_sg:builtinType "super.__getattribute__"=pure (.type "wrapper_descriptor"):=by refine qE builtinType_eq_fast ?_;kernel_rfl
theorem slot_sup:Slot "super" "__getattribute__" "super.__getattribute__":=
 .of (owner:="super") (n:="__getattribute__") (by rw [typeLookup_type,builtinLookup_eq_fast];kernel_rfl) (by decide +kernel) (by decide +kernel) (by decide +kernel)
  (by first | exact .inl (by decide +kernel) | exact .inr (by decide +kernel)) (by rw [isSubtype_type];kernel_rfl)
theorem args_sup (a b:Value):argsOk "super.__getattribute__" ⟨[a,b],[]⟩:=by unfold argsOk;kernel_rfl
theorem no_opaque {M:Model} {A:Around} {E:VP} {s:Shared} {a:Addr} {Q:Option Str->Shared->Prop} (hst:∃ mc,s.heap.Ns cStatics mc/\mc "thirdparty.any"=none) (q:Q none s):wpAny M A (opaqueClassAbove (.ref a)) Q E s:=by
 refine ea1_2 hst fun mc hn e=>?_;clear hst
 unfold opaqueClassAbove anyOpaqueLoaded
 refine wpAny_bind (wpAny_bind (wpAny_nsGet hn ?_))
 exact qE e (wpAny_pure (wpAny_pure q))
theorem fld {M:Model} {A:Around} {E:VP} {s:Shared} {a:Addr} {o:Obj} {vs:Array Value} {i:Nat} {x:Value} {Q:VP} (ho:s.heap.get? a=some o) (hd:o.data=.fields vs) (hi:vs[i]?=some x) (q:Q x s):wpAny M A (field (.ref a) i) Q E s:=wpAny_field ho hd hi q
theorem sup_attr {prog:Program} {w:World} {A:Around} {E:VP} {h:Heap} {g d t os} {Q:VP} {a sA:Addr} {sl:Array (Option Value)} {cd:ClassData} {pre:List Value}
 (ha:h.get? a=some ⟨.type "type",none,.cls cd,sl⟩) (hm:cd.mro=.ref a::(pre++[.type "object"])) (hp:∀ c∈pre,c≠.ref a/\Looks (model prog w) h (classOwn c "__init_subclass__") none)
 (hst:∃ mc,h.Ns cStatics mc/\mc "thirdparty.any"=none) (hs:h.get? sA=some ⟨.type "super",none,.fields #[.ref a,.ref a,.ref a],#[]⟩)
 (hget:∀ A t Q' E',(∀ h' fA,(∀ b o,h.get? b=some o->h'.get? b=some o)->h'.get? fA=some ⟨.type "builtin_function_or_method",none,.fields #[.builtin "object.__init_subclass__",.ref a],#[]⟩->Q' (.ref fA) ⟨h',g,d,t,os⟩)->wpAny (model prog w) A (PySem.call (.builtin "classmethod_descriptor.__get__") [.builtin "object.__init_subclass__",.none,.ref a]) Q' E' ⟨h,g,d,t,os⟩)
 (q:∀ h' fA t',(∀ b o,h.get? b=some o->h'.get? b=some o)->h'.get? fA=some ⟨.type "builtin_function_or_method",none,.fields #[.builtin "object.__init_subclass__",.ref a],#[]⟩->Q (.ref fA) ⟨h',g,d,t',os⟩) :
 wpAny (model prog w) A (getAttr (.ref sA) "__init_subclass__") Q E ⟨h,g,d,t,os⟩:=by
 revert pre ha hm hp hst hs hget q
 revert prog w A E h g d t os Q a sA sl cd
 refine no_implicit_lambda% (al14 (n:=⟨(default,w0,a0,default,default,default,d0,default)⟩) ?_)
 generalize et14 _ _=υ
 generalize υ.1=prog,υ.2.1=w,υ.2.2.1=A,υ.2.2.2.1=E,υ.2.2.2.2.1=h,υ.2.2.2.2.2.1=g,υ.2.2.2.2.2.2.1=d,υ.2.2.2.2.2.2.2.1=t,υ.2.2.2.2.2.2.2.2.1=os,υ.2.2.2.2.2.2.2.2.2.1=Q,υ.2.2.2.2.2.2.2.2.2.2.1=a,υ.2.2.2.2.2.2.2.2.2.2.2.1=sA,υ.2.2.2.2.2.2.2.2.2.2.2.2.1=sl,υ.2.2.2.2.2.2.2.2.2.2.2.2.2=cd
 intro pre ha hm hp hst hs hget q
 unfold getAttr
 refine wpAny_bind (wpAny_bind (wpAny_fresh' (wpAny_pure ?_)))
 unfold getAttrBy
 refine wpAny_holding (wpAny_bind (wpAny_bind (wpAny_load hs (wpAny_pure ?_))))
 refine wpAny_bind (wpAny_pureEq tl_super_ga ?_)
 refine wpAny_ite_false rfl ?_
 unfold getAttrByItsOwn
 refine wpAny_bind ?_
 k_node
 k_node
 refine wpAny_pure (wpAny_bind (wpAny_attempt (wpAny_holding ?_)))
 unfold callGetattribute
 k_node
 k_node
 refine wpAny_bind ?_
 k_node
 refine wpAny_bind ?_
 k_node
 refine wpAny_pureEq bt_sg (wpAny_ite_true rfl (wpAny_pure ?_))
 k_node
 refine wpAny_call (codeAny_call_builtin slot_sup.plain entryS (slot_sup.check _ _ _ _ _ _ _ _ ⟨_,hs,rfl⟩ (args_sup _ _) ?_))
 unfold Builtin.«super.__getattribute__»
 k_node
 refine wpAny_bind ?_
 k_node
 refine wpAny_pure ?_
 k_node
 k_node
 refine wpAny_bind ?_
 k_node
 refine wpAny_pure <| wpAny_bind ?_
 k_node
 refine fld hs rfl (x:=.ref a) rfl (wpAny_bind (fld hs rfl (x:=.ref a) rfl (wpAny_bind (fld hs rfl (x:=.ref a) rfl (wpAny_ite_false rfl (wpAny_bind ?_))))))
 unfold notOfAnOpaqueClass
 refine wpAny_bind (no_opaque hst ?_)
 refine wpAny_pure ?_
 k_node
 k_node
 refine wpAny_bind (wpAny_bind (wpAny_bind (wpAny_load ha (wpAny_pure (wpAny_pure ?_)))))
 refine qE hm ?_
 have hdw:List.drop 1 (List.dropWhile (fun x=>x != Value.ref a) (Value.ref a::(pre++[Value.type "object"])))=pre++[Value.type "object"]:=by
  refine qE (List.dropWhile_cons_of_neg (by simp)) ?_;rfl
 refine qE hdw (wpAny_bind (forIn_skip_app (fun x hx Q q=>?_) ?_))
 · refine wpAny_bind (lk_use (hp x hx).2 (fun ξ ξ e=>e) ?_)
   exact wpAny_pure q
 refine wpAny_bind ?_
 k_node
 refine wpAny_pure (qE own_oi (wpAny_bind (wpAny_bind (wpAny_pureEq bt_oi ?_))))
 refine nd_pure (wpAny_bind (wpAny_pureEq tl_cmd ?_))
 refine wpAny_bind <| wpAny_holding (qE (if_pos (beq_self_eq_true _)) (hget _ _ _ _ fun h' fA k e=>wpAny_bind ?_))
 k_node
 refine wpAny_pure <| wpAny_pure <| wpAny_pure ?_
 k_node
 k_node
 exact wpAny_pure (q _ _ _ k e)
structure SupOk (prog:Program) (w:World) (bm:List Value):Prop where
 make:∀ {A:Around} {E:VP} {h:Heap} {d t os} {Q:VP} {a n:Addr} {nm q:Str} {k0 k1 k2 k3 k4 k5:Option Value} {bs:List Value} {sn:List Str},
  h.get? a=some (clsObj #[k0,k1,k2,k3,k4,k5] { name:=nm,bases:=bs,mro:=.ref a::bm,ns:=n,qualname:=q,slotNames:=sn }) →
  (∀ h' sA,(∀ b o,h.get? b=some o->h'.get? b=some o)->h'.get? sA=some ⟨.type "super",none,.fields #[.ref a,.ref a,.ref a],#[]⟩->Q (.ref sA) ⟨h',#[],d,t,os⟩) →
  wpAny (model prog w) A (PySem.call (.type "super") [.ref a,.ref a]) Q E ⟨h,#[],d,t,os⟩
 get:∀ {A:Around} {E:VP} {h:Heap} {d t os} {Q:VP} {a n:Addr} {nm q:Str} {k0 k1 k2 k3 k4 k5:Option Value} {bs:List Value} {sn:List Str},
  h.get? a=some (clsObj #[k0,k1,k2,k3,k4,k5] { name:=nm,bases:=bs,mro:=.ref a::bm,ns:=n,qualname:=q,slotNames:=sn }) →
  (∀ h' sA,(∀ b o,h.get? b=some o->h'.get? b=some o)->h'.get? sA=some ⟨.type "builtin_function_or_method",none,.fields #[.builtin "object.__init_subclass__",.ref a],#[]⟩->Q (.ref sA) ⟨h',#[],d,t,os⟩) →
  wpAny (model prog w) A (PySem.call (.builtin "classmethod_descriptor.__get__") [.builtin "object.__init_subclass__",.none,.ref a]) Q E ⟨h,#[],d,t,os⟩
theorem supOk0 (prog:Program) (w:World):SupOk prog w [.type "object"]:=⟨fun ha q=>sup_make0 (b0:=0) (fA:=0) ha rfl fun _ _ a b _=>q _ _ a b,fun ha q=>sup_get0 (b0:=0) (fA:=0) ha rfl fun _ _ a b _=>q _ _ a b⟩
theorem supOk1 (prog:Program) (w:World):SupOk prog w [.type "Exception",.type "BaseException",.type "object"]:=⟨fun ha q=>sup_make1 (b0:=0) (fA:=0) ha rfl fun _ _ a b _=>q _ _ a b,fun ha q=>sup_get1 (b0:=0) (fA:=0) ha rfl fun _ _ a b _=>q _ _ a b⟩
theorem supOk2 (prog:Program) (w:World) (b0:Addr):SupOk prog w [.ref b0,.type "object"]:=⟨fun ha q=>sup_make2 (fA:=0) ha rfl fun _ _ a b _=>q _ _ a b,fun ha q=>sup_get2 (fA:=0) ha rfl fun _ _ a b _=>q _ _ a b⟩
theorem supOk3 (prog:Program) (w:World) (b0:Addr):SupOk prog w [.ref b0,.type "Exception",.type "BaseException",.type "object"]:=⟨fun ha q=>sup_make3 (fA:=0) ha rfl fun _ _ a b _=>q _ _ a b,fun ha q=>sup_get3 (fA:=0) ha rfl fun _ _ a b _=>q _ _ a b⟩
section
set_option pp.maxSteps 600
theorem isInst_ty {M:Model} {A:Around} {E:VP} {s:Shared} {a:Addr} {o:Obj} {T:String} {Q:Bool->Shared->Prop} (ho:s.heap.get? a=some o) (hc:o.cls=.type T) (hs:isSubtype (.type T) (.type T)=pure true) (q:Q true s):wpAny M A (isInstance (.ref a) (.type T)) Q E s:=by
 unfold isInstance
 refine wpAny_bind (wpAny_bind (wpAny_load ho (wpAny_pure ?_)))
 refine qE hc (qE hs ?_)
 exact wpAny_pure q
noncomputable def delOf:Value->Sem Bool:=fun
 | .ref b=>do
  if ← classHasDel b then return true
  return (← nsGet (← classData b).ns "__del__").isSome
 | .type n=>pure ((Manifest.find? n).elim false fun ty=>ty.attrs.any (·.1=="__del__"))
 | _=>pure false
structure BaseOk (M:Model) (h:Heap) (b:Value) (bm:List Value) (mk:String) (gd gw:Bool) (sn:List Str):Prop where
 isType:Looks M h (isType b) true
 ty:Looks M h (typeOf b) (.type "type")
 mro:Looks M h (mroOf b) bm
 best:Looks M h (Slots.bestBase [b]) b
 ext:Looks M h (extendedBase [b]) b
 nt:Looks M h (notOverATurnedClass [b]) ()
 snm:Looks M h (Slots.slotNamesOf b) sn
 gd:Looks M h (Slots.givesDict b) gd
 gw:Looks M h (Slots.givesWeak b) gw
 vs:Looks M h (Slots.varSize b) false
 made:Looks M h (Bind.madeBy b) (some mk)
 lin:Looks M h (linearize [b] mroOf) bm
 del:Looks M h (bm.anyM delOf) false
 new:Looks M h (lookupAlong bm "__new__") (some (.builtin mk))
 mkE:mk.endsWith ".__new__"=true
 snl:sn.length<=100
 old:∀ c,.ref c∈bm->c<h.objs.size
theorem mroHook_type:mroHook? (.type "type")=pure none:=by
 unfold mroHook?
 refine qE tl_type_mro ?_
 rfl
theorem slots_read {M:Model} {h:Heap} {b:Value} {bm mk gd gw sn} (B:BaseOk M h b bm mk gd gw sn) {name:Str} {es:Array DictEntry} (hs:es.find? (·.key.isStr "__slots__")=none) :
 Looks M h (Slots.read name [b] es) { inherited:=sn,dict:=!gd,weak:=!gw }:=by
 intro A Q E s k q
 unfold Slots.read
 refine wpAny_bind (lk_use B.best k ?_)
 refine wpAny_bind (lk_use B.snm k ?_)
 refine wpAny_bind (lk_use B.gd k ?_)
 refine wpAny_bind (lk_use B.gw k ?_)
 refine wpAny_bind (lk_use B.vs k ?_)
 refine qE hs (wpAny_pure ?_)
 simpa using q
theorem dictEntries_of {M:Model} {A:Around} {E:VP} {s:Shared} {a:Addr} {c es ep sl dd} {part:Option Value} {Q:Array DictEntry->Shared->Prop} (ho:s.heap.get? a=some { cls:=c,dict:=dd,data:=.dict es ep,slots:=sl }) (q:Q es s):wpAny M A (dictEntries a part) Q E s:=
 wpAny_bind (wpAny_loadPart ho (wpAny_pure q))
theorem install_of {M:Model} {A:Around} {E:VP} {h h0:Heap} {g d t os} {b:Value} {bm mk gd gw sn} (B:BaseOk M h0 b bm mk gd gw sn) {n a:Addr} {es m sl cd}
 (x:CC h0 h n a (clsObj sl cd) es m) (hs:cd.subclasses=[]) {Q:Unit->Shared->Prop}
 (q:∀ h',CC h0 h' n a (clsObj sl { cd with hasDict:=true,slotNames:=sn }) es m->Q () ⟨h',g,d,t,os⟩):wpAny M A (Slots.install (.ref a) n [b] { dict:=!gd,weak:=!gw,inherited:=sn }) Q E ⟨h,g,d,t,os⟩:=by
 unfold Slots.install
 refine wpAny_bind (wpAny_pure ?_)
 have fin:wpAny M A (do
  if sn.length+([]:List Str).length > sizeLine then unsupported "type.__new__:slots:memory"
  updateCls a fun c=>{ c with hasDict:=true,slotNames:=sn++[] }) Q E ⟨h,g,d,t,os⟩:=by
  refine wpAny_ite_false (decide_eq_false (by have:=B.snl;have h2:(100:Nat)<=sizeLine:=nb rfl;show ¬ sn.length+0 > sizeLine;lia)) ?_
  refine x.upd rfl (by show cd.subclasses.length<=_;refine qE hs ?_;exact Nat.zero_le _) (by show (sn++[]).length<=_;rw [List.append_nil];exact Nat.le_trans B.snl (nb rfl)) fun h' y=>q h' (y.conv (by rw [List.append_nil]))
 refine wpAny_bind (wpAny_bind (wpAny_bind (lk_use B.gd x.K ?_)))
 cases gd
 · k_node
   refine wpAny_pure ?_
   k_node
   k_node
   refine wpAny_pure ?_
   k_node
   exact fin
 · k_node
   refine wpAny_pure ?_
   k_node
   k_node
   refine wpAny_pure ?_
   k_node
   exact fin
theorem tnew {prog:Program} {w:World} {A:Around} {E:VP} {Q:PySem.Fin->Shared->Prop} {h:Heap} {g d t os} {nA bT:Addr} {es m0} {b:Value} {bm mk gd gw sn} {gv:List Value}
 {name q:Str} {t0 tq:Tok} {vm:Value} {g':Array Value}
 (N:NsE h nA es m0) (hbT:h.get? bT=some { cls:=.type "tuple",data:=.seq gv.toArray })
 (B:BaseOk (model prog w) h b bm mk gd gw sn) (hgv:gv=[]/\b=.type "object"\/gv=[b]) (hnA:(nA==sysModules)=false)
 (hq:m0 "__qualname__"=some (.str q tq)) (hm:m0 "__module__"=some vm) (hV:∀ k v,m0 k=some v->VO h v) (hz:es.size<=10000)
 (ho:∀ k:Str,k∈(["__slots__","__new__","__init_subclass__","__class_getitem__","__classcell__","__classdictcell__","__del__","__dict__","__weakref__","__eq__"]:List Str)->m0 k=none)
 (hnm:(name.cps.any fun c=>0xD800<=c&&c<=0xDFFF)=false) (hn0:name.cps.contains 0=false) (hd:m0 "__doc__"=none\/∃ x tx,m0 "__doc__"=some (.str x tx)/\(x.cps.any fun c=>0xD800<=c&&c<=0xDFFF)=false)
 (wr:Addr) (hwl:wr<h.objs.size) (hwc:∀ o,h.get? wr=some o->SoftO o->False) (hwo:∃ o,h.get? wr=some o)
 (Bs:Heap->Addr->Prop) (hupd:∀ (h':Heap) (a:Addr) (t':Nat) (Q:Unit->Shared->Prop),(∀ b o,h.get? b=some o->h'.get? b=some o)->h.objs.size<=a->(∀ h'' t'',Heap.SameBut wr h' h''->Bs h'' a->Q () ⟨h'',g,d,t'',os⟩)->wpAny (model prog w) A (noteBase b a) Q E ⟨h',g,d,t',os⟩)
 (hini:∀ h'' a,Bs h'' a->(∃ mc,h''.Ns cStatics mc/\mc "thirdparty.any"=none)/\∃ pre,bm=pre++[.type "object"]/\∀ c∈pre,Looks (model prog w) h'' (classOwn c "__init_subclass__") none)
 (hBk:∀ h1 h2 a,Bs h1 a->(∀ b o,h1.get? b=some o->h2.get? b=some o)->Bs h2 a) (hg:g=#[]) (hsup:SupOk prog w bm)
 (hq':∀ h' a n es' m' t',CD h h' wr n a (clsObj #[if gv.isEmpty then none else some (.ref bT),none,some (.str name t0),some (.str q tq),some (.builtin mk),some (.bool ((!gw)||gw))] { name:=name,bases:=[b],mro:=.ref a::bm,ns:=n,qualname:=q,slotNames:=sn }) es' m' →
  (∀ k:Str,k≠"__qualname__"->k≠"__dict__"->k≠"__weakref__"->k≠"__doc__"->m' k=m0 k)->Bs h' a->Q (.done (.ret (.ref a))) ⟨h',#[],d,t',os⟩)
 : wpAny (model prog w) A (Builtin.«type.__new__» ⟨[.type "type",.str name t0,.ref bT,.ref nA],[]⟩) Q E ⟨h,g,d,t,os⟩:=by
 revert N hbT B hgv hnA hq hm hV hz ho hnm hn0 hd hwl hwc hwo hupd hini hBk hg hsup hq'
 revert prog w A E Q h g d t os nA bT es m0 b bm mk gd gw sn gv name q t0 tq vm g' wr Bs
 refine no_implicit_lambda% (al29 (n:=⟨(default,w0,a0,default,default,default,default,d0,default)⟩) ?_)
 generalize et29 _ _=υ
 generalize υ.1=prog,υ.2.1=w,υ.2.2.1=A,υ.2.2.2.1=E,υ.2.2.2.2.1=Q,υ.2.2.2.2.2.1=h,υ.2.2.2.2.2.2.1=g,υ.2.2.2.2.2.2.2.1=d,υ.2.2.2.2.2.2.2.2.1=t,υ.2.2.2.2.2.2.2.2.2.1=os,υ.2.2.2.2.2.2.2.2.2.2.1=nA,υ.2.2.2.2.2.2.2.2.2.2.2.1=bT,υ.2.2.2.2.2.2.2.2.2.2.2.2.1=es,υ.2.2.2.2.2.2.2.2.2.2.2.2.2.1=m0,υ.2.2.2.2.2.2.2.2.2.2.2.2.2.2.1=b,υ.2.2.2.2.2.2.2.2.2.2.2.2.2.2.2.1=bm,υ.2.2.2.2.2.2.2.2.2.2.2.2.2.2.2.2.1=mk,υ.2.2.2.2.2.2.2.2.2.2.2.2.2.2.2.2.2.1=gd,υ.2.2.2.2.2.2.2.2.2.2.2.2.2.2.2.2.2.2.1=gw,υ.2.2.2.2.2.2.2.2.2.2.2.2.2.2.2.2.2.2.2.1=sn,υ.2.2.2.2.2.2.2.2.2.2.2.2.2.2.2.2.2.2.2.2.1=gv,υ.2.2.2.2.2.2.2.2.2.2.2.2.2.2.2.2.2.2.2.2.2.1=name,υ.2.2.2.2.2.2.2.2.2.2.2.2.2.2.2.2.2.2.2.2.2.2.1=q,υ.2.2.2.2.2.2.2.2.2.2.2.2.2.2.2.2.2.2.2.2.2.2.2.1=t0,υ.2.2.2.2.2.2.2.2.2.2.2.2.2.2.2.2.2.2.2.2.2.2.2.2.1=tq,υ.2.2.2.2.2.2.2.2.2.2.2.2.2.2.2.2.2.2.2.2.2.2.2.2.2.1=vm,υ.2.2.2.2.2.2.2.2.2.2.2.2.2.2.2.2.2.2.2.2.2.2.2.2.2.2.1=g',υ.2.2.2.2.2.2.2.2.2.2.2.2.2.2.2.2.2.2.2.2.2.2.2.2.2.2.2.1=wr,υ.2.2.2.2.2.2.2.2.2.2.2.2.2.2.2.2.2.2.2.2.2.2.2.2.2.2.2.2=Bs
 intro N hbT B hgv hnA hq hm hV hz ho hnm hn0 hd hwl hwc hwo hupd hini hBk hg hsup hq'
 have hfind:=fun n (e:m0 n=none)=>N.find_none e
 have hany:=N.any
 have N':=N
 obtain ⟨⟨ep,hN⟩,hk,hu,hf⟩:=N
 have hlen:¬ ((some gv.toArray).getD #[]).toList.length > 2 ^ 20:=by rcases hgv with ⟨e,_⟩ | e <;> (subst e;simp)
 k_node
 refine wpAny_bind ?_
 k_node
 refine wpAny_pure <| wpAny_bind ?_
 k_node
 refine isInst_ty hbT rfl sub_tup ?_
 k_node
 k_node
 refine wpAny_bind ?_
 k_node
 refine isInst_ty hN rfl sub_dct ?_
 k_node
 k_node
 refine wpAny_bind ?_
 k_node
 refine wpAny_bind ?_
 k_node
 refine nd_load hbT (nd_pure <| wpAny_pure ?_)
 k_node
 refine wpAny_ite_false (decide_eq_false hlen) (wpAny_bind ?_)
 have hmem:∀ x∈((some gv.toArray).getD #[]).toList,x=b:=by rcases hgv with ⟨e,_⟩ | e <;> (subst e;simp)
 have K0:∀ b o,h.get? b=some o->h.get? b=some o:=fun ξ ξ e=>e
 k_node
 refine forIn_skip (fun x hx Q q=>?_) ?_
 · obtain rfl:=hmem x hx
   refine wpAny_bind (lk_use B.isType K0 ?_)
   k_node
   exact wpAny_pure q
 refine wpAny_bind ?_
 k_node
 k_node
 refine forIn_skip (fun x hx Q q=>?_) ?_
 · obtain rfl:=hmem x hx
   refine wpAny_bind (lk_use B.ty K0 ?_)
   refine wpAny_bind (wpAny_pureEq sub_typ ?_)
   k_node
   exact wpAny_pure q
 k_node
 k_node
 refine wpAny_bind ?_
 have hbs:(if ((some gv.toArray).getD #[]).toList.isEmpty=true then [Value.type "object"] else ((some gv.toArray).getD #[]).toList)=[b]:=by rcases hgv with ⟨e,e'⟩ | e <;> (subst e;try subst e') <;> rfl
 k_node
 refine qE hbs (lk_use B.nt K0 (wpAny_bind (lk_use B.ext K0 ?_)))
 k_node
 refine wpAny_ite_false (decide_eq_false (by refine qE hnA ?_;exact Bool.false_ne_true)) ?_
 refine wpAny_bind ?_
 k_node
 refine dictEntries_of hN (wpAny_bind (wpAny_bind (wpAny_bind (wpAny_load hN (wpAny_pure (wpAny_pureEq tl_dict_iter ?_)))) |> id))
 k_node
 refine wpAny_ite_true (by simp) (wpAny_bind <| wpAny_pure <| wpAny_bind (wpAny_holding (lk_use (slots_read B (hfind _ (ho _ (by decide +kernel)))) K0 (wpAny_bind (CS.make N' hV hz fun h1 n S=>?_)))))
 revert S;revert h1 n;refine no_implicit_lambda% (al2 ?_);generalize et2 _ _=υ;generalize υ.1=h1,υ.2=n;clear υ;intro S
 k_node
 refine wpAny_ite_false (decide_eq_false (by show ¬ ((!(es.any fun x=>x.key.isStr "__module__"))=true);rw [hany,hm];simp)) ?_
 refine wpAny_bind ?_
 k_node
 refine wpAny_ite_false (decide_eq_false (by refine qE hnm ?_;exact Bool.false_ne_true)) ?_
 refine wpAny_pure ?_
 k_node
 refine wpAny_ite_false (decide_eq_false (by refine qE hn0 ?_;exact Bool.false_ne_true)) ?_
 refine wpAny_bind (S.get (qE hq (wpAny_bind (S.get (qE hq (wpAny_bind ?_))))))
 k_node
 refine wpAny_pure <| wpAny_bind <| wpAny_pure <| wpAny_bind ?_
 apply by_key
 · intro key
   refine S.get ?_
   rcases hd with hd | ⟨x,tx,hd,hx⟩
   · refine qE hd (wpAny_bind ?_)
     k_node
     exact key
   · refine qE hd (wpAny_bind ?_)
     k_node
     refine wpAny_pure <| wpAny_bind ?_
     k_node
     refine wpAny_ite_false (decide_eq_false (by refine qE hx ?_;exact Bool.false_ne_true)) ?_
     exact wpAny_pure <| wpAny_bind key
 refine CC.make S fun h2 a X=>?_
 revert X;revert h2 a;refine no_implicit_lambda% (al2 ?_);generalize et2 _ _=υ;generalize υ.1=h2,υ.2=a;clear υ;intro X
 k_node
 apply by_key2 (C:=fun h'=>CC h h' n a (clsObj #[if gv.isEmpty then none else some (.ref bT),none,some (.str name t0)] { name:=name,bases:=[b],mro:=[],ns:=n,qualname:=q }) es m0)
 · intro key
   refine hgv.elim (fun e=>?_) (fun e=>?_)
   · replace e:=e.1
     refine wpAny_ite_false (decide_eq_false (by refine qE e ?_;simp)) ?_
     exact wpAny_bind (X.slot rfl rfl (by decide) fun h3 X=>key h3 (by rw [show (if gv.isEmpty then none else some (Value.ref bT))=none by refine qE e ?_;rfl];exact X))
   · refine wpAny_ite_true (decide_eq_true (by refine qE e ?_;simp)) ?_
     exact wpAny_bind (X.slot rfl rfl (by decide) fun h3 X=>wpAny_bind (X.slot rfl rfl (by decide) fun h3 X=>key h3 (by rw [show (if gv.isEmpty then none else some (Value.ref bT))=some (Value.ref bT) by refine qE e ?_;rfl];exact X)))
 revert hq';refine gnE (if gv.isEmpty then none else some (Value.ref bT)) fun k0 hk0 hq'=>?_
 revert hk0 hq';revert k0;refine no_implicit_lambda% (al1 ?_);generalize et1 _ _=k0;intro hk0 hq'
 intro h3 X
 revert X;revert h3;refine no_implicit_lambda% (al1 ?_);generalize et1 _ _=h3;intro X
 k_node
 refine wpAny_bind (X.slotP rfl (by simp) fun h4 X=>?_)
 revert X;revert h4;refine no_implicit_lambda% (al1 ?_);generalize et1 _ _=h4;intro X
 refine wpAny_bind ?_
 k_node
 refine X.del fun h5 es5 X=>?_
 revert X;revert h5 es5;refine no_implicit_lambda% (al2 ?_);generalize et2 _ _=υ;generalize υ.1=h5,υ.2=es5;clear υ;intro X
 refine wpAny_bind (X.getE ((if_neg (by decide)).trans (ho _ (by decide +kernel))) (wpAny_bind ?_))
 k_node
 k_node
 k_node
 refine forIn_skip (fun x hx Q q=>?_) ?_
 · refine wpAny_bind (X.getE ((if_neg (by intro e;subst e;revert hx;decide)).trans (ho x (by revert hx;simp;rintro (rfl | rfl) <;> simp))) ?_)
   exact wpAny_pure q
 refine wpAny_bind (X.getE ((if_neg (by decide)).trans (ho _ (by decide +kernel))) (wpAny_bind ?_))
 k_node
 refine X.getE ((if_neg (by decide)).trans (ho _ (by decide +kernel))) (wpAny_bind ?_)
 k_node
 refine wpAny_pureEq mroHook_type (wpAny_bind ?_)
 k_node
 refine lk_use B.lin X.K (wpAny_bind <| wpAny_pure <| wpAny_bind ?_)
 have hfl:List.filter (fun x=>x != Value.ref a) (Value.ref a::bm)=bm:=by
  rw [List.filter_cons_of_neg (by simp),List.filter_eq_self]
  intro x hx
  rw [bne_iff_ne]
  rintro rfl
  exact absurd (B.old _ hx) (Nat.not_lt.mpr X.la)
 refine qE hfl (lk_use B.del X.K ?_)
 have hdel:(es.any fun x=>x.key.isStr "__del__")=false:=by rw [hany,ho _ (by simp)];rfl
 refine wpAny_bind (X.upd rfl (Nat.zero_le _) (Nat.zero_le _) fun h6 X6=>?_)
 have X:=X6.conv (o':=clsObj #[k0,none,some (.str name t0),some (.str q tq)] { name:=name,bases:=[b],mro:=.ref a::bm,ns:=n,qualname:=q }) (by
  show clsObj _ { name:=name,bases:=[b],mro:=.ref a::bm,ns:=n,qualname:=q,hasDel:=(es.any fun x=>x.key.isStr "__del__")||false }=_
  refine qE hdel ?_;rfl)
 clear X6
 revert X;revert h6;refine no_implicit_lambda% (al1 ?_);generalize et1 _ _=h6;intro X
 refine wpAny_bind (lk_use B.made X.K (wpAny_bind (X.slotP rfl (by simp) fun h7 X=>?_)))
 revert X;revert h7;refine no_implicit_lambda% (al1 ?_);generalize et1 _ _=h7;intro X
 refine wpAny_bind ?_
 unfold Bind.refreshMaker
 refine wpAny_bind (slot_at X.C ?_)
 refine wpAny_ite_false rfl (wpAny_bind (X.look rfl rfl ((if_neg (by decide)).trans (ho _ (by decide +kernel))) B.new ?_))
 refine wpAny_ite_false (by refine qE B.mkE ?_;rfl) ?_
 refine wpAny_pure <| wpAny_bind (install_of B X rfl fun h8 X=>?_)
 revert X;revert h8;refine no_implicit_lambda% (al1 ?_);generalize et1 _ _=h8;intro X
 refine wpAny_bind (lk_use B.gw X.K (wpAny_bind (X.slotP rfl (by simp) fun h9 X=>?_)))
 revert X;revert h9;refine no_implicit_lambda% (al1 ?_);generalize et1 _ _=h9;intro X
 k_node
 apply by_key3 (C:=fun h'=>∃ es' m',CC h h' n a (clsObj #[k0,none,some (.str name t0),some (.str q tq),some (.builtin mk),some (.bool ((!gw)||gw))] { name:=name,bases:=[b],mro:=.ref a::bm,ns:=n,qualname:=q,slotNames:=sn }) es' m' ∧
  ∀ k:Str,k≠"__qualname__"->k≠"__dict__"->m' k=m0 k)
 · intro key
   by_cases hg:(!gd)=true
   · refine wpAny_ite_true (by exact decide_eq_true hg) (wpAny_bind (X.getE ((if_neg (by decide)).trans (ho _ (by decide +kernel))) ?_))
     k_node
     refine wpAny_bind (wpAny_mkStr' ?_ (nb rfl))
     refine wpAny_bind (X.getset (nb rfl) fun h10' v X hv=>wpAny_bind (X.set hv fun h11 t11 es11 X=>?_))
     k_node
     exact key h11 t11 ⟨_,_,X,fun k e1 e2=>(if_neg e2).trans (if_neg e1)⟩
   · refine wpAny_ite_false (by exact decide_eq_false hg) ?_
     k_node
     exact key h9 t ⟨_,_,X,fun k e1 e2=>if_neg e1⟩
 clear X
 intro h10 t10 z1;refine ea2_2 z1 fun es10 m10 X hm10=>?_;clear z1
 revert X hm10;revert h10 t10 es10 m10;refine no_implicit_lambda% (al4 ?_);generalize et4 _ _=υ;generalize υ.1=h10,υ.2.1=t10,υ.2.2.1=es10,υ.2.2.2=m10;clear υ;intro X hm10
 have ho10:∀ k:Str,k≠"__qualname__"->k≠"__dict__"->k∈(["__slots__","__new__","__init_subclass__","__class_getitem__","__classcell__","__classdictcell__","__del__","__dict__","__weakref__","__eq__"]:List Str)->m10 k=none:=fun k e1 e2 e=>(hm10 k e1 e2).trans (ho k e)
 apply by_key3 (C:=fun h'=>∃ es' m',CC h h' n a (clsObj #[k0,none,some (.str name t0),some (.str q tq),some (.builtin mk),some (.bool ((!gw)||gw))] { name:=name,bases:=[b],mro:=.ref a::bm,ns:=n,qualname:=q,slotNames:=sn }) es' m' ∧
  ∀ k:Str,k≠"__qualname__"->k≠"__dict__"->k≠"__weakref__"->m' k=m0 k)
 · intro key
   by_cases hg:(!gw)=true
   · refine wpAny_ite_true (by exact decide_eq_true hg) (wpAny_bind (X.getE (ho10 _ (by decide) (by decide) (by simp)) ?_))
     k_node
     refine wpAny_bind (wpAny_mkStr' ?_ (nb rfl))
     exact wpAny_bind (X.getset (nb rfl) fun h10' v X hv=>wpAny_bind (X.set hv fun h11 t11 es11 X=>wpAny_bind (key h11 t11 ⟨_,_,X,fun k e1 e2 e3=>(if_neg e3).trans (hm10 k e1 e2)⟩)))
   · exact wpAny_ite_false (by exact decide_eq_false hg) (wpAny_bind (key h10 t10 ⟨_,_,X,fun k e1 e2 e3=>hm10 k e1 e2⟩))
 clear X ho10 hm10 m10
 intro h11 t11 z1;refine ea2_2 z1 fun es11 m11 X hm11=>?_;clear z1
 apply by_key3 (C:=fun h'=>∃ es' m',CC h h' n a (clsObj #[k0,none,some (.str name t0),some (.str q tq),some (.builtin mk),some (.bool ((!gw)||gw))] { name:=name,bases:=[b],mro:=.ref a::bm,ns:=n,qualname:=q,slotNames:=sn }) es' m' ∧
  ∀ k:Str,k≠"__qualname__"->k≠"__dict__"->k≠"__weakref__"->k≠"__doc__"->m' k=m0 k)
 · intro key
   refine X.getE (hm11 _ (by decide) (by decide) (by decide)) (hd.elim (fun hd=>?_) (fun hd=>?_))
   · refine qE hd ?_
     k_node
     k_node
     exact wpAny_bind (X.set (v:=.none) trivial fun h12 t12 es12 X=>wpAny_bind (key h12 t12 ⟨_,_,X,fun k e1 e2 e3 e4=>(if_neg e4).trans (hm11 k e1 e2 e3)⟩))
   · refine hd.elim fun x hd=>hd.elim fun tx hd=>qE hd.1 ?_
     k_node
     k_node
     exact wpAny_bind (key h11 t11 ⟨_,_,X,fun k e1 e2 e3 e4=>hm11 k e1 e2 e3⟩)
 clear X hm11 m11
 intro h12 t12 z1;refine ea2_2 z1 fun es12 m12 X hm12=>?_;clear z1
 refine X.getE ((hm12 _ (by decide) (by decide) (by decide) (by decide)).trans (ho _ (by decide +kernel))) ?_
 k_node
 k_node
 refine wpAny_bind (hupd _ a _ _ X.K X.la fun h13 t13 S13 B13=>?_)
 have Y:=X.toCD hwl (fun o e=>hwc o (by refine ea1_1 hwo fun o' e'=>?_;clear hwo;replace e:=X.K _ _ e'▸e;cases e;exact e')) S13
 subst hg
 refine wpAny_bind (wpAny_tryCatch (wpAny_holding ?_))
 refine ea1_1 Y.N.at_ fun epn hNn=>wpAny_bind ?_
 k_node
 refine dictEntries_of hNn (wpAny_bind (qB Array.forIn_toList (forIn_skip (fun x hx Q q=>?_) ?_)))
 · refine ea2_2 (Y.N.mem (Array.mem_toList_iff.mp hx)) fun k tk hk1 hk2=>qE hk1 (wpAny_bind ?_)
   k_node
   refine wpAny_pure ?_
   k_node
   exact wpAny_pure q
 k_node
 k_node
 refine wpAny_bind (dictEntries_of hNn (qB Array.forIn_toList (wpAny_bind (forIn_skip (fun x hx Q q=>?_) ?_))))
 · refine ea2_2 (Y.N.mem (Array.mem_toList_iff.mp hx)) fun k tk hk1 hk2=>?_
   have hvo:=Y.V _ _ hk2
   refine wpAny_ite_false (by refine qE (laid_false hvo) ?_;rfl) ?_
   refine wpAny_bind (vo_setname hvo ?_)
   exact wpAny_pure q
 refine ea0_2 (hini _ _ B13) fun hst z1=>?_;refine ea1_2 z1 fun pre hpre hpl=>?_;clear z1
 refine wpAny_bind (hsup.make (Y.C) fun h14 sA k14 e14=>?_)
 have Y:=Y.keeps k14
 have B14:=hBk _ _ _ B13 k14
 refine wpAny_bind <| wpAny_holding (sup_attr Y.C (by exact qE hpre rfl) (fun c hc=>⟨?_,(hpl c hc).keeps k14⟩) (let ⟨mc,x,y⟩:=hst;⟨mc,x.keeps k14,y⟩) e14 (fun A t Q' E' q=>hsup.get Y.C q) fun h15 fA t15 k15 e15=>?_)
 · rintro rfl
   exact absurd (B.old _ (by refine qE hpre ?_;exact List.mem_append_left _ hc)) (Nat.not_lt.mpr Y.la)
 have Y:=Y.keeps k15
 have B15:=hBk _ _ _ B14 k15
 refine wpAny_bind (sup_call Y.C e15 (wpAny_pure ?_))
 k_node
 exact wpAny_pure (hq' _ _ _ _ _ _ Y hm12 B15)
end
theorem o1:isType (.type "object")=pure true:=rfl
theorem o2:typeOf (.type "object")=pure (.type "type"):=by refine qE (show typeOf (.type "object")=pure (.type ((Manifest.find? "object").elim "type" (·.metatype))) from rfl) (qE find?_eq_fast ?_);kernel_rfl
theorem o3:mroOf (.type "object")=pure [.type "object"]:=by refine qE (show mroOf (.type "object")=(match builtinMro "object" with | some mro=>pure mro | none=>unsupported s!"internal:unknown-type:object") from rfl) (qE builtinMro_eq_fast ?_);kernel_rfl
theorem o4:Slots.bestBase [.type "object"]=pure (.type "object"):=by kernel_rfl
theorem o5:extendedBase [.type "object"]=pure (.type "object"):=by kernel_rfl
theorem o6:notOverATurnedClass [.type "object"]=pure ():=by kernel_rfl
theorem o7:Slots.slotNamesOf (.type "object")=pure []:=by kernel_rfl
theorem o8:Slots.givesDict (.type "object")=pure false:=by kernel_rfl
theorem o9:Slots.givesWeak (.type "object")=pure false:=by kernel_rfl
theorem o10:Slots.varSize (.type "object")=pure false:=by kernel_rfl
theorem o11:Bind.madeBy (.type "object")=pure (some "object.__new__"):=by kernel_rfl
theorem o12:linearize [.type "object"] mroOf=pure [.type "object"]:=by kernel_rfl
theorem o13:[Value.type "object"].anyM delOf=pure false:=by kernel_rfl
theorem o14:lookupAlong [.type "object"] "__new__"=pure (some (.builtin "object.__new__")):=by kernel_rfl
theorem baseOk_object (M:Model) (h:Heap):BaseOk M h (.type "object") [.type "object"] "object.__new__" false false [] where
 isType:=.of_pure o1
 ty:=.of_pure o2
 mro:=.of_pure o3
 best:=.of_pure o4
 ext:=.of_pure o5
 nt:=.of_pure o6
 snm:=.of_pure o7
 gd:=.of_pure o8
 gw:=.of_pure o9
 vs:=.of_pure o10
 made:=.of_pure o11
 lin:=.of_pure o12
 del:=.of_pure o13
 new:=.of_pure o14
 mkE:=by decide +kernel
 snl:=by decide
 old:=by intro c hc;simp at hc
noncomputable abbrev exM:List Value:=[.type "Exception",.type "BaseException",.type "object"]
theorem e1:isType (.type "Exception")=pure true:=rfl
theorem e2:typeOf (.type "Exception")=pure (.type "type"):=by refine qE (show typeOf (.type "Exception")=pure (.type ((Manifest.find? "Exception").elim "type" (·.metatype))) from rfl) (qE find?_eq_fast ?_);kernel_rfl
theorem e3:mroOf (.type "Exception")=pure exM:=by kernel_rfl
theorem e4:Slots.bestBase [.type "Exception"]=pure (.type "Exception"):=by kernel_rfl
theorem e5:extendedBase [.type "Exception"]=pure (.type "Exception"):=by kernel_rfl
theorem e6:notOverATurnedClass [.type "Exception"]=pure ():=by kernel_rfl
theorem e7:Slots.slotNamesOf (.type "Exception")=pure []:=by kernel_rfl
theorem e8:Slots.givesDict (.type "Exception")=pure true:=by kernel_rfl
theorem e9:Slots.givesWeak (.type "Exception")=pure false:=by kernel_rfl
theorem e10:Slots.varSize (.type "Exception")=pure false:=by kernel_rfl
theorem e11:Bind.madeBy (.type "Exception")=pure (some "Exception.__new__"):=by kernel_rfl
theorem e12:linearize [.type "Exception"] mroOf=pure exM:=by kernel_rfl
theorem e13:exM.anyM delOf=pure false:=by kernel_rfl
theorem e14:lookupAlong exM "__new__"=pure (some (.builtin "Exception.__new__")):=by kernel_rfl
theorem baseOk_exc (M:Model) (h:Heap):BaseOk M h (.type "Exception") exM "Exception.__new__" true false [] where
 isType:=.of_pure e1
 ty:=.of_pure e2
 mro:=.of_pure e3
 best:=.of_pure e4
 ext:=.of_pure e5
 nt:=.of_pure e6
 snm:=.of_pure e7
 gd:=.of_pure e8
 gw:=.of_pure e9
 vs:=.of_pure e10
 made:=.of_pure e11
 lin:=.of_pure e12
 del:=.of_pure e13
 new:=.of_pure e14
 mkE:=by decide +kernel
 snl:=by decide
 old:=by intro c hc;simp [exM] at hc
section
noncomputable def StOk (h:Heap):Prop:=∃ mc,h.Ns cStatics mc/\∀ k v,mc k=some v->k.opensWith "type.__subclasses__."=true
theorem StOk.look {M:Model} {h:Heap} (x:StOk h) (k:Str) (e:k.opensWith "type.__subclasses__."=false):Looks M h (nsGet cStatics k) none:=by
 intro A Q E s kp q
 refine ea1_2 x fun mc hn hk=>?_;clear x
 refine wpAny_nsGet (hn.keeps kp) ?_
 induction hm:mc k with
 | none=>exact q
 | some v=>replace e:=hk _ _ hm▸e;injection e
theorem StOk.any {h:Heap} (x:StOk h):∃ mc,h.Ns cStatics mc/\mc "thirdparty.any"=none:=by
 refine ea1_2 x fun mc hn hk=>?_;clear x
 refine ⟨mc,hn,?_⟩
 induction hm:mc "thirdparty.any" with
 | none=>rfl
 | some v=>exact absurd (hk _ _ hm) (by decide)
theorem opens_ne {A B P:String} (h:((A.toList.map Char.toNat).head?,(P.toList.map Char.toNat).head?)=(some c,some d)) (hcd:c≠d):(Str.ofString (A++B)).opensWith (Str.ofString P)=false:=by
 rw [Str.ofString_eq_toList,Str.ofString_eq_toList]
 unfold Str.opensWith
 refine qE String.toList_append (qE List.map_append ?_)
 rw [beq_eq_false_iff_ne]
 intro e
 have e:=congrArg Array.toList e
 simp only [Array.toList_extract,List.extract_eq_take_drop,Nat.sub_zero,List.drop_zero,List.size_toArray] at e
 induction ha:A.toList.map Char.toNat using List.casesOn with
 | nil=>replace h:=ha▸h;cases (Prod.ext_iff.mp h).1
 | cons x r=>
  induction hp:P.toList.map Char.toNat using List.casesOn with
  | nil=>replace h:=hp▸h;cases (Prod.ext_iff.mp h).2
  | cons y r'=>
   rw [ha,hp] at h e
   simp only [List.head?_cons,Prod.mk.injEq,Option.some.injEq] at h
   simp only [List.length_cons,List.cons_append,List.take_succ_cons,List.cons.injEq] at e
   exact hcd (h.1▸h.2▸e.1)
theorem opens_eq (A B:String):(Str.ofString (A++B)).opensWith (Str.ofString A)=true:=by
 rw [Str.ofString_eq_toList,Str.ofString_eq_toList]
 unfold Str.opensWith
 rw [String.toList_append,List.map_append,beq_iff_eq]
 apply Array.ext'
 simp [Array.toList_extract,List.extract_eq_take_drop]
theorem turned_key (a:Addr):(mroTurnedKey a).opensWith "type.__subclasses__."=false:=
 opens_ne (A:="class.mro-hook.turned:") (c:=99) (d:=116) (by decide) (by decide)
set_option genInjectivity false in
structure CI where
 nm:Str
 qual:Str
 bases:List Value
 rest:List Value
 maker:String
 m:Str->Option Value
abbrev offNames (k:Str):Prop:=k≠"__qualname__"/\k≠"__dict__"/\k≠"__weakref__"/\k≠"__doc__"
structure ClsAt (h:Heap) (lo:Addr) (a:Addr) (ci:CI) (lim:Nat):Prop where
 ex:∃ n sub k0 k2 k3 m',lo<=n/\h.get? a=some (clsObj #[k0,none,k2,k3,some (.builtin ci.maker),some (.bool true)] { name:=ci.nm,bases:=ci.bases,mro:=.ref a::ci.rest,ns:=n,qualname:=ci.qual,subclasses:=sub }) ∧
  sub.length<=lim/\h.Ns n m'/\∀ k,offNames k->m' k=ci.m k
theorem ClsAt.keeps {h h':Heap} {lo a ci lim} (x:ClsAt h lo a ci lim) (k:Kp h h'):ClsAt h' lo a ci lim:=by
 exact ea6_5 x.ex fun n sub k0 k2 k3 m' ln e l N f=>⟨n,sub,k0,k2,k3,m',ln,k _ _ e,l,N.keeps k,f⟩
theorem ClsAt.own {M:Model} {h:Heap} {lo a ci lim} (x:ClsAt h lo a ci lim) {name:Str} {r:Option Value} (ho:offNames name) (hm:ci.m name=r):Looks M h (classOwn (.ref a) name) r:=by
 refine ea6_5 x.ex fun n sub k0 k2 k3 m' ln e l N f=>?_
 intro A Q E s kp q
 unfold classOwn classData
 refine wpAny_bind (wpAny_bind (wpAny_load (kp _ _ e) (wpAny_pure ?_)))
 refine wpAny_nsGet (N.keeps kp) (qE (f _ ho) (qE hm ?_))
 exact q
theorem ClsAt.mro {M:Model} {h:Heap} {lo a ci lim} (x:ClsAt h lo a ci lim):Looks M h (mroOf (.ref a)) (.ref a::ci.rest):=by
 refine ea6_5 x.ex fun n sub k0 k2 k3 m' ln e l N f=>?_
 intro A Q E s kp q
 unfold mroOf classData
 exact wpAny_bind (wpAny_bind (wpAny_load (kp _ _ e) (wpAny_pure (wpAny_pure q))))
theorem ClsAt.along {M:Model} {h:Heap} {lo a ci lim} (x:ClsAt h lo a ci lim) {name:Str} {r r':Option Value} (ho:offNames name) (hm:ci.m name=r') (hr:Looks M h (lookupAlong ci.rest name) r) :
 Looks M h (lookupAlong (.ref a::ci.rest) name) (match r' with | some v=>some v | none=>r):=by
 intro A Q E s kp q
 rw [lookupAlong_cons]
 refine wpAny_bind (lk_use (x.own ho hm) kp ?_)
 induction r' with
 | none=>exact lk_use hr kp q
 | some v=>exact wpAny_pure q
theorem ClsAt.look {M:Model} {h:Heap} {lo a ci lim} (x:ClsAt h lo a ci lim) {name:Str} {r r':Option Value} (ho:offNames name) (hm:ci.m name=r') (hr:Looks M h (lookupAlong ci.rest name) r) :
 Looks M h (typeLookup (.ref a) name) (match r' with | some v=>some v | none=>r):=by
 intro A Q E s kp q
 rw [typeLookup_eq]
 exact wpAny_bind (lk_use x.mro kp (lk_use (x.along ho hm hr) kp q))
noncomputable def solidAlong (l:List Value):Sem Value:=do
 for c in l do
  if ← Slots.addsLayout c then return c
  if let .type n:=c then
   if (Manifest.find? n).elim false (·.ownLayout) then return c
 return .type "object"
theorem solid_eq (b:Value):Slots.solid b=mroOf b >>= solidAlong:=rfl
theorem solidAlong_ref (a:Addr) (l:List Value):solidAlong (.ref a::l)=Slots.addsLayout (.ref a) >>= fun r=>if r=true then pure (.ref a) else solidAlong l:=by
 unfold solidAlong
 simp only [List.forIn_cons,bind_assoc]
 congr 1
 funext r
 cases r <;> simp
theorem sa_obj:solidAlong [.type "object"]=pure (.type "object"):=by kernel_rfl
theorem sa_exc:solidAlong exM=pure (.type "BaseException"):=by kernel_rfl
structure TopBase (b:Value) (rest:List Value) (maker:String) (so:Value):Prop where
 sn:Slots.slotNamesOf b=pure []
 soE:solidAlong rest=pure so
 ini:lookupAlong rest "__init_subclass__"=pure (some (.builtin "object.__init_subclass__"))
 new:lookupAlong rest "__new__"=pure (some (.builtin maker))
 del:rest.anyM delOf=pure false
 sub:(so=.type "object")\/(isSubtype (.type "object") so=pure false/\isSubtype so (.type "object")=pure true)
 vs:rest.any (fun | .type n=>(Manifest.find? n).elim false (·.varSize) | _=>false)=false
 nor:∀ c,.ref c ∉ rest
 mkE:maker.endsWith ".__new__"=true
theorem topBase_obj:TopBase (.type "object") [.type "object"] "object.__new__" (.type "object"):=⟨o7,sa_obj,by kernel_rfl,o14,o13,.inl rfl,by kernel_rfl,by simp,by decide +kernel⟩
theorem topBase_exc:TopBase (.type "Exception") exM "Exception.__new__" (.type "BaseException"):=⟨e7,sa_exc,by kernel_rfl,e14,e13,.inr ⟨by rw [isSubtype_type];kernel_rfl,by rw [isSubtype_type];kernel_rfl⟩,by kernel_rfl,by simp [exM],by decide +kernel⟩
theorem adds_no {M:Model} {h:Heap} {lo a ci lim b} (x:ClsAt h lo a ci lim) (hb:ci.bases=[b]) (hsn:Slots.slotNamesOf b=pure []):Looks M h (Slots.addsLayout (.ref a)) false:=by
 intro A Q E s kp q
 refine ea6_5 x.ex fun n sub k0 k2 k3 m' ln e l N f=>?_
 unfold Slots.addsLayout classData
 refine wpAny_bind (wpAny_bind (wpAny_load (kp _ _ e) (wpAny_pure ?_)))
 refine qE hb (wpAny_bind ?_)
 rw [List.forIn_cons,hsn]
 refine wpAny_bind (wpAny_bind (wpAny_pure (wpAny_pure (wpAny_pure (wpAny_pure ?_)))))
 exact q
theorem solid_user {M:Model} {h:Heap} {lo a ci lim b so} (x:ClsAt h lo a ci lim) (hb:ci.bases=[b]) (T:TopBase b ci.rest ci.maker so):Looks M h (Slots.solid (.ref a)) so:=by
 intro A Q E s kp q
 rw [solid_eq]
 refine wpAny_bind (lk_use x.mro kp ?_)
 rw [solidAlong_ref]
 refine wpAny_bind (lk_use (adds_no x hb T.sn) kp ?_)
 refine qE (if_neg (by simp)) (qE T.soE ?_)
 exact wpAny_pure q
theorem merge_obj (a:Addr):c3Merge 4 [[.ref a,.type "object"],[.ref a]]=.ok [.ref a,.type "object"]:=by
 simp [c3Merge,Except.map]
theorem merge_exc (a:Addr):c3Merge 6 [.ref a::exM,[.ref a]]=.ok (.ref a::exM):=by
 simp [c3Merge,Except.map,exM]
section
variable {M:Model} {h:Heap} {lo a:Addr} {ci:CI} {lim:Nat} {b so:Value}
theorem u_best (x:ClsAt h lo a ci lim) (hb:ci.bases=[b]) (T:TopBase b ci.rest ci.maker so):Looks M h (Slots.bestBase [.ref a]) (.ref a):=by
 intro A Q E s kp q
 unfold Slots.bestBase
 refine wpAny_bind ?_
 rw [List.forIn_cons]
 refine wpAny_bind (wpAny_bind (lk_use (solid_user x hb T) kp ?_))
 exact wpAny_pure (wpAny_pure (wpAny_pure q))
theorem u_isType (x:ClsAt h lo a ci lim):Looks M h (isType (.ref a)) true:=by
 refine ea6_5 x.ex fun n sub k0 k2 k3 m' ln e l N f=>?_
 intro A Q E s kp q
 exact wpAny_bind (wpAny_loadPart (kp _ _ e) (wpAny_pure q))
theorem u_ty (x:ClsAt h lo a ci lim):Looks M h (typeOf (.ref a)) (.type "type"):=by
 refine ea6_5 x.ex fun n sub k0 k2 k3 m' ln e l N f=>?_
 intro A Q E s kp q
 exact wpAny_bind (wpAny_loadPart (kp _ _ e) (wpAny_pure q))
theorem u_ext (x:ClsAt h lo a ci lim) (hb:ci.bases=[b]) (T:TopBase b ci.rest ci.maker so) (st:StOk h):Looks M h (extendedBase [.ref a]) (.ref a):=by
 intro A Q E s kp q
 unfold extendedBase
 refine wpAny_bind ?_
 rw [List.forIn_cons]
 refine wpAny_bind (wpAny_bind (lk_use (u_isType x) kp ?_))
 refine wpAny_ite_false rfl (wpAny_bind (no_opaque (let ⟨mc,p,r⟩:=st.any;⟨mc,p.keeps kp,r⟩) ?_))
 refine wpAny_bind (lk_use (solid_user x hb T) kp ?_)
 rcases T.sub with e | ⟨e1,e2⟩
 · refine qE e (wpAny_bind (wpAny_pureEq (a:=true) (by rw [isSubtype_type];kernel_rfl) ?_))
   exact wpAny_ite_true rfl (wpAny_pure (wpAny_pure (lk_use (u_best x hb T) kp q)))
 · refine wpAny_bind (wpAny_pureEq e1 ?_)
   refine wpAny_ite_false rfl (wpAny_bind (wpAny_pureEq e2 ?_))
   exact wpAny_ite_true rfl (wpAny_pure (wpAny_pure (lk_use (u_best x hb T) kp q)))
theorem u_nt (x:ClsAt h lo a ci lim) (T:TopBase b ci.rest ci.maker so) (st:StOk h):Looks M h (notOverATurnedClass [.ref a]) ():=by
 intro A Q E s kp q
 unfold notOverATurnedClass
 rw [List.forIn_cons]
 refine wpAny_bind (wpAny_bind (wpAny_bind (lk_use (u_isType x) kp ?_)))
 refine wpAny_ite_true rfl (wpAny_bind (lk_use x.mro kp ?_))
 refine wpAny_bind (forIn_skip (fun y hy Q q=>?_) ?_)
 · induction y with
   | ref c=>
    refine wpAny_bind (lk_use (st.look _ (turned_key c)) kp ?_)
    exact wpAny_pure q
   | _=>exact wpAny_pure q
 · exact wpAny_pure (wpAny_pure (wpAny_pure q))
theorem u_sn (x:ClsAt h lo a ci lim):Looks M h (Slots.slotNamesOf (.ref a)) []:=by
 refine ea6_5 x.ex fun n sub k0 k2 k3 m' ln e l N f=>?_
 intro A Q E s kp q
 exact wpAny_bind (wpAny_bind (wpAny_load (kp _ _ e) (wpAny_pure (wpAny_pure q))))
theorem u_gd (x:ClsAt h lo a ci lim):Looks M h (Slots.givesDict (.ref a)) true:=by
 refine ea6_5 x.ex fun n sub k0 k2 k3 m' ln e l N f=>?_
 intro A Q E s kp q
 exact wpAny_bind (wpAny_bind (wpAny_load (kp _ _ e) (wpAny_pure (wpAny_pure q))))
theorem u_gw (x:ClsAt h lo a ci lim):Looks M h (Slots.givesWeak (.ref a)) true:=by
 refine ea6_5 x.ex fun n sub k0 k2 k3 m' ln e l N f=>?_
 intro A Q E s kp q
 unfold Slots.givesWeak slotAt
 exact wpAny_bind (wpAny_bind (wpAny_loadPart (kp _ _ e) (wpAny_pure (wpAny_pure q))))
theorem u_vs (x:ClsAt h lo a ci lim) (T:TopBase b ci.rest ci.maker so):Looks M h (Slots.varSize (.ref a)) false:=by
 intro A Q E s kp q
 unfold Slots.varSize
 refine wpAny_bind (lk_use x.mro kp ?_)
 have e:=T.vs
 refine qE List.any_cons (wpAny_pure ?_)
 rw [Bool.false_or]
 have:∀ b:Bool,b=false->Q b s:=fun b e=>e▸q
 exact this _ e
theorem u_made (x:ClsAt h lo a ci lim):Looks M h (Bind.madeBy (.ref a)) (some ci.maker):=by
 intro A Q E s kp q
 unfold Bind.madeBy
 refine wpAny_bind (lk_use x.mro kp ?_)
 rw [List.forIn_cons]
 refine ea6_5 x.ex fun n sub k0 k2 k3 m' ln e l N f=>wpAny_bind (wpAny_bind (wpAny_bind (wpAny_bind (wpAny_loadPart (kp _ _ e) (wpAny_pure ?_)))))
 exact wpAny_pure (wpAny_pure (wpAny_pure q))
theorem u_del (x:ClsAt h lo a ci lim) (T:TopBase b ci.rest ci.maker so) (hd:ci.m "__del__"=none):Looks M h ((Value.ref a::ci.rest).anyM delOf) false:=by
 intro A Q E s kp q
 refine ea6_5 x.ex fun n sub k0 k2 k3 m' ln e l N f=>wpAny_bind ?_
 unfold delOf
 refine wpAny_bind (wpAny_bind (wpAny_load (kp _ _ e) (wpAny_pure ?_)))
 refine wpAny_ite_false rfl (wpAny_bind (wpAny_bind (wpAny_load (kp _ _ e) (wpAny_pure ?_))))
 refine wpAny_bind (wpAny_nsGet (N.keeps kp) ?_)
 refine qE (f _ (by decide)) (qE hd ?_)
 refine wpAny_pure ?_
 have:=T.del
 exact wpAny_pureEq this q
theorem u_lin (x:ClsAt h lo a ci lim) (hr:ci.rest=[.type "object"]\/ci.rest=exM):Looks M h (linearize [.ref a] mroOf) (.ref a::ci.rest):=by
 intro A Q E s kp q
 unfold linearize
 refine wpAny_bind (qE List.mapM_cons (qE List.mapM_nil ?_))
 refine wpAny_bind (lk_use x.mro kp (wpAny_bind (wpAny_pure (wpAny_pure ?_))))
 refine wpAny_bind (forIn_skip (fun y hy Q q=>?_) ?_)
 · obtain rfl:y=(.ref a,.ref a::ci.rest):=by simpa using hy
   refine wpAny_ite_false rfl (wpAny_pure q)
 have hf:List.find? (fun b=>decide (List.count b [Value.ref a] > 1)) [Value.ref a]=none:=by simp
 rcases hr with hr | hr
 · rw [hr] at q ⊢
   dsimp only
   refine qE hf ?_
   dsimp only [List.map,List.length,List.foldl,List.append]
   exact qE (show c3Merge (1+2+1) ([[Value.ref a,Value.type "object"]]++[[Value.ref a]])=.ok [.ref a,.type "object"] from merge_obj a) (wpAny_pure q)
 · rw [hr] at q ⊢
   dsimp only
   refine qE hf ?_
   dsimp only [List.map,List.length,List.foldl,List.append]
   exact qE (show c3Merge (1+4+1) ([.ref a::exM]++[[Value.ref a]])=.ok (.ref a::exM) from merge_exc a) (wpAny_pure q)
theorem baseOk_user (x:ClsAt h lo a ci lim) (hb:ci.bases=[b]) (T:TopBase b ci.rest ci.maker so) (st:StOk h) (hr:ci.rest=[.type "object"]\/ci.rest=exM) (hd:ci.m "__del__"=none) (hn:ci.m "__new__"=none) :
 BaseOk M h (.ref a) (.ref a::ci.rest) ci.maker true true [] where
 isType:=u_isType x
 ty:=u_ty x
 mro:=x.mro
 best:=u_best x hb T
 ext:=u_ext x hb T st
 nt:=u_nt x T st
 snm:=u_sn x
 gd:=u_gd x
 gw:=u_gw x
 vs:=u_vs x T
 made:=u_made x
 lin:=u_lin x hr
 del:=u_del x T hd
 new:=x.along (r':=none) (by decide) hn (.of_pure T.new)
 mkE:=T.mkE
 snl:=by decide
 old:=by
  intro c hc
  rcases List.mem_cons.mp hc with e | e
  · cases e;refine ea6_5 x.ex fun n sub k0 k2 k3 m' ln e l N f=>?_;exact Heap.lt_size e
  · exact absurd e (T.nor c)
end
end
structure NewOk (prog:Program) (w:World) (h:Heap) (b:Value) (bm:List Value) (mk:String) (gd gw:Bool) (wr:Addr) (Bs:Heap->Prop):Prop where
 B:BaseOk (model prog w) h b bm mk gd gw []
 hwl:wr<h.objs.size
 hwc:∀ o,h.get? wr=some o->SoftO o->False
 hwo:∃ o,h.get? wr=some o
 hupd:∀ {A:Around} {E:VP} {g d os} (h':Heap) (a:Addr) (t':Nat) (Q:Unit->Shared->Prop),(Kp h h')->h.objs.size<=a->(∀ h'' t'',Heap.SameBut wr h' h''->Bs h''->Q () ⟨h'',g,d,t'',os⟩)->wpAny (model prog w) A (noteBase b a) Q E ⟨h',g,d,t',os⟩
 st:∀ h'',Bs h''->StOk h''
 hini:∀ h'',Bs h''->∃ pre,bm=pre++[.type "object"]/\∀ c∈pre,Looks (model prog w) h'' (classOwn c "__init_subclass__") none
 hBk:∀ h1 h2,Bs h1->(Kp h1 h2)->Bs h2
 hsup:SupOk prog w bm
theorem StOk.keeps {h h':Heap} (x:StOk h) (k:∀ o,h.get? cStatics=some o->h'.get? cStatics=some o):StOk h':=let ⟨mc,n,f⟩:=x;⟨mc,n.at k,f⟩
theorem StOk.lt {h:Heap} (x:StOk h):cStatics<h.objs.size:=by refine ea1_2 x fun mc z1 f=>?_;clear x;refine ea3_2 z1 fun o es ep e r=>?_;clear z1;exact Heap.lt_size e
theorem StOk.ex {h:Heap} (x:StOk h):∃ o,h.get? cStatics=some o:=by refine ea1_2 x fun mc z1 f=>?_;clear x;refine ea3_2 z1 fun o es ep e r=>?_;clear z1;exact ⟨o,e⟩
theorem StOk.soft {h:Heap} (x:StOk h):∀ o,h.get? cStatics=some o->SoftO o->False:=by
 refine ea1_2 x fun mc z1 f=>?_;clear x;refine ea3_3 z1 fun o' es ep e d r=>?_;clear z1
 intro o e' s
 replace e':=e▸e';cases e'
 have:=s.1
 replace this:=d▸this;injection this
theorem nb_obj {M:Model} {A:Around} {E:VP} {s:Shared} {a:Addr} {Q:Unit->Shared->Prop} (q:Q () s):wpAny M A (noteBase (.type "object") a) Q E s:=by
 unfold noteBase
 rw [List.forIn_cons]
 refine wpAny_bind (wpAny_bind ?_)
 unfold noteSubclassOfBuiltin
 exact wpAny_ite_true (by decide +kernel) (wpAny_pure (wpAny_pure (wpAny_pure q)))
theorem newOk_object (prog:Program) (w:World) (h:Heap) (st:StOk h):NewOk prog w h (.type "object") [.type "object"] "object.__new__" false false cStatics StOk where
 B:=baseOk_object _ _
 hwl:=st.lt
 hwc:=st.soft
 hwo:=st.ex
 hupd:=fun h' a t' Q k la q=>nb_obj (q h' t' ⟨rfl,fun ξ ξ=>rfl⟩ (st.keeps fun ξ e=>k _ _ e))
 st:=fun ξ x=>x
 hini:=fun ξ ξ=>⟨[],rfl,fun c hc=>by cases hc⟩
 hBk:=fun ξ ξ x k=>x.keeps fun ξ e=>k _ _ e
 hsup:=supOk0 prog w
theorem st_set {M:Model} {A:Around} {E:VP} {h:Heap} {g d t os} {key:Str} {v:Value} {Q:Unit->Shared->Prop} (x:StOk h) (hk:key.opensWith "type.__subclasses__."=true)
 (q:∀ h' t',StOk h'->Heap.SameBut cStatics h h'->Q () ⟨h',g,d,t',os⟩):wpAny M A (nsSet cStatics key v) Q E ⟨h,g,d,t,os⟩:=by
 refine ea1_2 x fun mc n f=>?_;clear x
 refine wpAny_nsSet (s:=⟨h,g,d,t,os⟩) n fun h' n' S=>q h' _ ⟨_,n',fun k v' e=>?_⟩ S
 by_cases hh:k=key
 · refine qE hh ?_;exact hk
 · replace e:=if_neg hh▸e;exact f _ _ e
theorem ns_empty {h:Heap} {a:Addr} (x:h.Ns a fun ξ=>none):∃ c dd ep sl,h.get? a=some { cls:=c,dict:=dd,data:=.dict #[] ep,slots:=sl }:=by
 refine ea3_4 x fun z1 es ep e d k f=>?_;clear x;obtain ⟨c,dd,dt,sl⟩:=z1
 obtain rfl:dt=.dict es ep:=d
 have:es=#[]:=by
  apply Array.eq_empty_of_size_eq_zero
  by_cases hz:es.size=0
  · exact hz
  · have h0:0<es.size:=Nat.pos_of_ne_zero hz
    refine ea2_1 (k es[0] (Array.getElem_mem h0)) fun n t hk=>?_
    have hn:=f n
    simp only [nsFind,findBy,Option.map_eq_none_iff,Array.find?_eq_none] at hn
    exact absurd (hn es[0] (Array.getElem_mem h0)) (by refine qE hk ?_;simp [Value.isStr])
 subst this
 exact ⟨_,_,_,_,e⟩
theorem opens_key (a b c:String):(Str.ofString (toString "type.__subclasses__."++toString a++toString b++toString c)).opensWith "type.__subclasses__."=true:=by
 refine qE (show toString "type.__subclasses__."++toString a++toString b++toString c="type.__subclasses__."++(toString a++(toString b++toString c)) by rw [String.append_assoc,String.append_assoc];rfl) ?_
 exact opens_eq _ _
theorem nb_exc {M:Model} {A:Around} {E:VP} {h:Heap} {g d t os} {a:Addr} {Q:Unit->Shared->Prop} (x:h.Ns cStatics fun ξ=>none) (q:∀ h' t',Heap.SameBut cStatics h h'->StOk h'->Q () ⟨h',g,d,t',os⟩):wpAny M A (noteBase (.type "Exception") a) Q E ⟨h,g,d,t,os⟩:=by
 refine ea4_1 (ns_empty x) fun c dd ep sl e=>?_
 have st:StOk h:=⟨_,x,fun k v e=>by injection e⟩
 unfold noteBase
 rw [List.forIn_cons]
 refine wpAny_bind (wpAny_bind ?_)
 unfold noteSubclassOfBuiltin
 refine wpAny_ite_false (by decide +kernel) (wpAny_bind ?_)
 k_node
 refine wpAny_bind (wpAny_nsGet x (wpAny_pure (wpAny_bind ?_)))
 unfold nsSetByValue
 refine wpAny_bind (wpAny_loadPart e ?_)
 k_node
 refine wpAny_ite_false (by simp) ?_
 k_node
 exact st_set st (opens_key "Exception" "." (toString 0)) fun h1 t1 s1 S1=>st_set s1 (opens_key "Exception" "." "n") fun h2 t2 s2 S2=>wpAny_pure (wpAny_pure (q h2 t2 (S1.trans S2) s2))
theorem newOk_exc (prog:Program) (w:World) (h:Heap) (x:h.Ns cStatics fun ξ=>none):NewOk prog w h (.type "Exception") exM "Exception.__new__" true false cStatics StOk where
 B:=baseOk_exc _ _
 hwl:=StOk.lt ⟨_,x,fun k v e=>by injection e⟩
 hwc:=StOk.soft ⟨_,x,fun k v e=>by injection e⟩
 hwo:=StOk.ex ⟨_,x,fun k v e=>by injection e⟩
 hupd:=fun h' a t' Q k la q=>nb_exc (x.keeps k) fun h'' t'' S s=>q h'' t'' S s
 st:=fun ξ x=>x
 hini:=fun ξ ξ=>⟨[.type "Exception",.type "BaseException"],rfl,fun c hc=>by
  rcases List.mem_cons.mp hc with rfl | hc
  · exact .of_pure (by kernel_rfl)
  · obtain rfl:=List.mem_singleton.mp hc
    exact .of_pure (by kernel_rfl)⟩
 hBk:=fun ξ ξ x k=>x.keeps fun ξ e=>k _ _ e
 hsup:=supOk1 prog w
theorem nb_user {M:Model} {A:Around} {E:VP} {h:Heap} {g d t os} {a b:Addr} {ci lim} {Q:Unit->Shared->Prop} {lo:Addr} (x:ClsAt h lo b ci lim) (hl:lim<1000) (hnb:∀ m,¬ h.Ns b m)
 (q:∀ h' t',Heap.SameBut b h h'->(∀ lo ci lim,ClsAt h lo b ci lim->ClsAt h' lo b ci (lim+1))->Q () ⟨h',g,d,t',os⟩):wpAny M A (noteBase (.ref b) a) Q E ⟨h,g,d,t,os⟩:=by
 refine ea6_5 x.ex fun n sub k0 k2 k3 m' ln e l N f=>?_
 unfold noteBase
 rw [List.forIn_cons]
 refine wpAny_bind (wpAny_bind ?_)
 refine upd_cls e (f:=fun c=>{ c with subclasses:=c.subclasses++[.ref a] }) (by show (sub++[_]).length<=sizeLine;refine qE List.length_append ?_;have:(1001:Nat)<=sizeLine:=nb rfl;simp only [List.length_singleton];lia) (Nat.zero_le _) fun h' e' S=>?_
 refine wpAny_pure (wpAny_pure (q h' _ S fun lo' ci' lim' y=>?_))
 refine ea6_5 y.ex fun n2 sub2 k02 k22 k32 m2 ln2 e2 l2 N2 f2=>?_
 replace e2:=e▸e2
 have e3:=Option.some.inj e2
 simp only [clsObj,Obj.mk.injEq,Data.cls.injEq,ClassData.mk.injEq] at e3
 refine ea0_4 e3 fun z1 z2 z3 h7=>?_;clear e3;clear z1;clear z2;refine ea0_9 z3 fun h1 h2 h3 h4 h5 z4 z5 h6 z6=>?_;clear z3;clear z4;clear z5;clear z6
 have hnb':n2≠b:=fun e=>hnb m2 (e▸N2)
 refine ⟨n2,sub++[.ref a],k0,k2,k3,m2,ln2,?_,by refine qE List.length_append (qE h6 ?_);simp only [List.length_singleton];lia,N2.sameBut S hnb',f2⟩
 refine qE e' (qB h1 (qB h2 (qB h4 (qB h5 ?_))))
 refine qB ((List.cons.inj h3).2) ?_
 have h8:ci.maker=ci'.maker:=by
  have:=congrArg (fun x:Array (Option Value)=>x[4]?) h7
  simpa using this
 exact qE h8 rfl
theorem ClsAt.notNs {h:Heap} {lo b ci lim} (x:ClsAt h lo b ci lim) (m):¬ h.Ns b m:=by
 refine ea6_5 x.ex fun n sub k0 k2 k3 m' ln e l N f=>?_
 intro z1;refine ea3_3 z1 fun o es ep e' d r=>?_;clear z1
 replace e':=e▸e';cases e';injection d
theorem newOk_user (prog:Program) (w:World) (h:Heap) {b:Addr} {ci:CI} {lim:Nat} {lo:Addr} {b0 so:Value} (x:ClsAt h lo b ci lim) (hl:lim<1000) (hb:ci.bases=[b0]) (T:TopBase b0 ci.rest ci.maker so) (st:StOk h)
 (hr:ci.rest=[.type "object"]\/ci.rest=exM) (hd:ci.m "__del__"=none) (hn:ci.m "__new__"=none) (hi:ci.m "__init_subclass__"=none) :
 NewOk prog w h (.ref b) (.ref b::ci.rest) ci.maker true true b (fun h''=>StOk h''/\∀ lo ci lim,ClsAt h lo b ci lim->ClsAt h'' lo b ci (lim+1)) where
 B:=baseOk_user x hb T st hr hd hn
 hwl:=by refine ea6_5 x.ex fun n sub k0 k2 k3 m' ln e l N f=>?_;exact Heap.lt_size e
 hwc:=by
  refine ea6_5 x.ex fun n sub k0 k2 k3 m' ln e l N f=>?_
  intro o e' s
  replace e':=e▸e';cases e'
  have:=s.1
  injection this
 hwo:=by refine ea6_5 x.ex fun n sub k0 k2 k3 m' ln e l N f=>?_;exact ⟨_,e⟩
 hupd:=fun h' a t' Q k la q=>nb_user (x.keeps k) hl (x.keeps k).notNs fun h'' t'' S y=>q h'' t'' S ⟨(st.keeps fun ξ e=>k _ _ e).keeps fun o e=>by
  refine qE (S.2 _ (by
   intro e2
   refine ea1_2 st fun mc N f=>?_;clear st
   exact (x.keeps k).notNs _ (e2▸N.keeps k))) ?_
  exact e,fun lo ci lim z=>y lo ci lim (z.keeps k)⟩
 st:=fun ξ x=>x.1
 hini:=fun h'' y=>by
  have hx:∀ c:Value,c=.ref b->Looks (model prog w) h'' (classOwn c "__init_subclass__") none:=fun c e=>e▸(y.2 _ _ _ x).own (by decide) hi
  rcases hr with e | e
  · exact ⟨[.ref b],by refine qE e ?_;rfl,fun c hc=>hx c (List.mem_singleton.mp hc)⟩
  · refine ⟨[.ref b,.type "Exception",.type "BaseException"],by refine qE e ?_;rfl,fun c hc=>?_⟩
    rcases List.mem_cons.mp hc with e | hc
    · exact hx c e
    rcases List.mem_cons.mp hc with rfl | hc
    · exact .of_pure (by kernel_rfl)
    · obtain rfl:=List.mem_singleton.mp hc
      exact .of_pure (by kernel_rfl)
 hBk:=fun ξ ξ x k=>⟨x.1.keeps fun ξ e=>k _ _ e,fun lo ci lim z=>(x.2 lo ci lim z).keeps k⟩
 hsup:=by
  rcases hr with e | e
  · refine qE e ?_;exact supOk2 prog w b
  · refine qE e ?_;exact supOk3 prog w b
theorem tnew' {prog:Program} {w:World} {A:Around} {E:VP} {Q:PySem.Fin->Shared->Prop} {h:Heap} {d t os} {nA bT:Addr} {es m0} {b:Value} {bm mk gd gw wr Bs} {gv:List Value}
 {name q:Str} {t0 tq:Tok} {vm:Value} (X:NewOk prog w h b bm mk gd gw wr Bs)
 (N:NsE h nA es m0) (hbT:h.get? bT=some { cls:=.type "tuple",data:=.seq gv.toArray })
 (hgv:gv=[]/\b=.type "object"\/gv=[b]) (hnA:(nA==sysModules)=false)
 (hq:m0 "__qualname__"=some (.str q tq)) (hm:m0 "__module__"=some vm) (hV:∀ k v,m0 k=some v->VO h v) (hz:es.size<=10000)
 (ho:∀ k:Str,k∈(["__slots__","__new__","__init_subclass__","__class_getitem__","__classcell__","__classdictcell__","__del__","__dict__","__weakref__","__eq__"]:List Str)->m0 k=none)
 (hnm:(name.cps.any fun c=>0xD800<=c&&c<=0xDFFF)=false) (hn0:name.cps.contains 0=false) (hd:m0 "__doc__"=none\/∃ x tx,m0 "__doc__"=some (.str x tx)/\(x.cps.any fun c=>0xD800<=c&&c<=0xDFFF)=false)
 (hq':∀ h' a t',(∀ b o,b≠wr->h.get? b=some o->h'.get? b=some o)->h.objs.size<=a->(∀ lo,lo<=h.objs.size->ClsAt h' lo a ⟨name,q,[b],bm,mk,m0⟩ 0)->Bs h'->Q (.done (.ret (.ref a))) ⟨h',#[],d,t',os⟩) :
 wpAny (model prog w) A (Builtin.«type.__new__» ⟨[.type "type",.str name t0,.ref bT,.ref nA],[]⟩) Q E ⟨h,#[],d,t,os⟩:=by
 refine tnew (g':=#[]) N hbT X.B hgv hnA hq hm hV hz ho hnm hn0 hd wr X.hwl X.hwc X.hwo (fun h ξ=>Bs h) (fun h' a t' Q k la q=>X.hupd h' a t' Q k la q) (fun h'' a y=>⟨(X.st _ y).any,X.hini _ y⟩) (fun h1 h2 a=>X.hBk h1 h2) rfl X.hsup fun h' a n es' m' t' Y hm' hB=>?_
 have C:=Y.C
 replace C:=(show ((!gw)||gw)=true by cases gw <;> rfl)▸C
 exact hq' h' a t' Y.K Y.la (fun lo hlo=>⟨n,[],_,_,_,m',Nat.le_trans hlo Y.ln,C,Nat.zero_le _,Y.N.ns,fun k hk=>hm' k hk.1 hk.2.1 hk.2.2.1 hk.2.2.2⟩) hB
theorem cb_new (a b c:Value):checkBuiltinCall "type.__new__" ⟨[.type "type",a,b,c],[]⟩=pure ():=by kernel_rfl
theorem ct_type (a b c:Value):checkTypeCall "type" ⟨[a,b,c],[]⟩=pure ():=by kernel_rfl
theorem ent_call:entryFor table "type.__call__"=some Builtin.«type.__call__»:=entryFor_of_tree (by kernel_rfl)
theorem ent_new:entryFor table "type.__new__"=some Builtin.«type.__new__»:=entryFor_of_tree (by kernel_rfl)
theorem ent_init:entryFor table "type.__init__"=some Builtin.«type.__init__»:=entryFor_of_tree (by kernel_rfl)
theorem plain_new:plainId "type.__new__"=true:=by decide +kernel
theorem slot_init:Slot "type" "__init__" "type.__init__":=
 .of (owner:="type") (n:="__init__") (by rw [typeLookup_type,builtinLookup_eq_fast];kernel_rfl) (by decide +kernel) (by decide +kernel) (by decide +kernel)
  (by first | exact .inl (by decide +kernel) | exact .inr (by decide +kernel)) (by rw [isSubtype_type];kernel_rfl)
theorem args_init (a b c d:Value):argsOk "type.__init__" ⟨[a,b,c,d],[]⟩:=by unfold argsOk;kernel_rfl
theorem bt_init:builtinType "type.__init__"=pure (.type "wrapper_descriptor"):=by refine qE builtinType_eq_fast ?_;kernel_rfl
theorem tl_init:typeLookup (.type "type") "__init__"=pure (some (.builtin "type.__init__")):=by rw [typeLookup_type,builtinLookup_eq_fast];kernel_rfl
theorem mro_type:mroOf (.type "type")=pure [.type "type",.type "object"]:=by kernel_rfl
theorem made_type:Bind.madeBy (.type "type")=pure (some "type.__new__"):=by kernel_rfl
theorem type_call {prog:Program} {w:World} {A:Around} {E:VP} {Q:VP} {h:Heap} {g d t os} {x y z:Value}
 (hnew:∀ A E',wpAny (model prog w) A (Builtin.«type.__new__» ⟨[.type "type",x,y,z],[]⟩) (fun fin s'=>∃ a o,fin=.done (.ret (.ref a))/\s'.heap.get? a=some o/\o.cls=.type "type"/\Q (.ref a) s') E' ⟨h,g,d,t,os⟩) :
 wpAny (model prog w) A (PySem.call (.type "type") [x,y,z] []) Q E ⟨h,g,d,t,os⟩:=by
 revert z hnew;revert prog w A E Q h g d t os x y;refine no_implicit_lambda% (al12 (n:=⟨(default,w0,a0,default,default,default,default,d0,default)⟩) ?_);generalize et12 _ _=υ;generalize υ.1=prog,υ.2.1=w,υ.2.2.1=A,υ.2.2.2.1=E,υ.2.2.2.2.1=Q,υ.2.2.2.2.2.1=h,υ.2.2.2.2.2.2.1=g,υ.2.2.2.2.2.2.2.1=d,υ.2.2.2.2.2.2.2.2.1=t,υ.2.2.2.2.2.2.2.2.2.1=os,υ.2.2.2.2.2.2.2.2.2.2.1=x,υ.2.2.2.2.2.2.2.2.2.2.2=y;clear υ;intro z hnew
 revert hnew;revert z;refine no_implicit_lambda% (al1 ?_);generalize et1 _ _=z;intro hnew
 refine wpAny_call (codeAny_of_tree ?_)
 show wpAny _ _ (callAny (.type "type") _) _ _ _
 refine wpAny_pure ⟨Code.quiet_builtin _ (by decide +kernel),codeAny_builtin ent_call ?_⟩
 k_node
 k_node
 k_node
 k_node
 k_node
 k_node
 k_node
 refine wpAny_bind (wpAny_pureEq (ct_type x y z) (wpAny_bind ?_))
 k_node
 refine wpAny_pureEq mro_type ?_
 k_node
 k_node
 refine wpAny_bind (wpAny_pureEq made_type (wpAny_bind <| wpAny_pure <| wpAny_bind <| wpAny_holding (wpAny_call (codeAny_call_builtin plain_new ent_new (wpAny_pureEq (cb_new x y z) ?_)))))
 refine wpAny_mono (hnew _ _) (fun fin s' z=>?_) (fun e s' z=>z)
 refine ea2_4 z fun a o z1 ho hc q=>?_;clear z;subst z1
 obtain ⟨h',g',d',t',os'⟩:=s'
 dsimp only at ho
 refine wpAny_bind (isInst_ty ho hc sub_typ (wpAny_ite_false rfl (wpAny_bind (wpAny_holding ?_))))
 unfold callSpecial? specialOf
 refine wpAny_bind (wpAny_bind (wpAny_bind (wpAny_loadPart ho (wpAny_pure ?_))))
 refine qE hc (wpAny_pureEq tl_init (wpAny_holding <| wpAny_bind ?_))
 k_node
 refine wpAny_bind ?_
 k_node
 k_node
 refine wpAny_pureEq bt_init ?_
 k_node
 refine wpAny_pure <| wpAny_bind (wpAny_call (codeAny_call_builtin slot_init.plain ent_init (slot_init.check _ _ _ _ _ _ _ _ ⟨_,ho,hc⟩ (args_init _ _ _ _) ?_)))
 refine wpAny_pure (wpAny_pure ?_)
 k_node
 k_node
 k_node
 k_node
 exact wpAny_pure q
section
open PySem.W.X
theorem ty_type:typeOf (.type "type")=pure (.type "type"):=by refine qE (show typeOf (.type "type")=pure (.type ((Manifest.find? "type").elim "type" (·.metatype))) from rfl) (qE find?_eq_fast ?_);kernel_rfl
theorem tl_tga:typeLookup (.type "type") "__getattribute__"=pure (some (.builtin "type.__getattribute__")):=by rw [typeLookup_type,builtinLookup_eq_fast];kernel_rfl
theorem bt_tga:builtinType "type.__getattribute__"=pure (.type "wrapper_descriptor"):=by refine qE builtinType_eq_fast ?_;kernel_rfl
theorem prep_get {prog:Program} {w:World} {A:Around} {E:VP} {h:Heap} {d t os} {Q:Option Value->Shared->Prop}
 (q:∀ h' pA t',(Kp h h')->h'.get? pA=some prepObj->h.get? pA=none->Q (some (.ref pA)) ⟨h',#[],d,t',os⟩) :
 wpAny (model prog w) A (getAttr? (.type "type") "__prepare__") Q E ⟨h,#[],d,t,os⟩:=by
 unfold getAttr?
 refine wpAny_bind (wpAny_bind (wpAny_fresh' (wpAny_pure ?_)))
 unfold getAttrBy? getAttrBy
 refine wpAny_bind (wpAny_attempt (wpAny_holding ?_))
 refine wpAny_bind (wpAny_pureEq ty_type ?_)
 refine wpAny_bind (wpAny_pureEq tl_tga ?_)
 refine wpAny_ite_false rfl ?_
 unfold getAttrByItsOwn
 refine wpAny_bind ?_
 k_node
 k_node
 refine wpAny_pure (wpAny_bind (wpAny_attempt (wpAny_holding ?_)))
 unfold callGetattribute
 k_node
 k_node
 refine wpAny_bind ?_
 k_node
 refine wpAny_bind ?_
 k_node
 refine wpAny_pureEq bt_tga (wpAny_ite_true rfl (wpAny_pure ?_))
 k_node
 refine tga_call rfl fun h' pA k e en=>?_
 k_node
 k_node
 exact wpAny_pure <| wpAny_pure (q _ _ _ k e en)
set_option tactic.hygienic true in
theorem codeAmong_snoc_ne {pos p:Pos} {c:Value} (l:List Value) (h:TriplesOk l) (hn:codeAmong p l=none) (hne:(pos.line,pos.col)≠(p.line,p.col)) :
 codeAmong p (l++[rawInt pos.line,rawInt pos.col,c])=none:=by
 fun_induction TriplesOk l with
 | case1=>
  simp only [List.nil_append,codeAmong,rawInt]
  rw [if_neg]
  intro e
  simp only [Bool.and_eq_true,beq_iff_eq] at e
  exact hne (by rw [Prod.mk.injEq];exact ⟨by exact_mod_cast e.1,by exact_mod_cast e.2⟩)
 | case2 a t b u x rest ih=>
  simp only [List.cons_append,codeAmong] at hn ⊢
  split at hn
  · injection hn
  · rename_i hc;refine qE (if_neg hc) ?_;exact ih h hn
 | case3 l h1 h2=>exact h.elim
theorem classCodeN {M:Model} {A:Around} {E:VP} {s:Shared} {env:Env} {c P:Addr} {ps:Array Value} {pos:Pos} {firstLine:Nat} {name qualname:Str} {scope:Scope}
 {Q:VP} (hc:env.code=.ref c) (hok:s.heap.IsCode c P ps) (hnf:codeAmong pos ps.toList=none)
 (hQ:∀ c' h' tk,Heap.ExtBut P s.heap h'->s.heap.objs.size<=c'->h'.IsCode c P (ps++#[rawInt pos.line,rawInt pos.col,.ref c']) →
  (∃ P',s.heap.objs.size<=P'/\h'.IsCode c' P' #[])->codeAmong pos (ps++#[rawInt pos.line,rawInt pos.col,.ref c']).toList=some (.ref c') →
  (∀ p,codeAmong p ps.toList=none->(pos.line,pos.col)≠(p.line,p.col)->codeAmong p (ps++#[rawInt pos.line,rawInt pos.col,.ref c']).toList=none) →
  Q (.ref c') { s with heap:=h',toks:=tk }) :
 wpAny M A (classCode env pos firstLine name qualname scope) Q E s:=by
 refine ea8_1 (id hok) fun o vs file tf flags tg inF text z1=>?_;refine ea2_1 z1 fun tt op y1=>?_;refine ea0_11 y1 fun ho hd h11 h2 h7 h9 h10 hop hpd htr hne=>?_;clear y1;clear z1
 unfold classCode codeAt
 refine qE hc (qE (if_neg (show ¬ ((Value.ref c==Value.none)=true) from Bool.false_ne_true)) ?_)
 refine wpAny_bind (wpAny_fieldsOf ho hd ?_)
 refine qE h11 (wpAny_bind (wpAny_fieldsOf hop hpd ?_))
 refine qE hnf (qE h2 (qE h7 (qE h9 (qE h10 ?_))))
 refine wpAny_bind (wpAny_newCode fun c' P' h' tk hk hc' hP' hcode' hrec'=>?_)
 have hop':=hk _ _ hop
 refine wpAny_bind (wpAny_updateFieldsOfTheText hop' hpd ?_)
 have hnew:(Obj.mapFields (fun vs=>if (codeAmong pos vs.toList).isSome=true then vs else vs++#[rawInt pos.line,rawInt pos.col,.ref c']) op).data =
  .fields (ps++#[rawInt pos.line,rawInt pos.col,.ref c']):=by
  rw [Obj.data_mapFields hpd,hnf];rfl
 have hget:=Heap.get?_update_self (h:=h') (fun o=>Obj.mapFields (fun vs=>if (codeAmong pos vs.toList).isSome=true then vs else
  vs++#[rawInt pos.line,rawInt pos.col,.ref c']) o) hop' (Obj.isFreed_of_fields hnew)
 refine wpAny_bind (wpAny_fieldsOf hget hnew ?_)
 have hl:(ps++#[rawInt pos.line,rawInt pos.col,Value.ref c']).toList=ps.toList++[rawInt pos.line,rawInt pos.col,.ref c']:=by simp
 refine qE hl (qE (codeAmong_snoc _ htr hnf) ?_)
 have hcP:c'≠P:=Nat.ne_of_gt (Nat.lt_of_lt_of_le (Heap.lt_size hop) hc')
 have hP'P:P'≠P:=Nat.ne_of_gt (Nat.lt_of_lt_of_le (Heap.lt_size hop) hP')
 refine wpAny_pure (hQ _ _ _ (fun b o' hb e=>((Heap.SameBut.update ..).extBut b o' hb (hk b o' e))) hc' ?_ ⟨P',hP',hcode'.extBut (Heap.SameBut.update ..).extBut hcP hP'P⟩ (by refine qE hl ?_;exact codeAmong_snoc _ htr hnf) ?_)
 · exact ⟨o,vs,file,tf,flags,tg,inF,text,tt,_,(Heap.SameBut.update ..).extBut _ _ hne (hk _ _ ho),hd,h11,h2,h7,h9,h10,hget,hnew,
    by refine qE hl ?_;exact TriplesOk_snoc _ _ _ _ htr,hne⟩
 · intro p hp hne
   refine qE hl ?_;exact codeAmong_snoc_ne _ htr hp hne
end
noncomputable abbrev clsEnv (scope:Scope) (nA c' F':Addr) (qual:Str):Env:=
 { scope,locals:=nA,globals:=mainGlobals,qual:=qual++".",code:=.ref c',frame:=some F',builtins:=builtinsNs,cells:=[] }
theorem mk_text {M:Model} {A:Around} {E:VP} {h:Heap} {g d t os} {x:Str} {Q:VP} (q:Q (.str x t) ⟨h,g,d,t+1,os⟩):wpAny M A (mkText x) Q E ⟨h,g,d,t,os⟩:=wpAny_mkText q
theorem mk_int {M:Model} {A:Around} {E:VP} {h:Heap} {g d t os} {x:Int} {Q:VP} (q:Q (.int x t) ⟨h,g,d,t+1,os⟩):wpAny M A (mkInt x) Q E ⟨h,g,d,t,os⟩:=wpAny_mkInt q
theorem class_code {M:Model} {A:Around} {E:VP} {h:Heap} {g d t os} {env:Env} {c P:Addr} {ps:Array Value} {pos:Pos} {firstLine:Nat} {name qualname:Str} {scope:Scope}
 {Q:VP} (hc:env.code=.ref c) (hok:h.IsCode c P ps) (hnf:codeAmong pos ps.toList=none)
 (hQ:∀ c' h' t',Heap.ExtBut P h h'->h.objs.size<=c'->h'.IsCode c P (ps++#[rawInt pos.line,rawInt pos.col,.ref c']) →
  (∃ P',h.objs.size<=P'/\h'.IsCode c' P' #[]) →
  (∀ p,codeAmong p ps.toList=none->(pos.line,pos.col)≠(p.line,p.col)->codeAmong p (ps++#[rawInt pos.line,rawInt pos.col,.ref c']).toList=none) →
  Q (.ref c') ⟨h',g,d,t',os⟩) :
 wpAny M A (classCode env pos firstLine name qualname scope) Q E ⟨h,g,d,t,os⟩:=
 classCodeN (s:=⟨h,g,d,t,os⟩) hc hok hnf fun c' h' tk a b c d ξ e=>hQ c' h' tk a b c d e
theorem builtins_for {M:Model} {A:Around} {E:VP} {h:Heap} {g d t os} {running:Addr} {mg} {Pl:Addr} {Q:Addr->Shared->Prop} (hg:h.Ns mainGlobals mg) (hb:h.BuiltinsAt mg Pl)
 (q:Q builtinsNs ⟨h,g,d,t,os⟩):wpAny M A (builtinsFor mainGlobals running) Q E ⟨h,g,d,t,os⟩:=by
 refine ea2_8 hb fun bm o h1 h2 h3 h4 h5 h6 h7 h8=>?_;clear hb
 exact wpAny_builtinsFor (s:=⟨h,g,d,t,os⟩) hg h1 h2 h5 h6 h7 h8 q
theorem closure_none {scope:Scope} {env:Env} (hfree:∀ x∈scope.names,x.2≠.free):closureFor scope env=pure []:=by
 simp only [closureFor]
 refine qE (forIn_yield_id [] (fun x hx c=>by
  obtain ⟨n,kind⟩:=x
  have:(kind==NameKind.free)=false:=by simpa using hfree _ hx
  simp only [this,Bool.false_eq_true,if_false])) ?_
 rfl
theorem body_frame {M:Model} {A:Around} {E:VP} {h:Heap} {g d t os} {code:Value} {locals bn:Addr} {mg} {Q:Addr->Shared->Prop} (hg:h.Ns mainGlobals mg)
 (q:∀ h' f,(∀ b o,h.get? b=some o->h'.get? b=some o)->h.objs.size<=f->(∃ o,h'.get? f=some o)->Q f ⟨h',g,d,t,os⟩):wpAny M A (newBodyFrame code mainGlobals locals bn) Q E ⟨h,g,d,t,os⟩:=by
 unfold newBodyFrame
 refine wpAny_bind (wpAny_nsGet (s:=⟨h,g,d,t,os⟩) hg ?_)
 exact wpAny_alloc (q _ _ (fun b o e=>Heap.get?_push_of_some _ e) (Nat.le_refl _) ⟨_,Heap.get?_push_size h rfl⟩)
structure InCls (env:Env) (nA:Addr):Prop where
 k:env.scope.kind=.class
 l:env.locals=nA
 g:env.globals=mainGlobals
theorem load_own {M:Model} {A:Around} {E:VP} {h:Heap} {g d t os} {env:Env} {nA:Addr} {es m mg} {name:Str} {v:Value} {Q:VP} (X:InCls env nA) (hn:env.kindOf name=none) (hc:compilersOwnNames.contains name=true)
 (N:NsE h nA es m) (hm:m name=none) (hg:h.Ns mainGlobals mg) (hv:mg name=some v) (q:Q v ⟨h,g,d,t,os⟩):wpAny M A (loadName env name) Q E ⟨h,g,d,t,os⟩:=by
 revert v Q X hn hc N hm hg hv q
 revert M A E h g d t os env nA es m mg name
 refine no_implicit_lambda% (al14 (n:=⟨((model default w0),a0,default,default,default,d0,default)⟩) ?_)
 generalize et14 _ _=υ
 generalize υ.1=M,υ.2.1=A,υ.2.2.1=E,υ.2.2.2.1=h,υ.2.2.2.2.1=g,υ.2.2.2.2.2.1=d,υ.2.2.2.2.2.2.1=t,υ.2.2.2.2.2.2.2.1=os,υ.2.2.2.2.2.2.2.2.1=env,υ.2.2.2.2.2.2.2.2.2.1=nA,υ.2.2.2.2.2.2.2.2.2.2.1=es,υ.2.2.2.2.2.2.2.2.2.2.2.1=m,υ.2.2.2.2.2.2.2.2.2.2.2.2.1=mg,υ.2.2.2.2.2.2.2.2.2.2.2.2.2=name
 intro v Q X hn hc N hm hg hv q
 refine ea1_1 N.at_ fun ep e=>?_
 unfold loadName Env.blockKind
 refine qE hn (qE X.k ?_)
 refine wpAny_ite_false rfl (wpAny_ite_false (by refine qE hc ?_;rfl) ?_)
 unfold localGet loadGlobal
 refine qE X.l (qE X.g ?_)
 refine wpAny_bind (wpAny_bind (wpAny_load e ?_))
 refine wpAny_ite_true rfl (wpAny_nsGet N.ns (qE hm (wpAny_bind (wpAny_nsGet hg ?_))))
 exact qE hv (wpAny_pure q)
theorem store_own {M:Model} {A:Around} {E:VP} {h:Heap} {g d t os} {env:Env} {nA:Addr} {es m} {name:Str} {v:Value} {Q:Unit->Shared->Prop} (X:InCls env nA) (hn:env.kindOf name=none/\compilersOwnNames.contains name=true\/env.kindOf name=some .local)
 (N:NsE h nA es m)
 (q:∀ h' t' es',NsE h' nA es' (fun y=>if y=name then some v else m y)->Heap.SameBut nA h h'->es'.size<=es.size+1->Q () ⟨h',g,d,t',os⟩):wpAny M A (storeName env name v) Q E ⟨h,g,d,t,os⟩:=by
 refine ea1_1 N.at_ fun ep e=>?_
 have fin:wpAny M A (localSet env name v) Q E ⟨h,g,d,t,os⟩:=by
  unfold localSet
  refine qE X.l (wpAny_bind (wpAny_load e ?_))
  exact wpAny_ite_true rfl (N.set (s:=⟨h,g,d,t,os⟩) fun h' es' N S z=>q h' _ es' N S z)
 unfold storeName Env.blockKind
 rcases hn with ⟨hn,hc⟩ | hn
 · refine qE hn (qE X.k ?_)
   refine wpAny_ite_false (by refine qE hc ?_;rfl) ?_
   exact fin
 · refine qE hn (qE X.k ?_)
   exact fin
theorem StOk.noLimit {h:Heap} (x:StOk h):h.NoLimit:=by
 refine ea1_2 x fun mc n f=>?_;clear x
 refine ⟨mc,n,?_⟩
 induction hm:mc "sys.recursionlimit" with
 | none=>rfl
 | some v=>exact absurd (f _ _ hm) (by decide)
theorem mk_strs {M:Model} {A:Around} {E:VP} {h:Heap} {g d t os} {l:List Str} {Q:List Value->Shared->Prop} (q:∀ vs t',Q vs ⟨h,g,d,t',os⟩):wpAny M A (l.mapM mkText) Q E ⟨h,g,d,t,os⟩:=
 wpAny_mkStrs (s:=⟨h,g,d,t,os⟩) fun vs=>q vs _
theorem text_tuple {M:Model} {A:Around} {E:VP} {h:Heap} {g d t os} {l:List Value} {Q:VP}
 (q:∀ h' bT,(∀ b o,h.get? b=some o->h'.get? b=some o)->h'.get? bT=some { cls:=.type "tuple",data:=.seq l.toArray }->Q (.ref bT) ⟨h',g,d,t,os⟩) :
 wpAny M A (newTextTuple l) Q E ⟨h,g,d,t,os⟩:=by
 unfold newTextTuple
 exact wpAny_newObjAsIs_type (s:=⟨h,g,d,t,os⟩) (q _ _ (fun b o e=>Heap.get?_push_of_some _ e) (Heap.get?_push_size h rfl))
theorem new_tuple {M:Model} {A:Around} {E:VP} {h:Heap} {g d t os} {l:List Value} {Q:VP} (hl:l.length<=100)
 (q:∀ h' bT,(∀ b o,h.get? b=some o->h'.get? b=some o)->h'.get? bT=some { cls:=.type "tuple",data:=.seq l.toArray }->h.objs.size<=bT->h.objs.size<=h'.objs.size->bT<h'.objs.size->Q (.ref bT) ⟨h',g,d,t,os⟩) :
 wpAny M A (newTuple l) Q E ⟨h,g,d,t,os⟩:=by
 unfold newTuple
 refine wpAny_newObj_type (s:=⟨h,g,d,t,os⟩) (q _ _ (fun b o e=>Heap.get?_push_of_some _ e) (Heap.get?_push_size h rfl) (Nat.le_refl _) (by rw [Heap.objs_push,Array.size_push];exact Nat.le_succ _) (by rw [Heap.objs_push,Array.size_push];exact Nat.lt_succ_self _)) (show l.toArray.size<=sizeLine from ?_)
 exact qE List.size_toArray (Nat.le_trans hl (nb rfl))
theorem forIn_gv {β:Type} {M:Model} {A:Around} {E:VP} {s:Shared} {gv:List Value} {b:Value} {f:Value->β->Sem (ForInStep β)} {Q:β->Shared->Prop} (mk:List Value->β)
 (hgv:gv=[]/\b=.type "object"\/gv=[b]) (h1:∀ Q:ForInStep β->Shared->Prop,Q (.yield (mk [b])) s->wpAny M A (f b (mk [])) Q E s) (q:Q (mk gv) s):wpAny M A (forIn gv (mk []) f) Q E s:=by
 rcases hgv with ⟨e,_⟩ | e
 · subst e;exact wpAny_pure q
 · subst e
   rw [List.forIn_cons]
   exact wpAny_bind (h1 _ (wpAny_pure q))
theorem tl_dgi:typeLookup (.type "dict") "__getitem__"=pure (some (.builtin "dict.__getitem__")):=by rw [typeLookup_type,builtinLookup_eq_fast];kernel_rfl
theorem isCode_map {h h':Heap} {c P:Addr} {ps} (x:h.IsCode c P ps) (ec:∀ o,h.get? c=some o->h'.get? c=some o) (eP:∀ o,h.get? P=some o->h'.get? P=some o):h'.IsCode c P ps:=
 ea8_1 x fun o vs file tf flags tg inF text z=>ea2_1 z fun tt op z=>ea0_9 z fun a r1 r2 r3 r4 r5 r6 b r=>⟨o,vs,file,tf,flags,tg,inF,text,tt,op,ec _ a,r1,r2,r3,r4,r5,r6,eP _ b,r⟩
theorem build_class {prog:Program} {w:World} {A:Around} {E:VP} {Q:VP} {h:Heap} {d t os} {c Pl F:Addr} {mg:Str->Option Value} {ps:Array Value}
 {name qual:Str} {gv:List Value} {b:Value} {body:List Stmt} {scope:Scope} {statics:List Str} {pos:Pos} {fl:Nat}
 (hM:h.Main mg c Pl ps) (hnf:codeAmong pos ps.toList=none) (hgv:gv=[]/\b=.type "object"\/gv=[b])
 (hbT:Looks (model prog w) h (isType b) true) (hbt:Looks (model prog w) h (typeOf b) (.type "type"))
 (hcl:scope.names.lookup ("__class__":Str)≠some NameKind.cell) (hcd:scope.names.lookup ("__classdict__":Str)≠some NameKind.cell) (hfree:∀ x∈scope.names,x.2≠.free) (hsys:∃ o,h.get? sysModules=some o) (st:StOk h) (hA:A.depth<recursionLimit) (hkind:scope.kind=.class)
 (hsn:∀ n∈(["__name__","__module__","__qualname__","__firstlineno__","__static_attributes__"]:List Str),scope.names.lookup n=none) {nmod:Str} {tmod:Tok} (hmod:mg "__name__"=some (.str nmod tmod)) (hPs:Pl≠cStatics)
 (hann:hasAnns body=false) (hdoc:docOf body=none) (hst:statics.length<=100)
 {Post:Heap->(Str->Option Value)->Prop} (hbody:∀ (A':Around) (E':VP) (h8:Heap) (t8:Nat) (nA c' F' P':Addr) (es8:Array DictEntry) (m8:Str->Option Value),A'.depth<=A.depth+1->NsE h8 nA es8 m8->(∀ k v,m8 k=some v->∀ hh,VO hh v) →
  (∀ k:Str,k≠"__module__"->k≠"__qualname__"->k≠"__firstlineno__"->m8 k=none)->m8 "__module__"=some (.str nmod tmod)->(∃ tq,m8 "__qualname__"=some (.str qual tq))->h8.IsCode c' P' #[]->nA≠P'->nA≠c'->h8.Ns mainGlobals mg->h8.BuiltinsAt mg P'->mainGlobals≠P'->mainGlobals≠nA->es8.size<=3->h.objs.size<=h8.objs.size →
  wpAny (model prog w) A' (execs body (clsEnv scope nA c' F' qual)) (fun f s'=>f=.next/\∃ h9 t9 es9 m9,s'=⟨h9,#[],d,t9,os⟩/\NsE h9 nA es9 m9/\(∀ k v,m9 k=some v->VO h9 v)/\es9.size<=1000/\Post h9 m9/\(∀ k:Str,k∈(["__slots__","__new__","__init_subclass__","__class_getitem__","__classcell__","__classdictcell__","__del__","__dict__","__weakref__","__eq__","__doc__"]:List Str)->m9 k=none) ∧
   m9 "__module__"=some (.str nmod tmod)/\(∃ tq,m9 "__qualname__"=some (.str qual tq))/\(∀ b o,b≠nA->b≠P'->h8.get? b=some o->h9.get? b=some o)) E' ⟨h8,#[],d,t8,os⟩)
 (hnm:(name.cps.any fun c=>0xD800<=c&&c<=0xDFFF)=false) (hn0:name.cps.contains 0=false)
 {bm:List Value} {mk:String} {gd gw:Bool} {wr:Addr} {Bs:Heap->Heap->Prop} (hNew:∀ h',(∀ b o,b≠Pl->h.get? b=some o->h'.get? b=some o)->NewOk prog w h' b bm mk gd gw wr (Bs h'))
 (hcw:c≠wr) (hPw:Pl≠wr) (hwo:∃ o,h.get? wr=some o)
 (q:∀ h' a t' h9 h11 m9 c' sT,(∀ b o,b≠Pl->b≠wr->h.get? b=some o->h'.get? b=some o)->h'.IsCode c Pl (ps++#[rawInt pos.line,rawInt pos.col,.ref c']) →
  (∀ p,codeAmong p ps.toList=none->(pos.line,pos.col)≠(p.line,p.col)->codeAmong p (ps++#[rawInt pos.line,rawInt pos.col,.ref c']).toList=none) →
  (∀ b o,b≠Pl->h.get? b=some o->h11.get? b=some o)->Post h9 m9->(∀ b o,h9.get? b=some o->SoftO o->h'.get? b=some o)->h.objs.size<=h11.objs.size →
  (∀ lo,lo<=h11.objs.size->ClsAt h' lo a ⟨name,qual,[b],bm,mk,fun y=>if y="__static_attributes__" then some (.ref sT) else m9 y⟩ 0)->h11.objs.size<=a->Bs h11 h'->Q (.ref a) ⟨h',#[],d,t',os⟩)
 : wpAny (model prog w) A (buildClass name qual gv [] body scope statics fl (mainEnv prog c F) pos none) Q E ⟨h,#[],d,t,os⟩:=by
 revert hM hnf hgv hbT hbt hcl hcd hfree hsys st hA hkind hsn hmod hPs hann hdoc hst hbody hnm hn0 gw wr Bs hNew hcw hPw hwo q
 revert prog w A E Q h d t os c Pl F mg ps name qual gv b body scope statics pos fl nmod tmod Post bm mk gd
 refine no_implicit_lambda% (al29 (n:=⟨(default,w0,a0,default,default,default,d0,default)⟩) ?_)
 generalize et29 _ _=υ
 generalize υ.1=prog,υ.2.1=w,υ.2.2.1=A,υ.2.2.2.1=E,υ.2.2.2.2.1=Q,υ.2.2.2.2.2.1=h,υ.2.2.2.2.2.2.1=d,υ.2.2.2.2.2.2.2.1=t,υ.2.2.2.2.2.2.2.2.1=os,υ.2.2.2.2.2.2.2.2.2.1=c,υ.2.2.2.2.2.2.2.2.2.2.1=Pl,υ.2.2.2.2.2.2.2.2.2.2.2.1=F,υ.2.2.2.2.2.2.2.2.2.2.2.2.1=mg,υ.2.2.2.2.2.2.2.2.2.2.2.2.2.1=ps,υ.2.2.2.2.2.2.2.2.2.2.2.2.2.2.1=name,υ.2.2.2.2.2.2.2.2.2.2.2.2.2.2.2.1=qual,υ.2.2.2.2.2.2.2.2.2.2.2.2.2.2.2.2.1=gv,υ.2.2.2.2.2.2.2.2.2.2.2.2.2.2.2.2.2.1=b,υ.2.2.2.2.2.2.2.2.2.2.2.2.2.2.2.2.2.2.1=body,υ.2.2.2.2.2.2.2.2.2.2.2.2.2.2.2.2.2.2.2.1=scope,υ.2.2.2.2.2.2.2.2.2.2.2.2.2.2.2.2.2.2.2.2.1=statics,υ.2.2.2.2.2.2.2.2.2.2.2.2.2.2.2.2.2.2.2.2.2.1=pos,υ.2.2.2.2.2.2.2.2.2.2.2.2.2.2.2.2.2.2.2.2.2.2.1=fl,υ.2.2.2.2.2.2.2.2.2.2.2.2.2.2.2.2.2.2.2.2.2.2.2.1=nmod,υ.2.2.2.2.2.2.2.2.2.2.2.2.2.2.2.2.2.2.2.2.2.2.2.2.1=tmod,υ.2.2.2.2.2.2.2.2.2.2.2.2.2.2.2.2.2.2.2.2.2.2.2.2.2.1=Post,υ.2.2.2.2.2.2.2.2.2.2.2.2.2.2.2.2.2.2.2.2.2.2.2.2.2.2.1=bm,υ.2.2.2.2.2.2.2.2.2.2.2.2.2.2.2.2.2.2.2.2.2.2.2.2.2.2.2.1=mk,υ.2.2.2.2.2.2.2.2.2.2.2.2.2.2.2.2.2.2.2.2.2.2.2.2.2.2.2.2=gd
 intro hM hnf hgv hbT hbt hcl hcd hfree hsys st hA hkind hsn hmod hPs hann hdoc hst hbody hnm hn0 gw wr Bs hNew hcw hPw hwo q
 revert hNew hcw hPw hwo q;revert gw wr Bs;refine no_implicit_lambda% (al3 ?_);generalize et3 _ _=υ;generalize υ.1=gw,υ.2.1=wr,υ.2.2=Bs;clear υ;intro hNew hcw hPw hwo q
 k_node
 have hl:gv.length<=100:=by rcases hgv with ⟨e,_⟩ | e <;> (subst e;simp)
 refine wpAny_bind (new_tuple hl fun h1 bT K1 eT lT l1 lT1=>?_)
 revert K1 eT lT l1 lT1;revert h1 bT;refine no_implicit_lambda% (al2 ?_);generalize et2 _ _=υ;generalize υ.1=h1,υ.2=bT;clear υ;intro K1 eT lT l1 lT1
 have hmem:∀ x∈gv,x=b:=by rcases hgv with ⟨e,_⟩ | e <;> (subst e;simp)
 refine wpAny_bind (forIn_gv (fun l=>(l,false)) hgv (fun Q qq=>?_) ?_)
 · refine wpAny_bind (lk_use hbT K1 ?_)
   exact wpAny_ite_true rfl (wpAny_ite_false (decide_eq_false (by simp)) (wpAny_pure qq))
 k_node
 have hm1:∀ (k:Value->Sem Value),wpAny (model prog w) A (k (.type "type")) Q E ⟨h1,#[],d,t,os⟩->wpAny (model prog w) A (match (none:Option Value),gv with
  | some m,_=>(do let mcls ← pure m;k mcls)
  | none,b::_=>(do let mcls ← typeOf b;k mcls)
  | none,[]=>(do let mcls ← pure (.type "type");k mcls)) Q E ⟨h1,#[],d,t,os⟩:=by
  intro k hk
  rcases hgv with ⟨e,_⟩ | e
  · subst e;exact wpAny_bind (wpAny_pure hk)
  · subst e;exact wpAny_bind (lk_use hbt K1 hk)
 refine hm1 _ (wpAny_bind ?_)
 k_node
 refine wpAny_pure ?_
 k_node
 refine wpAny_ite_true rfl (wpAny_bind (forIn_skip (fun x hx Q qq=>?_) ?_))
 · obtain rfl:=hmem x hx
   refine wpAny_bind (lk_use hbt K1 ?_)
   refine wpAny_bind (wpAny_pureEq sub_typ ?_)
   exact wpAny_ite_true rfl (wpAny_pure qq)
 refine wpAny_bind (mk_text ?_)
 k_node
 k_node
 refine wpAny_bind <| wpAny_pure <| wpAny_holding <| wpAny_bind (prep_get fun h2 pA t2 K2 eP nP=>?_)
 revert K2 eP nP;revert h2 pA t2;refine no_implicit_lambda% (al3 ?_);generalize et3 _ _=υ;generalize υ.1=h2,υ.2.1=pA,υ.2.2=t2;clear υ;intro K2 eP nP
 refine wpAny_bind ?_
 k_node
 refine prep_call eP rfl fun h3 nA K3 eN nN=>?_
 revert K3 eN nN;revert h3 nA;refine no_implicit_lambda% (al2 ?_);generalize et2 _ _=υ;generalize υ.1=h3,υ.2=nA;clear υ;intro K3 eN nN
 refine wpAny_bind ?_
 k_node
 have hnA:(nA==sysModules)=false:=by
  rw [beq_eq_false_iff_ne]
  rintro rfl
  refine ea1_1 hsys fun o e=>?_;clear hsys
  replace nN:=K2 _ _ (K1 _ _ e)▸nN
  injection nN
 refine wpAny_ite_false (by refine qE hnA ?_;rfl) ?_
 refine wpAny_pure <| wpAny_bind (wpAny_bind (wpAny_bind (wpAny_loadPart eN (wpAny_pure (wpAny_pureEq tl_dgi ?_)))) |> id)
 k_node
 k_node
 refine wpAny_holding ?_
 k_node
 refine wpAny_ite_false (decide_eq_false (by simpa using hcl)) (wpAny_bind <| wpAny_pure ?_)
 k_node
 refine wpAny_ite_false (decide_eq_false (by simpa using hcd)) (wpAny_bind <| wpAny_pure <| wpAny_bind ?_)
 have K03:∀ b o,h.get? b=some o->h3.get? b=some o:=fun b o e=>K3 _ _ (K2 _ _ (K1 _ _ e))
 have hok3:h3.IsCode c Pl ps:=hM.code.keeps K03
 refine class_code rfl hok3 hnf fun c' h4 t4 K4 lc' hok4 hP4 hmiss=>?_
 revert K4 lc' hok4 hP4 hmiss;revert c' h4 t4;refine no_implicit_lambda% (al3 ?_);generalize et3 _ _=υ;generalize υ.1=c',υ.2.1=h4,υ.2.2=t4;clear υ;intro K4 lc' hok4 hP4 hmiss
 refine ea1_2 hP4 fun P' lP' hok4'=>?_;clear hP4
 revert lP' hok4';revert P';refine no_implicit_lambda% (al1 ?_);generalize et1 _ _=P';intro lP' hok4'
 have hgP:mainGlobals≠Pl:=Nat.ne_of_lt hM.low.2
 have hg4:h4.Ns mainGlobals mg:=(hM.g.keeps K03).extBut K4 hgP
 have hb4:h4.BuiltinsAt mg Pl:=by
  exact ea2_6 hM.bmod fun bm o x1 x2 x3 x4 x5 x6=>⟨bm,o,x1,x2,x3,x4,K4 _ _ x4 (K03 _ _ x5),x6⟩
 refine wpAny_bind (builtins_for hg4 hb4 (wpAny_bind (body_frame hg4 fun h5 F' K5 lF' eF'=>?_)))
 revert K5 lF' eF';revert h5 F';refine no_implicit_lambda% (al2 ?_);generalize et2 _ _=υ;generalize υ.1=h5,υ.2=F';clear υ;intro K5 lF' eF'
 refine wpAny_bind (wpAny_pureEq (closure_none hfree) ?_)
 refine wpAny_holding <| wpAny_bind ?_
 have K05:∀ b o,b≠Pl->h.get? b=some o->h5.get? b=some o:=fun b o hb e=>K5 _ _ (K4 _ _ hb (K03 _ _ e))
 have st5:StOk h5:=st.keeps fun o e=>K05 _ _ hPs.symm e
 refine wpAny_enterFrame (s:=⟨h5,#[],d,t4,os⟩) st5.noLimit hA (wpAny_bind <| wpAny_onRaise <| wpAny_bind ?_)
 have hPl:∃ o,h.get? Pl=some o:=by refine ea8_1 hM.code fun o vs file tf flags tg inF text z1=>?_;refine ea2_1 z1 fun tt op y48=>?_;refine ea0_11 y48 fun ho hd h11 h2 h7 h9 h10 hop hpd htr hne=>?_;clear y48;clear z1;exact ⟨_,hop⟩
 have nAP:nA≠Pl:=by
  rintro rfl
  refine ea1_1 hPl fun o e=>?_;clear hPl
  replace nN:=K2 _ _ (K1 _ _ e)▸nN
  injection nN
 have nAo:∀ b o,h.get? b=some o->b≠nA:=by
  rintro b o e rfl
  replace nN:=K2 _ _ (K1 _ _ e)▸nN
  injection nN
 have N5:NsE h5 nA #[] (fun ξ=>none):=⟨⟨0,K5 _ _ (K4 _ _ nAP eN)⟩,fun e he=>by simp at he,by simp [UniqKeys],fun ξ=>rfl⟩
 have hg5:h5.Ns mainGlobals mg:=hg4.keeps K5
 refine load_own (nA:=nA) ⟨hkind,rfl,rfl⟩ (hsn _ (by decide +kernel)) rfl N5 rfl hg5 hmod (wpAny_bind (store_own (nA:=nA) ⟨hkind,rfl,rfl⟩ (.inl ⟨hsn _ (by decide +kernel),rfl⟩) N5 fun h6 t6 es6 N6 S6 z6=>wpAny_bind (mk_text (wpAny_bind (store_own (nA:=nA) ⟨hkind,rfl,rfl⟩ (.inl ⟨hsn _ (by decide +kernel),rfl⟩) N6 fun h7 t7 es7 N7 S7 z7=>wpAny_bind (mk_int (wpAny_bind (store_own (nA:=nA) ⟨hkind,rfl,rfl⟩ (.inl ⟨hsn _ (by decide +kernel),rfl⟩) N7 fun h8 t8 es8 N8 S8 z8=>wpAny_pure <| wpAny_bind ?_))))))))
 have s58:∀ b,b≠nA->h8.get? b=h5.get? b:=fun b hb=>(S8.2 _ hb).trans ((S7.2 _ hb).trans (S6.2 _ hb))
 have K58:∀ b o,b≠nA->h5.get? b=some o->h8.get? b=some o:=fun b o hb e=>(s58 b hb).trans e
 have sz3:∀ b,h3.objs.size<=b->∀ x o,h.get? x=some o->x≠b:=fun b hb x o e e'=>absurd (Heap.lt_size (K03 _ _ e)) (by refine qE e' ?_;exact Nat.not_lt.mpr hb)
 have nAlt:nA<h3.objs.size:=Heap.lt_size eN
 have nAc:nA≠c':=Nat.ne_of_lt (Nat.lt_of_lt_of_le nAlt lc')
 have nAP':nA≠P':=Nat.ne_of_lt (Nat.lt_of_lt_of_le nAlt lP')
 refine ea3_2 (id hM.g) fun og esg epg eg rg=>?_
 have mgA:mainGlobals≠nA:=nAo _ _ eg
 have mgP':mainGlobals≠P':=sz3 _ lP' _ _ eg
 have hg8:h8.Ns mainGlobals mg:=hg5.at fun o e=>K58 _ _ mgA e
 have hb8:h8.BuiltinsAt mg P':=by
  exact ea2_6 hM.bmod fun bm o x1 x2 x3 x4 x5 x6=>⟨bm,o,x1,x2,x3,sz3 _ lP' _ _ x5,K58 _ _ (nAo _ _ x5) (K05 _ _ x4 x5),x6⟩
 have hc8:h8.IsCode c' P' #[]:=by
  have h5c:=hok4'.keeps K5
  exact h5c.extBut (a:=nA) (fun b o hb e=>K58 b o hb e) nAc.symm nAP'.symm
 have V8:∀ k v,(fun y=>if y=Str.ofString "__firstlineno__" then some (Value.int (↑fl) t7) else if y=Str.ofString "__qualname__" then some (Value.str qual t6) else if y=Str.ofString "__module__" then some (Value.str nmod tmod) else none) k=some v->∀ hh,VO hh v:=by
  intro k v e hh
  dsimp only at e
  split at e
  · cases e;exact trivial
  · split at e
    · cases e;exact trivial
    · split at e
      · cases e;exact trivial
      · injection e
 have hsz8:h.objs.size<=h8.objs.size:=by
  refine ea1_1 hPl fun oP hoP=>?_;clear hPl
  have bP:bT≠Pl:=Nat.ne_of_gt (Nat.lt_of_lt_of_le (Heap.lt_size hoP) lT)
  have bA:bT≠nA:=by
   rintro rfl
   replace nN:=K2 _ _ eT▸nN
   injection nN
  exact Nat.le_trans lT (Nat.le_of_lt (Heap.lt_size (K58 _ _ bA (K5 _ _ (K4 _ _ bP (K3 _ _ (K2 _ _ eT)))))))
 refine wpAny_run (codeAny_body hann hdoc (wpAny_mono (hbody _ (fun ξ ξ=>False) h8 t8 nA c' F' P' es8 _ ?_ N8 V8 ?_ ?_ ?_ hc8 nAP' nAc hg8 hb8 mgP' mgA (by simp at z6;lia) hsz8) (fun f s' z=>?_) (fun e s' z=>z.elim)))
 · exact Nat.le_refl _
 · intro k e1 e2 e3
   exact (if_neg e3).trans ((if_neg e2).trans (if_neg e1))
 · exact (if_neg (by decide)).trans ((if_neg (by decide)).trans (if_pos rfl))
 · exact ⟨t6,(if_neg (by decide)).trans (if_pos rfl)⟩
 refine ea0_2 z fun z1 z2=>?_;clear z;subst z1;refine ea4_1 z2 fun h9 t9 es9 m9 y49=>?_;refine ea0_9 y49 fun z3 N9 V9 z9 hPost hno9 hm9 z4 K89=>?_;clear y49;clear z2;subst z3;refine ea1_1 z4 fun tq hq9=>?_;clear z4
 refine wpAny_bind <| wpAny_onRaise <| wpAny_bind (mk_strs fun vs t10=>wpAny_bind (text_tuple fun h10 sT K10 e10=>wpAny_bind (store_own (nA:=nA) ⟨hkind,rfl,rfl⟩ (.inl ⟨hsn _ (by decide +kernel),rfl⟩) (N9.keeps fun ξ e=>K10 _ _ e) fun h11 t11 es11 N11 S11 z11=>wpAny_pure ?_)))
 k_node
 k_node
 refine wpAny_bind ?_
 have K11:∀ b o,b≠nA->h9.get? b=some o->h11.get? b=some o:=fun b o hb e=>(S11.2 _ hb).trans (K10 _ _ e)
 have K0:∀ b o,b≠Pl->h.get? b=some o->h11.get? b=some o:=fun b o hb e=>K11 _ _ (nAo _ _ e) (K89 _ _ (nAo _ _ e) (sz3 _ lP' _ _ e) (K58 _ _ (nAo _ _ e) (K05 _ _ hb e)))
 have bPl:bT≠Pl:=by
  refine ea1_1 hPl fun o e=>?_;clear hPl
  exact Nat.ne_of_gt (Nat.lt_of_lt_of_le (Heap.lt_size e) lT)
 have bnA:bT≠nA:=by
  rintro rfl
  replace nN:=K2 _ _ eT▸nN
  injection nN
 have bP':bT≠P':=Nat.ne_of_lt (Nat.lt_of_lt_of_le (Heap.lt_size (K3 _ _ (K2 _ _ eT))) lP')
 have eT11:h11.get? bT=some { cls:=.type "tuple",data:=.seq gv.toArray }:=K11 _ _ bnA (K89 _ _ bnA bP' (K58 _ _ bnA (K5 _ _ (K4 _ _ bPl (K3 _ _ (K2 _ _ eT))))))
 have V11:∀ k v,(fun y=>if y=Str.ofString "__static_attributes__" then some (Value.ref sT) else m9 y) k=some v->VO h11 v:=by
  intro k v e
  dsimp only at e
  have kv:∀ b o,h10.get? b=some o->SoftO o->h11.get? b=some o:=fun b o e s=>(S11.2 _ (by
   rintro rfl
   refine ea1_1 N9.at_ fun ep e2=>?_
   replace e:=K10 _ _ e2▸e;cases e
   exact nomatch s.1)).trans e
  split at e
  · cases e;exact ⟨_,kv _ _ e10 ⟨rfl,by simp⟩,.inr (.inl rfl),rfl⟩
  · exact (V9 k v e).keeps fun b o e s=>kv _ _ (K10 _ _ e) s
 refine type_call fun A2 E2=>?_
 have X:=hNew h11 K0
 refine tnew' X N11 eT11 hgv hnA ((if_neg (by decide)).trans hq9) ((if_neg (by decide)).trans hm9) V11 (by lia) (fun k hk=>(if_neg (by intro e;subst e;revert hk;decide)).trans (hno9 k (List.mem_append_left _ hk))) hnm hn0 (.inl ((if_neg (by decide)).trans (hno9 _ (by simp)))) fun h' a t' Ke la hC hB=>?_
 refine ea6_5 (id (hC _ (Nat.le_refl _)).ex) fun n2 sub2 k02 k22 k32 m2 ln2 e2 l2 N2 f2=>⟨a,_,rfl,e2,rfl,?_⟩
 have hc0:∃ o,h.get? c=some o:=by refine ea8_1 hM.code fun o vs file tf flags tg inF text z1=>?_;refine ea2_1 z1 fun tt op y50=>?_;refine ea0_11 y50 fun ho hd h11 h2 h7 h9 h10 hop hpd htr hne=>?_;clear y50;clear z1;exact ⟨_,ho⟩
 refine ea1_1 hc0 fun oc ec=>?_;clear hc0
 refine ea1_1 hPl fun oP eP=>?_;clear hPl
 have cont:∀ b ob,h.get? b=some ob->b≠wr->∀ o,h4.get? b=some o->h'.get? b=some o:=fun b ob eb hw o e=>
  Ke _ _ hw (K11 _ _ (nAo _ _ eb) (K89 _ _ (nAo _ _ eb) (sz3 _ lP' _ _ eb) (K58 _ _ (nAo _ _ eb) (K5 _ _ e))))
 have hokE:=isCode_map hok4 (cont c oc ec hcw) (cont Pl oP eP hPw)
 refine wpAny_pure (q h' a t' h9 h11 m9 c' sT (fun b o hp hw e=>Ke _ _ hw (K0 _ _ hp e)) hokE hmiss K0 hPost ?_ ?_ hC la hB)
 · intro b o e s
   have e11:h11.get? b=some o:=K11 _ _ (by
    rintro rfl
    refine ea1_1 N9.at_ fun ep e2=>?_
    replace e:=e2▸e;cases e
    exact nomatch s.1) e
   exact Ke _ _ (by rintro rfl;exact X.hwc _ e11 s) e11
 · exact Nat.le_trans lT (Nat.le_of_lt (Heap.lt_size eT11))
structure FnAt (h:Heap) (lo:Addr) (f:Addr) (name qual:Str) (params:Arguments) (body:List Stmt) (sc:Scope):Prop where
 ex:lo<=f/\∃ dV vs pm code doc P',lo<=code/\lo<=P'/\h.get? f=some { cls:=.type "function",data:=.func (defFd name qual params body sc mainGlobals dV .none none pm (.ref code) doc) } ∧
  ConstVals params.defaults vs/\h.DefaultsAt lo vs dV/\h.CodeRec (.ref code) qual/\h.IsCode code P' #[]/\h.TableAt code P' #[]
theorem meth_def {M:Model} {A:Around} {E:VP} {h:Heap} {g d t os} {scope:Scope} {nA c' F' P':Addr} {qual name qn:Str} {params:Arguments} {body:List Stmt} {sc:Scope} {pos:Pos} {mg} {ps:Array Value} {es m} {Q:Flow->Shared->Prop}
 (hkind:scope.kind=.class) (hkw:params.kwonlyargs=[]) (hkd:params.kw_defaults=[]) (hconst:∀ e∈params.defaults,e.isPlainConst=true) (hann0:annTrees params none (clsEnv scope nA c' F' qual)=[])
 (hfree:∀ x∈sc.names,x.2≠.free) (hloc:scope.names.lookup name=some .local) (hqn:qualnameIn (clsEnv scope nA c' F' qual) name name=qn)
 (hg:h.Ns mainGlobals mg) (hok:h.IsCode c' P' ps) (hnf:codeAmong pos ps.toList=none) (hgP:mainGlobals≠P') (hb:h.BuiltinsAt mg P') (N:NsE h nA es m) (hnP:nA≠P') (hnc:nA≠c') (hgA:mainGlobals≠nA)
 (q:∀ h' f t' es' cc,NsE h' nA es' (fun y=>if y=name then some (.ref f) else m y)->(∀ lo,lo<=h.objs.size->FnAt h' lo f name qn params body sc)->h.objs.size<=f->(∀ b o,b≠P'->b≠nA->h.get? b=some o->h'.get? b=some o) →
  h'.IsCode c' P' (ps++#[rawInt pos.line,rawInt pos.col,.ref cc])->es'.size<=es.size+1->Q .next ⟨h',g,d,t',os⟩) :
 wpAny M A (exec (.FunctionDef name params body [] none [] sc none name pos) (clsEnv scope nA c' F' qual)) Q E ⟨h,g,d,t,os⟩:=by
 rw [exec_def,hqn,defaultsOf_eq,hkd,hann0]
 refine wpAny_bind (wpAny_standAt (wpAny_bind (wpAny_holding ?_)))
 refine wpAny_bind (wpAny_evalAll_consts _ _ _ hconst fun vs tk₁ hvs=>?_)
 refine wpAny_bind (wpAny_holding (wpAny_pure ?_))
 refine wpAny_holding (wpAny_bind (wpAny_pure ?_))
 refine wpAny_makeFunction_d0N (s:=⟨h,g,d,tk₁,os⟩) (env:=clsEnv scope nA c' F' qual) (c:=c') (Pl:=P') hkw hfree hg rfl hok hnf hgP hb
  fun dV cc doc h₂ tk₃ hdef hx hge hlt hok' hrec htb=>wpAny_bind (wpAny_standAt (wpAny_bind (wpAny_bindName ?_)))
 dsimp only at hdef hx hge htb
 refine ea1_3 htb fun PP hPP hcc htt=>?_;clear htb
 have N2:NsE (h₂.push { cls:=.type "function",data:=.func (defFd name qn params body sc mainGlobals dV .none none ((mg "__name__").getD .none) (.ref cc) doc) }) nA es m:=
  (N.keeps fun o e=>hx _ _ hnP e).keeps fun o e=>Heap.get?_push_of_some _ e
 have nlt:nA<h.objs.size:=by refine ea1_1 N.at_ fun ep e=>?_;exact Heap.lt_size e
 have hsz:h.objs.size<=h₂.objs.size:=Nat.le_trans hge (Nat.le_of_lt hlt)
 have ner:∀ b,h.objs.size<=b->b≠nA:=fun b hb=>Nat.ne_of_gt (Nat.lt_of_lt_of_le nlt hb)
 refine store_own (nA:=nA) ⟨hkind,rfl,rfl⟩ (.inr hloc) N2 fun h3 t3 es3 N3 S3 z3=>wpAny_pure ?_
 have kS:∀ b o,h.objs.size<=b->h₂.get? b=some o->h3.get? b=some o:=fun b o hb e=>(S3.2 _ (ner _ hb)).trans (Heap.get?_push_of_some _ e)
 refine q h3 _ t3 es3 cc N3 (fun lo hlo=>⟨Nat.le_trans hlo hsz,dV,vs,_,cc,doc,PP,Nat.le_trans hlo hge,Nat.le_trans hlo hPP,(S3.2 _ (ner _ hsz)).trans (Heap.get?_push_size _ rfl),hvs,?_,?_,?_,?_⟩) hsz (fun b o hb hb2 e=>(S3.2 _ hb2).trans (Heap.get?_push_of_some _ (hx _ _ hb e))) ?_ z3
 · rcases hdef with hd | ⟨hne,T,e,hT,hgt⟩
   · exact Or.inl hd
   · exact Or.inr ⟨hne,T,e,Nat.le_trans hlo hT,kS _ _ hT hgt⟩
 · refine ea4_1 hrec fun c₂ o₂ vs₂ t₂ y36=>?_;refine ea0_3 y36 fun e₂ g₂ r₂=>?_;clear y36;clear hrec
   exact ⟨c₂,o₂,vs₂,t₂,e₂,kS _ _ (by cases e₂;exact hge) g₂,r₂⟩
 · exact isCode_map hcc (fun o e=>kS _ _ hge e) (fun o e=>kS _ _ hPP e)
 · refine ea0_2 htt fun z1 e2=>?_;clear htt;refine ea2_2 z1 fun o vs2 e r=>?_;clear z1
   exact ⟨⟨o,vs2,kS _ _ hge e,r⟩,kS _ _ hPP e2⟩
 · exact isCode_map hok' (fun o e=>(S3.2 _ hnc.symm).trans (Heap.get?_push_of_some _ e)) (fun o e=>(S3.2 _ hnP.symm).trans (Heap.get?_push_of_some _ e))
set_option genInjectivity false in
structure Meth where
 name:Str
 params:Arguments
 body:List Stmt
 sc:Scope
 pos:Pos
noncomputable def Meth.stmt (m:Meth):Stmt:=.FunctionDef m.name m.params m.body [] none [] m.sc none m.name m.pos
set_option genInjectivity false in
structure Meth.Ok (scope:Scope) (m:Meth):Prop where
 hkw:m.params.kwonlyargs=[]
 hkd:m.params.kw_defaults=[]
 hconst:∀ e∈m.params.defaults,e.isPlainConst=true
 hann:∀ env,annTrees m.params none env=[]
 hfree:∀ x∈m.sc.names,x.2≠.free
 hloc:scope.names.lookup m.name=some .local
theorem FnAt.soft {h h':Heap} {lo f name qual params body sc} (x:FnAt h lo f name qual params body sc) (k:∀ b o,lo<=b->h.get? b=some o->SoftO o->h'.get? b=some o):FnAt h' lo f name qual params body sc:=by
 refine ea0_2 x.ex fun lf z1=>?_;refine ea6_1 z1 fun dV vs pm code doc P' y37=>?_;refine ea0_8 y37 fun lc lP e c D R I T=>?_;clear y37;clear z1
 have hc:∀ o,h.get? code=some o->h'.get? code=some o:=fun o e=>k _ _ lc e (by
  refine ea0_2 T fun z1 ξ=>?_;clear T;refine ea2_4 z1 fun o2 vs2 e2 hcl hd r=>?_;clear z1
  replace e:=e2▸e;cases e;exact ⟨by refine qE hd ?_;rfl,by refine qE hcl ?_;simp⟩)
 have hP:∀ o,h.get? P'=some o->h'.get? P'=some o:=fun o e=>k _ _ lP e (by
  refine ea0_2 T fun ξ e2=>?_;clear T
  replace e:=e2▸e;cases e;exact ⟨rfl,by simp⟩)
 refine ⟨lf,dV,vs,pm,code,doc,P',lc,lP,k _ _ lf e ⟨rfl,by simp⟩,c,?_,?_,isCode_map I hc hP,?_⟩
 · rcases D with d | ⟨hne,t,e1,lT,e2⟩
   · exact .inl d
   · exact .inr ⟨hne,t,e1,lT,k _ _ lT e2 ⟨rfl,by simp⟩⟩
 · refine ea4_1 R fun c2 o vs2 t2 y38=>?_;refine ea0_3 y38 fun e2 g r=>?_;clear y38;clear R
   cases e2
   exact ⟨_,o,vs2,t2,rfl,hc _ g,r⟩
 · refine ea0_2 T fun z1 e3=>?_;clear T;refine ea2_2 z1 fun o2 vs2 e2 r=>?_;clear z1
   exact ⟨⟨o2,vs2,hc _ e2,r⟩,hP _ e3⟩
theorem FnAt.keeps {h h':Heap} {lo f name qual params body sc} (x:FnAt h lo f name qual params body sc) (k:∀ b o,lo<=b->h.get? b=some o->(∀ cd,o.data≠.cls cd)->h'.get? b=some o):FnAt h' lo f name qual params body sc:=
 x.soft fun b o lb e s=>k b o lb e fun cd hd=>by have:=s.1;replace this:=hd▸this;injection this
noncomputable def methMap (qual:Str) (ms:List Meth) (lo:Addr) (h:Heap) (m:Str->Option Value):Prop:=∀ x∈ms,∃ f,m x.name=some (.ref f)/\FnAt h lo f x.name (qual++"."++x.name) x.params x.body x.sc
theorem isCode_triples {h:Heap} {c P:Addr} {ps} (x:h.IsCode c P ps):TriplesOk ps.toList:=by
 refine ea8_1 x fun o vs file tf flags tg inF text z1=>?_;clear x;refine ea2_1 z1 fun tt op y39=>?_;refine ea0_11 y39 fun ho hd h11 h2 h7 h9 h10 hop hpd htr hne=>?_;clear y39;clear z1
 exact htr
theorem meths_run {M:Model} {A:Around} {E:VP} {g d os} {scope:Scope} {nA c' F' P' lo:Addr} {qual:Str} {mg}
 (hkind:scope.kind=.class) (hgP:mainGlobals≠P') (hnP:nA≠P') (hnc:nA≠c') (hgA:mainGlobals≠nA) (hnl:nA<lo) (hPl:P'<lo) :
 ∀ (ms:List Meth) (h:Heap) (t:Nat) (ps:Array Value) (es:Array DictEntry) (m:Str->Option Value),(∀ x∈ms,x.Ok scope)->(ms.map (·.name)).Nodup->(ms.map fun x=>(x.pos.line,x.pos.col)).Nodup →
  (∀ x∈ms,codeAmong x.pos ps.toList=none)->h.Ns mainGlobals mg->h.IsCode c' P' ps->h.BuiltinsAt mg P'->NsE h nA es m->lo<=h.objs.size →
  wpAny M A (execs (ms.map Meth.stmt) (clsEnv scope nA c' F' qual)) (fun f s'=>f=.next/\∃ h' t' es' m',s'=⟨h',g,d,t',os⟩/\NsE h' nA es' m'/\methMap qual ms lo h' m'/\(∀ k,k ∉ ms.map (·.name)->m' k=m k) ∧
   (∀ b o,b≠P'->b≠nA->h.get? b=some o->h'.get? b=some o)/\es'.size<=es.size+ms.length) E ⟨h,g,d,t,os⟩
 | [],h,t,ps,es,m,_,_,_,_,hg,hok,hb,N,hlo=>wpAny_execs_nil ⟨rfl,h,t,es,m,rfl,N,fun x hx=>(by cases hx),fun ξ ξ=>rfl,fun ξ ξ ξ ξ e=>e,Nat.le_refl _⟩
 | x::ms,h,t,ps,es,m,hok',hnd,hpd,hnf,hg,hok,hb,N,hlo=>by
  have X:=hok' x (List.mem_cons_self ..)
  rw [List.map_cons] at hnd hpd ⊢
  rw [List.nodup_cons] at hnd hpd
  have hqn:qualnameIn (clsEnv scope nA c' F' qual) x.name x.name=qual++"."++x.name:=by
   unfold qualnameIn
   rw [if_neg (by show ¬ ((scope.names.lookup x.name==some .globalExplicit)=true);refine qE X.hloc ?_;decide)]
  refine wpAny_execs_cons (meth_def (c':=c') (P':=P') hkind X.hkw X.hkd X.hconst (X.hann _) X.hfree X.hloc hqn hg hok (hnf x (List.mem_cons_self ..)) hgP hb N hnP hnc hgA fun h1 f t1 es1 cc N1 F1 lf K1 hok1 z1=>?_)
  have hgm:∀ o,h.get? mainGlobals=some o->h1.get? mainGlobals=some o:=fun o e=>K1 _ _ hgP hgA e
  have hb1:h1.BuiltinsAt mg P':=by
   refine ea2_6 hb fun bm o x1 x2 x3 x4 x5 x6=>?_;clear hb
   refine ⟨bm,o,x1,x2,x3,x4,K1 _ _ x4 (by
    rintro rfl
    refine ea1_1 N.at_ fun ep e=>?_
    replace x5:=e▸x5;cases x5;cases x6.2.2) x5,x6⟩
  have hlo1:lo<=h1.objs.size:=by
   refine ea0_2 ((F1 h.objs.size (Nat.le_refl _)).ex) fun lf1 z1=>?_;refine ea6_4 z1 fun dV vs pm code doc PP lc lP e r=>?_;clear z1
   exact Nat.le_trans hlo (Nat.le_trans lf (Nat.le_of_lt (Heap.lt_size e)))
  refine wpAny_mono (meths_run hkind hgP hnP hnc hgA hnl hPl ms h1 t1 _ es1 _ (fun y hy=>hok' y (List.mem_cons_of_mem _ hy)) hnd.2 hpd.2 ?_ (hg.at hgm) hok1 hb1 N1 hlo1) (fun f' s' z=>?_) (fun ξ ξ z=>z)
  · intro y hy
    have:=hnf y (List.mem_cons_of_mem _ hy)
    exact qE (show (ps++#[rawInt x.pos.line,rawInt x.pos.col,Value.ref cc]).toList=ps.toList++[rawInt x.pos.line,rawInt x.pos.col,.ref cc] by simp) (codeAmong_snoc_ne _ (isCode_triples hok) this (fun e=>hpd.1 (List.mem_map.mpr ⟨y,hy,e.symm⟩)))
  · refine ea0_2 z fun z1 z2=>?_;clear z;subst z1;refine ea4_1 z2 fun h2 t2 es2 m2 y40=>?_;refine ea0_6 y40 fun z3 N2 MM hm2 K2 z2=>?_;clear y40;subst z3
    refine ⟨rfl,h2,t2,es2,m2,rfl,N2,?_,?_,fun b o hb1 hb2 e=>K2 _ _ hb1 hb2 (K1 _ _ hb1 hb2 e),by refine qE List.length_cons ?_;lia⟩
    · intro y hy
      rcases List.mem_cons.mp hy with rfl | hy
      · refine ⟨f,(hm2 _ hnd.1).trans (if_pos rfl),(F1 lo hlo).keeps fun b o lb e ξ=>K2 _ _ (Nat.ne_of_gt (Nat.lt_of_lt_of_le hPl lb)) (Nat.ne_of_gt (Nat.lt_of_lt_of_le hnl lb)) e⟩
      · exact MM y hy
    · intro k hk
      rw [List.map_cons,List.mem_cons,not_or] at hk
      exact (hm2 k hk.2).trans (if_neg hk.1)
theorem class_stmt {prog:Program} {M:Model} {A:Around} {E:VP} {Q:Flow->Shared->Prop} {h:Heap} {d t os} {c F:Addr} {mb mg:Str->Option Value}
 {name:Str} {bs:List Expr} {body:List Stmt} {scope:Scope} {sc2:Option Scope} {statics:List Str} {pos:Pos} {gv:List Value}
 (hB:h.Ns builtinsNs mb) (hbc:mb "__build_class__"=some (.builtin "__build_class__"))
 (hargs:∀ {E'} {Q':Args->Shared->Prop},Q' ⟨gv,[]⟩ ⟨h,#[],d,t,os⟩->wpAny M A (evalArgs (.builtin "__build_class__") false (backTo pos (starEach bs (mainEnv prog c F))) (backToKw pos (keywordEach [] (mainEnv prog c F)))) Q' E' ⟨h,#[],d,t,os⟩)
 (hbuild:wpAny M A (buildClass name (qualnameIn (mainEnv prog c F) name name) gv [] body scope statics (firstLineOf [] pos) (mainEnv prog c F) pos none) (fun v s'=>wpAny M A (storeName (mainEnv prog c F) name v) (fun ξ=>Q .next) E s') E ⟨h,#[],d,t,os⟩) :
 wpAny M A (exec (.ClassDef name bs [] body [] [] scope sc2 name statics pos) (mainEnv prog c F)) Q E ⟨h,#[],d,t,os⟩:=by
 rw [arm_exec_ClassDef]
 refine wpAny_bind (wpAny_pure ?_)
 refine wpAny_bind (wpAny_standAt ?_)
 unfold buildClassGuard
 refine wpAny_bind (wpAny_bind (wpAny_nsGet hB ?_))
 refine qE hbc (wpAny_pure (wpAny_bind (wpAny_holding ?_)))
 refine wpAny_bind (hargs ?_)
 refine wpAny_bind (wpAny_standAt (wpAny_holding ?_))
 refine wpAny_mono hbuild (fun v s' z=>?_) (fun ξ ξ z=>z)
 unfold decorate
 refine wpAny_bind (wpAny_pure ?_)
 refine wpAny_bind (wpAny_standAt (wpAny_bind (wpAny_bindName (wpAny_mono z (fun ξ ξ z=>wpAny_pure z) (fun ξ ξ z=>z)))))
theorem args_of {M:Model} {A:Around} {E:VP} {s:Shared} {f:Value} {l:List (Bool×Sem Value)} {gv:List Value} {Q:Args->Shared->Prop} (hs:∀ {Q':List Value->Shared->Prop},Q' gv s->wpAny M A (spliced l) Q' E s) (q:Q ⟨gv,[]⟩ s) :
 wpAny M A (evalArgs f false l []) Q E s:=by
 unfold evalArgs
 show wpAny M A (spliced l >>= _) Q E s
 refine wpAny_bind (hs ?_)
 refine wpAny_bind (wpAny_pure ?_)
 exact wpAny_holding (wpAny_bind (wpAny_pure (wpAny_bind (wpAny_pure (wpAny_pure (by simpa using q))))))
theorem top_name {prog:Program} {M:Model} {A:Around} {E:VP} {s:Shared} {c F:Addr} {mg} {x:Str} {p:Pos} {v:Value} {Q:VP} (hmod:prog.main.scope.kind=.module)
 (hg:s.heap.Ns mainGlobals mg) (hv:mg x=some v) (hd:(x==("__debug__":Str))=false) (q:Q v s):wpAny M A (eval (.Name x p) (mainEnv prog c F)) Q E s:=by
 revert hmod hg hv hd q
 revert prog M A E s c F mg x p v Q
 refine no_implicit_lambda% (al12 (n:=⟨(default,(model default w0),a0,default,sh0,default)⟩) ?_)
 generalize et12 _ _=υ
 generalize υ.1=prog,υ.2.1=M,υ.2.2.1=A,υ.2.2.2.1=E,υ.2.2.2.2.1=s,υ.2.2.2.2.2.1=c,υ.2.2.2.2.2.2.1=F,υ.2.2.2.2.2.2.2.1=mg,υ.2.2.2.2.2.2.2.2.1=x,υ.2.2.2.2.2.2.2.2.2.1=p,υ.2.2.2.2.2.2.2.2.2.2.1=v,υ.2.2.2.2.2.2.2.2.2.2.2=Q
 intro hmod hg hv hd q
 refine wpAny_Name ?_ hd
 unfold loadName Env.blockKind
 refine qE (show (mainEnv prog c F).scope.kind=.module from hmod) (wpAny_ite_false rfl ?_)
 have fin:wpAny M A (loadGlobal (mainEnv prog c F) x) Q E s:=by
  unfold loadGlobal
  refine wpAny_bind (wpAny_nsGet hg ?_)
  exact qE hv (wpAny_pure q)
 induction hk:(mainEnv prog c F).kindOf x with
 | none=>exact fin
 | some k=>cases k <;> exact fin
section
set_option genInjectivity false in
set_option genCtorIdx true in
inductive Lit where
 | int (i:Int)
 | str (s:Str)
set_option genInjectivity false in
set_option genCtorIdx true in
inductive DV where
 | lit (l:Lit)
 | tup (l:List Str)
noncomputable def Lit.At:Lit->Value->Prop
 | .int i,v=>∃ t,v=.int i t
 | .str s,v=>∃ t,v=.str s t
noncomputable def LitsAt:List Lit->List Value->Prop
 | [],[]=>True
 | l::ls,v::vs=>l.At v/\LitsAt ls vs
 | _,_=>False
noncomputable def TupAt (h:Heap) (lo:Addr) (l:List Lit) (v:Value):Prop:=
 ∃ a vs,v=.ref a/\lo<=a/\h.get? a=some { cls:=.type "tuple",data:=.seq vs }/\LitsAt l vs.toList
noncomputable def DV.At (h:Heap) (lo:Addr):DV->Value->Prop
 | .lit l,v=>l.At v
 | .tup l,v=>TupAt h lo (l.map .str) v
set_option genInjectivity false in
set_option genCtorIdx true in
inductive BaseD where
 | obj
 | exc
 | sub (b:Str) (exc:Bool)
deriving Inhabited
set_option genCtorIdx true in
inductive GV where
 | lit (l:Lit)
 | tup (l:List Lit)
 | dict (l:List (Str×DV))
 | fn (m:Meth)
 | cls (base:BaseD) (ms:List Meth)
noncomputable def restOf (exc:Bool):List Value:=if exc then exM else [.type "object"]
noncomputable def makerOf (exc:Bool):String:=if exc then "Exception.__new__" else "object.__new__"
noncomputable def BaseAt (mg:Str->Option Value) (ci:CI):BaseD->Prop
 | .obj=>ci.bases=[.type "object"]/\ci.rest=restOf false/\ci.maker=makerOf false
 | .exc=>ci.bases=[.type "Exception"]/\ci.rest=restOf true/\ci.maker=makerOf true
 | .sub b exc=>∃ ba,mg b=some (.ref ba)/\ci.bases=[.ref ba]/\ci.rest=.ref ba::restOf exc/\ci.maker=makerOf exc
noncomputable abbrev freeNames:List Str:=["__module__","__qualname__","__firstlineno__","__static_attributes__"]
noncomputable def GAt (prog:Program) (w:World) (h:Heap) (lo:Addr) (lim:Nat) (mg:Str->Option Value) (x:Str):GV->Prop
 | .lit l=>∃ v,mg x=some v/\l.At v
 | .tup l=>∃ v,mg x=some v/\TupAt h lo l v
 | .dict l=>∃ a kvs,mg x=some (.ref a)/\lo<=a/\h.DictOf (strKind prog w) a kvs/\kvs.map (·.1)=l.map (·.1)/\∀ p∈l,∃ v,(p.1,v)∈kvs/\p.2.At h lo v
 | .fn m=>∃ f,mg x=some (.ref f)/\FnAt h lo f m.name m.name m.params m.body m.sc
 | .cls base ms=>∃ a ci,mg x=some (.ref a)/\lo<=a/\ClsAt h lo a ci lim/\ci.nm=x/\ci.qual=x/\BaseAt mg ci base/\methMap x ms lo h ci.m/\∀ k,k ∉ ms.map (·.name)->k ∉ freeNames->ci.m k=none
theorem TupAt.keeps {h h':Heap} {lo l v} (x:TupAt h lo l v) (k:∀ b o,lo<=b->h.get? b=some o->(∀ cd,o.data≠.cls cd)->h'.get? b=some o):TupAt h' lo l v:=by
 refine ea2_4 x fun a vs e la g r=>?_;clear x
 exact ⟨a,vs,e,la,k _ _ la g (by intro cd h;injection h),r⟩
theorem DV.keeps {h h':Heap} {lo v} {x:DV} (y:x.At h lo v) (k:∀ b o,lo<=b->h.get? b=some o->(∀ cd,o.data≠.cls cd)->h'.get? b=some o):x.At h' lo v:=by
 induction x with
 | lit l=>exact y
 | tup l=>exact TupAt.keeps y k
theorem methMap.keeps {qual ms lo} {h h':Heap} {m} (x:methMap qual ms lo h m) (k:∀ b o,lo<=b->h.get? b=some o->(∀ cd,o.data≠.cls cd)->h'.get? b=some o):methMap qual ms lo h' m:=by
 intro y hy
 exact ea1_2 (x y hy) fun f e F=>⟨f,e,F.keeps k⟩
theorem GAt.keeps {prog:Program} {w:World} {h h':Heap} {lo lim lim' mg mg'} {x:Str} {y:GV} (z:GAt prog w h lo lim mg x y) (hx:mg' x=mg x) (hm:∀ b ba,mg b=some (.ref ba)->mg' b=some (.ref ba))
 (k:∀ b o,lo<=b->h.get? b=some o->(∀ cd,o.data≠.cls cd)->h'.get? b=some o) (kc:∀ a ci,lo<=a->ClsAt h lo a ci lim->ClsAt h' lo a ci lim'):GAt prog w h' lo lim' mg' x y:=by
 induction y with
 | lit l=>refine ea1_2 z fun v e r=>?_;clear z;exact ⟨v,hx.trans e,r⟩
 | tup l=>refine ea1_2 z fun v e r=>?_;clear z;exact ⟨v,hx.trans e,r.keeps k⟩
 | dict l=>
  refine ea2_5 z fun a kvs e la D hk r=>?_;clear z
  refine ⟨a,kvs,hx.trans e,la,?_,hk,fun p hp=>let ⟨v,hv,q⟩:=r p hp;⟨v,hv,DV.keeps q k⟩⟩
  refine ea3_4 D fun o es ep e1 e2 e3 r=>?_;clear D
  exact ⟨o,es,ep,k _ _ la e1 (by refine qE e3 ?_;intro cd h;injection h),e2,e3,r⟩
 | fn m=>refine ea1_2 z fun f e r=>?_;clear z;exact ⟨f,hx.trans e,r.keeps k⟩
 | cls base ms=>
  refine ea2_8 z fun a ci e la C e1 e2 B M r=>?_;clear z
  refine ⟨a,ci,hx.trans e,la,kc _ _ la C,e1,e2,?_,M.keeps k,r⟩
  induction base with
  | obj=>exact B
  | exc=>exact B
  | sub b ex=>refine ea1_2 B fun ba hb r=>?_;clear B;exact ⟨ba,hm _ _ hb,r⟩
structure TopSt (prog:Program) (w:World) (s₀:Shared) (mb:Str->Option Value) (c Pl lo:Addr) (done:List (Nat×Nat)) (n:Nat) (exn:Bool) (Gs:List (Str×GV)) (mg:Str->Option Value) (ps:Array Value) (h:Heap):Prop where
 main:h.Main mg c Pl ps
 free:∀ p:Pos,(p.line,p.col) ∉ done->codeAmong p ps.toList=none
 names:∀ x v,mg x=some v->x∈startupNames\/x∈Gs.map (·.1)
 laid:∀ x:Str,x∈("__builtins__":Str)::laidNames->mg x=globalOf s₀.heap x
 nm:∃ nm t,mg "__name__"=some (.str nm t)
 st:StOk h
 st0:exn=false->h.Ns cStatics fun ξ=>none
 keep:∀ b o,s₀.heap.get? b=some o->b≠mainNs->b≠cStatics->h.get? b=some o
 bi:h.Ns builtinsNs mb
 bm:∀ x:Str,x≠"__name__"->mb x=bootBuiltins x
 sys:∃ o,h.get? sysModules=some o
 low:s₀.heap.objs.size<=c/\s₀.heap.objs.size<=Pl
 fix:mainGlobals<s₀.heap.objs.size/\cStatics<s₀.heap.objs.size/\builtinsNs<s₀.heap.objs.size/\sysModules<s₀.heap.objs.size
 los:c<lo/\Pl<lo/\lo<=h.objs.size
 G:∀ p∈Gs,GAt prog w h lo n mg p.1 p.2
variable {prog:Program} {w:World} {s₀:Shared} {mb:Str->Option Value} {c Pl lo:Addr} {done:List (Nat×Nat)} {n:Nat} {exn:Bool} {Gs:List (Str×GV)} {mg:Str->Option Value} {ps:Array Value} {h:Heap}
theorem TopSt.sizeLo (T:TopSt prog w s₀ mb c Pl lo done n exn Gs mg ps h):s₀.heap.objs.size<=lo:=Nat.le_trans T.low.1 (Nat.le_of_lt T.los.1)
theorem TopSt.next (T:TopSt prog w s₀ mb c Pl lo done n exn Gs mg ps h) {h':Heap} {x:Str} {v:Value} {gv:GV} {n':Nat} {exn':Bool} {done':List (Nat×Nat)} {ps':Array Value} {mg':Str->Option Value}
 (hmg:mg'=fun y=>if y=x then some v else mg y) (main:h'.Main mg' c Pl ps') (free:∀ p:Pos,(p.line,p.col) ∉ done'->codeAmong p ps'.toList=none)
 (hx:x ∉ startupNames) (hn:x ∉ Gs.map (·.1)) (st:StOk h') (st0:exn'=false->h'.Ns cStatics fun ξ=>none) (hsz:h.objs.size<=h'.objs.size)
 (keep:∀ b o,b≠Pl->b≠mainGlobals->b≠cStatics->(b<lo\/∀ cd,o.data≠.cls cd)->h.get? b=some o->h'.get? b=some o)
 (kc:∀ a ci,lo<=a->ClsAt h lo a ci n->ClsAt h' lo a ci n') (G':GAt prog w h' lo n' mg' x gv):TopSt prog w s₀ mb c Pl lo done' n' exn' ((x,gv)::Gs) mg' ps' h':=by
 have xne:∀ y:Str,y∈startupNames->y≠x:=fun y hy e=>hx (e▸hy)
 have hx0:mg x=none:=by
  induction hv:mg x with
  | none=>rfl
  | some v=>exact (T.names _ _ hv).elim (fun z=>(hx z).elim) (fun z=>(hn z).elim)
 have up:∀ b v,mg b=some v->mg' b=some v:=fun b v e=>by
  refine qE hmg ?_
  show (if b=x then _ else _)=_
  rw [if_neg (by rintro rfl;replace e:=hx0▸e;injection e)]
  exact e
 have oth:∀ y:Str,y≠x->mg' y=mg y:=fun y hy=>by refine qE hmg ?_;exact if_neg hy
 refine ea0_4 T.fix fun f1 f2 f3 f4=>?_
 have lw:=T.low
 have lo0:=T.sizeLo
 have small:∀ b:Addr,b<s₀.heap.objs.size->b≠Pl:=fun b hb e=>absurd (e▸hb) (Nat.not_lt.mpr lw.2)
 refine ⟨main,free,?_,?_,?_,st,st0,?_,?_,T.bm,?_,T.low,T.fix,⟨T.los.1,T.los.2.1,Nat.le_trans T.los.2.2 hsz⟩,?_⟩
 · intro y v' e
   rcases Classical.em (y=x) with rfl | hy
   · exact .inr (by simp)
   · replace e:=oth y hy▸e
     exact (T.names _ _ e).imp id fun z=>by simp [List.mem_map] at z ⊢;exact .inr z
 · intro y hy
   refine qB (T.laid y hy) (oth y (xne y ?_))
   have:∀ y∈("__builtins__":Str)::laidNames,y∈startupNames:=by decide +kernel
   exact this y hy
 · exact ea2_1 T.nm fun nm t e=>⟨nm,t,up _ _ e⟩
 · intro b o e h1 h2
   exact keep _ _ (small _ (Heap.lt_size e)) h1 h2 (.inl (Nat.lt_of_lt_of_le (Heap.lt_size e) lo0)) (T.keep _ _ e h1 h2)
 · exact T.bi.at fun o e=>keep _ _ (small _ f3) (by decide) (by decide) (.inl (Nat.lt_of_lt_of_le f3 lo0)) e
 · exact ea1_1 T.sys fun o e=>⟨o,keep _ _ (small _ f4) (by decide) (by decide) (.inl (Nat.lt_of_lt_of_le f4 lo0)) e⟩
 · intro p hp
   rcases List.mem_cons.mp hp with rfl | hp
   · exact G'
   · refine (T.G p hp).keeps (oth _ ?_) (fun b ba e=>up b _ e) (fun b o lb e nc=>?_) kc
     · rintro e
       exact hn (List.mem_map.mpr ⟨p,hp,e⟩)
     · have:∀ z:Addr,z<s₀.heap.objs.size->b≠z:=fun z hz e=>absurd (Nat.lt_of_lt_of_le hz lo0) (Nat.not_lt.mpr (e▸lb))
       exact keep _ _ (Nat.ne_of_gt (Nat.lt_of_lt_of_le T.los.2.1 lb)) (this _ f1) (this _ f2) (.inr nc) e
theorem TopSt.renamed (T:TopSt prog w s₀ mb c Pl lo done n exn Gs mg ps h) {h':Heap} {y:Str} {t:Tok} {mg':Str->Option Value}
 (hmg:mg'=fun z:Str=>if z="__name__" then some (.str y t) else mg z) (main:h'.Main mg' c Pl ps) (hn:("__name__":Str) ∉ Gs.map (·.1))
 (S:Heap.SameBut mainGlobals h h'):TopSt prog w s₀ mb c Pl lo done n exn Gs mg' ps h':=by
 have oth:∀ y:Str,y≠"__name__"->mg' y=mg y:=fun y hy=>by refine qE hmg ?_;exact if_neg hy
 have k:∀ b o,b≠mainGlobals->h.get? b=some o->h'.get? b=some o:=fun b o hb e=>(S.2 _ hb).trans e
 have up:∀ b ba,mg b=some (.ref ba)->mg' b=some (.ref ba):=fun b v e=>by
  refine (oth b ?_).trans e
  rintro rfl
  refine ea2_1 T.nm fun nm t e'=>?_
  replace e:=e'▸e;cases e
 refine ea0_4 T.fix fun f1 f2 f3 f4=>?_
 have lo0:=T.sizeLo
 have ne:∀ b:Addr,lo<=b->b≠mainGlobals:=fun b lb e=>absurd (Nat.lt_of_lt_of_le f1 lo0) (Nat.not_lt.mpr (e▸lb))
 refine ⟨main,T.free,?_,?_,⟨y,t,by refine qE hmg ?_;exact if_pos rfl⟩,T.st.keeps fun o e=>k _ _ (by decide) e,fun z=>(T.st0 z).at fun o e=>k _ _ (by decide) e,?_,T.bi.at fun o e=>k _ _ (by decide) e,T.bm,?_,T.low,T.fix,⟨T.los.1,T.los.2.1,Nat.le_trans T.los.2.2 (Nat.le_of_eq S.1.symm)⟩,?_⟩
 · intro z v' e
   rcases Classical.em (z="__name__") with rfl | hy
   · exact .inl (by decide)
   · replace e:=oth z hy▸e
     exact T.names _ _ e
 · intro z hz
   refine qB (T.laid z hz) (oth z ?_)
   rintro rfl
   exact absurd hz (by decide +kernel)
 · intro b o e h1 h2
   exact k _ _ h1 (T.keep _ _ e h1 h2)
 · exact ea1_1 T.sys fun o e=>⟨o,k _ _ (by decide) e⟩
 · intro p hp
   exact (T.G p hp).keeps (oth _ fun e=>hn (List.mem_map.mpr ⟨p,hp,e⟩)) up (fun b o lb e nc=>k _ _ (ne _ lb) e) fun a ci la C=>ea6_5 C.ex fun n sub k0 k2 k3 m' ln e l N f=>⟨n,sub,k0,k2,k3,m',ln,k _ _ (ne _ la) e,l,N.at fun o e=>k _ _ (ne _ ln) e,f⟩
end
section
variable {prog:Program} {w:World} {s₀:Shared} {mb:Str->Option Value} {c Pl lo:Addr} {done:List (Nat×Nat)} {n:Nat} {exn:Bool} {Gs:List (Str×GV)} {mg:Str->Option Value} {ps:Array Value} {h:Heap}
 {A:Around} {E:VP} {F:Addr}
theorem main_store {h1 h':Heap} {x:Str} {v:Value} (m:h1.Main mg c Pl ps) (hg:h'.Ns mainGlobals fun y=>if y=x then some v else mg y) (S:Heap.SameBut mainGlobals h1 h') (hx:x≠"__builtins__"):h'.Main (fun y=>if y=x then some v else mg y) c Pl ps:=by
 exact ea2_6 m.bmod fun bm o hbm hne0 hneG hneP hbo hrest=>⟨hg,m.code.sameBut S (Nat.ne_of_gt m.low.1) (Nat.ne_of_gt m.low.2),m.low,⟨bm,o,by simp only [Ne.symm hx,if_false];exact hbm,hne0,hneG,hneP,(S.2 _ hneG).trans hbo,hrest⟩⟩
theorem main_keeps {h1 h':Heap} (m:h1.Main mg c Pl ps) (k:Kp h1 h'):h'.Main mg c Pl ps:=
 ⟨m.g.keeps k,m.code.keeps k,m.low,m.bmod.keeps k⟩
theorem cls_same {h1 h':Heap} {a ci lim} (C:ClsAt h1 lo a ci lim) (k:∀ b o,lo<=b->h1.get? b=some o->h'.get? b=some o) (la:lo<=a):ClsAt h' lo a ci lim:=by
 exact ea6_5 C.ex fun n sub k0 k2 k3 m' ln e l N f=>⟨n,sub,k0,k2,k3,m',ln,k _ _ la e,l,N.at fun o e=>k _ _ ln e,f⟩
theorem top_store (T:TopSt prog w s₀ mb c Pl lo done n exn Gs mg ps h) {M:Model} {g d t os} {h1:Heap} (k1:Kp h h1) (hsz:h.objs.size<=h1.objs.size)
 (hmod:prog.main.scope.kind=.module) {x:Str} {v:Value} {gv:GV} (hloc:prog.main.scope.names.lookup x=some .local) (hx:x ∉ startupNames) (hn:x ∉ Gs.map (·.1))
 (G':∀ h' mg',(∀ b o,lo<=b->h1.get? b=some o->h'.get? b=some o)->mg' x=some v->GAt prog w h' lo n mg' x gv) {Q:Unit->Shared->Prop}
 (q:∀ h' t' mg',TopSt prog w s₀ mb c Pl lo done n exn ((x,gv)::Gs) mg' ps h'->Q () ⟨h',g,d,t',os⟩):wpAny M A (storeName (mainEnv prog c F) x v) Q E ⟨h1,g,d,t,os⟩:=by
 refine wpAny_storeName_local (env:=mainEnv prog c F) hloc (T.main.g.keeps k1) (fun h' hg' S=>q h' _ (fun y=>if y=x then some v else mg y) ?_) (by show (prog.main.scope.kind==.class||(prog.main.scope.kind==.module&&mainGlobals != mainGlobals))=false;refine qE hmod ?_;rfl)
 have S:Heap.SameBut mainGlobals h1 h':=S
 have lo0:=T.sizeLo
 have ne:∀ b:Addr,lo<=b->b≠mainGlobals:=fun b lb e=>absurd (Nat.lt_of_lt_of_le T.fix.1 lo0) (Nat.not_lt.mpr (e▸lb))
 have k2:∀ b o,lo<=b->h1.get? b=some o->h'.get? b=some o:=fun b o lb e=>(S.2 _ (ne _ lb)).trans e
 refine T.next rfl (main_store (main_keeps T.main k1) hg' S ?_) T.free hx hn (T.st.keeps fun o e=>(S.2 _ (by decide)).trans (k1 _ _ e)) (fun z=>(T.st0 z).at fun o e=>(S.2 _ (by decide)).trans (k1 _ _ e)) (Nat.le_trans hsz (Nat.le_of_eq S.1.symm))
  (fun b o ξ hb ξ ξ e=>(S.2 _ hb).trans (k1 _ _ e)) (fun a ci la C=>cls_same (C.keeps k1) k2 la) (G' _ _ k2 (by simp))
 rintro rfl
 exact hx (by decide +kernel)
theorem top_rename (T:TopSt prog w s₀ mb c Pl lo done n exn Gs mg ps h) {M:Model} {g d t os}
 (hmod:prog.main.scope.kind=.module) {y:Str} {ty:Tok} (hloc:prog.main.scope.names.lookup ("__name__":Str)=some .local) (hn:("__name__":Str) ∉ Gs.map (·.1)) {Q:Unit->Shared->Prop}
 (q:∀ h' t' mg',TopSt prog w s₀ mb c Pl lo done n exn Gs mg' ps h'->Q () ⟨h',g,d,t',os⟩):wpAny M A (storeName (mainEnv prog c F) "__name__" (.str y ty)) Q E ⟨h,g,d,t,os⟩:=by
 refine wpAny_storeName_local (env:=mainEnv prog c F) hloc T.main.g (fun h' hg' S=>q h' _ (fun z:Str=>if z="__name__" then some (.str y ty) else mg z) ?_) (by show (prog.main.scope.kind==.class||(prog.main.scope.kind==.module&&mainGlobals != mainGlobals))=false;refine qE hmod ?_;rfl)
 exact T.renamed rfl (main_store T.main hg' S (by decide +kernel)) hn S
noncomputable def litInt:Option Lit->Option Int
 | some l=>(match l with | .int a=>some a | _=>none)
 | none=>none
theorem litInt.use {o:Option Lit} {i:Int} (h:litInt o=some i):o=some (.int i):=by
 induction o with
 | none=>cases h
 | some l=>cases l <;> cases h;rfl
noncomputable def opI (op:Operator) (x y:Int):Option Lit:=match op with | .Add=>some (.int (x+y)) | .BitOr=>some (.int (Builtin.bitOr x y)) | _=>none
noncomputable def binE (op:Operator) (a b:Option Lit):Option Lit:=match litInt a with
 | none=>none
 | some x=>match litInt b with
  | none=>none
  | some y=>opI op x y
theorem binE_some {op a b l} (e:binE op a b=some l):(∃ x y,op=.Add/\a=some (.int x)/\b=some (.int y)/\l=.int (x+y))\/(∃ x y,op=.BitOr/\a=some (.int x)/\b=some (.int y)/\l=.int (Builtin.bitOr x y)):=by
 unfold binE at e
 induction ha:litInt a with
 | none=>replace e:=ha▸e;cases e
 | some x=>
  induction hb:litInt b with
  | none=>replace e:=hb▸ha▸e;cases e
  | some y=>
   rw [ha,hb] at e
   have e:opI op x y=some l:=e
   cases op <;> first | (cases e;done) | skip
   · cases e;exact .inl ⟨_,_,rfl,litInt.use ha,litInt.use hb,rfl⟩
   · cases e;exact .inr ⟨_,_,rfl,litInt.use ha,litInt.use hb,rfl⟩
noncomputable def constE:Const->Option Lit
 | .int i=>some (.int i)
 | .str x=>some (.str x)
 | _=>none
noncomputable def nameE (gs:List (Str×GV)) (x:Str):Option Lit:=if (x==("__debug__":Str))=true then none else match gs.lookup x with | some (.lit l)=>some l | _=>none
noncomputable def litE (gs:List (Str×GV)):Nat->Expr->Option Lit
 | _,.Constant x _ _=>constE x
 | _,.Name x _=>nameE gs x
 | f+1,.BinOp l op r _=>binE op (litE gs f l) (litE gs f r)
 | _,_=>none
theorem mem_of_lookup {gs:List (Str×GV)} {x:Str} {y:GV} (e:gs.lookup x=some y):(x,y)∈gs:=by
 induction gs with
 | nil=>cases e
 | cons p r ih=>
  obtain ⟨a,b⟩:=p
  rw [List.lookup_cons] at e
  induction hb:x==a with
  | true=>replace e:=hb▸e;cases e;refine qE (eq_of_beq hb) ?_;exact List.mem_cons_self ..
  | false=>replace e:=hb▸e;exact List.mem_cons_of_mem _ (ih e)
abbrev LitsOk (Gs:List (Str×GV)) (mg:Str->Option Value):Prop:=∀ x l,(x,GV.lit l)∈Gs->∃ v,mg x=some v/\l.At v
set_option tactic.hygienic true in
theorem litE_eval (hmod:prog.main.scope.kind=.module) (hg:h.Ns mainGlobals mg) (hG:LitsOk Gs mg) {g d os}:∀ (f:Nat) (e:Expr) (l:Lit) (t:Nat) {Q:VP},litE Gs f e=some l →
 (∀ v t',l.At v->Q v ⟨h,g,d,t',os⟩)->wpAny (model prog w) A (eval e (mainEnv prog c F)) Q E ⟨h,g,d,t,os⟩:=by
 have name:∀ (x:Str) (pos:Pos) (l:Lit) (t:Nat) {Q:VP},nameE Gs x=some l →
  (∀ v t',l.At v->Q v ⟨h,g,d,t',os⟩)->wpAny (model prog w) A (eval (.Name x pos) (mainEnv prog c F)) Q E ⟨h,g,d,t,os⟩:=by
  intro x pos l t Q e q
  unfold nameE at e
  split at e
  · cases e
  · rename_i hd
    split at e
    · rename_i l' hl
      cases e
      exact ea1_2 (hG _ _ (mem_of_lookup hl)) fun v hv hl=>top_name hmod hg hv (Bool.eq_false_iff.mpr hd) (q _ _ hl)
    · cases e
 have cst:∀ (x:Const) (k) (pos:Pos) (l:Lit) (t:Nat) {Q:VP},constE x=some l →
  (∀ v t',l.At v->Q v ⟨h,g,d,t',os⟩)->wpAny (model prog w) A (eval (.Constant x k pos) (mainEnv prog c F)) Q E ⟨h,g,d,t,os⟩:=by
  intro x k pos l t Q e q
  induction x with
  | int i=>cases e;exact wpAny_Constant_int (q _ _ ⟨_,rfl⟩)
  | str i=>cases e;exact wpAny_Constant_str (q _ _ ⟨_,rfl⟩)
  | _=>cases e
 intro f
 induction f with
 | zero=>
  intro e l t Q he q
  cases e
  case Constant x k pos=>exact cst x k pos l t he q
  case Name x pos=>exact name x pos l t he q
  all_goals cases (show (none:Option Lit)=some l from he)
 | succ f ih=>
  intro e l t Q he q
  cases e
  case Constant x k pos=>exact cst x k pos l t he q
  case Name x pos=>exact name x pos l t he q
  case BinOp le op re pos=>
   rcases binE_some he with ⟨a,b,rfl,ha,hb,rfl⟩ | ⟨a,b,rfl,ha,hb,rfl⟩
   · refine wpAny_BinOp (ih le _ t ha fun v1 t1 h1=>ih re _ t1 hb fun v2 t2 h2=>?_)
     refine ea1_1 h1 fun u1 z1=>?_;clear h1;subst z1
     refine ea1_1 h2 fun u2 z1=>?_;clear h2;subst z1
     exact wpAny_add_int (q _ _ ⟨_,rfl⟩)
   · refine wpAny_BinOp (ih le _ t ha fun v1 t1 h1=>ih re _ t1 hb fun v2 t2 h2=>?_)
     refine ea1_1 h1 fun u1 z1=>?_;clear h1;subst z1
     refine ea1_1 h2 fun u2 z1=>?_;clear h2;subst z1
     exact or_int (q _ _ ⟨_,rfl⟩)
  all_goals cases (show (none:Option Lit)=some l from he)
end
section
variable {prog:Program} {w:World} {s₀:Shared} {mb:Str->Option Value} {c Pl lo:Addr} {done:List (Nat×Nat)} {n:Nat} {exn:Bool} {Gs:List (Str×GV)} {mg:Str->Option Value} {ps:Array Value} {h:Heap}
 {A:Around} {E:VP} {F:Addr}
theorem litE_star {Gs:List (Str×GV)} {f e l} (he:litE Gs f e=some l) (rest:List Expr) (env:Env):starEach (e::rest) env=(false,eval e env)::starEach rest env:=by
 cases e <;> first | rfl | (cases f <;> injection he)
noncomputable def litsE (gs:List (Str×GV)):List Expr->Option (List Lit)
 | []=>some []
 | e::r=>match litE gs 9 e,litsE gs r with | some l,some ls=>some (l::ls) | _,_=>none
theorem litsE_cons {gs:List (Str×GV)} {e r l} (x:litsE gs (e::r)=some l):∃ a b,litE gs 9 e=some a/\litsE gs r=some b/\l=a::b:=by
 replace x:(match litE gs 9 e,litsE gs r with | some l,some ls=>some (l::ls) | _,_=>none)=some l:=x
 induction ha:litE gs 9 e with
 | none=>replace x:=ha▸x;injection x
 | some a=>
  induction hb:litsE gs r with
  | none=>replace x:=hb▸ha▸x;injection x
  | some b=>rw [ha,hb] at x;cases x;exact ⟨_,_,rfl,rfl,rfl⟩
theorem lits_eval (hmod:prog.main.scope.kind=.module) (hg:h.Ns mainGlobals mg) (hG:LitsOk Gs mg) {g d os} {pos:Pos}:∀ (es:List Expr) (ls:List Lit) (t:Nat) {Q:List Value->Shared->Prop},litsE Gs es=some ls →
 (∀ vs t',LitsAt ls vs->Q vs ⟨h,g,d,t',os⟩)->wpAny (model prog w) A (spliced (backTo pos (starEach es (mainEnv prog c F)))) Q E ⟨h,g,d,t,os⟩
 | [],ls,t,Q,e,q=>by cases e;exact wpAny_items_nil (q [] _ trivial)
 | e::r,ls,t,Q,x,q=>by
  refine ea2_3 (litsE_cons x) fun a b ha hb z1=>?_;subst z1
  refine wpAny_items_cons (litE_eval hmod hg hG 9 e a t ha fun v t1 hv=>lits_eval hmod hg hG r b t1 hb fun vs t2 hvs=>q _ _ ⟨hv,hvs⟩) (litE_star ha _ _)
theorem LitsAt.len:∀ {ls vs},LitsAt ls vs->vs.length=ls.length
 | [],[],_=>rfl
 | _::_,_::_,h=>congrArg (·+1) (LitsAt.len h.2)
 | [],_::_,h=>h.elim
 | _::_,[],h=>h.elim
theorem tup_eval (hmod:prog.main.scope.kind=.module) (hg:h.Ns mainGlobals mg) (hG:LitsOk Gs mg) {g d os} {pos:Pos} {k:Nat} {es:List Expr} {ls:List Lit} {t:Nat} {Q:VP} (x:litsE Gs es=some ls) (hl:ls.length<=100)
 (q:∀ v h' t',(Kp h h')->h'.objs.size=h.objs.size+1->(∀ lo,lo<=h.objs.size->TupAt h' lo ls v)->Q v ⟨h',g,d,t',os⟩):wpAny (model prog w) A (eval (.Tuple es k pos) (mainEnv prog c F)) Q E ⟨h,g,d,t,os⟩:=by
 refine wpAny_Tuple (lits_eval hmod hg hG es ls t x fun vs t' hv=>⟨?_,?_⟩)
 · refine qE hv.len (qE sizeLine_eq ?_);lia
 · exact q _ _ _ (fun b o e=>Heap.get?_push_of_some _ e) (Heap.size_push ..) fun lo hlo=>⟨_,_,rfl,hlo,Heap.get?_push_size _ rfl,by simpa using hv⟩
noncomputable def lStr:Lit->Option Str
 | .str x=>some x
 | .int _=>none
noncomputable def strsOf:List Lit->Option (List Str)
 | []=>some []
 | e::r=>match lStr e,strsOf r with | some x,some l=>some (x::l) | _,_=>none
theorem strsOf_eq:∀ {ls l},strsOf ls=some l->ls=l.map Lit.str
 | [],_,e=>by cases e;rfl
 | .int _::r,l,e=>by cases (show (none:Option (List Str))=some l from e)
 | .str x::r,l,e=>by
  replace e:(match some x,strsOf r with | some x,some l=>some (x::l) | _,_=>none)=some l:=e
  induction h:strsOf r with
  | none=>rw [h] at e;injection e
  | some l'=>rw [h] at e;cases e;exact qE (strsOf_eq h) rfl
noncomputable def dvE (gs:List (Str×GV)):Expr->Option DV
 | .Tuple es _ _=>match litsE gs es with | some ls=>if ls.length<=100 then match strsOf ls with | some l=>some (.tup l) | none=>none else none | none=>none
 | e=>match litE gs 9 e with | some l=>some (.lit l) | none=>none
set_option tactic.hygienic true in
theorem dv_eval (hmod:prog.main.scope.kind=.module) (hg:h.Ns mainGlobals mg) (hG:LitsOk Gs mg) {g d os} {e:Expr} {x:DV} {t:Nat} {Q:VP} (he:dvE Gs e=some x)
 (q:∀ v h' t',(Kp h h')->h.objs.size<=h'.objs.size->(∀ lo,lo<=h.objs.size->x.At h' lo v)->Q v ⟨h',g,d,t',os⟩):wpAny (model prog w) A (eval e (mainEnv prog c F)) Q E ⟨h,g,d,t,os⟩:=by
 have lit:∀ e,(match litE Gs 9 e with | some l=>some (DV.lit l) | none=>none)=some x->wpAny (model prog w) A (eval e (mainEnv prog c F)) Q E ⟨h,g,d,t,os⟩:=by
  intro e he
  split at he
  · rename_i l hl
    cases he
    exact litE_eval hmod hg hG 9 e l t hl fun v t' hv=>q _ _ _ (fun ξ ξ e=>e) (Nat.le_refl _) fun ξ ξ=>hv
  · injection he
 induction e using Expr.casesOn with
 | Tuple es k pos=>
  replace he:(match litsE Gs es with | some ls=>if ls.length<=100 then match strsOf ls with | some l=>some (DV.tup l) | none=>none else none | none=>none)=some x:=he
  split at he
  · rename_i ls hls
    split at he
    · rename_i hl
      split at he
      · rename_i l hs
        cases he
        refine tup_eval hmod hg hG hls hl fun v h' t' k hz hv=>q _ _ _ k (by lia) fun lo hlo=>?_
        have:=hv lo hlo
        replace this:=strsOf_eq hs▸this
        exact this
      · injection he
    · injection he
  · injection he
 | _=>exact lit _ he
end
section
set_option backward.match.sparseCases false
variable {prog:Program} {w:World} {s₀:Shared} {mb:Str->Option Value} {c Pl lo:Addr} {done:List (Nat×Nat)} {n:Nat} {exn:Bool} {Gs:List (Str×GV)} {mg:Str->Option Value} {ps:Array Value} {h:Heap}
 {A:Around} {E:VP} {F:Addr}
noncomputable def exStr (e:Expr):Option Str:=match e with | .Constant c _ _=>(match c with | .str s=>some s | _=>none) | _=>none
noncomputable def IsStr (e:Expr):Option Str->Prop | some s=>∃ j p,e=.Constant (.str s) j p | none=>True
theorem exStr.spec (e:Expr):IsStr e (exStr e):=by
 induction e using Expr.casesOn with
 | Constant c j p=>induction c with
  | str x=>exact ⟨j,p,rfl⟩
  | _=>exact trivial
 | _=>exact trivial
theorem exStr.use {e:Expr} {s:Str} (h:exStr e=some s):∃ j p,e=.Constant (.str s) j p:=(congrArg (IsStr e) h).mp (exStr.spec e)
noncomputable def kStr (k:Option Expr):Option Str:=match k with | some e=>exStr e | none=>none
noncomputable def dictE (gs:List (Str×GV)):List (Option Expr)->List Expr->Option (List (Str×DV))
 | [],vs=>(match vs with | []=>some [] | _::_=>none)
 | k::ks,vs=>match vs with
  | []=>none
  | v::r=>match kStr k with
   | none=>none
   | some x=>match dvE gs v with
    | none=>none
    | some y=>match dictE gs ks r with
     | none=>none
     | some z=>some ((x,y)::z)
theorem dictE_mk {gs:List (Str×GV)} {k ks v r x y z} (h0:kStr k=some x) (h1:dvE gs v=some y) (h2:dictE gs ks r=some z):dictE gs (k::ks) (v::r)=some ((x,y)::z):=by
 show (match kStr k with | none=>none | some x=>match dvE gs v with | none=>none | some y=>match dictE gs ks r with | none=>none | some z=>some ((x,y)::z))=_
 exact qE h0 (qE h1 (qE h2 rfl))
theorem dictE_cons {gs:List (Str×GV)} {k vs l} {ks:List (Option Expr)} (e:dictE gs (k::ks) vs=some l):∃ x j p v r y z,k=some (.Constant (.str x) j p)/\vs=v::r/\dvE gs v=some y/\dictE gs ks r=some z/\l=(x,y)::z:=by
 induction vs using List.casesOn with
 | nil=>injection e
 | cons v r=>
  have e:(match kStr k with | none=>none | some x=>match dvE gs v with | none=>none | some y=>match dictE gs ks r with | none=>none | some z=>some ((x,y)::z))=some l:=e
  induction h0:kStr k with
  | none=>replace e:=h0▸e;injection e
  | some x=>
   induction h1:dvE gs v with
   | none=>replace e:=h1▸h0▸e;injection e
   | some y=>
    induction h2:dictE gs ks r with
    | none=>rw [h0,h1,h2] at e;injection e
    | some z=>
     rw [h0,h1,h2] at e
     cases e
     induction k with
     | none=>injection h0
     | some k=>refine ea2_1 (exStr.use h0) fun j p z1=>?_;subst z1;exact ⟨x,j,p,v,r,y,z,rfl,rfl,h1,h2,rfl⟩
theorem dictE_nil {gs:List (Str×GV)} {vs l} (e:dictE gs [] vs=some l):vs=[]/\l=[]:=by
 induction vs using List.casesOn with
 | nil=>cases e;exact ⟨rfl,rfl⟩
 | cons v r=>injection e
noncomputable def pairsOf (env:Env) (pos:Pos) (ks:List (Option Expr)) (vs:List Expr):List (Sem Value×Sem Value):=
 (ks.zip vs).map fun p=>(match p.1 with | some k=>eval k env | none=>pure .none,do let x ← eval p.2 env;standAt pos;pure x)
theorem pairs_shape {gs:List (Str×GV)} {env:Env} {pos:Pos}:∀ (ks:List (Option Expr)) (vs:List Expr) l,dictE gs ks vs=some l →
 (evalEachOpt ks env).zip ((evalEach vs env).map fun v=>do let x ← v;standAt pos;pure x)=(pairsOf env pos ks vs).map fun p=>(some p.1,p.2)
 | [],vs,l,e=>by refine ea0_2 (dictE_nil e) fun z1 z2=>?_;subst z1;subst z2;rfl
 | k::ks,vs,l,e=>by
  refine ea6_1 (dictE_cons e) fun x j p v r y y52=>?_;refine ea1_5 y52 fun z z1 z2 h1 h2 z3=>?_;clear y52;subst z1;subst z2;subst z3
  have ih:=pairs_shape (env:=env) (pos:=pos) ks r z h2
  unfold pairsOf at ih ⊢
  exact congrArg (List.cons _) ih
theorem pairsOf_len {gs:List (Str×GV)} {env:Env} {pos:Pos}:∀ (ks:List (Option Expr)) (vs:List Expr) l,dictE gs ks vs=some l->(pairsOf env pos ks vs).length=l.length
 | [],vs,l,e=>by refine ea0_2 (dictE_nil e) fun z1 z2=>?_;subst z1;subst z2;rfl
 | k::ks,vs,l,e=>by
  refine ea6_1 (dictE_cons e) fun x j p v r y y53=>?_;refine ea1_5 y53 fun z z1 z2 h1 h2 z3=>?_;clear y53;subst z1;subst z2;subst z3
  have ih:=pairsOf_len (env:=env) (pos:=pos) ks r z h2
  unfold pairsOf at ih ⊢
  simp only [List.zip_cons_cons,List.map_cons,List.length_cons] at ih ⊢
  exact qE ih rfl
noncomputable def KVs (h:Heap) (lo:Addr):List (Str×DV)->List (Str×Value)->Prop
 | [],[]=>True
 | p::l,kv::kvs=>kv.1=p.1/\p.2.At h lo kv.2/\KVs h lo l kvs
 | _,_=>False
theorem TupAt.mono {lo lo':Addr} {l v} (x:TupAt h lo l v) (hl:lo'<=lo):TupAt h lo' l v:=by refine ea2_3 x fun a vs e la r=>?_;clear x;exact ⟨a,vs,e,Nat.le_trans hl la,r⟩
theorem DV.mono {lo lo':Addr} {x:DV} {v} (y:x.At h lo v) (hl:lo'<=lo):x.At h lo' v:=by induction x with | lit l=>exact y | tup l=>exact TupAt.mono y hl
theorem KVs.mono {lo lo':Addr}:∀ {l kvs},KVs h lo l kvs->lo'<=lo->KVs h lo' l kvs
 | [],[],_,_=>trivial
 | _::_,_::_,x,hl=>⟨x.1,DV.mono x.2.1 hl,KVs.mono x.2.2 hl⟩
 | [],_::_,x,_=>x.elim
 | _::_,[],x,_=>x.elim
theorem KVs.keeps {h':Heap} {lo:Addr}:∀ {l kvs},KVs h lo l kvs->(∀ b o,lo<=b->h.get? b=some o->h'.get? b=some o)->KVs h' lo l kvs
 | [],[],_,_=>trivial
 | _::_,_::_,x,k=>⟨x.1,DV.keeps x.2.1 fun b o lb e ξ=>k b o lb e,KVs.keeps x.2.2 k⟩
 | [],_::_,x,_=>x.elim
 | _::_,[],x,_=>x.elim
theorem KVs.keys {lo:Addr}:∀ {l kvs},KVs h lo l kvs->kvs.map (·.1)=l.map (·.1)
 | [],[],_=>rfl
 | _::_,_::_,x=>by exact qE List.map_cons (qE List.map_cons (qE x.1 (qE (KVs.keys x.2.2) rfl)))
 | [],_::_,x=>x.elim
 | _::_,[],x=>x.elim
theorem KVs.len {lo:Addr} {l kvs} (x:KVs h lo l kvs):kvs.length=l.length:=by have:=congrArg List.length x.keys;simpa using this
theorem KVs.mem {lo:Addr}:∀ {l kvs},KVs h lo l kvs->∀ p∈l,∃ v,(p.1,v)∈kvs/\p.2.At h lo v
 | [],[],_=>fun p hp=>nomatch hp
 | q::_,kv::_,x=>fun p hp=>by
  rcases List.mem_cons.mp hp with rfl | hp
  · exact ⟨kv.2,by refine qB x.1 ?_;exact List.mem_cons_self ..,x.2.1⟩
  · exact ea1_2 (KVs.mem x.2.2 p hp) fun v a b=>⟨v,List.mem_cons_of_mem _ a,b⟩
 | [],_::_,x=>x.elim
 | _::_,[],x=>x.elim
theorem KVs.append {lo:Addr} {l2 kvs2} (y:KVs h lo l2 kvs2):∀ {l kvs},KVs h lo l kvs->KVs h lo (l++l2) (kvs++kvs2)
 | [],[],_=>y
 | _::_,_::_,x=>⟨x.1,x.2.1,KVs.append y x.2.2⟩
 | [],_::_,x=>x.elim
 | _::_,[],x=>x.elim
theorem pairs_eval (hmod:prog.main.scope.kind=.module) (hG:LitsOk Gs mg) {g d os} {pos:Pos}:∀ (ks:List (Option Expr)) (vs:List Expr) l (h:Heap) (t:Nat) {Q:List (Value×Value)->Shared->Prop},dictE Gs ks vs=some l->h.Ns mainGlobals mg →
 (∀ vs' kvs h' t',Carries (strKind prog w) vs' kvs->(Kp h h')->h.objs.size<=h'.objs.size->(∀ lo,lo<=h.objs.size->KVs h' lo l kvs)->Q vs' ⟨h',g,d,t',os⟩) →
 wpAny (model prog w) A (evalPairs (pairsOf (mainEnv prog c F) pos ks vs)) Q E ⟨h,g,d,t,os⟩
 | [],vs,l,h,t,Q,e,hg,q=>by
  refine ea0_2 (dictE_nil e) fun z1 z2=>?_;subst z1;subst z2
  exact evalPairs_nil (q [] [] h t trivial (fun ξ ξ e=>e) (Nat.le_refl _) fun ξ ξ=>trivial)
 | k::ks,vs,l,h,t,Q,e,hg,q=>by
  refine ea6_1 (dictE_cons e) fun x j p v r y y54=>?_;refine ea1_5 y54 fun z z1 z2 h1 h2 z3=>?_;clear y54;subst z1;subst z2;subst z3
  show wpAny (model prog w) A (evalPairs ((eval (.Constant (.str x) j p) (mainEnv prog c F),do let x ← eval v (mainEnv prog c F);standAt pos;pure x)::pairsOf (mainEnv prog c F) pos ks r)) Q E _
  refine evalPairs_cons (wpAny_Constant_str ?_)
  refine wpAny_bind (dv_eval hmod hg hG h1 fun vv h3 t3 k3 z3 a3=>wpAny_bind (wpAny_standAt (wpAny_pure ?_)))
  refine pairs_eval hmod hG ks r z h3 t3 h2 (hg.keeps k3) fun vs' kvs h4 t4 C4 k4 z4 a4=>q _ ((x,vv)::kvs) _ _ ⟨by show Value.isStrOf x (.str x t)=true;simp [Value.isStrOf],rfl,C4⟩ (fun b o e=>k4 _ _ (k3 _ _ e)) (Nat.le_trans z3 z4) fun lo hlo=>⟨rfl,DV.keeps (a3 lo hlo) fun b o ξ e ξ=>k4 _ _ e,a4 lo (Nat.le_trans hlo z3)⟩
theorem dict_eval (hmod:prog.main.scope.kind=.module) (hg:h.Ns mainGlobals mg) (hG:LitsOk Gs mg) {g d os} {pos:Pos} {ks:List (Option Expr)} {vs:List Expr} {l} {t:Nat} {Q:VP} (e:dictE Gs ks vs=some l) (h0:l≠[]) (hl:l.length<=15) (hnd:(l.map (·.1)).Nodup)
 (q:∀ a kvs h' t',(Kp h h')->h.objs.size<=h'.objs.size->h.objs.size<=a->h'.DictOf (strKind prog w) a kvs->(∀ lo,lo<=h.objs.size->KVs h' lo l kvs)->Q (.ref a) ⟨h',g,d,t',os⟩) :
 wpAny (model prog w) A (eval (.Dict ks vs pos) (mainEnv prog c F)) Q E ⟨h,g,d,t,os⟩:=by
 have hln:=pairsOf_len (env:=mainEnv prog c F) (pos:=pos) ks vs l e
 refine wpAny_Dict_pairs (knd:=strKind prog w) (pairs_shape ks vs l e) (by intro x;replace hln:=x▸hln;exact h0 (List.length_eq_zero_iff.mp hln.symm)) (by lia) ?_
 have k0:∀ b o,h.get? b=some o->(h.push { cls:=.type "dict",data:=.dict #[] }).get? b=some o:=fun b o e=>Heap.get?_push_of_some _ e
 refine pairs_eval hmod hG ks vs l _ _ e (hg.keeps k0) fun vs' kvs h' t' C k1 z1 a1=>?_
 have e0:h'.get? h.objs.size=some { cls:=.type "dict",data:=.dict #[] }:=k1 _ _ (Heap.get?_push_size _ rfl)
 have hk:=a1 0 (Nat.zero_le _)
 have hmer:merged [] kvs=kvs:=merged_nil_of_nodup _ (by refine qE hk.keys ?_;exact hnd)
 refine ⟨kvs,C,⟨_,#[],0,e0,⟨rfl,rfl,rfl⟩,rfl,?_,.nil,.nil⟩,fun h2 D S=>q _ kvs h2 _ ?_ ?_ (Nat.le_refl _) (hmer▸D) fun lo hlo=>?_⟩
 · intro e he;simp at he
 · intro b o e
   exact (S.2 _ (Nat.ne_of_lt (Heap.lt_size e))).trans (k1 _ _ (k0 _ _ e))
 · exact Nat.le_trans (Nat.le_of_lt (by rw [Heap.size_push] at z1;exact z1)) (Nat.le_of_eq S.1.symm)
 · refine ((a1 (h.objs.size+1) (Nat.le_of_eq (Heap.size_push ..).symm)).keeps fun b o lb e=>?_).mono (Nat.le_succ_of_le hlo)
   exact (S.2 _ (Nat.ne_of_gt lb)).trans e
end
section
variable {prog:Program} {w:World} {s₀:Shared} {mb:Str->Option Value} {c Pl lo:Addr} {done:List (Nat×Nat)} {n:Nat} {exn:Bool} {Gs:List (Str×GV)} {mg:Str->Option Value} {ps:Array Value} {h:Heap}
 {A:Around} {E:VP} {F:Addr}
theorem stored_new {kvs:List (Str×Value)} {k:Str} {v:Value} (hn:k ∉ kvs.map (·.1)):stored kvs k v=kvs++[(k,v)]:=by
 unfold stored
 rw [if_neg]
 rw [List.any_eq_true]
 intro z1;refine ea1_2 z1 fun x hx he=>?_;clear z1
 exact hn (List.mem_map.mpr ⟨x,hx,of_decide_eq_true he⟩)
theorem put_new {d:Addr} {kvs:List (Str×Value)} {k:Str} {key v:Value} {s:Shared} {Q:Unit->Shared->Prop} (hkey:(PySem.strKind prog w).is k key=true) (hm:s.heap.DictOf (PySem.strKind prog w) d kvs) (hn:k ∉ kvs.map (·.1)) (hl:kvs.length<=1000)
 (hQ:∀ h',h'.DictOf (PySem.strKind prog w) d (kvs++[(k,v)])->Heap.SameBut d s.heap h'->Q () { s with heap:=h' }):wpAny (model prog w) A (dictPut d ((PySem.strKind prog w).hash k) key v) Q E s:=by
 refine ea3_6 hm fun o es ep ho hc hd hk hp hnd=>?_;clear hm
 have hes:es.size<=sizeLine:=by
  have e1:=hp.length
  have e2:es.toList.length=es.size:=by simp
  refine qE sizeLine_eq ?_;lia
 unfold dictPut
 refine wpAny_bind (wpAny_dictFind_of hkey ho hd hk ?_)
 have hidx:(es.findIdx? fun e=>(PySem.strKind prog w).is k e.key)=kvs.findIdx? fun kv=>decide (kv.1=k):=by
  refine qB (hp.findIdx k) ?_;obtain ⟨l⟩:=es;simp
 have hz:(kvs.findIdx? fun kv=>decide (kv.1=k))=none:=by
  rw [List.findIdx?_eq_none_iff]
  intro x hx
  rw [decide_eq_false_iff_not]
  exact fun e=>hn (List.mem_map.mpr ⟨x,hx,e⟩)
 refine qE hidx (qE hz ?_)
 refine wpAny_updateDictKeys (hz:=hes) ho hd (hQ _ ⟨_,_,ep+1,Heap.get?_update_self _ ho (Obj.isFreed_of_dict (Obj.data_mapDictKeys hd _)),
  hc.mapDictKeys _,Obj.data_mapDictKeys hd _,hk.push hkey _,?_,?_⟩ (Heap.SameBut.update ..))
 · have:=hp.append hkey ((PySem.strKind prog w).hash k) v
   obtain ⟨l⟩:=es
   simpa using this
 · rw [List.map_append,List.nodup_append]
   refine ⟨hnd,by simp,?_⟩
   intro a ha b hb
   simp only [List.map_cons,List.map_nil,List.mem_singleton] at hb
   subst hb
   exact fun e=>hn (e▸ha)
theorem merge_new {d o:Addr} {kvs more:List (Str×Value)} {s:Shared} {Q:Unit->Shared->Prop} (hdo:d≠o) (hoS:(o==sysModules)=false)
 (hd:s.heap.DictOf (PySem.strKind prog w) d kvs) (ho:s.heap.DictOf (PySem.strKind prog w) o more) (h0:kvs≠[]) (hn:((kvs++more).map (·.1)).Nodup) (hl:(kvs++more).length<=1000)
 (hQ:∀ h',h'.DictOf (PySem.strKind prog w) d (kvs++more)->Heap.SameBut d s.heap h'->Q () { s with heap:=h' }):wpAny (model prog w) A (mergeMapping d (.ref o) false) Q E s:=by
 revert hdo hoS hd ho h0 hn hl hQ;revert prog w A E d o kvs more s Q;refine no_implicit_lambda% (al10 (n:=⟨(default,w0,a0,default,default,default,default,default,sh0,default)⟩) ?_);generalize et10 _ _=υ;generalize υ.1=prog,υ.2.1=w,υ.2.2.1=A,υ.2.2.2.1=E,υ.2.2.2.2.1=d,υ.2.2.2.2.2.1=o,υ.2.2.2.2.2.2.1=kvs,υ.2.2.2.2.2.2.2.1=more,υ.2.2.2.2.2.2.2.2.1=s,υ.2.2.2.2.2.2.2.2.2=Q;clear υ;intro hdo hoS hd ho h0 hn hl hQ
 refine ea3_6 (id hd) fun od esd epd hod hcd hdd hkd hpd hnd=>?_
 revert hod hcd hdd hkd hpd hnd;revert od esd epd;refine al3 ?_;generalize et3 _ _=υ;generalize υ.1=od,υ.2.1=esd,υ.2.2=epd;clear υ;intro hod hcd hdd hkd hpd hnd
 refine ea3_6 (id ho) fun oo eso epo hoo hco hdo' hko hpo hno=>?_
 revert hoo hco hdo' hko hpo hno;revert oo eso epo;refine al3 ?_;generalize et3 _ _=υ;generalize υ.1=oo,υ.2.1=eso,υ.2.2=epo;clear υ;intro hoo hco hdo' hko hpo hno
 have hT:s.TypeIs (.ref o) "dict":=⟨oo,hoo,hco.1⟩
 unfold mergeMapping
 have hlen:more.length=eso.size:=by refine qB hpo.length ?_;simp
 refine wpAny_bind ?_
 with_reducible refine wpAny_isInstance (U:="dict") (b:=true) hT (by kernel_rfl) ?_
 k_node
 refine wpAny_ite_true rfl (wpAny_bind ?_)
 with_reducible refine wpAny_specialOf (r:=some (.builtin "dict.__iter__")) hT (by rw [typeLookup_type,builtinLookup_eq_fast];kernel_rfl) ?_
 refine wpAny_bind (qE (show (some (Value.builtin "dict.__iter__")==some (Value.builtin "dict.__iter__"))=true by simp) (wpAny_pure ?_))
 k_node
 refine wpAny_ite_false (by refine qE hoS ?_;simp) ?_
 refine wpAny_bind (wpAny_dictEntries hod hdd ?_)
 k_node
 refine wpAny_ite_false (by
  rw [decide_eq_false_iff_not]
  intro hemp
  have h1:esd=#[]:=Array.isEmpty_iff.mp hemp
  have:=hpd.length;replace this:=h1▸this
  exact h0 (List.length_eq_zero_iff.mp (by simpa using this.symm))) ?_
 refine wpAny_bind ?_
 k_node
 refine wpAny_dictEntries hoo hdo' (wpAny_bind ?_)
 k_node
 refine wpAny_dictEpoch hoo hdo' (wpAny_bind ?_)
 k_node
 refine qE List.range_eq_range' ?_
 refine wpAny_forIn_list _
  (fun rest ξ s'=>∃ h' i,s'={ s with heap:=h' }/\rest=List.range' i (eso.size-i)/\i<=eso.size/\h'.DictOf (PySem.strKind prog w) d (kvs++more.take i)/\h'.get? o=some oo/\Heap.SameBut d s.heap h')
  _ ?_ ?_ _ _ ⟨s.heap,0,rfl,by simp,Nat.zero_le _,by simpa using hd,hoo,Heap.SameBut.refl _ _⟩
 · intro x rest b s' z1;refine ea2_6 z1 fun h' i z2 hr hi hd' hoo' hs'=>?_;clear z1;subst z2
   have hlt:i<eso.size:=by
    rcases Nat.lt_or_ge i eso.size with h | h
    · exact h
    · replace hr:=Nat.sub_eq_zero_of_le h▸hr;simp at hr
   obtain ⟨rfl,hrest⟩:x=i/\rest=List.range' (i+1) (eso.size-(i+1)):=by
    have e:eso.size-i=(eso.size-(i+1))+1:=by lia
    replace hr:=List.range'_succ▸e▸hr
    injection hr with h1 h2
    exact ⟨h1,h2⟩
   refine wpAny_bind (wpAny_dictEntries hoo' hdo' ?_)
   refine qE (Array.getElem?_eq_getElem hlt) ?_
   have hx:x<more.length:=by lia
   obtain ⟨kv,hkv⟩:∃ kv,more[x]?=some kv:=⟨more[x]'hx,List.getElem?_eq_getElem _⟩
   obtain ⟨k,v⟩:=kv
   refine ea0_2 (hpo.get? (e:=eso[x]) (by simp [hlt]) hkv) fun hkey hval=>ea1_2 (hko eso[x] (Array.getElem_mem hlt)) fun k' hkey' hhash=>?_
   obtain rfl:k'=k:=(PySem.strKind prog w).inj _ _ _ hkey' hkey
   have hsplit:more=more.take x++(k',v)::more.drop (x+1):=by
    have e1:=List.take_append_drop x more
    replace e1:=List.drop_eq_getElem_cons hx▸e1
    replace hkv:=List.getElem?_eq_getElem hx▸hkv
    replace e1:=Option.some.inj hkv▸e1
    exact e1.symm
   refine wpAny_bind (wpAny_holding ?_)
   k_node
   refine wpAny_ite_false (by simp) ?_
   k_node
   refine qE hhash (qE hval ?_)
   refine put_new hkey hd' ?_ ?_ fun h2 hd2 hs2=>?_
   · rw [hsplit,← List.append_assoc,List.map_append,List.nodup_append] at hn
     intro hm
     exact hn.2.2 _ hm k' (by simp) rfl
   · have:=congrArg List.length hsplit
     rw [List.length_append] at hl ⊢
     refine qE List.length_take ?_;lia
   · have hoo2:h2.get? o=some oo:=(hs2.2 o (Ne.symm hdo)).trans hoo'
     refine wpAny_bind (wpAny_dictEpoch hoo2 hdo' ?_)
     refine qE (if_neg (by simp)) (wpAny_pure ⟨h2,x+1,rfl,hrest,hlt,?_,hoo2,hs'.trans hs2⟩)
     rw [List.take_add_one,hkv,← List.append_assoc]
     exact hd2
 · intro b s' z1;refine ea2_6 z1 fun h' i z2 hr hi hd' hoo' hs'=>?_;clear z1;subst z2
   have hin:i=eso.size:=by
    rcases Nat.lt_or_ge i eso.size with h | h
    · have e:eso.size-i=(eso.size-(i+1))+1:=by lia
      replace hr:=List.range'_succ▸e▸hr;exact nomatch hr
    · exact Nat.le_antisymm hi h
   refine wpAny_pure (hQ h' ?_ hs')
   replace hd':=List.take_length▸hlen.symm▸hin▸hd';exact hd'
end
section
variable {prog:Program} {w:World} {s₀:Shared} {mb:Str->Option Value} {c Pl lo:Addr} {done:List (Nat×Nat)} {n:Nat} {exn:Bool} {Gs:List (Str×GV)} {mg:Str->Option Value} {ps:Array Value} {h:Heap}
 {A:Around} {E:VP} {F:Addr}
theorem DictOf.at {h h':Heap} {d:Addr} {kvs:List (Str×Value)} (x:h.DictOf (PySem.strKind prog w) d kvs) (k:∀ o,h.get? d=some o->h'.get? d=some o):h'.DictOf (PySem.strKind prog w) d kvs:=by
 refine ea3_2 x fun o es ep e r=>?_;clear x
 exact ⟨o,es,ep,k _ e,r⟩
theorem long_loop (hmod:prog.main.scope.kind=.module) (hG:LitsOk Gs mg) {g dd os} {pos:Pos} {d:Addr} (hdg:mainGlobals≠d):∀ (ks:List (Option Expr)) (vs:List Expr) l (acc:List (Str×Value)) (accl:List (Str×DV)) (h:Heap) (t:Nat) {Q:PUnit->Shared->Prop},dictE Gs ks vs=some l->h.Ns mainGlobals mg →
 h.DictOf (PySem.strKind prog w) d acc->KVs h (d+1) accl acc->((accl++l).map (·.1)).Nodup->(accl++l).length<=1000 →
 (∀ kvs h' t',h'.DictOf (PySem.strKind prog w) d kvs->KVs h' (d+1) (accl++l) kvs->(∀ b o,b≠d->h.get? b=some o->h'.get? b=some o)->h.objs.size<=h'.objs.size->Q PUnit.unit ⟨h',g,dd,t',os⟩) →
 wpAny (model prog w) A (forIn (pairsOf (mainEnv prog c F) pos ks vs) PUnit.unit fun (x:Sem Value×Sem Value) (ξ:PUnit)=>(do
  let kv ← x.1
  let vv ← holding [kv] x.2
  holding [kv,vv] (dictSet d kv vv)
  pure (ForInStep.yield PUnit.unit):Sem (ForInStep PUnit))) Q E ⟨h,g,dd,t,os⟩
 | [],vs,l,acc,accl,h,t,Q,e,hg,D,K,hn,hl,q=>by
  refine ea0_2 (dictE_nil e) fun z1 z2=>?_;subst z1;subst z2
  exact wpAny_pure (q acc h t D (by simpa using K) (fun ξ ξ ξ e=>e) (Nat.le_refl _))
 | k::ks,vs,l,acc,accl,h,t,Q,e,hg,D,K,hn,hl,q=>by
  refine ea6_1 (dictE_cons e) fun x j p v r y y23=>?_;refine ea1_5 y23 fun z z1 z2 h1 h2 z3=>?_;clear y23;subst z1;subst z2;subst z3
  show wpAny (model prog w) A (forIn ((eval (.Constant (.str x) j p) (mainEnv prog c F),(do let x ← eval v (mainEnv prog c F);standAt pos;pure x))::pairsOf (mainEnv prog c F) pos ks r) PUnit.unit _) Q E _
  rw [List.forIn_cons]
  dsimp only
  refine wpAny_bind (wpAny_bind (wpAny_Constant_str (wpAny_bind (wpAny_holding (wpAny_bind (dv_eval hmod hg hG h1 fun vv h3 t3 k3 z3 a3=>wpAny_bind (wpAny_standAt (wpAny_pure ?_))))))))
  have dlt:d<h.objs.size:=by refine ea3_2 D fun o es ep e ξ=>?_;clear D;exact Heap.lt_size e
  have D3:=DictOf.at D (h':=h3) fun o e=>k3 _ _ e
  have hnew:x ∉ acc.map (·.1):=by
   refine qE K.keys ?_
   rw [List.map_append,List.nodup_append] at hn
   exact fun hm=>hn.2.2 _ hm x (by simp) rfl
  have hsz:acc.length<=sizeLine:=by have:=K.len;replace hl:=List.length_append▸hl;refine qE sizeLine_eq ?_;lia
  have hkey:∀ t',(PySem.strKind prog w).is x (.str x t')=true:=fun t'=>by show Value.isStrOf x (.str x t')=true;simp [Value.isStrOf]
  refine wpAny_bind (wpAny_holding (wpAny_dictSet_pairs (knd:=PySem.strKind prog w) (k:=x) (kvs:=acc) (hsz:=hsz) (hkey _) D3 fun h4 D4 S4=>wpAny_pure ?_))
  · replace D4:=stored_new hnew▸D4
    have k4:∀ b o,b≠d->h.get? b=some o->h4.get? b=some o:=fun b o hb e=>(S4.2 _ hb).trans (k3 _ _ e)
    have K4:KVs h4 (d+1) (accl++[(x,y)]) (acc++[(x,vv)]):=by
     have one:KVs h4 (d+1) [(x,y)] [(x,vv)]:=⟨rfl,(DV.keeps (a3 (d+1) dlt) fun b o lb e ξ=>(S4.2 _ (Nat.ne_of_gt lb)).trans e),trivial⟩
     exact KVs.append one (K.keeps fun b o lb e=>k4 _ _ (Nat.ne_of_gt lb) e)
    exact long_loop hmod hG hdg ks r z (acc++[(x,vv)]) (accl++[(x,y)]) h4 _ h2 (hg.at fun o e=>k4 _ _ hdg e) D4 K4 (by simpa using hn) (by simpa using hl) fun kvs h5 t5 D5 K5 k5 z5=>q kvs h5 t5 D5 (by simpa using K5) (fun b o hb e=>k5 _ _ hb (k4 _ _ hb e)) (Nat.le_trans z3 (Nat.le_trans (Nat.le_of_eq S4.1.symm) z5))
theorem sub_long (hmod:prog.main.scope.kind=.module) (hg:h.Ns mainGlobals mg) (hG:LitsOk Gs mg) {g dd os} {pos:Pos} {ks:List (Option Expr)} {vs:List Expr} {l} {t:Nat} {Q:Addr->Shared->Prop} (e:dictE Gs ks vs=some l) (hl:15<l.length) (hl2:l.length<=1000) (hnd:(l.map (·.1)).Nodup)
 (q:∀ kvs h' t',(Kp h h')->h.objs.size<h'.objs.size->h'.DictOf (PySem.strKind prog w) h.objs.size kvs->KVs h' (h.objs.size+1) l kvs->Q h.objs.size ⟨h',g,dd,t',os⟩) :
 wpAny (model prog w) A (subDict (pairsOf (mainEnv prog c F) pos ks vs)) Q E ⟨h,g,dd,t,os⟩:=by
 unfold subDict
 refine wpAny_bind (wpAny_alloc ?_)
 refine wpAny_bind (wpAny_holding ?_)
 have hln:=pairsOf_len (env:=mainEnv prog c F) (pos:=pos) ks vs l e
 refine qE (if_neg (by lia)) (wpAny_bind (wpAny_rule ?_))
 have k0:∀ b o,h.get? b=some o->(h.push { cls:=.type "dict",data:=.dict #[] }).get? b=some o:=fun b o e=>Heap.get?_push_of_some _ e
 refine wpAny_bind (long_loop hmod hG (d:=h.objs.size) (Nat.ne_of_lt hg.lt) ks vs l [] [] _ _ e (hg.keeps k0) ⟨_,#[],0,Heap.get?_push_size _ rfl,⟨rfl,rfl,rfl⟩,rfl,(by intro e he;simp at he),.nil,.nil⟩ trivial hnd hl2
  fun kvs h' t' D K k z=>wpAny_pure (wpAny_pure (q kvs h' t' (fun b o e=>k _ _ (Nat.ne_of_lt (Heap.lt_size e)) (k0 _ _ e)) ?_ D K)))
 rw [Heap.size_push] at z;exact z
theorem pairs_split (env:Env) (pos:Pos) (ks:List (Option Expr)) (vs:List Expr):pairsOf env pos ks vs=pairsOf env pos (ks.take 17) (vs.take 17)++pairsOf env pos (ks.drop 17) (vs.drop 17):=by
 unfold pairsOf
 refine qB List.map_append ?_
 congr 1
 conv=>lhs;rw [← List.take_append_drop 17 (ks.zip vs)]
 unfold List.zip
 rw [List.take_zipWith,List.drop_zipWith]
theorem gather (f:(Option (Sem Value)×Sem Value)->(Option Addr×List (Sem Value×Sem Value))->Sem (ForInStep (Option Addr×List (Sem Value×Sem Value)))) {M:Model} {s:Shared}
 (hf:∀ (m:Option Addr) (p:Sem Value×Sem Value) (run:List (Sem Value×Sem Value)),run.length+1<17->f (some p.1,p.2) (m,run)=pure (.yield (m,run++[p]))) (m:Option Addr) (tail:List (Option (Sem Value)×Sem Value)) {Q:_->Shared->Prop} :
 ∀ (items run:List (Sem Value×Sem Value)),run.length+items.length<17->wpAny M A (forIn tail (m,run++items) f) Q E s->wpAny M A (forIn (items.map (fun p=>(some p.1,p.2))++tail) (m,run) f) Q E s
 | [],run,_,q=>by simpa using q
 | p::rest,run,h,q=>by
  rw [List.map_cons,List.cons_append,List.forIn_cons,hf m p run (by simp at h;lia),pure_bind]
  exact gather f hf m tail rest (run++[p]) (by simp at h ⊢;lia) (by simpa using q)
theorem display_long {M:Model} {s:Shared} {Q:VP} (p16:List (Sem Value×Sem Value)) (p:Sem Value×Sem Value) (rest:List (Sem Value×Sem Value)) (h16:p16.length=16) (hr:rest.length<17) (h0:rest≠[])
 (q:wpAny M A (subDict (p16++[p])) (fun d s1=>wpAny M A (subDict rest) (fun sub s2=>wpAny M A (mergeMapping d (.ref sub) false) (fun ξ s3=>Q (.ref d) s3) (fun ξ ξ=>False) s2) E s1) E s) :
 wpAny M A (dictDisplay ((p16++[p]++rest).map fun p=>(some p.1,p.2))) Q E s:=by
 unfold dictDisplay
 dsimp only
 rw [List.append_assoc,List.map_append]
 refine wpAny_bind ?_
 refine gather (s:=s) _ (fun m p run h=>by
  have hne:((run++[(p.1,p.2)]).length==17)=false:=by simp;lia
  simp only [hne,Bool.false_eq_true,if_false]) none _ p16 [] (by simp [h16]) ?_
 rw [List.singleton_append,List.map_cons,List.forIn_cons]
 refine wpAny_bind ?_
 k_node
 refine wpAny_ite_true (by simp [h16]) (wpAny_bind (wpAny_ite_false (by simp) (wpAny_bind ?_)))
 k_node
 refine wpAny_mono q (fun d s1 z=>?_) (fun ξ ξ z=>z)
 refine wpAny_pure <| wpAny_pure ?_
 k_node
 refine qB (List.append_nil (List.map _ rest)) ?_
 refine gather (s:=s1) _ (fun m p run h=>by
  have hne:((run++[(p.1,p.2)]).length==17)=false:=by simp;lia
  simp only [hne,Bool.false_eq_true,if_false]) (some d) [] rest [] (by simpa using hr) ?_
 refine qE List.forIn_nil (wpAny_pure (wpAny_bind (wpAny_ite_false (by simp [h0]) (wpAny_bind (wpAny_holding (wpAny_mono z (fun sub s2 z2=>?_) (fun ξ ξ z=>z)))))))
 refine wpAny_bind <| wpAny_onRaise <| wpAny_holding (wpAny_mono z2 (fun ξ s3 z3=>?_) (fun ξ ξ z=>z.elim))
 exact wpAny_pure <| wpAny_pure z3
theorem dict_eval_long (hmod:prog.main.scope.kind=.module) (hg:h.Ns mainGlobals mg) (hG:LitsOk Gs mg) (hsys:∃ o,h.get? sysModules=some o) {g d os} {pos:Pos} {ks:List (Option Expr)} {vs:List Expr} {l l1 l2} {t:Nat} {Q:VP} (e:dictE Gs ks vs=some l)
 (e1:dictE Gs (ks.take 17) (vs.take 17)=some l1) (e2:dictE Gs (ks.drop 17) (vs.drop 17)=some l2) (hl:l1++l2=l) (hl1:l1.length=17) (hl2:l2.length<=15) (h0:l2≠[]) (hnd:(l.map (·.1)).Nodup)
 (q:∀ a kvs h' t',(Kp h h')->h.objs.size<=h'.objs.size->h.objs.size<=a->h'.DictOf (PySem.strKind prog w) a kvs->(∀ lo,lo<=h.objs.size->KVs h' lo l kvs)->Q (.ref a) ⟨h',g,d,t',os⟩) :
 wpAny (model prog w) A (eval (.Dict ks vs pos) (mainEnv prog c F)) Q E ⟨h,g,d,t,os⟩:=by
 subst hl
 rw [arm_eval_Dict,pairs_shape ks vs _ e,pairs_split]
 have n1:=pairsOf_len (env:=mainEnv prog c F) (pos:=pos) _ _ _ e1
 have n2:=pairsOf_len (env:=mainEnv prog c F) (pos:=pos) _ _ _ e2
 revert n1;refine gnE (pairsOf (mainEnv prog c F) pos (ks.take 17) (vs.take 17)) fun P1 hP n1=>?_
 revert n2;refine gnE (pairsOf (mainEnv prog c F) pos (ks.drop 17) (vs.drop 17)) fun P2 hP2 n2=>?_
 rw [List.map_append,List.nodup_append] at hnd
 have hne:P1≠[]:=by intro x;replace n1:=x▸n1;simp at n1;lia
 have hsp:P1=P1.dropLast++[P1.getLast hne]:=(List.dropLast_concat_getLast hne).symm
 refine wpAny_bind (wpAny_standAt ?_)
 refine qE hsp (display_long _ _ _ (by refine qE List.length_dropLast ?_;lia) (by lia) (by intro x;replace n2:=x▸n2;exact h0 (List.length_eq_zero_iff.mp n2.symm)) ?_)
 refine qB hsp (qB hP ?_)
 refine sub_long hmod hg hG e1 (by lia) (by lia) hnd.1 fun kvs1 h1 t1 k1 z1 D1 K1=>qB hP2 (wpAny_subDict (knd:=PySem.strKind prog w) (by refine qE hP2 ?_;lia) ?_)
 have k0:∀ b o,h1.get? b=some o->(h1.push { cls:=.type "dict",data:=.dict #[] }).get? b=some o:=fun b o e=>Heap.get?_push_of_some _ e
 refine pairs_eval hmod hG _ _ l2 _ _ e2 ((hg.keeps k1).keeps k0) fun vs' kvs h2 t2 C k2 z2 a2=>?_
 have k02:Kp h1 h2:=fun b o e=>k2 _ _ (k0 _ _ e)
 have e0:h2.get? h1.objs.size=some { cls:=.type "dict",data:=.dict #[] }:=k2 _ _ (Heap.get?_push_size _ rfl)
 have hk:=a2 0 (Nat.zero_le _)
 have hmer:merged [] kvs=kvs:=merged_nil_of_nodup _ (by refine qE hk.keys ?_;exact hnd.2.1)
 refine ⟨kvs,C,⟨_,#[],0,e0,⟨rfl,rfl,rfl⟩,rfl,(by intro e he;simp at he),.nil,.nil⟩,fun h3 D3 S3=>?_⟩
 replace D3:=hmer▸D3
 have k3:Kp h1 h3:=fun b o e=>(S3.2 _ (Nat.ne_of_lt (Heap.lt_size e))).trans (k02 _ _ e)
 have K2:KVs h3 (h1.objs.size+1) l2 kvs:=(a2 (h1.objs.size+1) (Nat.le_of_eq (Heap.size_push ..).symm)).keeps fun b o lb e=>(S3.2 _ (Nat.ne_of_gt lb)).trans e
 have K1':KVs h3 (h.objs.size+1) l1 kvs1:=K1.keeps fun b o lb e=>k3 _ _ e
 have ne0:kvs1≠[]:=by intro x;have:=K1.len;replace this:=x▸this;simp at this;lia
 have keysEq:(kvs1++kvs).map (·.1)=(l1++l2).map (·.1):=by exact qE List.map_append (qE List.map_append (qE K1.keys (qE hk.keys rfl)))
 refine merge_new (Nat.ne_of_lt z1) ?_ (DictOf.at D1 fun o e=>k3 _ _ e) D3 ne0 (by rw [keysEq,List.map_append,List.nodup_append];exact hnd) (by have:=K1.len;have:=hk.len;refine qE List.length_append ?_;lia) fun h4 D4 S4=>?_
 · rw [beq_eq_false_iff_ne]
   rintro x
   refine ea1_1 hsys fun o e=>?_;clear hsys
   have:=Heap.lt_size (k1 _ _ e)
   replace this:=x.symm▸this
   exact Nat.lt_irrefl _ this
 · refine q _ (kvs1++kvs) h4 _ (fun b o e=>(S4.2 _ (Nat.ne_of_lt (Heap.lt_size e))).trans (k3 _ _ (k1 _ _ e))) ?_ (Nat.le_refl _) D4 fun lo hlo=>?_
   · have hz:h2.objs.size=h3.objs.size:=S3.1.symm
     have hz4:h3.objs.size=h4.objs.size:=S4.1.symm
     have z2':h1.objs.size+1<=h2.objs.size:=by have:=z2;rw [Heap.size_push] at this;exact this
     have z1':h.objs.size<h1.objs.size:=z1
     exact Nat.le_trans (Nat.le_of_lt z1') (Nat.le_trans (Nat.le_of_succ_le z2') (Nat.le_of_eq (hz.trans hz4)))
   · refine KVs.append ((K2.keeps fun b o lb e=>(S4.2 _ ?_).trans e).mono ?_) ((K1'.keeps fun b o lb e=>(S4.2 _ (Nat.ne_of_gt lb)).trans e).mono (Nat.le_succ_of_le hlo))
     · exact Nat.ne_of_gt (Nat.lt_of_lt_of_le z1 (Nat.le_of_lt lb))
     · exact Nat.le_trans hlo (Nat.le_trans (Nat.le_of_lt z1) (Nat.le_succ _))
end
section
set_option backward.match.sparseCases false
variable {prog:Program} {w:World} {s₀:Shared} {mb:Str->Option Value} {c Pl lo:Addr} {done:List (Nat×Nat)} {n:Nat} {exn:Bool} {Gs:List (Str×GV)} {mg:Str->Option Value} {ps:Array Value} {h:Heap}
 {A:Around} {E:VP} {F:Addr}
theorem empty_app (x:Str):(("":String):Str)++x=x:=by
 obtain ⟨cps⟩:=x
 show (⟨(Str.ofString "").cps++cps⟩:Str)=⟨cps⟩
 congr 1
 refine qE (show (Str.ofString "").cps=#[] from by rw [Str.ofString_eq_toList];rfl) ?_
 simp
theorem main_qual {name:Str} (hloc:prog.main.scope.names.lookup name=some .local):qualnameIn (mainEnv prog c F) name name=name:=by
 unfold qualnameIn
 rw [if_neg (by show ¬ ((prog.main.scope.names.lookup name==some .globalExplicit)=true);refine qE hloc ?_;decide)]
 exact empty_app name
noncomputable def okParams (p:Arguments):Bool:=p.posonlyargs.isEmpty&&p.vararg.isNone&&p.kwonlyargs.isEmpty&&p.kw_defaults.isEmpty&&p.kwarg.isNone&&p.defaults.all Expr.isPlainConst&&p.args.all (·.annotation.isNone)
theorem anns_nil (env:Env):∀ l:List Arg,l.all (·.annotation.isNone)=true->annotationsOf l env=[]
 | [],_=>rfl
 | ⟨nm,none,p⟩::r,x=>by
  rw [List.all_cons,Bool.and_eq_true] at x
  exact anns_nil env r x.2
 | ⟨nm,some a,p⟩::r,x=>by simp at x
theorem okParams.use {p:Arguments} (x:okParams p=true):p.kwonlyargs=[]/\p.kw_defaults=[]/\(∀ e∈p.defaults,e.isPlainConst=true)/\∀ env,annTrees p none env=[]:=by
 obtain ⟨po,a,va,ko,kd,kwa,d⟩:=p
 simp only [okParams,Bool.and_eq_true,List.isEmpty_iff,Option.isNone_iff_eq_none] at x
 refine ea0_2 x fun z1 ha=>?_;clear x;refine ea0_2 z1 fun z2 hd=>?_;clear z1;refine ea0_2 z2 fun z3 z10=>?_;clear z2;refine ea0_2 z3 fun z4 z9=>?_;clear z3;refine ea0_2 z4 fun z5 z8=>?_;clear z4;refine ea0_2 z5 fun z6 z7=>?_;clear z5;subst z6;subst z7;subst z8;subst z9;subst z10
 refine ⟨rfl,rfl,fun e he=>List.all_eq_true.mp hd e he,fun env=>?_⟩
 show annotationsOf (a++[]++[]++[]++[]) env++[]=[]
 simp only [List.append_nil]
 exact anns_nil env a ha
noncomputable def noFree (sc:Scope):Bool:=sc.names.all fun x=>x.2 != .free
theorem noFree.use {sc:Scope} (x:noFree sc=true):∀ y∈sc.names,y.2≠.free:=fun y hy=>by
 have:=List.all_eq_true.mp x y hy
 simpa using this
noncomputable def methOf:Stmt->Option Meth
 | .FunctionDef name params body ds rt tps sc doc bind pos=>match ds.isEmpty&&rt.isNone&&tps.isEmpty&&doc.isNone&&(bind==name) with | true=>some ⟨name,params,body,sc,pos⟩ | false=>none
 | _=>none
noncomputable def IsMeth (s:Stmt):Option Meth->Prop | some m=>s=m.stmt | none=>True
theorem methOf.spec (s:Stmt):IsMeth s (methOf s):=by
 induction s using Stmt.casesOn with
 | FunctionDef name params body ds rt tps sc doc bind pos=>
  show IsMeth _ (match ds.isEmpty&&rt.isNone&&tps.isEmpty&&doc.isNone&&(bind==name) with | true=>some (⟨name,params,body,sc,pos⟩:Meth) | false=>none)
  induction hc:ds.isEmpty&&rt.isNone&&tps.isEmpty&&doc.isNone&&(bind==name) with
  | false=>exact trivial
  | true=>
   simp only [Bool.and_eq_true,List.isEmpty_iff,Option.isNone_iff_eq_none,beq_iff_eq] at hc
   refine ea0_2 hc fun z1 z8=>?_;clear hc;refine ea0_2 z1 fun z2 z7=>?_;clear z1;refine ea0_2 z2 fun z3 z6=>?_;clear z2;refine ea0_2 z3 fun z4 z5=>?_;clear z3;subst z4;subst z5;subst z6;subst z7;subst z8
   exact rfl
 | _=>exact trivial
theorem methOf.use {s:Stmt} {m:Meth} (x:methOf s=some m):s=m.stmt:=(congrArg (IsMeth s) x).mp (methOf.spec s)
theorem top_def (T:TopSt prog w s₀ mb c Pl lo done n exn Gs mg ps h) {g d t os} (hmod:prog.main.scope.kind=.module) {m:Meth} (hp:okParams m.params=true) (hf:noFree m.sc=true) (hloc:prog.main.scope.names.lookup m.name=some .local)
 (hx:m.name ∉ startupNames) (hn:m.name ∉ Gs.map (·.1)) (hpos:(m.pos.line,m.pos.col) ∉ done) {Q:Flow->Shared->Prop}
 (q:∀ h' t' mg' ps',TopSt prog w s₀ mb c Pl lo ((m.pos.line,m.pos.col)::done) n exn ((m.name,.fn m)::Gs) mg' ps' h'->Q .next ⟨h',g,d,t',os⟩):wpAny (model prog w) A (exec m.stmt (mainEnv prog c F)) Q E ⟨h,g,d,t,os⟩:=by
 refine ea0_4 (okParams.use hp) fun h1 h2 h3 h4=>?_
 have hnb:m.name≠"__builtins__":=by rintro e;replace hx:=e▸hx;exact hx (by decide +kernel)
 have hlo:=T.los.2.2
 refine wpAny_defStmt0N h1 h2 h3 (h4 _) (noFree.use hf) hloc (main_qual (F:=F) (c:=c) hloc) T.main (fun a c' doc dV vs h' tk la M' ea cv D R C k=>q _ _ (fun x=>if x=m.name then some (.ref a) else mg x) (ps++#[rawInt m.pos.line,rawInt m.pos.col,.ref c']) ?_) hnb hmod (T.free _ hpos)
 refine ea1_3 C fun P' lP hC hT=>?_;clear C
 have small:∀ b:Addr,b<s₀.heap.objs.size->b≠Pl:=fun b hb e=>absurd (e▸hb) (Nat.not_lt.mpr T.low.2)
 have kS:∀ o,h.get? cStatics=some o->h'.get? cStatics=some o:=fun o e=>k _ _ (small _ T.fix.2.1) (by decide) e
 have lo0:=T.sizeLo
 have kl:∀ b o,lo<=b->h.get? b=some o->h'.get? b=some o:=fun b o lb e=>k _ _ (Nat.ne_of_gt (Nat.lt_of_lt_of_le T.los.2.1 lb)) (fun e=>absurd (Nat.lt_of_lt_of_le T.fix.1 lo0) (Nat.not_lt.mpr (e▸lb))) e
 refine T.next rfl M' ?_ hx hn (T.st.keeps kS) (fun z=>(T.st0 z).at kS) (Nat.le_trans la (Nat.le_of_lt (Heap.lt_size ea))) (fun b o hb1 hb2 ξ ξ e=>k _ _ hb1 hb2 e) (fun a ci la C=>cls_same C kl la) ⟨a,if_pos rfl,⟨Nat.le_trans hlo la,dV,vs,_,c',doc,P',Nat.le_trans hlo R.1,Nat.le_trans hlo lP,ea,cv,?_,R.2,hC,hT⟩⟩
 · intro p hp
   rw [List.mem_cons,not_or] at hp
   exact qE (show (ps++#[rawInt m.pos.line,rawInt m.pos.col,Value.ref c']).toList=ps.toList++[rawInt m.pos.line,rawInt m.pos.col,.ref c'] by simp) (codeAmong_snoc_ne _ (isCode_triples T.main.code) (T.free p hp.2) (fun e=>hp.1 e.symm))
 · rcases D with d | ⟨hne,t,e1,lT,e2⟩
   · exact .inl d
   · exact .inr ⟨hne,t,e1,Nat.le_trans hlo lT,e2⟩
end
section
variable {prog:Program} {w:World} {s₀:Shared} {mb:Str->Option Value} {c Pl lo:Addr} {done:List (Nat×Nat)} {n:Nat} {exn:Bool} {Gs:List (Str×GV)} {mg:Str->Option Value} {ps:Array Value} {h:Heap}
 {A:Around} {E:VP} {F:Addr}
theorem FnAt.mono {lo lo' f name qual params body sc} (x:FnAt h lo f name qual params body sc) (l:lo'<=lo):FnAt h lo' f name qual params body sc:=by
 refine ea0_2 x.ex fun lf z1=>?_;refine ea6_1 z1 fun dV vs pm code doc P' y41=>?_;refine ea0_6 y41 fun lc lP e cv D r=>?_;clear y41;clear z1
 refine ⟨Nat.le_trans l lf,dV,vs,pm,code,doc,P',Nat.le_trans l lc,Nat.le_trans l lP,e,cv,?_,r⟩
 rcases D with d | ⟨hne,t,e1,lT,e2⟩
 · exact .inl d
 · exact .inr ⟨hne,t,e1,Nat.le_trans l lT,e2⟩
theorem ClsAt.mono {lo a ci l l'} (x:ClsAt h lo a ci l) (hl:l<=l'):ClsAt h lo a ci l':=by
 exact ea6_4 x.ex fun n sub k0 k2 k3 m' ln e z r=>⟨n,sub,k0,k2,k3,m',ln,e,Nat.le_trans z hl,r⟩
theorem hasAnns_meths:∀ ms:List Meth,hasAnns (ms.map Meth.stmt)=false
 | []=>rfl
 | m::ms=>by
  show (hasAnn m.stmt||hasAnns (ms.map Meth.stmt))=false
  refine qE (hasAnns_meths ms) ?_;rfl
theorem docOf_meths:∀ ms:List Meth,docOf (ms.map Meth.stmt)=none
 | []=>rfl
 | m::ms=>rfl
noncomputable abbrev ownNames:List Str:=["__slots__","__new__","__init_subclass__","__class_getitem__","__classcell__","__classdictcell__","__del__","__dict__","__weakref__","__eq__","__doc__"]
noncomputable def methOk (scope:Scope) (m:Meth):Bool:=okParams m.params&&noFree m.sc&&(scope.names.lookup m.name==some .local)
theorem methOk.use {scope:Scope} {m:Meth} (x:methOk scope m=true):m.Ok scope:=by
 simp only [methOk,Bool.and_eq_true,beq_iff_eq] at x
 exact ea0_4 (okParams.use x.1.1) fun h1 h2 h3 h4=>⟨h1,h2,h3,h4,noFree.use x.1.2,x.2⟩
set_option genInjectivity false in
structure CDesc where
 name:Str
 ms:List Meth
 scope:Scope
 statics:List Str
 pos:Pos
deriving Inhabited
noncomputable def CDesc.ok (C:CDesc):Bool:=
 C.scope.kind==.class&&C.scope.names.all (fun x=>x.2==.local)&&(["__name__","__module__","__qualname__","__firstlineno__","__static_attributes__"]:List Str).all (fun x=>C.scope.names.lookup x==none)&&decide (C.statics.length<=100) &&
  C.ms.all (methOk C.scope)&&decide ((C.ms.map (·.name)).Nodup)&&decide ((C.ms.map fun x=>(x.pos.line,x.pos.col)).Nodup)&&!(C.name.cps.any fun c=>0xD800<=c&&c<=0xDFFF)&&!C.name.cps.contains 0 &&
  C.ms.all (fun m=>(ownNames++freeNames).all fun y=>m.name != y)&&decide (C.ms.length<=900)
theorem lookup_mem {l:List (Str×NameKind)} {x:Str} {k:NameKind} (e:l.lookup x=some k):(x,k)∈l:=by
 induction l with
 | nil=>injection e
 | cons p r ih=>
  obtain ⟨a,b⟩:=p
  rw [List.lookup_cons] at e
  induction hb:x==a with
  | true=>replace e:=hb▸e;cases e;refine qE (eq_of_beq hb) ?_;exact List.mem_cons_self ..
  | false=>replace e:=hb▸e;exact List.mem_cons_of_mem _ (ih e)
theorem top_class (T:TopSt prog w s₀ mb c Pl lo done n exn Gs mg ps h) {d t os} (hA:A.depth<recursionLimit) (hmod:prog.main.scope.kind=.module) {C:CDesc} (hC:C.ok=true) (hloc:prog.main.scope.names.lookup C.name=some .local)
 (hx:C.name ∉ startupNames) (hn:C.name ∉ Gs.map (·.1)) (hpos:(C.pos.line,C.pos.col) ∉ done)
 {bs:List Expr} {gv:List Value} {b:Value} {base:BaseD} {exn':Bool} (hgv:gv=[]/\b=.type "object"\/gv=[b]) (hbT:Looks (model prog w) h (isType b) true) (hbt:Looks (model prog w) h (typeOf b) (.type "type"))
 (hargs:∀ {E'} {Q':Args->Shared->Prop},Q' ⟨gv,[]⟩ ⟨h,#[],d,t,os⟩->wpAny (model prog w) A (evalArgs (.builtin "__build_class__") false (backTo C.pos (starEach bs (mainEnv prog c F))) (backToKw C.pos (keywordEach [] (mainEnv prog c F)))) Q' E' ⟨h,#[],d,t,os⟩)
 {bm:List Value} {mk:String} {gd gw:Bool} {wr:Addr} {Bs:Heap->Heap->Prop} (hNew:∀ h',(∀ b o,b≠Pl->h.get? b=some o->h'.get? b=some o)->NewOk prog w h' b bm mk gd gw wr (Bs h'))
 (hwr:∀ b o,b≠cStatics->(b<lo\/∀ cd,o.data≠.cls cd)->h.get? b=some o->b≠wr) (hwo:∃ o,h.get? wr=some o)
 (hkc:∀ h1 h2,(∀ b o,b≠Pl->h.get? b=some o->h1.get? b=some o)->(∀ b o,b≠Pl->b≠wr->h.get? b=some o->h2.get? b=some o)->Bs h1 h2->(∀ a ci,lo<=a->ClsAt h lo a ci n->ClsAt h2 lo a ci (n+1))/\(exn'=false->h2.Ns cStatics fun ξ=>none))
 (hB:∀ mg' m,(∀ y:Str,y≠C.name->mg' y=mg y)->BaseAt mg' ⟨C.name,C.name,[b],bm,mk,m⟩ base) (hmb:mb "__build_class__"=some (.builtin "__build_class__"))
 {Q:Flow->Shared->Prop}
 (q:∀ h' t' mg' ps',TopSt prog w s₀ mb c Pl lo ((C.pos.line,C.pos.col)::done) (n+1) exn' ((C.name,.cls base C.ms)::Gs) mg' ps' h'->Q .next ⟨h',#[],d,t',os⟩) :
 wpAny (model prog w) A (exec (.ClassDef C.name bs [] (C.ms.map Meth.stmt) [] [] C.scope none C.name C.statics C.pos) (mainEnv prog c F)) Q E ⟨h,#[],d,t,os⟩:=by
 revert T hA hmod hC hloc hx hn hpos hgv hbT hbt hargs gw wr Bs hNew hwr hwo hkc hB hmb Q q
 revert prog w s₀ mb c Pl lo done n exn Gs mg ps h A E F d t os C bs gv b base exn' bm mk gd
 refine no_implicit_lambda% (al29 (n:=⟨(default,w0,sh0,default,default,default,default,default,default,default,default,default,default,default,a0,default,default,d0,default)⟩) ?_)
 generalize et29 _ _=υ
 generalize υ.1=prog,υ.2.1=w,υ.2.2.1=s₀,υ.2.2.2.1=mb,υ.2.2.2.2.1=c,υ.2.2.2.2.2.1=Pl,υ.2.2.2.2.2.2.1=lo,υ.2.2.2.2.2.2.2.1=done,υ.2.2.2.2.2.2.2.2.1=n,υ.2.2.2.2.2.2.2.2.2.1=exn,υ.2.2.2.2.2.2.2.2.2.2.1=Gs,υ.2.2.2.2.2.2.2.2.2.2.2.1=mg,υ.2.2.2.2.2.2.2.2.2.2.2.2.1=ps,υ.2.2.2.2.2.2.2.2.2.2.2.2.2.1=h,υ.2.2.2.2.2.2.2.2.2.2.2.2.2.2.1=A,υ.2.2.2.2.2.2.2.2.2.2.2.2.2.2.2.1=E,υ.2.2.2.2.2.2.2.2.2.2.2.2.2.2.2.2.1=F,υ.2.2.2.2.2.2.2.2.2.2.2.2.2.2.2.2.2.1=d,υ.2.2.2.2.2.2.2.2.2.2.2.2.2.2.2.2.2.2.1=t,υ.2.2.2.2.2.2.2.2.2.2.2.2.2.2.2.2.2.2.2.1=os,υ.2.2.2.2.2.2.2.2.2.2.2.2.2.2.2.2.2.2.2.2.1=C,υ.2.2.2.2.2.2.2.2.2.2.2.2.2.2.2.2.2.2.2.2.2.1=bs,υ.2.2.2.2.2.2.2.2.2.2.2.2.2.2.2.2.2.2.2.2.2.2.1=gv,υ.2.2.2.2.2.2.2.2.2.2.2.2.2.2.2.2.2.2.2.2.2.2.2.1=b,υ.2.2.2.2.2.2.2.2.2.2.2.2.2.2.2.2.2.2.2.2.2.2.2.2.1=base,υ.2.2.2.2.2.2.2.2.2.2.2.2.2.2.2.2.2.2.2.2.2.2.2.2.2.1=exn',υ.2.2.2.2.2.2.2.2.2.2.2.2.2.2.2.2.2.2.2.2.2.2.2.2.2.2.1=bm,υ.2.2.2.2.2.2.2.2.2.2.2.2.2.2.2.2.2.2.2.2.2.2.2.2.2.2.2.1=mk,υ.2.2.2.2.2.2.2.2.2.2.2.2.2.2.2.2.2.2.2.2.2.2.2.2.2.2.2.2=gd
 intro T hA hmod hC hloc hx hn hpos hgv hbT hbt hargs gw wr Bs hNew hwr hwo hkc hB hmb Q q
 simp only [CDesc.ok,Bool.and_eq_true,decide_eq_true_eq,Bool.not_eq_true',beq_iff_eq] at hC
 refine ea0_2 hC fun z1 hml=>?_;clear hC;refine ea0_2 z1 fun z2 hsp=>?_;clear z1;refine ea0_2 z2 fun z3 hn0=>?_;clear z2;refine ea0_2 z3 fun z4 hsur=>?_;clear z3;refine ea0_2 z4 fun z5 hpd=>?_;clear z4;refine ea0_2 z5 fun z6 hnd=>?_;clear z5;refine ea0_2 z6 fun z7 hms=>?_;clear z6;refine ea0_2 z7 fun z8 hst=>?_;clear z7;refine ea0_2 z8 fun z9 hsn=>?_;clear z8;refine ea0_2 z9 fun hkind hall=>?_;clear z9
 have hlook:∀ x:Str,C.scope.names.lookup x≠some NameKind.cell:=fun x e=>by
  have:=List.all_eq_true.mp hall _ (lookup_mem e)
  simp at this
 have hsn':∀ n∈(["__name__","__module__","__qualname__","__firstlineno__","__static_attributes__"]:List Str),C.scope.names.lookup n=none:=fun n hn=>by
  have:=List.all_eq_true.mp hsn n hn
  simpa using this
 have hsp':∀ m∈C.ms,∀ y∈ownNames++freeNames,m.name≠y:=fun m hm y hy=>by
  have:=List.all_eq_true.mp (List.all_eq_true.mp hsp m hm) y hy
  simpa using this
 have hnot:∀ y∈ownNames++freeNames,y ∉ C.ms.map (·.name):=fun y hy hm=>by
  exact ea1_2 (List.mem_map.mp hm) fun m h1 h2=>hsp' m h1 y hy h2
 refine ea2_1 T.nm fun nmod tmod hnm=>?_
 have lo0:=T.sizeLo
 have small:∀ b:Addr,b<s₀.heap.objs.size->b≠Pl:=fun b hb e=>absurd (e▸hb) (Nat.not_lt.mpr T.low.2)
 have hcl:c<lo:=T.los.1
 have hPl:Pl<lo:=T.los.2.1
 obtain ⟨oc,hoc⟩:∃ o,h.get? c=some o:=by refine ea8_1 T.main.code fun o vs file tf flags tg inF text z1=>?_;refine ea2_2 z1 fun tt op ho ξ=>?_;clear z1;exact ⟨_,ho⟩
 obtain ⟨oP,hoP⟩:∃ o,h.get? Pl=some o:=by refine ea8_1 T.main.code fun o vs file tf flags tg inF text z1=>?_;refine ea2_1 z1 fun tt op y42=>?_;refine ea0_9 y42 fun ho hd h11 h2 h7 h9 h10 hop ξ=>?_;clear y42;clear z1;exact ⟨_,hop⟩
 have cst:cStatics<s₀.heap.objs.size:=T.fix.2.1
 have hcs:c≠cStatics:=fun e=>absurd (e▸cst) (Nat.not_lt.mpr T.low.1)
 refine class_stmt (mg:=mg) T.bi hmb hargs (qE (main_qual hloc) ?_)
 refine build_class (Post:=fun h9 m9=>methMap C.name C.ms lo h9 m9/\∀ k,k ∉ C.ms.map (·.name)->k ∉ freeNames->m9 k=none) T.main (T.free _ hpos) hgv hbT hbt (hlook _) (hlook _) (fun x hx=>by have:=List.all_eq_true.mp hall x hx;simp at this;refine qE this ?_;simp) T.sys T.st hA hkind hsn' hnm
  (small _ cst).symm (hasAnns_meths _) (docOf_meths _) hst ?_ hsur hn0 hNew (hwr _ _ hcs (.inl hcl) hoc) (hwr _ _ (small _ cst).symm (.inl hPl) hoP) hwo ?_
 · intro A' E' h8 t8 nA c' F' P' es8 m8 hd8 N8 V8 hm8 hmm8 hq8 hc8 nAP nAc hg8 hb8 gP gA z8 sz8
   have lo8:lo<=h8.objs.size:=Nat.le_trans T.los.2.2 sz8
   have nAlt:nA<h8.objs.size:=by refine ea1_1 N8.at_ fun ep e=>?_;exact Heap.lt_size e
   have Plt:P'<h8.objs.size:=by refine ea8_1 hc8 fun o vs file tf flags tg inF text z1=>?_;clear hc8;refine ea2_1 z1 fun tt op y43=>?_;refine ea0_9 y43 fun ho hd h11 h2 h7 h9 h10 hop ξ=>?_;clear y43;clear z1;exact Heap.lt_size hop
   refine wpAny_mono (meths_run (lo:=h8.objs.size) hkind gP nAP nAc gA nAlt Plt C.ms h8 t8 #[] es8 m8 (fun x hx=>methOk.use (List.all_eq_true.mp hms x hx)) hnd hpd (fun x hx=>rfl) hg8 hc8 hb8 N8 (Nat.le_refl _)) (fun f s' z=>?_) (fun ξ ξ z=>z)
   refine ea0_2 z fun z1 z2=>?_;clear z;subst z1;refine ea4_1 z2 fun h9 t9 es9 m9 y44=>?_;refine ea0_6 y44 fun z3 N9 MM hm9 K9 z9=>?_;clear y44;clear z2;subst z3
   refine ⟨rfl,h9,t9,es9,m9,rfl,N9,?_,by lia,⟨?_,?_⟩,?_,?_,?_,fun b o hb1 hb2 e=>K9 _ _ hb2 hb1 e⟩
   · intro k v e
     by_cases hk:k∈C.ms.map (·.name)
     · refine ea1_2 (List.mem_map.mp hk) fun m h1 z1=>?_;subst z1
       refine ea1_2 (MM m h1) fun f e2 F=>?_
       replace e:=e2▸e;cases e
       refine ea0_2 F.ex fun lf z1=>?_;refine ea6_4 z1 fun dV vs pm code doc PP lc lP e r=>?_;clear z1
       exact ⟨_,e,.inl rfl,rfl⟩
     · replace e:=hm9 k hk▸e
       exact V8 k v e h9
   · intro x hx
     exact ea1_2 (MM x hx) fun f e F=>⟨f,e,F.mono lo8⟩
   · intro k hk hf
     refine qE (hm9 k hk) ?_
     refine hm8 k ?_ ?_ ?_ <;> (rintro rfl;exact hf (by simp [freeNames]))
   · intro k hk
     have hk':k∈ownNames:=hk
     refine qE (hm9 k (hnot k (List.mem_append_left _ hk'))) ?_
     refine hm8 k ?_ ?_ ?_ <;> (rintro rfl;exact absurd hk' (by decide +kernel))
   · refine qE (hm9 _ (hnot _ (by decide +kernel))) ?_;exact hmm8
   · refine ea1_1 hq8 fun tq hq=>?_;clear hq8
     exact ⟨tq,by refine qE (hm9 _ (hnot _ (by decide +kernel))) ?_;exact hq⟩
 · intro h' a t' h9 h11 m9 c' sT K hcode hfree K11 hP K9 sz hCA la hBs
   refine ea0_2 hP fun MM hz=>?_;clear hP
   have X:=hNew h11 K11
   have st':StOk h':=X.st _ hBs
   have lo11:lo<=h11.objs.size:=Nat.le_trans T.los.2.2 sz
   refine ea3_2 (id T.main.g) fun og esg epg eg rg=>?_
   have mgc:mainGlobals≠cStatics:=by decide
   have mgw:mainGlobals≠wr:=hwr _ _ mgc (.inl (Nat.lt_of_lt_of_le T.fix.1 lo0)) eg
   have mgP:mainGlobals≠Pl:=Nat.ne_of_lt T.main.low.2
   have hg':h'.Ns mainGlobals mg:=T.main.g.at fun o e=>K _ _ mgP mgw e
   refine wpAny_storeName_local (env:=mainEnv prog c F) hloc hg' (fun h2 hg2 S=>q h2 _ (fun y=>if y=C.name then some (.ref a) else mg y) (ps++#[rawInt C.pos.line,rawInt C.pos.col,.ref c']) ?_) (by show (prog.main.scope.kind==.class||(prog.main.scope.kind==.module&&mainGlobals != mainGlobals))=false;refine qE hmod ?_;rfl)
   have S:Heap.SameBut mainGlobals h' h2:=S
   have k2:∀ b o,b≠mainGlobals->h'.get? b=some o->h2.get? b=some o:=fun b o hb e=>(S.2 _ hb).trans e
   have loG:∀ b:Addr,lo<=b->b≠mainGlobals:=fun b lb e=>absurd (Nat.lt_of_lt_of_le T.fix.1 lo0) (Nat.not_lt.mpr (e▸lb))
   have m':h'.Main mg c Pl (ps++#[rawInt C.pos.line,rawInt C.pos.col,.ref c']):=by
    refine ⟨hg',hcode,T.main.low,?_⟩
    refine ea2_6 T.main.bmod fun bm o x1 x2 x3 x4 x5 x6=>⟨bm,o,x1,x2,x3,x4,K _ _ x4 ?_ x5,x6⟩
    refine ea1_2 T.st fun mc Nc ξ=>hwr _ _ ?_ (.inr fun cd hd=>by replace hd:=x6.2.2▸hd;injection hd) x5
    rintro rfl
    refine ea3_3 Nc fun oc esc epc e hd ξ=>?_;clear Nc
    replace e:=x5▸e;cases e
    replace hd:=x6.2.2▸hd;injection hd
   have kk:=hkc h11 h' K11 K hBs
   refine T.next rfl (main_store m' hg2 S (by rintro e;replace hx:=e▸hx;exact hx (by decide +kernel))) ?_ hx hn (st'.keeps fun o e=>k2 _ _ mgc.symm e) (fun z=>(kk.2 z).at fun o e=>k2 _ _ mgc.symm e) ?_ ?_ ?_ ?_
   · intro p hp
     rw [List.mem_cons,not_or] at hp
     exact hfree p (T.free p hp.2) (fun e=>hp.1 e.symm)
   · have e:h'.objs.size=h2.objs.size:=S.1.symm
     refine ea6_1 ((hCA 0 (Nat.zero_le _)).ex) fun n1 sub k0 k2 k3 m1 y45=>?_;refine ea0_3 y45 fun ln ea ξ=>?_;clear y45
     exact Nat.le_trans sz (Nat.le_trans la (Nat.le_trans (Nat.le_of_lt (Heap.lt_size ea)) (Nat.le_of_eq e)))
   · intro b o h1 h2 h3 h4 e
     exact k2 _ _ h2 (K _ _ h1 (hwr _ _ h3 h4 e) e)
   · intro a' ci la' Ca
     exact cls_same (kk.1 a' ci la' Ca) (fun b o lb e=>k2 _ _ (loG _ lb) e) la'
   · refine ⟨a,_,if_pos rfl,Nat.le_trans lo11 la,cls_same ((hCA lo lo11).mono (Nat.zero_le _)) (fun b o lb e=>k2 _ _ (loG _ lb) e) (Nat.le_trans lo11 la),rfl,rfl,hB _ _ (fun y hy=>if_neg hy),?_,?_⟩
     · intro x hx
       refine ea1_2 (MM x hx) fun f e Ff=>⟨f,(if_neg (hsp' x hx _ (by decide +kernel))).trans e,Ff.soft fun b o lb e s=>k2 _ _ (loG _ lb) (K9 _ _ e s)⟩
     · intro k hk hf
       show (if k="__static_attributes__" then _ else _)=_
       refine qE (if_neg (by rintro rfl;exact hf (by simp [freeNames]))) ?_
       exact hz k hk hf
end
section
variable {prog:Program} {w:World} {s₀:Shared} {mb:Str->Option Value} {c Pl lo:Addr} {done:List (Nat×Nat)} {n:Nat} {exn:Bool} {Gs:List (Str×GV)} {mg:Str->Option Value} {ps:Array Value} {h:Heap}
 {A:Around} {E:VP} {F:Addr}
theorem newOk_object0 (prog:Program) (w:World) (h:Heap) (x:h.Ns cStatics fun ξ=>none):NewOk prog w h (.type "object") [.type "object"] "object.__new__" false false cStatics (fun h''=>h''.Ns cStatics fun ξ=>none) where
 B:=baseOk_object _ _
 hwl:=StOk.lt ⟨_,x,fun k v e=>by injection e⟩
 hwc:=StOk.soft ⟨_,x,fun k v e=>by injection e⟩
 hwo:=StOk.ex ⟨_,x,fun k v e=>by injection e⟩
 hupd:=fun h' a t' Q k la q=>nb_obj (q h' t' ⟨rfl,fun ξ ξ=>rfl⟩ (x.at fun ξ e=>k _ _ e))
 st:=fun ξ x=>⟨_,x,fun k v e=>by injection e⟩
 hini:=fun ξ ξ=>⟨[],rfl,fun c hc=>by cases hc⟩
 hBk:=fun ξ ξ x k=>x.at fun ξ e=>k _ _ e
 hsup:=supOk0 _ _
theorem top_builtin {M:Model} {s:Shared} {x:Str} {p:Pos} {v:Value} {Q:VP} (hmod:prog.main.scope.kind=.module)
 (hg:s.heap.Ns mainGlobals mg) (hb:s.heap.Ns builtinsNs mb) (hv:mg x=none) (hbv:mb x=some v) (hd:(x==("__debug__":Str))=false) (q:Q v s):wpAny M A (eval (.Name x p) (mainEnv prog c F)) Q E s:=by
 refine wpAny_Name ?_ hd
 unfold loadName Env.blockKind
 refine qE (show (mainEnv prog c F).scope.kind=.module from hmod) (wpAny_ite_false rfl ?_)
 have fin:wpAny M A (loadGlobal (mainEnv prog c F) x) Q E s:=by
  unfold loadGlobal
  refine wpAny_bind (wpAny_nsGet hg ?_)
  refine qE hv (wpAny_bind (wpAny_nsGet hb ?_))
  exact qE hbv (wpAny_pure q)
 induction hk:(mainEnv prog c F).kindOf x with
 | none=>exact fin
 | some k=>cases k <;> exact fin
theorem bm_cls (T:TopSt prog w s₀ mb c Pl lo done n exn Gs mg ps h):mb "__build_class__"=some (.builtin "__build_class__"):=by refine qE (T.bm _ (by decide +kernel)) ?_;kernel_rfl
theorem keeps_st {h':Heap} (T:TopSt prog w s₀ mb c Pl lo done n exn Gs mg ps h) (k:∀ b o,b≠Pl->h.get? b=some o->h'.get? b=some o):∀ o,h.get? cStatics=some o->h'.get? cStatics=some o:=
 fun o e=>k _ _ (fun e=>absurd (e▸T.fix.2.1) (Nat.not_lt.mpr T.low.2)) e
theorem lo_ne (T:TopSt prog w s₀ mb c Pl lo done n exn Gs mg ps h) {b:Addr} (lb:lo<=b):b≠Pl/\b≠cStatics/\b≠mainGlobals:=
 ⟨Nat.ne_of_gt (Nat.lt_of_lt_of_le T.los.2.1 lb),fun e=>absurd (Nat.lt_of_lt_of_le T.fix.2.1 T.sizeLo) (Nat.not_lt.mpr (e▸lb)),fun e=>absurd (Nat.lt_of_lt_of_le T.fix.1 T.sizeLo) (Nat.not_lt.mpr (e▸lb))⟩
theorem top_class_obj (T:TopSt prog w s₀ mb c Pl lo done n exn Gs mg ps h) {d t os} (hA:A.depth<recursionLimit) (hmod:prog.main.scope.kind=.module) {C:CDesc} (hC:C.ok=true) (hloc:prog.main.scope.names.lookup C.name=some .local)
 (hx:C.name ∉ startupNames) (hn:C.name ∉ Gs.map (·.1)) (hpos:(C.pos.line,C.pos.col) ∉ done) {Q:Flow->Shared->Prop}
 (q:∀ h' t' mg' ps',TopSt prog w s₀ mb c Pl lo ((C.pos.line,C.pos.col)::done) (n+1) exn ((C.name,.cls .obj C.ms)::Gs) mg' ps' h'->Q .next ⟨h',#[],d,t',os⟩) :
 wpAny (model prog w) A (exec (.ClassDef C.name [] [] (C.ms.map Meth.stmt) [] [] C.scope none C.name C.statics C.pos) (mainEnv prog c F)) Q E ⟨h,#[],d,t,os⟩:=by
 induction exn with
 | false=>
  refine top_class T hA hmod hC hloc hx hn hpos (base:=.obj) (gv:=[]) (.inl ⟨rfl,rfl⟩) (.of_pure o1) (.of_pure o2) (fun q=>args_of (wpAny_items_nil ·) q) (fun h' k=>newOk_object0 prog w h' ((T.st0 rfl).at (keeps_st T k)))
   (fun b o hb ξ ξ=>hb) T.st.ex ?_ (fun mg' m ξ=>⟨rfl,rfl,rfl⟩) (bm_cls T) q
  exact fun h1 h2 K1 K2 B=>⟨fun a ci la Ca=>(cls_same Ca (fun b o lb e=>K2 _ _ (lo_ne T lb).1 (lo_ne T lb).2.1 e) la).mono (Nat.le_succ _),fun ξ=>B⟩
 | true=>
  refine top_class T hA hmod hC hloc hx hn hpos (base:=.obj) (gv:=[]) (.inl ⟨rfl,rfl⟩) (.of_pure o1) (.of_pure o2) (fun q=>args_of (wpAny_items_nil ·) q) (Bs:=fun ξ=>StOk) (fun h' k=>newOk_object prog w h' (T.st.keeps (keeps_st T k)))
   (fun b o hb ξ ξ=>hb) T.st.ex ?_ (fun mg' m ξ=>⟨rfl,rfl,rfl⟩) (bm_cls T) q
  exact fun h1 h2 K1 K2 B=>⟨fun a ci la Ca=>(cls_same Ca (fun b o lb e=>K2 _ _ (lo_ne T lb).1 (lo_ne T lb).2.1 e) la).mono (Nat.le_succ _),fun e=>by injection e⟩
theorem top_class_exc (T:TopSt prog w s₀ mb c Pl lo done n exn Gs mg ps h) {d t os} (hA:A.depth<recursionLimit) (hmod:prog.main.scope.kind=.module) {C:CDesc} (hC:C.ok=true) (hloc:prog.main.scope.names.lookup C.name=some .local)
 (hx:C.name ∉ startupNames) (hn:C.name ∉ Gs.map (·.1)) (hpos:(C.pos.line,C.pos.col) ∉ done) {p:Pos} (hexn:exn=false) (hne:("Exception":Str) ∉ Gs.map (·.1)) {Q:Flow->Shared->Prop}
 (q:∀ h' t' mg' ps',TopSt prog w s₀ mb c Pl lo ((C.pos.line,C.pos.col)::done) (n+1) true ((C.name,.cls .exc C.ms)::Gs) mg' ps' h'->Q .next ⟨h',#[],d,t',os⟩) :
 wpAny (model prog w) A (exec (.ClassDef C.name [.Name "Exception" p] [] (C.ms.map Meth.stmt) [] [] C.scope none C.name C.statics C.pos) (mainEnv prog c F)) Q E ⟨h,#[],d,t,os⟩:=by
 have hnone:mg "Exception"=none:=by
  induction hv:mg "Exception" with
  | none=>rfl
  | some v=>exact (T.names _ _ hv).elim (fun z=>absurd z (by decide +kernel)) (fun z=>(hne z).elim)
 refine top_class T hA hmod hC hloc hx hn hpos (base:=.exc) (gv:=[.type "Exception"]) (.inr rfl) (.of_pure e1) (.of_pure e2) (fun q=>args_of (fun qq=>?_) q) (Bs:=fun ξ=>StOk) (fun h' k=>newOk_exc prog w h' ((T.st0 hexn).at (keeps_st T k)))
  (fun b o hb ξ ξ=>hb) T.st.ex ?_ (fun mg' m ξ=>⟨rfl,rfl,rfl⟩) (bm_cls T) q
 · refine wpAny_items_cons (top_builtin hmod T.main.g T.bi hnone (by refine qE (T.bm _ (by decide +kernel)) ?_;kernel_rfl) (by decide +kernel) (wpAny_items_nil qq))
 · exact fun h1 h2 K1 K2 B=>⟨fun a ci la Ca=>(cls_same Ca (fun b o lb e=>K2 _ _ (lo_ne T lb).1 (lo_ne T lb).2.1 e) la).mono (Nat.le_succ _),fun e=>by injection e⟩
noncomputable def BaseD.flag?:BaseD->Option Bool
 | .obj=>some false
 | .exc=>some true
 | .sub ..=>none
theorem top_class_sub (T:TopSt prog w s₀ mb c Pl lo done n exn Gs mg ps h) {d t os} (hA:A.depth<recursionLimit) (hmod:prog.main.scope.kind=.module) {C:CDesc} (hC:C.ok=true) (hloc:prog.main.scope.names.lookup C.name=some .local)
 (hx:C.name ∉ startupNames) (hn:C.name ∉ Gs.map (·.1)) (hpos:(C.pos.line,C.pos.col) ∉ done) {p:Pos} {bn:Str} {base:BaseD} {ms:List Meth} {fl:Bool} (hb:(bn,GV.cls base ms)∈Gs) (hfl:base.flag?=some fl) (hdb:(bn==("__debug__":Str))=false)
 (hms:∀ y∈(["__del__","__new__","__init_subclass__"]:List Str),y ∉ ms.map (·.name)) (hlim:n<1000) {Q:Flow->Shared->Prop}
 (q:∀ h' t' mg' ps',TopSt prog w s₀ mb c Pl lo ((C.pos.line,C.pos.col)::done) (n+1) exn ((C.name,.cls (.sub bn fl) C.ms)::Gs) mg' ps' h'->Q .next ⟨h',#[],d,t',os⟩) :
 wpAny (model prog w) A (exec (.ClassDef C.name [.Name bn p] [] (C.ms.map Meth.stmt) [] [] C.scope none C.name C.statics C.pos) (mainEnv prog c F)) Q E ⟨h,#[],d,t,os⟩:=by
 refine ea2_8 (T.G _ hb) fun ba ci hv la Cb z1 z2 hB z3 hz=>?_;clear z1;clear z2;clear z3
 have hTB:∃ b0 so,ci.bases=[b0]/\TopBase b0 ci.rest ci.maker so/\(ci.rest=[.type "object"]\/ci.rest=exM)/\ci.rest=restOf fl/\ci.maker=makerOf fl:=by
  induction base with
  | obj=>cases hfl;refine ea0_3 hB fun b1 b2 b3=>?_;clear hB;exact ⟨_,_,b1,by refine qE b2 (qE b3 ?_);exact topBase_obj,.inl b2,b2,b3⟩
  | exc=>cases hfl;refine ea0_3 hB fun b1 b2 b3=>?_;clear hB;exact ⟨_,_,b1,by refine qE b2 (qE b3 ?_);exact topBase_exc,.inr b2,b2,b3⟩
  | sub b e=>injection hfl
 refine ea2_5 hTB fun b0 so hb1 TB hr hr1 hr2=>?_;clear hTB
 have hno:∀ y∈(["__del__","__new__","__init_subclass__"]:List Str),ci.m y=none:=fun y hy=>hz y (hms y hy) (by
  simp only [List.mem_cons,List.not_mem_nil,or_false] at hy
  rcases hy with rfl | rfl | rfl <;> decide +kernel)
 refine ea6_5 (id Cb.ex) fun n1 sub k0 k2 k3 m1 ln ea l1 N1 f1=>?_
 have hbn:bn≠C.name:=fun e=>hn (List.mem_map.mpr ⟨_,hb,e⟩)
 refine top_class T hA hmod hC hloc hx hn hpos (base:=.sub bn fl) (gv:=[.ref ba]) (.inr rfl) (u_isType Cb) (u_ty Cb) (fun q=>args_of (fun qq=>?_) q) (wr:=ba) (Bs:=fun h' h''=>StOk h''/\∀ lo ci lim,ClsAt h' lo ba ci lim->ClsAt h'' lo ba ci (lim+1))
  (fun h' k=>newOk_user prog w h' (cls_same Cb (fun b o lb e=>k _ _ (lo_ne T lb).1 e) la) hlim hb1 TB (T.st.keeps (keeps_st T k)) hr (hno _ (by simp)) (hno _ (by simp)) (hno _ (by simp)))
   (fun b o ξ h2 e=>?_) ⟨_,ea⟩ ?_ (fun mg' m hmg=>⟨ba,(hmg _ hbn).trans hv,rfl,by exact qE hr1 rfl,hr2⟩) (bm_cls T) q
 · exact wpAny_items_cons (top_name hmod T.main.g hv hdb (wpAny_items_nil qq))
 · rintro rfl
   rcases h2 with h2 | h2
   · exact absurd h2 (Nat.not_lt.mpr la)
   · replace e:=ea▸e;cases e;exact h2 _ rfl
 · intro h1 h2 K1 K2 B
   refine ⟨fun a ci' la' Ca=>?_,fun e=>?_⟩
   · rcases Classical.em (a=ba) with rfl | hne
     · exact B.2 _ _ _ (cls_same Ca (fun b o lb e=>K1 _ _ (lo_ne T lb).1 e) la')
     · refine ea6_5 Ca.ex fun n2 sub2 k02 k22 k32 m2 ln2 ea2 l2 N2 f2=>⟨n2,sub2,k02,k22,k32,m2,ln2,K2 _ _ (lo_ne T la').1 hne ea2,Nat.le_succ_of_le l2,N2.at fun o e=>K2 _ _ (lo_ne T ln2).1 ?_ e,f2⟩
       rintro rfl
       exact ClsAt.notNs Cb _ N2
   · refine (T.st0 e).at fun o e=>K2 _ _ (fun e=>absurd (e▸T.fix.2.1) (Nat.not_lt.mpr T.low.2)) ?_ e
     rintro e
     exact (lo_ne T la).2.1 e.symm
end
section
set_option backward.match.sparseCases false
variable {prog:Program} {w:World} {s₀:Shared} {mb:Str->Option Value} {c Pl lo:Addr} {done:List (Nat×Nat)} {n:Nat} {exn:Bool} {Gs:List (Str×GV)} {mg:Str->Option Value} {ps:Array Value} {h:Heap}
 {A:Around} {E:VP} {F:Addr}
set_option genInjectivity false in
structure TS where
 done:List (Nat×Nat)
 n:Nat
 exn:Bool
 gs:List (Str×GV)
deriving Inhabited
noncomputable def hasName (gs:List (Str×GV)) (x:Str):Bool:=gs.any fun p=>p.1==x
noncomputable def TS.free (p:Program) (T:TS) (x:Str):Bool:=(p.main.scope.names.lookup x==some .local)&&!(startupNames.any fun y=>y==x)&&!hasName T.gs x
theorem hasName_false {gs:List (Str×GV)} {x:Str} (e:hasName gs x=false):x ∉ gs.map (·.1):=fun hm=>by
 refine ea1_2 (List.mem_map.mp hm) fun p hp he=>?_
 have:=List.any_eq_false.mp e p hp
 exact this (by simpa using he)
theorem TS.free.use {T:TS} {x:Str} (e:T.free prog x=true):prog.main.scope.names.lookup x=some .local/\x ∉ startupNames/\x ∉ T.gs.map (·.1):=by
 simp only [TS.free,Bool.and_eq_true,beq_iff_eq,Bool.not_eq_true'] at e
 refine ⟨e.1.1,fun hm=>?_,hasName_false e.2⟩
 have:=List.any_eq_false.mp e.1.2 x hm
 exact this (by simp)
noncomputable def nodupKeys:List (Str×DV)->Bool
 | []=>true
 | p::r=>!(r.any fun q=>q.1==p.1)&&nodupKeys r
theorem nodupKeys.use:∀ {l:List (Str×DV)},nodupKeys l=true->(l.map (·.1)).Nodup
 | [],_=>List.nodup_nil
 | p::r,e=>by
  rw [nodupKeys,Bool.and_eq_true,Bool.not_eq_true'] at e
  rw [List.map_cons,List.nodup_cons]
  refine ⟨fun hm=>?_,nodupKeys.use e.2⟩
  exact ea1_2 (List.mem_map.mp hm) fun q hq he=>List.any_eq_false.mp e.1 q hq (by simpa using he)
noncomputable def valE (gs:List (Str×GV)):Expr->Option GV
 | .Tuple es _ _=>match litsE gs es with | some ls=>if ls.length<=100 then some (.tup ls) else none | none=>none
 | .Dict ks vs _=>match dictE gs ks vs with | some l=>if nodupKeys l&&!l.isEmpty&&(decide (l.length<=15)||(decide (17<l.length)&&decide (l.length<=32))) then some (.dict l) else none | none=>none
 | e=>match litE gs 9 e with | some l=>some (.lit l) | none=>none
theorem dictE_take {gs:List (Str×GV)}:∀ (k:Nat) (ks:List (Option Expr)) (vs:List Expr) l,dictE gs ks vs=some l->dictE gs (ks.take k) (vs.take k)=some (l.take k)/\dictE gs (ks.drop k) (vs.drop k)=some (l.drop k)
 | 0,ks,vs,l,e=>⟨rfl,e⟩
 | k+1,[],vs,l,e=>by refine ea0_2 (dictE_nil e) fun z1 z2=>?_;subst z1;subst z2;exact ⟨rfl,rfl⟩
 | k+1,k0::ks,vs,l,e=>by
  refine ea6_1 (dictE_cons e) fun x j p v r y y25=>?_;refine ea1_5 y25 fun z z1 z2 h1 h2 z3=>?_;clear y25;subst z1;subst z2;subst z3
  refine ea0_2 (dictE_take k ks r z h2) fun i1 i2=>⟨?_,i2⟩
  exact dictE_mk rfl h1 i1
theorem swaps_no {e:Expr} {gs gv} (he:valE gs e=some gv) (tg:Option Expr) (l:Nat) (env:Env):swapsWith e tg l env=pure false:=by
 cases e <;> first | rfl | injection he
set_option tactic.hygienic true in
theorem val_eval (hmod:prog.main.scope.kind=.module) (T:TopSt prog w s₀ mb c Pl lo done n exn Gs mg ps h) {g d os} {e:Expr} {gv:GV} {t:Nat} {x:Str} {Q:VP} (he:valE Gs e=some gv)
 (q:∀ v h1 t',(Kp h h1)->h.objs.size<=h1.objs.size->(∀ h' mg',(∀ b o,lo<=b->h1.get? b=some o->h'.get? b=some o)->mg' x=some v->GAt prog w h' lo n mg' x gv)->Q v ⟨h1,g,d,t',os⟩) :
 wpAny (model prog w) A (eval e (mainEnv prog c F)) Q E ⟨h,g,d,t,os⟩:=by
 revert hmod T os e gv t x Q he q
 revert prog w s₀ mb c Pl lo done n exn Gs mg ps h A E F g d
 refine no_implicit_lambda% (al19 (n:=⟨(default,w0,sh0,default,default,default,default,default,default,default,default,default,default,default,a0,default,default,default,d0)⟩) ?_)
 generalize et19 _ _=υ
 generalize υ.1=prog,υ.2.1=w,υ.2.2.1=s₀,υ.2.2.2.1=mb,υ.2.2.2.2.1=c,υ.2.2.2.2.2.1=Pl,υ.2.2.2.2.2.2.1=lo,υ.2.2.2.2.2.2.2.1=done,υ.2.2.2.2.2.2.2.2.1=n,υ.2.2.2.2.2.2.2.2.2.1=exn,υ.2.2.2.2.2.2.2.2.2.2.1=Gs,υ.2.2.2.2.2.2.2.2.2.2.2.1=mg,υ.2.2.2.2.2.2.2.2.2.2.2.2.1=ps,υ.2.2.2.2.2.2.2.2.2.2.2.2.2.1=h,υ.2.2.2.2.2.2.2.2.2.2.2.2.2.2.1=A,υ.2.2.2.2.2.2.2.2.2.2.2.2.2.2.2.1=E,υ.2.2.2.2.2.2.2.2.2.2.2.2.2.2.2.2.1=F,υ.2.2.2.2.2.2.2.2.2.2.2.2.2.2.2.2.2.1=g,υ.2.2.2.2.2.2.2.2.2.2.2.2.2.2.2.2.2.2=d
 intro hmod T os e gv t x Q he q
 have hG:LitsOk Gs mg:=fun x l hm=>T.G _ hm
 have hlo:=T.los.2.2
 have lit:∀ e,(match litE Gs 9 e with | some l=>some (GV.lit l) | none=>none)=some gv->wpAny (model prog w) A (eval e (mainEnv prog c F)) Q E ⟨h,g,d,t,os⟩:=by
  intro e he
  split at he
  · rename_i l hl
    cases he
    exact litE_eval hmod T.main.g hG 9 e l t hl fun v t' hv=>q _ _ _ (fun ξ ξ e=>e) (Nat.le_refl _) fun h' mg' k hx=>⟨v,hx,hv⟩
  · injection he
 have dic:∀ l,gv=.dict l->(∀ {Q':VP},(∀ a kvs h' t',(Kp h h')->h.objs.size<=h'.objs.size->h.objs.size<=a->h'.DictOf (PySem.strKind prog w) a kvs->(∀ lo,lo<=h.objs.size->KVs h' lo l kvs)->Q' (.ref a) ⟨h',g,d,t',os⟩)->wpAny (model prog w) A (eval e (mainEnv prog c F)) Q' E ⟨h,g,d,t,os⟩) →
  wpAny (model prog w) A (eval e (mainEnv prog c F)) Q E ⟨h,g,d,t,os⟩:=by
  intro l hl hh
  subst hl
  refine hh fun a kvs h1 t1 k1 z1 la D K=>q _ _ _ k1 z1 fun h' mg' k hx=>?_
  have K':=(K lo hlo).keeps k
  exact ⟨a,kvs,hx,Nat.le_trans hlo la,DictOf.at D fun o e=>k _ _ (Nat.le_trans hlo la) e,K'.keys,K'.mem⟩
 induction e using Expr.casesOn with
 | Tuple es k pos=>
  have he:(match litsE Gs es with | some ls=>if ls.length<=100 then some (GV.tup ls) else none | none=>none)=some gv:=he
  split at he
  · rename_i ls hls
    split at he
    · rename_i hl
      cases he
      refine tup_eval hmod T.main.g hG hls hl fun v h1 t' k hz hv=>q _ _ _ k (by lia) fun h' mg' k2 hx=>⟨v,hx,?_⟩
      exact ea2_4 (hv lo hlo) fun a vs e la e2 r=>⟨a,vs,e,la,k2 _ _ la e2,r⟩
    · injection he
  · injection he
 | Dict ks vs pos=>
  have he:(match dictE Gs ks vs with | some l=>if nodupKeys l&&!l.isEmpty&&(decide (l.length<=15)||(decide (17<l.length)&&decide (l.length<=32))) then some (GV.dict l) else none | none=>none)=some gv:=he
  split at he
  · rename_i l hl
    split at he
    · rename_i hc
      cases he
      simp only [Bool.and_eq_true,Bool.or_eq_true,decide_eq_true_eq,Bool.not_eq_true'] at hc
      have hnd:=nodupKeys.use hc.1.1
      have h0:l≠[]:=by rintro rfl;simp at hc
      rcases hc.2 with h15 | ⟨h17,h32⟩
      · exact dic l rfl fun q=>dict_eval hmod T.main.g hG hl h0 h15 hnd q
      · refine ea0_2 (dictE_take 17 ks vs l hl) fun i1 i2=>dic l rfl fun q=>dict_eval_long hmod T.main.g hG T.sys hl i1 i2 (List.take_append_drop ..) (by refine qE List.length_take ?_;lia) (by refine qE List.length_drop ?_;lia) ?_ hnd q
        intro x
        have:=congrArg List.length x
        replace this:=List.length_nil▸List.length_drop▸this
        lia
    · injection he
  · injection he
 | _=>exact lit _ he
noncomputable def methsOf:List Stmt->Option (List Meth)
 | []=>some []
 | s::r=>match methOf s,methsOf r with | some m,some ms=>some (m::ms) | _,_=>none
set_option tactic.hygienic true in
theorem methsOf.use:∀ {l:List Stmt} {ms},methsOf l=some ms->l=ms.map Meth.stmt
 | [],_,e=>by cases e;rfl
 | s::r,ms,e=>by
  simp only [methsOf] at e
  split at e
  · rename_i m ms' h1 h2
    cases e
    exact qE List.map_cons (qB (methOf.use h1) (qB (methsOf.use h2) rfl))
  · injection e
noncomputable def classOf:Stmt->Option (CDesc×List Expr)
 | .ClassDef name bs kws body ds tps scope doc bind statics pos=>match kws.isEmpty&&ds.isEmpty&&tps.isEmpty&&doc.isNone&&(bind==name) with
  | true=>(match methsOf body with | some ms=>some (⟨name,ms,scope,statics,pos⟩,bs) | none=>none)
  | false=>none
 | _=>none
noncomputable def IsCl (s:Stmt):Option (CDesc×List Expr)->Prop | some q=>∃ body,methsOf body=some q.1.ms/\s=.ClassDef q.1.name q.2 [] body [] [] q.1.scope none q.1.name q.1.statics q.1.pos | none=>True
theorem classOf.spec (s:Stmt):IsCl s (classOf s):=by
 induction s using Stmt.casesOn with
 | ClassDef name bs kws body ds tps scope doc bind statics pos=>
  show IsCl _ (match kws.isEmpty&&ds.isEmpty&&tps.isEmpty&&doc.isNone&&(bind==name) with
   | true=>(match methsOf body with | some ms=>some ((⟨name,ms,scope,statics,pos⟩:CDesc),bs) | none=>none)
   | false=>none)
  induction hc:kws.isEmpty&&ds.isEmpty&&tps.isEmpty&&doc.isNone&&(bind==name) with
  | false=>exact trivial
  | true=>
   induction hm:methsOf body with
   | none=>exact trivial
   | some ms=>
    simp only [Bool.and_eq_true,List.isEmpty_iff,Option.isNone_iff_eq_none,beq_iff_eq] at hc
    refine ea0_2 hc fun z1 z8=>?_;clear hc;refine ea0_2 z1 fun z2 z7=>?_;clear z1;refine ea0_2 z2 fun z3 z6=>?_;clear z2;refine ea0_2 z3 fun z4 z5=>?_;clear z3;subst z4;subst z5;subst z6;subst z7;subst z8
    exact ⟨body,hm,rfl⟩
 | _=>exact trivial
theorem classOf.use' {s:Stmt} {C bs} (e:classOf s=some (C,bs)):∃ body,methsOf body=some C.ms/\s=.ClassDef C.name bs [] body [] [] C.scope none C.name C.statics C.pos:=(congrArg (IsCl s) e).mp (classOf.spec s)
theorem classOf.use {s:Stmt} {C bs} (e:classOf s=some (C,bs)):s=.ClassDef C.name bs [] (C.ms.map Meth.stmt) [] [] C.scope none C.name C.statics C.pos:=by
 exact ea1_2 (classOf.use' e) fun body h1 h2=>qE h2 (qE (methsOf.use h1) rfl)
noncomputable def seen (done:List (Nat×Nat)) (p:Pos):Bool:=done.any fun q=>q.1==p.line&&q.2==p.col
theorem seen_false {done:List (Nat×Nat)} {p:Pos} (e:seen done p=false):(p.line,p.col) ∉ done:=fun hm=>by
 exact List.any_eq_false.mp e _ hm (by simp)
noncomputable def exName (e:Expr):Option Str:=match e with | .Name b _=>some b | _=>none
noncomputable def IsNm (e:Expr):Option Str->Prop | some b=>∃ p,e=.Name b p | none=>True
theorem exName.spec (e:Expr):IsNm e (exName e):=by
 induction e using Expr.casesOn with
 | Name x p=>exact ⟨p,rfl⟩
 | _=>exact trivial
theorem exName.use {e:Expr} {b:Str} (h:exName e=some b):∃ p,e=.Name b p:=(congrArg (IsNm e) h).mp (exName.spec e)
noncomputable def baseOf (bs:List Expr):Option (Option Str):=match bs with
 | []=>some none
 | e::r=>match r with
  | []=>(match exName e with | some b=>some (some b) | none=>none)
  | _::_=>none
theorem baseOf_none {bs} (h:baseOf bs=some none):bs=[]:=by
 induction bs using List.casesOn with
 | nil=>rfl
 | cons e r=>induction r using List.casesOn with
  | nil=>
   have h:(match exName e with | some b=>some (some b) | none=>none)=some (none:Option Str):=h
   induction hb:exName e with
   | none=>replace h:=hb▸h;injection h
   | some b=>replace h:=hb▸h;cases h
  | cons _ _=>injection h
theorem baseOf_some {bs} {b:Str} (h:baseOf bs=some (some b)):∃ p,bs=[.Name b p]:=by
 induction bs using List.casesOn with
 | nil=>cases h
 | cons e r=>induction r using List.casesOn with
  | nil=>
   have h:(match exName e with | some b=>some (some b) | none=>none)=some (some b):=h
   induction hb:exName e with
   | none=>replace h:=hb▸h;injection h
   | some b'=>replace h:=hb▸h;cases h;refine ea1_1 (exName.use hb) fun p z1=>?_;subst z1;exact ⟨p,rfl⟩
  | cons _ _=>injection h
noncomputable def baseIs (T:TS) (b:Option Str):Option BaseD:=
 match b with
 | none=>some .obj
 | some b=>if b="Exception" then (if !T.exn&&!hasName T.gs "Exception" then some .exc else none)
  else match T.gs.lookup b with
   | some g=>(match g with
    | .cls base ms=>(match base.flag? with
     | some fl=>if (b==("__debug__":Str))==false&&(["__del__","__new__","__init_subclass__"]:List Str).all (fun y=>ms.all fun m=>m.name != y)&&decide (T.n<1000) then some (.sub b fl) else none
     | none=>none)
    | _=>none)
   | none=>none
noncomputable def excOf (T:TS) (b:Option Str):Bool:=match b with | none=>T.exn | some b=>if b="Exception" then true else T.exn
noncomputable def absClass (p:Program) (T:TS) (C:CDesc) (bs:List Expr):Option TS:=
 if C.ok&&T.free p C.name&&!seen T.done C.pos then
  match baseOf bs with
  | some b=>(match baseIs T b with
   | some base=>some { done:=(C.pos.line,C.pos.col)::T.done,n:=T.n+1,exn:=excOf T b,gs:=(C.name,.cls base C.ms)::T.gs }
   | none=>none)
  | none=>none
 else none
noncomputable def absDef (p:Program) (T:TS) (m:Meth):Option TS:=
 if okParams m.params&&noFree m.sc&&T.free p m.name&&!seen T.done m.pos then some { T with done:=(m.pos.line,m.pos.col)::T.done,gs:=(m.name,.fn m)::T.gs } else none
noncomputable def absAssign (p:Program) (T:TS) (x:Str) (e:Expr):Option TS:=
 if x="__name__" then match exStr e with
  | some _=>if p.main.scope.names.lookup ("__name__":Str)==some .local&&!hasName T.gs "__name__" then some T else none
  | none=>none
 else if T.free p x then match valE T.gs e with | some gv=>some { T with gs:=(x,gv)::T.gs } | none=>none else none
noncomputable def asgOf (s:Stmt):Option (Str×Expr):=match s with
 | .Assign ts e _=>(match ts with
  | []=>none
  | t::r=>match r with
   | []=>(match exName t with | some x=>some (x,e) | none=>none)
   | _::_=>none)
 | _=>none
noncomputable def IsAsg (s:Stmt):Option (Str×Expr)->Prop | some q=>∃ p p',s=.Assign [.Name q.1 p] q.2 p' | none=>True
theorem asgOf.spec (s:Stmt):IsAsg s (asgOf s):=by
 induction s using Stmt.casesOn with
 | Assign ts e' p'=>induction ts using List.casesOn with
  | nil=>exact trivial
  | cons t r=>induction r using List.casesOn with
   | cons _ _=>exact trivial
   | nil=>
    show IsAsg _ (match exName t with | some x=>some (x,e') | none=>none)
    induction ht:exName t with
    | none=>exact trivial
    | some y=>refine ea1_1 (exName.use ht) fun p z1=>?_;subst z1;exact ⟨p,p',rfl⟩
 | _=>exact trivial
theorem asgOf.use {s:Stmt} {x e} (h:asgOf s=some (x,e)):∃ p p',s=.Assign [.Name x p] e p':=(congrArg (IsAsg s) h).mp (asgOf.spec s)
noncomputable def absStmt (p:Program) (T:TS) (s:Stmt):Option TS:=
 match asgOf s with
 | some q=>absAssign p T q.1 q.2
 | none=>match methOf s with
  | some m=>absDef p T m
  | none=>match classOf s with
   | some q=>absClass p T q.1 q.2
   | none=>none
noncomputable def absStmts (p:Program):TS->List Stmt->Option TS
 | T,[]=>some T
 | T,s::r=>match absStmt p T s with | some T'=>absStmts p T' r | none=>none
abbrev TSt (prog:Program) (w:World) (s₀:Shared) (mb:Str->Option Value) (c Pl lo:Addr) (T:TS):=TopSt prog w s₀ mb c Pl lo T.done T.n T.exn T.gs
set_option tactic.hygienic true in
theorem abs_def {T T':TS} (t0:TSt prog w s₀ mb c Pl lo T mg ps h) (hmod:prog.main.scope.kind=.module) {d t os} {m:Meth} (e:absDef prog T m=some T') {Q:Flow->Shared->Prop}
 (q:∀ h' t' mg' ps',TSt prog w s₀ mb c Pl lo T' mg' ps' h'->Q .next ⟨h',#[],d,t',os⟩):wpAny (model prog w) A (exec m.stmt (mainEnv prog c F)) Q E ⟨h,#[],d,t,os⟩:=by
 unfold absDef at e
 split at e
 · rename_i hc
   cases e
   simp only [Bool.and_eq_true,Bool.not_eq_true'] at hc
   exact ea0_3 (TS.free.use hc.1.2) fun f1 f2 f3=>top_def t0 hmod hc.1.1.1 hc.1.1.2 f1 f2 f3 (seen_false hc.2) q
 · injection e
set_option tactic.hygienic true in
theorem abs_class {T T':TS} (t0:TSt prog w s₀ mb c Pl lo T mg ps h) (hA:A.depth<recursionLimit) (hmod:prog.main.scope.kind=.module) {d t os} {C:CDesc} {bs} (e:absClass prog T C bs=some T') {Q:Flow->Shared->Prop}
 (q:∀ h' t' mg' ps',TSt prog w s₀ mb c Pl lo T' mg' ps' h'->Q .next ⟨h',#[],d,t',os⟩) :
 wpAny (model prog w) A (exec (.ClassDef C.name bs [] (C.ms.map Meth.stmt) [] [] C.scope none C.name C.statics C.pos) (mainEnv prog c F)) Q E ⟨h,#[],d,t,os⟩:=by
 revert t0 hA hmod bs e Q q
 revert prog w s₀ mb c Pl lo mg ps h A E F T T' d t os C
 refine no_implicit_lambda% (al19 (n:=⟨(default,w0,sh0,default,default,default,default,default,default,default,a0,default,default,default,default,d0,default)⟩) ?_)
 generalize et19 _ _=υ
 generalize υ.1=prog,υ.2.1=w,υ.2.2.1=s₀,υ.2.2.2.1=mb,υ.2.2.2.2.1=c,υ.2.2.2.2.2.1=Pl,υ.2.2.2.2.2.2.1=lo,υ.2.2.2.2.2.2.2.1=mg,υ.2.2.2.2.2.2.2.2.1=ps,υ.2.2.2.2.2.2.2.2.2.1=h,υ.2.2.2.2.2.2.2.2.2.2.1=A,υ.2.2.2.2.2.2.2.2.2.2.2.1=E,υ.2.2.2.2.2.2.2.2.2.2.2.2.1=F,υ.2.2.2.2.2.2.2.2.2.2.2.2.2.1=T,υ.2.2.2.2.2.2.2.2.2.2.2.2.2.2.1=T',υ.2.2.2.2.2.2.2.2.2.2.2.2.2.2.2.1=d,υ.2.2.2.2.2.2.2.2.2.2.2.2.2.2.2.2.1=t,υ.2.2.2.2.2.2.2.2.2.2.2.2.2.2.2.2.2.1=os,υ.2.2.2.2.2.2.2.2.2.2.2.2.2.2.2.2.2.2=C
 intro t0 hA hmod bs e Q q
 unfold absClass at e
 split at e
 · rename_i hc
   simp only [Bool.and_eq_true,Bool.not_eq_true'] at hc
   refine ea0_3 (TS.free.use hc.1.2) fun f1 f2 f3=>?_
   have hpos:=seen_false hc.2
   induction hb:baseOf bs with
   | none=>replace e:=hb▸e;injection e
   | some b=>
    induction hx:baseIs T b with
    | none=>replace e:=hb▸e;dsimp only at e;replace e:=hx▸e;injection e
    | some base=>
     replace e:=hb▸e;dsimp only at e;replace e:=hx▸e
     cases e
     induction b with
     | none=>
      cases hx
      obtain rfl:=baseOf_none hb
      exact top_class_obj t0 hA hmod hc.1.1 f1 f2 f3 hpos q
     | some b=>
      refine ea1_1 (baseOf_some hb) fun bp z1=>?_;subst z1
      unfold baseIs at hx
      dsimp only at hx
      unfold excOf at q
      dsimp only at q
      by_cases hbe:b="Exception"
      · rw [if_pos hbe] at hx q
        subst hbe
        by_cases he:(!T.exn&&!hasName T.gs "Exception")=true
        · replace hx:=if_pos he▸hx
          cases hx
          simp only [Bool.and_eq_true,Bool.not_eq_true'] at he
          exact top_class_exc t0 hA hmod hc.1.1 f1 f2 f3 hpos he.1 (hasName_false he.2) q
        · replace hx:=if_neg he▸hx;injection hx
      · rw [if_neg hbe] at hx q
        induction hl:T.gs.lookup b with
        | none=>replace hx:=hl▸hx;injection hx
        | some g=>
         replace hx:=hl▸hx
         dsimp only at hx
         cases g <;> first | (injection hx;done) | skip
         rename_i base' ms
         dsimp only at hx
         induction hfl:base'.flag? with
         | none=>replace hx:=hfl▸hx;injection hx
         | some fl=>
          replace hx:=hfl▸hx
          dsimp only at hx
          by_cases hy:((b==("__debug__":Str))==false&&(["__del__","__new__","__init_subclass__"]:List Str).all (fun y=>ms.all fun m=>m.name != y)&&decide (T.n<1000))=true
          · replace hx:=if_pos hy▸hx
            cases hx
            simp only [Bool.and_eq_true,decide_eq_true_eq,beq_iff_eq] at hy
            refine top_class_sub t0 hA hmod hc.1.1 f1 f2 f3 hpos (mem_of_lookup hl) hfl hy.1.1 (fun y hy' hm=>?_) hy.2 q
            refine ea1_2 (List.mem_map.mp hm) fun m h1 h2=>?_
            have:=List.all_eq_true.mp (List.all_eq_true.mp hy.1.2 y hy') m h1
            simp [h2] at this
          · replace hx:=if_neg hy▸hx;injection hx
 · injection e
set_option tactic.hygienic true in
theorem abs_assign {T T':TS} (t0:TSt prog w s₀ mb c Pl lo T mg ps h) (hmod:prog.main.scope.kind=.module) {d t os} {x:Str} {v:Expr} {p p':Pos} (e:absAssign prog T x v=some T') {Q:Flow->Shared->Prop}
 (q:∀ h' t' mg' ps',TSt prog w s₀ mb c Pl lo T' mg' ps' h'->Q .next ⟨h',#[],d,t',os⟩):wpAny (model prog w) A (exec (.Assign [.Name x p] v p') (mainEnv prog c F)) Q E ⟨h,#[],d,t,os⟩:=by
 revert t0 hmod v p p' e Q q
 revert prog w s₀ mb c Pl lo mg ps h A E F T T' d t os x
 refine no_implicit_lambda% (al19 (n:=⟨(default,w0,sh0,default,default,default,default,default,default,default,a0,default,default,default,default,d0,default)⟩) ?_)
 generalize et19 _ _=υ
 generalize υ.1=prog,υ.2.1=w,υ.2.2.1=s₀,υ.2.2.2.1=mb,υ.2.2.2.2.1=c,υ.2.2.2.2.2.1=Pl,υ.2.2.2.2.2.2.1=lo,υ.2.2.2.2.2.2.2.1=mg,υ.2.2.2.2.2.2.2.2.1=ps,υ.2.2.2.2.2.2.2.2.2.1=h,υ.2.2.2.2.2.2.2.2.2.2.1=A,υ.2.2.2.2.2.2.2.2.2.2.2.1=E,υ.2.2.2.2.2.2.2.2.2.2.2.2.1=F,υ.2.2.2.2.2.2.2.2.2.2.2.2.2.1=T,υ.2.2.2.2.2.2.2.2.2.2.2.2.2.2.1=T',υ.2.2.2.2.2.2.2.2.2.2.2.2.2.2.2.1=d,υ.2.2.2.2.2.2.2.2.2.2.2.2.2.2.2.2.1=t,υ.2.2.2.2.2.2.2.2.2.2.2.2.2.2.2.2.2.1=os,υ.2.2.2.2.2.2.2.2.2.2.2.2.2.2.2.2.2.2=x
 intro t0 hmod v p p' e Q q
 unfold absAssign at e
 split at e
 · rename_i hx
   subst hx
   induction hv:exStr v with
   | none=>replace e:=hv▸e;injection e
   | some y=>
    replace e:=hv▸e
    refine ea2_1 (exStr.use hv) fun j pp z1=>?_;subst z1
    dsimp only at e
    split at e
    · rename_i hc
      cases e
      simp only [Bool.and_eq_true,Bool.not_eq_true',beq_iff_eq] at hc
      exact wpAny_Assign_Name (wpAny_Constant_str (top_rename t0 hmod hc.1 (hasName_false hc.2) fun h' t' mg' T'=>q _ _ _ _ T'))
    · injection e
 · split at e
   · rename_i hf
     split at e
     · rename_i gv hv
       cases e
       refine ea0_3 (TS.free.use hf) fun f1 f2 f3=>wpAny_Assign_Name (val_eval (x:=x) hmod t0 hv fun v h1 t1 k1 z1 G=>?_) (swaps_no hv _ _ _)
       exact top_store t0 k1 z1 hmod f1 f2 f3 G fun h' t' mg' T'=>q _ _ _ _ T'
     · injection e
   · injection e
theorem abs_stmt {T T':TS} (t0:TSt prog w s₀ mb c Pl lo T mg ps h) (hA:A.depth<recursionLimit) (hmod:prog.main.scope.kind=.module) {d t os} {s:Stmt} (e:absStmt prog T s=some T') {Q:Flow->Shared->Prop}
 (q:∀ h' t' mg' ps',TSt prog w s₀ mb c Pl lo T' mg' ps' h'->Q .next ⟨h',#[],d,t',os⟩):wpAny (model prog w) A (exec s (mainEnv prog c F)) Q E ⟨h,#[],d,t,os⟩:=by
 unfold absStmt at e
 induction ha:asgOf s with
 | some z=>
  replace e:=ha▸e
  refine ea2_1 (asgOf.use (x:=z.1) (e:=z.2) ha) fun p p' z1=>?_;subst z1
  exact abs_assign t0 hmod e q
 | none=>
  replace e:=ha▸e
  dsimp only at e
  induction hm:methOf s with
  | some m=>
   replace e:=hm▸e
   exact qE (methOf.use hm) (abs_def t0 hmod e q)
  | none=>
   replace e:=hm▸e
   dsimp only at e
   induction hc:classOf s with
   | some z=>
    replace e:=hc▸e
    exact qE (classOf.use (C:=z.1) (bs:=z.2) hc) (abs_class t0 hA hmod e q)
   | none=>replace e:=hc▸e;injection e
set_option tactic.hygienic true in
theorem abs_stmts (hA:A.depth<recursionLimit) (hmod:prog.main.scope.kind=.module) {d os} {T':TS} {Q:Flow->Shared->Prop}:∀ (ss:List Stmt) (T:TS) (h:Heap) (t:Nat) (mg:Str->Option Value) (ps:Array Value),TSt prog w s₀ mb c Pl lo T mg ps h->absStmts prog T ss=some T' →
 (∀ h' t' mg' ps',TSt prog w s₀ mb c Pl lo T' mg' ps' h'->Q .next ⟨h',#[],d,t',os⟩)->wpAny (model prog w) A (execs ss (mainEnv prog c F)) Q E ⟨h,#[],d,t,os⟩
 | [],T,h,t,mg,ps,t0,e,q=>by cases e;exact wpAny_execs_nil (q _ _ _ _ t0)
 | s::r,T,h,t,mg,ps,t0,e,q=>by
  replace e:(match absStmt prog T s with | some T'=>absStmts prog T' r | none=>none)=some T':=e
  induction h1:absStmt prog T s with
  | some T1=>
   replace e:=h1▸e
   exact wpAny_execs_cons (abs_stmt t0 hA hmod h1 fun h' t' mg' ps' t1=>abs_stmts hA hmod r T1 h' t' mg' ps' t1 e q)
  | none=>replace e:=h1▸e;injection e
end
section
set_option backward.match.sparseCases false
noncomputable def ts0:TS:=⟨[],0,false,[]⟩
noncomputable def tabI:List (Str×Int):=[
 (("POWER_RIGHT":Str),(11:Int)),(("NOT_ON_CTOR":Str),(6160384:Int)),(("INDEX_MARKS":Str),(393216:Int)),(("ACCESS_MARKS":Str),(114688:Int)),(("ACCESS_FLAGS":Str),(114688:Int)),(("PART_ARROW":Str),(12:Int)),(("PART_CLASS":Str),(6:Int)),(("PART_FUNC":Str),(5:Int)),
 (("PART_BLOCK":Str),(4:Int)),(("PART_STMT":Str),(3:Int)),(("PART_EXPR":Str),(2:Int)),(("PART_TYPE":Str),(1:Int)),(("MAX_HEIGHT":Str),(160:Int)),(("MAX_CHAIN":Str),(60:Int)),(("MAX_DEEP":Str),(40:Int)),(("T_TPL_TAIL":Str),(9:Int)),
 (("T_TPL_MIDDLE":Str),(8:Int)),(("T_TPL_HEAD":Str),(7:Int)),(("T_TPL_WHOLE":Str),(6:Int)),(("T_SIGN":Str),(5:Int)),(("T_STR":Str),(4:Int)),(("T_NUM":Str),(3:Int)),(("T_WORD":Str),(2:Int)),(("T_NAME":Str),(1:Int)),
 (("T_END":Str),(0:Int)),(("F_AMBIENT":Str),(4194304:Int)),(("F_BANG":Str),(2097152:Int)),(("F_OVERRIDE":Str),(1048576:Int)),(("F_ABSTRACT":Str),(524288:Int)),(("F_STATIC":Str),(262144:Int)),(("F_READONLY":Str),(131072:Int)),(("F_PUBLIC":Str),(65536:Int)),
 (("F_PROTECTED":Str),(32768:Int)),(("F_PRIVATE":Str),(16384:Int)),(("F_REST":Str),(8192:Int)),(("F_OPT":Str),(4096:Int)),(("F_CTOR":Str),(256:Int)),(("F_SET":Str),(128:Int)),(("F_GET":Str),(64:Int)),(("F_METHOD":Str),(32:Int)),
 (("F_PREFIX":Str),(2:Int)),(("K_LIST":Str),(71:Int)),(("K_INDEXSIG":Str),(63:Int)),(("K_FIELD":Str),(62:Int)),(("K_BLOCK":Str),(59:Int)),(("K_PAREN":Str),(33:Int)),(("K_SATISFIES":Str),(31:Int)),(("K_ASCONST":Str),(30:Int)),
 (("K_AS":Str),(29:Int)),(("K_FUNC":Str),(27:Int)),(("K_PICK":Str),(26:Int)),(("K_ASSIGN":Str),(25:Int)),(("K_LOGIC":Str),(24:Int)),(("K_BINARY":Str),(23:Int)),(("K_UPDATE":Str),(22:Int)),(("K_UNARY":Str),(21:Int)),
 (("K_CHAIN":Str),(20:Int)),(("K_OBJECT":Str),(12:Int)),(("K_ARRAY":Str),(11:Int)),(("K_THIS":Str),(9:Int)),(("K_NAME":Str),(8:Int)),(("K_UNDEF":Str),(7:Int)),(("K_NULL":Str),(6:Int)),(("K_FALSE":Str),(5:Int)),
 (("K_TRUE":Str),(4:Int)),(("K_TPL":Str),(3:Int)),(("K_STR":Str),(2:Int)),(("K_NUM":Str),(1:Int))]
noncomputable def okI (gs:List (Str×GV)):Bool:=tabI.all fun p=>match gs.lookup p.1 with | some (.lit (.int i))=>i==p.2 | _=>false
noncomputable def tabC:List (Str×Str):=[(("NamePart":Str),("Part":Str)),(("ExprPart":Str),("Part":Str)),(("PexprNumRule":Str),("FirstRule":Str)),(("PexprStrRule":Str),("FirstRule":Str)),(("TplFirst":Str),("FirstRule":Str)),
 (("PexprNameRule":Str),("FirstRule":Str)),(("WordFirst":Str),("FirstRule":Str)),(("PexprParenRule":Str),("FirstRule":Str))]
noncomputable def okC (gs:List (Str×GV)):Bool:=tabC.all fun p=>match gs.lookup p.1 with | some (.cls (.sub b false) _)=>b==p.2 | _=>false
noncomputable def memberW:List (Str×Int):=[("public",65536),("protected",32768),("private",16384),("static",262144),("abstract",524288),("override",1048576),("readonly",131072),("declare",4194304)]
noncomputable def powersT:List (Str×Int):=[("??",1),("||",2),("&&",3),("|",4),("^",5),("&",6),("==",7),("!=",7),("===",7),("!==",7),("<",8),(">",8),("<=",8),(">=",8),("in",8),("instanceof",8),("as",8),("satisfies",8),("+",9),("-",9),("*",10),("/",10),("%",10),("**",11)]
noncomputable def lateW:List (Str×List Str):=[("public",["override","static","readonly","abstract"]),("protected",["override","static","readonly","abstract"]),("private",["override","static","readonly"]),("static",["readonly","override"]),("abstract",["override"]),("override",["readonly"])]
noncomputable def notLeft:List Int:=[21,22,23,24,29,30,31]
noncomputable def assignS:List Str:=["=","+=","-=","*=","%=","**=","&&=","||=","??="]
noncomputable def unaryK:List Str:=["!","-","+","~","typeof","void","delete"]
noncomputable def ownParts:List Int:=[3,4,5,6]
noncomputable def isDI (gs:List (Str×GV)) (x:Str) (l:List (Str×Int)):Bool:=match gs.lookup x with
 | some (.dict l')=>l'.length==l.length&&(l'.zip l).all fun p=>p.1.1==p.2.1&&(match p.1.2 with | .lit (.int i)=>i==p.2.2 | _=>false)
 | _=>false
noncomputable def isDT (gs:List (Str×GV)) (x:Str) (l:List (Str×List Str)):Bool:=match gs.lookup x with
 | some (.dict l')=>l'.length==l.length&&(l'.zip l).all fun p=>p.1.1==p.2.1&&(match p.1.2 with | .tup t=>t==p.2.2 | _=>false)
 | _=>false
noncomputable def isTI (gs:List (Str×GV)) (x:Str) (l:List Int):Bool:=match gs.lookup x with
 | some (.tup l')=>l'.length==l.length&&(l'.zip l).all fun p=>(match p.1 with | .int i=>i==p.2 | _=>false)
 | _=>false
noncomputable def isTS (gs:List (Str×GV)) (x:Str) (l:List Str):Bool:=match gs.lookup x with
 | some (.tup l')=>l'.length==l.length&&(l'.zip l).all fun p=>(match p.1 with | .str i=>i==p.2 | _=>false)
 | _=>false
noncomputable def offN:List Str:=["len","tuple","range","str"]
noncomputable def okTabs (gs:List (Str×GV)):Bool:=isDI gs "MEMBER_WORDS" memberW&&isDI gs "POWERS" powersT&&isDT gs "LATE_WORDS" lateW&&isTI gs "NOT_LEFT" notLeft&&isTS gs "ASSIGN_SIGNS" assignS&&isTS gs "UNARY_KEYS" unaryK&&isTI gs "OWN_PARTS" ownParts&&offN.all fun x=>!(gs.any fun p=>p.1==x)
noncomputable def endOk (p:Program):Bool:=match absStmts p ts0 p.main.body with | some T=>(T.gs.all fun x=>p.main.scope.names.lookup x.1==some .local)&&((okI T.gs&&okC T.gs)&&okTabs T.gs) | none=>false
theorem abs_ok:endOk prg=true:=by decide +kernel
noncomputable def tsEnd:TS:=(absStmts prg ts0 prg.main.body).getD ts0
theorem endOk.use {p:Program} {T:TS} (e:T=(absStmts p ts0 p.main.body).getD ts0) (h:endOk p=true):(absStmts p ts0 p.main.body=some T/\∀ x∈T.gs,p.main.scope.names.lookup x.1=some .local)/\(okI T.gs=true/\okC T.gs=true)/\okTabs T.gs=true:=by
 subst e
 unfold endOk at h
 revert h;refine gn (absStmts p ts0 p.main.body) fun T h=>?_
 induction T with
 | none=>injection h
 | some T=>
  rw [Bool.and_eq_true,Bool.and_eq_true,Bool.and_eq_true] at h
  refine ⟨⟨rfl,fun x hx=>?_⟩,h.2⟩
  have:=List.all_eq_true.mp h.1 x hx
  simpa using this
theorem abs_all:(absStmts prg ts0 prg.main.body=some tsEnd/\∀ x∈tsEnd.gs,prg.main.scope.names.lookup x.1=some .local)/\(okI tsEnd.gs=true/\okC tsEnd.gs=true)/\okTabs tsEnd.gs=true:=endOk.use rfl abs_ok
structure GL (w:World) (h:Heap) (mg mb:Str->Option Value) (lo:Addr):Prop where
 g:h.Ns mainGlobals mg
 b:h.Ns builtinsNs mb
 bm:∀ x:Str,x≠"__name__"->mb x=bootBuiltins x
 st:StOk h
 names:∀ x v,mg x=some v->x∈startupNames\/x∈tsEnd.gs.map (·.1)
 boot:∃ h0 mb0 mg0 c0 P0,BootLeft9 (opening prg) h0 mb0 mg0 c0 P0/\∀ b o,h0.get? b=some o->b≠mainNs->b≠cStatics->h.get? b=some o
 G:∀ p∈tsEnd.gs,GAt prg w h lo tsEnd.n mg p.1 p.2
 lob:sysModules<lo
theorem GL.keeps {w:World} {h h':Heap} {mg mb lo} (x:GL w h mg mb lo) (k:Kp h h'):GL w h' mg mb lo:=by
 refine ea4_1 x.boot fun h0 mb0 mg0 c0 y2=>?_;refine ea1_2 y2 fun P0 B kb=>?_;clear y2
 exact ⟨x.g.keeps k,x.b.keeps k,x.bm,x.st.keeps fun o e=>k _ _ e,x.names,⟨h0,mb0,mg0,c0,P0,B,fun b o e h1 h2=>k _ _ (kb _ _ e h1 h2)⟩,
  fun p hp=>(x.G p hp).keeps rfl (fun ξ ξ e=>e) (fun b o ξ e ξ=>k b o e) fun a ci la C=>C.keeps k,x.lob⟩
theorem lookup_local_bound {x:Str} (e:prg.main.scope.names.lookup x=some .local):x∈prg.boundNames:=by
 unfold Program.boundNames
 exact List.mem_map.mpr ⟨(x,.local),List.mem_filter.mpr ⟨lookup_mem e,rfl⟩,rfl⟩
theorem top_body (w:World) (s₀:Shared) (mb mg:Str->Option Value) (c₀ P₀:Addr) (B:BootLeft9 (opening prg) s₀.heap mb mg c₀ P₀) (hg₀:s₀.gens=#[]) (h:Heap) (tk:Nat) (c Pl F:Addr) (hM:h.Main mg c Pl #[])
 (k:Kp s₀.heap h) (hc:s₀.heap.objs.size<=c) (hP:s₀.heap.objs.size<=Pl) :
 wpAny (model prg w) (callerA.deeper (mainEnv prg c F)) (execs prg.main.body (mainEnv prg c F)) (fun ξ s'=>(TopEnd prg s₀ s'/\∃ mg mb lo,GL w s'.heap mg mb lo)/\s'.gens=#[]) (fun ξ ξ=>False) { s₀ with heap:=h,toks:=tk }:=by
 obtain ⟨s₀h,g0,d0,t0,os0⟩:=s₀
 cases hg₀
 obtain ⟨oc,hoc⟩:∃ o,h.get? c=some o:=by refine ea8_1 hM.code fun o vs file tf flags tg inF text z1=>?_;refine ea2_2 z1 fun tt op ho ξ=>?_;clear z1;exact ⟨_,ho⟩
 obtain ⟨oP,hoP⟩:∃ o,h.get? Pl=some o:=by refine ea8_1 hM.code fun o vs file tf flags tg inF text z1=>?_;refine ea2_1 z1 fun tt op y3=>?_;refine ea0_9 y3 fun ho hd h11 h2 h7 h9 h10 hop ξ=>?_;clear y3;clear z1;exact ⟨_,hop⟩
 have T0:TSt prg w ⟨s₀h,#[],d0,t0,os0⟩ mb c Pl (max c Pl+1) ts0 mg #[] h:=by
  refine ⟨hM,fun ξ ξ=>rfl,fun x v e=>.inl ?_,fun x hx=>?_,?_,⟨_,B.statics.keeps k,fun k v e=>by injection e⟩,fun ξ=>B.statics.keeps k,fun b o e ξ ξ=>k _ _ e,B.b.keeps k,B.builtins,?_,⟨hc,hP⟩,⟨B.g.lt,B.statics.lt,B.b.lt,?_⟩,⟨Nat.lt_succ_of_le (Nat.le_max_left ..),Nat.lt_succ_of_le (Nat.le_max_right ..),?_⟩,fun p hp=>nomatch hp⟩
  · apply Classical.byContradiction
    intro hn
    replace e:=(B.others x (fun hm=>hn hm))▸e
    injection e
  · exact (globalOf_ns B.g x).symm
  · refine ea1_1 B.name fun t e=>?_;exact ⟨_,t,e⟩
  · refine ea1_2 B.noPylong fun mm z1 ξ=>?_;refine ea3_2 z1 fun o es ep e r=>?_;clear z1;exact ⟨o,k _ _ e⟩
  · refine ea1_2 B.noPylong fun mm hn ξ=>?_;exact hn.lt
  · exact Nat.max_lt.mpr ⟨Heap.lt_size hoc,Heap.lt_size hoP⟩
 refine abs_stmts (s₀:=⟨s₀h,#[],d0,t0,os0⟩) ?_ rfl prg.main.body ts0 h tk mg #[] T0 abs_all.1.1 fun h' t' mg' ps' T=>⟨⟨⟨⟨mg',T.main.g,fun x v e=>(T.names x v e).imp id fun hm=>?_,T.laid⟩,?_,T.keep,rfl⟩,⟨mg',mb,_,T.main.g,T.bi,T.bm,T.st,T.names,⟨_,_,_,_,_,B,T.keep⟩,T.G,Nat.lt_of_lt_of_le (by refine ea1_2 B.noPylong fun mm hn ξ=>?_;exact hn.lt) T.sizeLo⟩⟩,rfl⟩
 · show callerA.depth+1<recursionLimit;decide +kernel
 · refine ea1_2 (List.mem_map.mp hm) fun p hp z1=>?_;subst z1
   exact lookup_local_bound (abs_all.1.2 p hp)
 · exact T.st
theorem absClass.gs {p:Program} {T T':TS} {C bs} (h:absClass p T C bs=some T'):∃ b base,baseOf bs=some b/\baseIs T b=some base/\T'.gs=(C.name,.cls base C.ms)::T.gs:=by
 unfold absClass at h
 split at h
 · induction hb:baseOf bs with
   | none=>replace h:=hb▸h;injection h
   | some b=>
    induction hx:baseIs T b with
    | none=>replace h:=hb▸h;dsimp only at h;replace h:=hx▸h;injection h
    | some base=>replace h:=hb▸h;dsimp only at h;replace h:=hx▸h;cases h;exact ⟨b,base,rfl,hx,rfl⟩
 · injection h
theorem absDef.gs {p:Program} {T T':TS} {m} (h:absDef p T m=some T'):T'.gs=(m.name,.fn m)::T.gs:=by
 unfold absDef at h
 split at h
 · cases h;rfl
 · injection h
theorem absAssign.gs {p:Program} {T T':TS} {x e} (h:absAssign p T x e=some T'):∀ y∈T.gs,y∈T'.gs:=by
 intro y hy
 unfold absAssign at h
 split at h
 · induction hv:exStr e with
   | none=>replace h:=hv▸h;injection h
   | some y=>
    replace h:=hv▸h
    dsimp only at h
    split at h
    · cases h;exact hy
    · injection h
 · split at h
   · induction hv:valE T.gs e with
     | none=>replace h:=hv▸h;injection h
     | some gv=>replace h:=hv▸h;cases h;exact List.mem_cons_of_mem _ hy
   · injection h
theorem absStmt.gs {p:Program} {T T':TS} {s} (h:absStmt p T s=some T'):(∀ y∈T.gs,y∈T'.gs)/\(∀ m,methOf s=some m->(m.name,GV.fn m)∈T'.gs)/\(methOf s=none->∀ C bs,classOf s=some (C,bs)->∃ base,(C.name,GV.cls base C.ms)∈T'.gs/\(bs=[]->base=.obj)):=by
 unfold absStmt at h
 induction ha:asgOf s with
 | some z=>
  replace h:=ha▸h
  refine ea2_1 (asgOf.use (x:=z.1) (e:=z.2) ha) fun p1 p2 z1=>?_;subst z1
  dsimp only at h
  exact ⟨absAssign.gs h,fun m hm=>(by injection hm),fun ξ C bs hc=>(by injection hc)⟩
 | none=>
  replace h:=ha▸h
  dsimp only at h
  induction hm:methOf s with
  | some m=>
   replace h:=hm▸h
   have e:=absDef.gs h
   exact ⟨fun y hy=>by refine qE e ?_;exact List.mem_cons_of_mem _ hy,fun m' hm'=>(by cases hm';refine qE e ?_;exact List.mem_cons_self ..),fun x=>(by injection x)⟩
  | none=>
   replace h:=hm▸h
   dsimp only at h
   induction hc:classOf s with
   | none=>replace h:=hc▸h;injection h
   | some z=>
    replace h:=hc▸h
    refine ea2_3 (absClass.gs h) fun b base h1 h2 e=>⟨fun y hy=>by refine qE e ?_;exact List.mem_cons_of_mem _ hy,fun m' hm'=>(by injection hm'),fun ξ C bs hz=>?_⟩
    cases hz
    refine ⟨base,by refine qE e ?_;exact List.mem_cons_self ..,fun hb=>?_⟩
    have h1:baseOf bs=some b:=h1
    replace h1:=hb▸h1
    cases h1
    cases h2
    rfl
theorem absStmts.cons {p:Program} {s:Stmt} {r:List Stmt} {T T':TS} (e:absStmts p T (s::r)=some T'):∃ T1,absStmt p T s=some T1/\absStmts p T1 r=some T':=by
 have e:(match absStmt p T s with | some T1=>absStmts p T1 r | none=>none)=some T':=e
 induction h:absStmt p T s with
 | none=>replace e:=h▸e;injection e
 | some T1=>replace e:=h▸e;exact ⟨T1,rfl,e⟩
theorem gs_mono {p:Program}:∀ (ss:List Stmt) (T T':TS),absStmts p T ss=some T'->∀ x∈T.gs,x∈T'.gs:=by
 intro ss
 induction ss with
 | nil=>intro T T' e x hx;cases e;exact hx
 | cons s r ih=>
  intro T T' e x hx
  exact ea1_2 (absStmts.cons e) fun T1 h1 h2=>ih T1 T' h2 x ((absStmt.gs h1).1 x hx)
theorem fn_mem {p:Program}:∀ (ss:List Stmt) (T T':TS),absStmts p T ss=some T'->∀ s∈ss,∀ m,methOf s=some m->(m.name,GV.fn m)∈T'.gs:=by
 intro ss
 induction ss with
 | nil=>intro T T' e s hs;cases hs
 | cons s0 r ih=>
  intro T T' e s hs m hm
  refine ea1_2 (absStmts.cons e) fun T1 h1 h2=>?_
  rcases List.mem_cons.mp hs with rfl | hs
  · exact gs_mono r T1 T' h2 _ ((absStmt.gs h1).2.1 m hm)
  · exact ih T1 T' h2 s hs m hm
theorem cls_mem {p:Program}:∀ (ss:List Stmt) (T T':TS),absStmts p T ss=some T'->∀ s∈ss,methOf s=none->∀ C bs,classOf s=some (C,bs)->∃ base,(C.name,GV.cls base C.ms)∈T'.gs/\(bs=[]->base=.obj):=by
 intro ss
 induction ss with
 | nil=>intro T T' e s hs;cases hs
 | cons s0 r ih=>
  intro T T' e s hs hm C bs hc
  refine ea1_2 (absStmts.cons e) fun T1 h1 h2=>?_
  rcases List.mem_cons.mp hs with rfl | hs
  · exact ea1_2 ((absStmt.gs h1).2.2 hm C bs hc) fun base g1 g2=>⟨base,gs_mono r T1 T' h2 _ g1,g2⟩
  · exact ih T1 T' h2 s hs hm C bs hc
end
section
set_option backward.match.sparseCases false
set_option tactic.hygienic true in
theorem tabC_use {gs:List (Str×GV)} {x b:Str} (o:okC gs=true) (h:(x,b)∈tabC):∃ ms,(x,GV.cls (.sub b false) ms)∈gs:=by
 have:=List.all_eq_true.mp o _ h
 dsimp only at this
 split at this
 · rename_i b' ms hl
   have e:b'=b:=by simpa using this
   subst e
   exact ⟨ms,mem_of_lookup hl⟩
 · injection this
theorem tabC_mem {x b:Str} (h:(x,b)∈tabC):∃ ms,(x,GV.cls (.sub b false) ms)∈tsEnd.gs:=tabC_use abs_all.2.1.2 h
noncomputable def gInt (x:Str):Option Int:=tabI.lookup x
set_option tactic.hygienic true in
theorem gInt_use {gs:List (Str×GV)} {x:Str} {i:Int} (o:okI gs=true) (h:gInt x=some i):(x,GV.lit (.int i))∈gs:=by
 have key:∀ l:List (Str×Int),(l.all fun p=>match gs.lookup p.1 with | some (.lit (.int i))=>i==p.2 | _=>false)=true->l.lookup x=some i->(x,GV.lit (.int i))∈gs:=by
  intro l
  induction l with
  | nil=>intro ξ h;injection h
  | cons p r ih=>
   obtain ⟨y,j⟩:=p
   intro ha h
   rw [List.all_cons,Bool.and_eq_true] at ha
   rw [List.lookup_cons] at h
   by_cases hx:x=y
   · subst hx
     rw [beq_self_eq_true] at h
     cases h
     have h1:=ha.1
     dsimp only at h1
     split at h1
     · rename_i i' hl
       have e:i'=i:=by simpa using h1
       replace hl:=e▸hl
       exact mem_of_lookup hl
     · injection h1
   · replace h:=(show (x==y)=false by simpa using hx)▸h
     exact ih ha.2 h
 exact key tabI o h
theorem gInt_mem {x:Str} {i:Int} (h:gInt x=some i):(x,GV.lit (.int i))∈tsEnd.gs:=gInt_use abs_all.2.1.1 h
end
section
set_option genCtorIdx true in
inductive V where
 | none
 | bool (b:Bool)
 | int (i:Int)
 | str (s:Str)
 | ref (a:Addr)
deriving DecidableEq,Inhabited
noncomputable def V.At:V->Value->Prop
 | .none,v=>v=.none
 | .bool b,v=>v=.bool b
 | .int i,v=>∃ t,v=.int i t
 | .str s,v=>∃ t,v=.str s t
 | .ref a,v=>v=.ref a
noncomputable def OptAt:Option V->Option Value->Prop
 | none,none=>True
 | some a,some v=>a.At v
 | _,_=>False
noncomputable def AllAt:List V->List Value->Prop
 | [],[]=>True
 | a::l,v::vs=>a.At v/\AllAt l vs
 | _,_=>False
noncomputable abbrev Loc:=List (Str×V)
noncomputable def Loc.get (m:Loc) (x:Str):Option V:=match m with
 | []=>none
 | (y,a)::r=>if x=y then some a else Loc.get r x
noncomputable def Loc.put (m:Loc) (x:Str) (a:V):Loc:=match m with
 | []=>[(x,a)]
 | (y,b)::r=>if x=y then (y,a)::r else (y,b)::Loc.put r x a
theorem Loc.get_put (m:Loc) (x:Str) (a:V) (z:Str):(m.put x a).get z=if z=x then some a else m.get z:=by
 induction m with
 | nil=>rfl
 | cons p r ih=>
  obtain ⟨y,b⟩:=p
  unfold Loc.put
  by_cases hx:x=y
  · refine qE (if_pos hx) ?_;subst hx
    unfold Loc.get
    by_cases hz:z=x
    · exact qE (if_pos hz) (qE (if_pos hz) rfl)
    · exact qE (if_neg hz) (qE (if_neg hz) (qE (if_neg hz) rfl))
  · refine qE (if_neg hx) ?_
    unfold Loc.get
    by_cases hz:z=y
    · exact qE (if_pos hz) (qE (if_neg (by rintro rfl;exact hx hz)) (qE (if_pos hz) rfl))
    · refine qE (if_neg hz) (qE ih ?_)
      by_cases hzx:z=x
      · exact qE (if_pos hzx) (qE (if_pos hzx) rfl)
      · exact qE (if_neg hzx) (qE (if_neg hzx) (qE (if_neg hz) rfl))
noncomputable def LocAt (m:Loc) (mv:Str->Option Value):Prop:=∀ x a,m.get x=some a->∃ v,mv x=some v/\a.At v
theorem OptAt.some {a:V} {o:Option Value} (h:OptAt (some a) o):∃ v,o=some v/\a.At v:=by induction o with | none=>exact h.elim | some v=>exact ⟨v,rfl,h⟩
theorem LocAt.of {m:Loc} {mv:Str->Option Value} (h:∀ x,OptAt (m.get x) (mv x)):LocAt m mv:=fun x a e=>by have:=h x;replace this:=e▸this;exact this.some
theorem LocAt.none {mv:Str->Option Value}:LocAt [] mv:=fun x a e=>by injection e
set_option tactic.hygienic true in
theorem Loc.get_take {x:Str} {a:V}:∀ {m:Loc} (j:Nat),Loc.get (List.take j m) x=some a->m.get x=some a
 | [],0,e=>e
 | [],_+1,e=>e
 | _::_,0,e=>by injection e
 | (y,b)::m,j+1,e=>by
  have e:(if x=y then Option.some b else Loc.get (List.take j m) x)=Option.some a:=e
  show (if x=y then Option.some b else Loc.get m x)=_
  split at e
  · rename_i h;refine qE (if_pos h) ?_;exact e
  · rename_i h;refine qE (if_neg h) ?_;exact Loc.get_take (m:=m) j e
noncomputable def FrameAt (h:Heap) (L:Addr) (m:Loc):Prop:=∃ mv,h.Ns L mv/\LocAt m mv
set_option genCtorIdx true in
inductive Cell where
 | list (l:List V)
 | tup (l:List V)
 | ns (m:Loc)
 | dict (m:Loc)
 | idict (m:List (Int×V))
 | inst (cls:Str) (d:Addr)
 | range (n:Nat)
noncomputable def KVAt {κ:Type}:List (κ×V)->List (κ×Value)->Prop
 | [],[]=>True
 | p::l,q::r=>p.1=q.1/\p.2.At q.2/\KVAt l r
 | _,_=>False
structure Kc where
 w:World
 h0:Heap
 mg:Str->Option Value
 mb:Str->Option Value
 lo:Addr
 d:Drawn
 os:OsState
 gl:GL w h0 mg mb lo
noncomputable def CellAt (K:Kc) (h:Heap) (a:Addr):Cell->Prop
 | .list l=>∃ vs n,h.get? a=some { cls:=.type "list",data:=.seq vs n }/\AllAt l vs.toList
 | .tup l=>∃ vs n,h.get? a=some { cls:=.type "tuple",data:=.seq vs n }/\AllAt l vs.toList
 | .ns m=>∃ mv,h.Ns1 a mv/\∀ x,OptAt (m.get x) (mv x)
 | .dict m=>∃ kvs,h.DictOf (PySem.strKind prg K.w) a kvs/\KVAt m kvs
 | .idict m=>∃ kvs,h.DictOf (intKind prg K.w) a kvs/\KVAt m kvs
 | .inst cls d=>∃ C,K.mg cls=some (.ref C)/\h.get? a=some { cls:=.ref C,dict:=some d,data:=.plain }
 | .range n=>∃ t u v,IsRange h a 0 n 1 t u v
structure Sg where
 M:Addr->Option Cell
 F:Addr->Option Cell
deriving Inhabited
set_option genCtorIdx true in
inductive Fr where
 | loc (m:Loc)
 | obj (o:Obj)
noncomputable def FrOk (h:Heap) (a:Addr):Fr->Prop
 | .loc m=>FrameAt h a m
 | .obj o=>h.get? a=some o
noncomputable abbrev Fs:=List (Addr×Fr)
structure St (K:Kc) (σ:Sg) (L:Addr) (m:Loc) (fs:Fs) (h:Heap):Prop where
 base:∀ b o,K.h0.get? b=some o->h.get? b=some o/\σ.M b=none/\σ.F b=none
 fz:∀ b c,σ.F b=some c->CellAt K h b c/\σ.M b=none
 cell:∀ b c,σ.M b=some c->CellAt K h b c
 fr:FrameAt h L m/\σ.M L=none/\σ.F L=none/\K.h0.get? L=none
 frs:∀ p∈fs,FrOk h p.1 p.2/\σ.M p.1=none/\σ.F p.1=none/\K.h0.get? p.1=none/\p.1≠L
 nd:fs.Pairwise fun p q=>p.1≠q.1
noncomputable def upd {α:Type} (M:Addr->Option α) (a:Addr) (c:α):Addr->Option α:=fun b=>if b=a then some c else M b
theorem upd_same {α:Type} {M:Addr->Option α} {a:Addr} {c:α}:upd M a c a=some c:=if_pos rfl
theorem upd_other {α:Type} {M:Addr->Option α} {a b:Addr} {c:α} (h:b≠a):upd M a c b=M b:=if_neg h
noncomputable def drop {α:Type} (M:Addr->Option α) (a:Addr):Addr->Option α:=fun b=>if b=a then none else M b
theorem drop_same {α:Type} {M:Addr->Option α} {a:Addr}:drop M a a=none:=if_pos rfl
theorem drop_other {α:Type} {M:Addr->Option α} {a b:Addr} (h:b≠a):drop M a b=M b:=if_neg h
noncomputable def Sg.set (σ:Sg) (a:Addr) (c:Cell):Sg:=⟨upd σ.M a c,σ.F⟩
noncomputable def Sg.fz (σ:Sg) (a:Addr) (c:Cell):Sg:=⟨σ.M,upd σ.F a c⟩
noncomputable def Sg.ice (σ:Sg) (a:Addr) (c:Cell):Sg:=⟨drop σ.M a,upd σ.F a c⟩
section
variable {K:Kc} {σ:Sg} {L:Addr} {m:Loc} {fs:Fs} {h h':Heap}
theorem FrameAt.at {L m} (x:FrameAt h L m) (k:∀ o,h.get? L=some o->h'.get? L=some o):FrameAt h' L m:=let ⟨mv,n,r⟩:=x;⟨mv,n.at k,r⟩
theorem FrameAt.ex {L m} (x:FrameAt h L m):∃ o,h.get? L=some o:=let ⟨mv,⟨o,es,ep,e,r⟩,_⟩:=x;⟨o,e⟩
theorem FrOk.at {a:Addr} {c:Fr} (x:FrOk h a c) (k:∀ o,h.get? a=some o->h'.get? a=some o):FrOk h' a c:=by
 induction c with
 | loc m=>exact FrameAt.at x k
 | obj o=>exact k _ x
theorem FrOk.ex {a:Addr} {c:Fr} (x:FrOk h a c):∃ o,h.get? a=some o:=by
 induction c with
 | loc m=>exact FrameAt.ex x
 | obj o=>exact ⟨_,x⟩
theorem CellAt.at {a c} (x:CellAt K h a c) (k:∀ o,h.get? a=some o->h'.get? a=some o):CellAt K h' a c:=by
 induction c with
 | list l=>refine ea2_2 x fun vs n e r=>?_;clear x;exact ⟨vs,n,k _ e,r⟩
 | tup l=>refine ea2_2 x fun vs n e r=>?_;clear x;exact ⟨vs,n,k _ e,r⟩
 | ns m=>refine ea1_2 x fun mv n r=>?_;clear x;exact ⟨mv,n.at k,r⟩
 | dict m=>refine ea1_2 x fun kvs z1 q=>?_;clear x;refine ea3_2 z1 fun o es ep e r=>?_;clear z1;exact ⟨kvs,⟨o,es,ep,k _ e,r⟩,q⟩
 | idict m=>refine ea1_2 x fun kvs z1 q=>?_;clear x;refine ea3_2 z1 fun o es ep e r=>?_;clear z1;exact ⟨kvs,⟨o,es,ep,k _ e,r⟩,q⟩
 | inst cls d=>refine ea1_2 x fun C e1 e2=>?_;clear x;exact ⟨C,e1,k _ e2⟩
 | range n=>refine ea3_1 x fun t u v e=>?_;clear x;exact ⟨t,u,v,k _ e⟩
theorem CellAt.ex {a c} (x:CellAt K h a c):∃ o,h.get? a=some o:=by
 induction c with
 | list l=>refine ea2_2 x fun vs n e r=>?_;clear x;exact ⟨_,e⟩
 | tup l=>refine ea2_2 x fun vs n e r=>?_;clear x;exact ⟨_,e⟩
 | ns m=>refine ea1_2 x fun mv z1 q=>?_;clear x;refine ea3_2 z1 fun o es ep e r=>?_;clear z1;exact ⟨_,e⟩
 | dict m=>refine ea1_2 x fun kvs z1 q=>?_;clear x;refine ea3_2 z1 fun o es ep e r=>?_;clear z1;exact ⟨_,e⟩
 | idict m=>refine ea1_2 x fun kvs z1 q=>?_;clear x;refine ea3_2 z1 fun o es ep e r=>?_;clear z1;exact ⟨_,e⟩
 | inst cls d=>refine ea1_2 x fun C e1 e2=>?_;clear x;exact ⟨_,e2⟩
 | range n=>refine ea3_1 x fun t u v e=>?_;clear x;exact ⟨_,e⟩
theorem St.h0 (s:St K σ L m fs h):Kp K.h0 h:=fun b o e=>(s.base _ _ e).1
theorem St.gl (s:St K σ L m fs h):GL K.w h K.mg K.mb K.lo:=K.gl.keeps s.h0
theorem St.keeps (s:St K σ L m fs h) (k:Kp h h'):St K σ L m fs h':=
 ⟨fun b o e=>⟨k _ _ (s.base _ _ e).1,(s.base _ _ e).2⟩,fun b c e=>⟨(s.fz _ _ e).1.at fun o e=>k _ _ e,(s.fz _ _ e).2⟩,fun b c e=>(s.cell _ _ e).at fun o e=>k _ _ e,
  ⟨s.fr.1.at fun o e=>k _ _ e,s.fr.2⟩,fun p hp=>⟨(s.frs p hp).1.at fun o e=>k _ _ e,(s.frs p hp).2⟩,s.nd⟩
theorem St.frame (s:St K σ L m fs h) {m'} (S:Heap.SameBut L h h') (x:FrameAt h' L m'):St K σ L m' fs h':=by
 have k:∀ b o,b≠L->h.get? b=some o->h'.get? b=some o:=fun b o hb e=>(S.2 _ hb).trans e
 refine ⟨fun b o e=>⟨k _ _ ?_ (s.base _ _ e).1,(s.base _ _ e).2⟩,fun b c e=>⟨(s.fz _ _ e).1.at fun o e'=>k _ _ ?_ e',(s.fz _ _ e).2⟩,fun b c e=>(s.cell _ _ e).at fun o e'=>k _ _ ?_ e',⟨x,s.fr.2⟩,
  fun p hp=>⟨(s.frs p hp).1.at fun o e=>k _ _ (s.frs p hp).2.2.2.2 e,(s.frs p hp).2⟩,s.nd⟩
 · rintro rfl;replace e:=s.fr.2.2.2▸e;injection e
 · rintro rfl;replace e:=s.fr.2.2.1▸e;injection e
 · rintro rfl;replace e:=s.fr.2.1▸e;injection e
theorem St.short (s:St K σ L m fs h) (j:Nat):St K σ L (m.take j) fs h:=⟨s.base,s.fz,s.cell,⟨let ⟨mv,n,r⟩:=s.fr.1;⟨mv,n,fun x a e=>r x a (Loc.get_take j e)⟩,s.fr.2⟩,s.frs,s.nd⟩
theorem St.set (s:St K σ L m fs h) {a:Addr} {c c':Cell} (hc:σ.M a=some c) (S:∀ b o,b≠a->h.get? b=some o->h'.get? b=some o) (x:CellAt K h' a c'):St K (σ.set a c') L m fs h':=by
 refine ⟨fun b o e=>?_,fun b d e=>?_,fun b d e=>?_,⟨s.fr.1.at fun o e=>S _ _ ?_ e,?_,s.fr.2.2⟩,fun p hp=>⟨(s.frs p hp).1.at fun o e=>S _ _ ?_ e,?_,(s.frs p hp).2.2⟩,s.nd⟩
 · have hb:b≠a:=by rintro rfl;replace hc:=(s.base _ _ e).2.1▸hc;injection hc
   exact ⟨S _ _ hb (s.base _ _ e).1,(upd_other hb).trans (s.base _ _ e).2.1,(s.base _ _ e).2.2⟩
 · have hb:b≠a:=by rintro rfl;replace hc:=(s.fz _ _ e).2▸hc;injection hc
   exact ⟨(s.fz _ _ e).1.at fun o e=>S _ _ hb e,(upd_other hb).trans (s.fz _ _ e).2⟩
 · by_cases hb:b=a
   · subst hb;replace e:=(show (σ.set b c').M b=some c' from upd_same)▸e;cases e;exact x
   · exact (s.cell _ _ ((upd_other hb).symm.trans e)).at fun o e=>S _ _ hb e
 · rintro rfl;replace hc:=s.fr.2.1▸hc;injection hc
 · exact (upd_other (by rintro rfl;replace hc:=s.fr.2.1▸hc;injection hc)).trans s.fr.2.1
 · rintro e;replace hc:=(s.frs p hp).2.1▸e.symm▸hc;injection hc
 · exact (upd_other (by rintro e;replace hc:=(s.frs p hp).2.1▸e.symm▸hc;injection hc)).trans (s.frs p hp).2.1
theorem St.fresh (s:St K σ L m fs h) {a:Addr} (ha:h.get? a=none):σ.M a=none/\σ.F a=none/\a≠L/\(∀ p∈fs,p.1≠a)/\K.h0.get? a=none:=by
 refine ⟨?_,?_,?_,?_,?_⟩
 · induction e:σ.M a with
   | none=>rfl
   | some c=>refine ea1_1 ((s.cell _ _ e).ex) fun o e2=>?_;replace e2:=ha▸e2;injection e2
 · induction e:σ.F a with
   | none=>rfl
   | some o=>refine ea1_1 ((s.fz _ _ e).1.ex) fun o e2=>?_;replace e2:=ha▸e2;injection e2
 · rintro rfl;refine ea1_1 s.fr.1.ex fun o e=>?_;replace e:=ha▸e;injection e
 · rintro p hp rfl;refine ea1_1 ((s.frs p hp).1.ex) fun o e=>?_;replace e:=ha▸e;injection e
 · induction e:K.h0.get? a with
   | none=>rfl
   | some o=>have:=s.h0 _ _ e;replace this:=ha▸this;injection this
theorem St.new (s:St K σ L m fs h) {a:Addr} {c:Cell} (ha:h.get? a=none) (k:Kp h h') (x:CellAt K h' a c):St K (σ.set a c) L m fs h':=by
 refine ea0_5 (s.fresh ha) fun f1 f2 f3 f4 f5=>⟨fun b o e=>?_,fun b d e=>?_,fun b d e=>?_,⟨s.fr.1.at fun o e=>k _ _ e,(upd_other f3.symm).trans s.fr.2.1,s.fr.2.2⟩,fun p hp=>⟨(s.frs p hp).1.at fun o e=>k _ _ e,(upd_other (f4 p hp)).trans (s.frs p hp).2.1,(s.frs p hp).2.2⟩,s.nd⟩
 · have hb:b≠a:=by rintro rfl;replace e:=f5▸e;injection e
   exact ⟨k _ _ (s.base _ _ e).1,(upd_other hb).trans (s.base _ _ e).2.1,(s.base _ _ e).2.2⟩
 · have hb:b≠a:=by rintro rfl;have e:σ.F b=some d:=e;replace e:=f2▸e;injection e
   exact ⟨(s.fz _ _ e).1.at fun o e=>k _ _ e,(upd_other hb).trans (s.fz _ _ e).2⟩
 · by_cases hb:b=a
   · subst hb;replace e:=(show (σ.set b c).M b=some c from upd_same)▸e;cases e;exact x
   · exact (s.cell _ _ ((upd_other hb).symm.trans e)).at fun o e=>k _ _ e
theorem St.newF (s:St K σ L m fs h) {a:Addr} {c:Cell} (ha:h.get? a=none) (k:Kp h h') (x:CellAt K h' a c):St K (σ.fz a c) L m fs h':=by
 refine ea0_5 (s.fresh ha) fun f1 f2 f3 f4 f5=>⟨fun b o e=>?_,fun b d e=>?_,fun b d e=>(s.cell _ _ e).at fun o e=>k _ _ e,⟨s.fr.1.at fun o e=>k _ _ e,s.fr.2.1,(upd_other f3.symm).trans s.fr.2.2.1,s.fr.2.2.2⟩,fun p hp=>⟨(s.frs p hp).1.at fun o e=>k _ _ e,(s.frs p hp).2.1,(upd_other (f4 p hp)).trans (s.frs p hp).2.2.1,(s.frs p hp).2.2.2⟩,s.nd⟩
 · have hb:b≠a:=by rintro rfl;replace e:=f5▸e;injection e
   exact ⟨k _ _ (s.base _ _ e).1,(s.base _ _ e).2.1,(upd_other hb).trans (s.base _ _ e).2.2⟩
 · by_cases hb:b=a
   · subst hb;replace e:=(show (σ.fz b c).F b=some c from upd_same)▸e;cases e;exact ⟨x,f1⟩
   · have e:=(upd_other hb).symm.trans e
     exact ⟨(s.fz _ _ e).1.at fun o e=>k _ _ e,(s.fz _ _ e).2⟩
theorem St.ice (s:St K σ L m fs h) {a:Addr} {c:Cell} (hc:σ.M a=some c):St K (σ.ice a c) L m fs h:=by
 have aL:L≠a:=by rintro rfl;replace hc:=s.fr.2.1▸hc;injection hc
 have afs:∀ p∈fs,p.1≠a:=by rintro p hp rfl;replace hc:=(s.frs p hp).2.1▸hc;injection hc
 refine ⟨fun b o e=>?_,fun b d e=>?_,fun b d e=>?_,⟨s.fr.1,(drop_other aL).trans s.fr.2.1,(upd_other aL).trans s.fr.2.2.1,s.fr.2.2.2⟩,fun p hp=>⟨(s.frs p hp).1,(drop_other (afs p hp)).trans (s.frs p hp).2.1,(upd_other (afs p hp)).trans (s.frs p hp).2.2.1,(s.frs p hp).2.2.2⟩,s.nd⟩
 · have hb:b≠a:=by rintro rfl;replace hc:=(s.base _ _ e).2.1▸hc;injection hc
   exact ⟨(s.base _ _ e).1,(drop_other hb).trans (s.base _ _ e).2.1,(upd_other hb).trans (s.base _ _ e).2.2⟩
 · by_cases hb:b=a
   · subst hb;replace e:=(show (σ.ice b c).F b=some c from upd_same)▸e;cases e;exact ⟨s.cell _ _ hc,drop_same⟩
   · have e:=(upd_other hb).symm.trans e
     exact ⟨(s.fz _ _ e).1,(drop_other hb).trans (s.fz _ _ e).2⟩
 · by_cases hb:b=a
   · subst hb;replace e:=(show (σ.ice b c).M b=none from drop_same)▸e;injection e
   · exact s.cell _ _ ((drop_other hb).symm.trans e)
theorem St.push (s:St K σ L m fs h) {L':Addr} {m':Loc} (ha:h.get? L'=none) (k:Kp h h') (x:FrameAt h' L' m'):St K σ L' m' ((L,.loc m)::fs) h':=by
 refine ea0_5 (s.fresh ha) fun f1 f2 f3 f4 f5=>?_
 have s':=s.keeps k
 refine ⟨s'.base,s'.fz,s'.cell,⟨x,f1,f2,f5⟩,fun p hp=>?_,List.pairwise_cons.mpr ⟨fun p hp=>(s.frs p hp).2.2.2.2.symm,s.nd⟩⟩
 rcases List.mem_cons.mp hp with rfl | hp
 · exact ⟨s'.fr.1,s.fr.2.1,s.fr.2.2.1,s.fr.2.2.2,f3.symm⟩
 · exact ⟨(s'.frs p hp).1,(s.frs p hp).2.1,(s.frs p hp).2.2.1,(s.frs p hp).2.2.2.1,f4 p hp⟩
theorem St.pop {L' m'} (s:St K σ L' m' ((L,.loc m)::fs) h):St K σ L m fs h:=by
 have x:=s.frs (L,.loc m) (List.mem_cons_self ..)
 refine ⟨s.base,s.fz,s.cell,⟨x.1,x.2.1,x.2.2.1,x.2.2.2.1⟩,fun p hp=>?_,(List.pairwise_cons.mp s.nd).2⟩
 have y:=s.frs p (List.mem_cons_of_mem _ hp)
 exact ⟨y.1,y.2.1,y.2.2.1,y.2.2.2.1,((List.pairwise_cons.mp s.nd).1 p hp).symm⟩
theorem St.hold (s:St K σ L m fs h) {a:Addr} {o:Obj} (ha:h.get? a=none) (k:Kp h h') (x:h'.get? a=some o):St K σ L m ((a,.obj o)::fs) h':=by
 refine ea0_5 (s.fresh ha) fun f1 f2 f3 f4 f5=>?_
 have s':=s.keeps k
 refine ⟨s'.base,s'.fz,s'.cell,s'.fr,fun p hp=>?_,List.pairwise_cons.mpr ⟨fun p hp e=>f4 p hp e.symm,s.nd⟩⟩
 rcases List.mem_cons.mp hp with rfl | hp
 · exact ⟨x,f1,f2,f5,f3⟩
 · exact s'.frs p hp
theorem St.unhold {p} (s:St K σ L m (p::fs) h):St K σ L m fs h:=
 ⟨s.base,s.fz,s.cell,s.fr,fun q hq=>s.frs q (List.mem_cons_of_mem _ hq),(List.pairwise_cons.mp s.nd).2⟩
theorem St.held (s:St K σ L m ((a,.obj o)::fs) h) {o':Obj} (S:∀ b x,b≠a->h.get? b=some x->h'.get? b=some x) (x:h'.get? a=some o'):St K σ L m ((a,.obj o')::fs) h':=by
 have y:=s.frs (a,.obj o) (List.mem_cons_self ..)
 have nb:∀ b,K.h0.get? b≠none->b≠a:=fun b hb e=>hb (e▸y.2.2.2.1)
 refine ⟨fun b o e=>⟨S _ _ ?_ (s.base _ _ e).1,(s.base _ _ e).2⟩,fun b c e=>⟨(s.fz _ _ e).1.at fun o e'=>S _ _ ?_ e',(s.fz _ _ e).2⟩,fun b c e=>(s.cell _ _ e).at fun o e'=>S _ _ ?_ e',⟨s.fr.1.at fun o e=>S _ _ y.2.2.2.2.symm e,s.fr.2⟩,fun p hp=>?_,List.pairwise_cons.mpr ⟨(List.pairwise_cons.mp s.nd).1,(List.pairwise_cons.mp s.nd).2⟩⟩
 · exact nb _ (by refine qE e ?_;simp)
 · rintro rfl;have:=y.2.2.1;simp only at this;replace e:=this▸e;injection e
 · rintro rfl;have:=y.2.1;simp only at this;replace e:=this▸e;injection e
 · rcases List.mem_cons.mp hp with rfl | hp
   · exact ⟨x,y.2⟩
   · have z:=s.frs p (List.mem_cons_of_mem _ hp)
     exact ⟨z.1.at fun o e=>S _ _ ((List.pairwise_cons.mp s.nd).1 p hp).symm e,z.2⟩
theorem St.unheld {a:Addr} {o:Obj} (s:St K σ L m ((a,.obj o)::fs) h) (S:∀ b x,b≠a->h.get? b=some x->h'.get? b=some x):St K σ L m fs h':=by
 have y:=s.frs (a,.obj o) (List.mem_cons_self ..)
 have nb:∀ b,K.h0.get? b≠none->b≠a:=fun b hb e=>hb (e▸y.2.2.2.1)
 refine ⟨fun b o e=>⟨S _ _ ?_ (s.base _ _ e).1,(s.base _ _ e).2⟩,fun b c e=>⟨(s.fz _ _ e).1.at fun o e'=>S _ _ ?_ e',(s.fz _ _ e).2⟩,fun b c e=>(s.cell _ _ e).at fun o e'=>S _ _ ?_ e',⟨s.fr.1.at fun o e=>S _ _ y.2.2.2.2.symm e,s.fr.2⟩,fun p hp=>?_,(List.pairwise_cons.mp s.nd).2⟩
 · exact nb _ (by refine qE e ?_;simp)
 · rintro rfl;have:=y.2.2.1;simp only at this;replace e:=this▸e;injection e
 · rintro rfl;have:=y.2.1;simp only at this;replace e:=this▸e;injection e
 · have z:=s.frs p (List.mem_cons_of_mem _ hp)
   exact ⟨z.1.at fun o e=>S _ _ ((List.pairwise_cons.mp s.nd).1 p hp).symm e,z.2⟩
end
theorem kc_ne:Nonempty Kc:=by
 refine ea1_1 (boot9 w0).1 fun s₀ hs₀=>?_
 obtain ⟨⟨mb,mg,c₀,P₀,B⟩,hg₀⟩:=(boot9 w0).2 s₀ hs₀
 obtain ⟨n,t,s,hr,ht,⟨Z,mg',mb',lo,g⟩,hg,hl⟩:=run_through (p:=prg) (w:=w0) (t:=(topStub prg).cur) (P:=fun s'=>TopEnd prg s₀ s'/\∃ mg mb lo,GL w0 s'.heap mg mb lo) (AfterImport.life hs₀)
  (wpAny_mono (wpAny_topStub (Z:=fun s'=>(TopEnd prg s₀ s'/\∃ mg mb lo,GL w0 s'.heap mg mb lo)/\s'.gens=#[]) B rfl rfl (top_body w0 s₀ mb mg c₀ P₀ B hg₀)) (fun ξ ξ z=>⟨z.1,z.2.1,z.2.2⟩) fun ξ ξ z=>z)
 exact ⟨⟨w0,s.heap,mg',mb',lo,s.drawn,s.os,g⟩⟩
noncomputable def kc0:Kc:=Classical.choice kc_ne
end
section
structure Fe (env:Env) (sc:Scope) (L:Addr):Prop where
 scope:env.scope=sc
 loc:env.locals=L
 glo:env.globals=mainGlobals
 bui:env.builtins=builtinsNs
 kind:sc.kind=.function
 dbg:sc.names.lookup ("__debug__":Str)=none
noncomputable def okFn (sc:Scope) (names:List Str):Bool:=sc.names.all (fun x=>x.2 != .cell)&&!sc.isCoroutine&&!sc.isGenerator&&(sc.kind==.function)&&names.all (fun x=>sc.names.lookup x==some .local)&&(sc.names.lookup ("__debug__":Str)==none)
noncomputable def nodupS:List Str->Bool
 | []=>true
 | x::r=>!(r.any fun y=>y==x)&&nodupS r
theorem nodupS_notin {x:Str} {r:List Str} (h:(!(r.any fun y=>y==x))=true):x ∉ r:=fun hm=>by
 rw [Bool.not_eq_true'] at h
 exact List.any_eq_false.mp h x hm (by simp)
theorem zip_get:∀ {names:List Str} {as:List V} {vs:List Value},nodupS names=true->AllAt as vs->names.length=vs.length->∀ x,OptAt (Loc.get (names.zip as) x) ((names.zip vs).lookup x)
 | [],[],[],_,_,_=>fun x=>trivial
 | [],_::_,_::_,_,_,e=>by simp at e
 | n::ns,[],[],_,_,e=>by simp at e
 | n::ns,a::as,v::vs,hn,ha,e=>fun x=>by
  rw [nodupS,Bool.and_eq_true] at hn
  refine qE List.zip_cons_cons (qE List.zip_cons_cons (qE List.lookup_cons ?_))
  unfold Loc.get
  by_cases hx:x=n
  · subst hx;rw [if_pos rfl,beq_self_eq_true];exact ha.1
  · refine qE (if_neg hx) (qE (show (x==n)=false by simpa using hx) ?_)
    exact zip_get hn.2 ha.2 (by simpa using e) x
 | _,[],_::_,_,ha,_=>ha.elim
 | _,_::_,[],_,ha,_=>ha.elim
theorem zip_keys_nodup:∀ {names:List Str} {vs:List Value},nodupS names=true->((names.zip vs).map (·.1)).Nodup
 | [],_,_=>by simp
 | _::_,[],_=>by simp
 | n::ns,v::vs,hn=>by
  rw [nodupS,Bool.and_eq_true] at hn
  rw [List.zip_cons_cons,List.map_cons,List.nodup_cons]
  refine ⟨fun hm=>?_,zip_keys_nodup hn.2⟩
  refine ea1_2 (List.mem_map.mp hm) fun p hp e=>?_
  have hz:=(List.of_mem_zip (a:=p.1) (b:=p.2) hp).1
  replace hz:=(show p.1=n from e)▸hz
  exact nodupS_notin hn.1 hz
theorem lookup_reverse {l:List (Str×Value)} (hn:(l.map (·.1)).Nodup) (x:Str):l.reverse.lookup x=l.lookup x:=by
 induction l with
 | nil=>rfl
 | cons p r ih=>
  obtain ⟨y,v⟩:=p
  rw [List.map_cons,List.nodup_cons] at hn
  refine qE List.reverse_cons (qE List.lookup_append (qE (ih hn.2) (qE List.lookup_cons (qE List.lookup_cons ?_))))
  by_cases hx:x=y
  · subst hx
    have:r.lookup x=none:=by
     rw [List.lookup_eq_none_iff]
     rintro ⟨z,w⟩ hz
     rw [bne_iff_ne]
     rintro rfl
     exact hn.1 (List.mem_map.mpr ⟨_,hz,rfl⟩)
    rw [this,beq_self_eq_true]
    rfl
  · refine qE (show (x==y)=false by simpa using hx) ?_
    cases r.lookup x <;> rfl
section
variable {K:Kc} {σ:Sg} {L:Addr} {m:Loc} {fs:Fs} {h:Heap} {t:Nat} {A:Around} {E:VP}
theorem GL.noLimit {w mg mb lo} (g:GL w h mg mb lo):h.NoLimit:=g.st.noLimit
theorem FnAt.ks {lo f name qual params body sc} {h':Heap} (x:FnAt h lo f name qual params body sc) (k:Kp h h'):FnAt h' lo f name qual params body sc:=x.keeps fun b o ξ e ξ=>k b o e
theorem code_fn (st:St K σ L m fs h) {lo f name qual params body sc} (Fn:FnAt K.h0 lo f name qual params body sc) (hroom:A.depth<recursionLimit) {names:List Str} {as:List V} {vs:List Value} (hv:AllAt as vs)
 (hdef:params.defaults=[]) (hok:okFn sc names=true) (hnd:nodupS names=true) (hlen:names.length=vs.length)
 (hbind:∀ pm code doc,bindArgs (defFd name qual params body sc mainGlobals .none .none none pm code doc) ⟨vs,[]⟩=pure (names.zip vs)) {R:Result->Shared->Prop}
 (q:∀ L' h' t' env,Fe env sc L'->St K σ L' (names.zip as) ((L,.loc m)::fs) h' →
  wpAny (model prg K.w) (A.deeper env) (execs body env) (fun fl s'=>R (.ok (.ret (match fl with | .ret v=>v | _=>.none))) s') (fun ξ ξ=>False) ⟨h',#[],K.d,t',K.os⟩) :
 codeAny (model prg K.w) A (.call (.ref f) ⟨vs,[]⟩) R ⟨h,#[],K.d,t,K.os⟩:=by
 refine ea0_2 ((Fn.ks st.h0).ex) fun lf z1=>?_;refine ea6_1 z1 fun dV dvs pm code doc P' y29=>?_;refine ea0_8 y29 fun lc lP e c D R' I T=>?_;clear y29;clear z1
 have hd:dV=.none:=by
  rcases D with d | ⟨hne,r⟩
  · exact d.2
  · replace c:=hdef▸c
    induction dvs using List.casesOn with
    | nil=>exact (hne rfl).elim
    | cons _ _=>exact c.elim
 subst hd
 simp only [okFn,Bool.and_eq_true,Bool.not_eq_true',beq_iff_eq] at hok
 refine ea0_2 hok fun z1 h6=>?_;clear hok;refine ea0_2 z1 fun z2 h5=>?_;clear z1;refine ea0_2 z2 fun z3 h4=>?_;clear z2;refine ea0_2 z3 fun z4 h3=>?_;clear z3;refine ea0_2 z4 fun h1 h2=>?_;clear z4
 refine codeAny_call_plain (o:=_) hroom e rfl st.gl.noLimit R' rfl (hbind _ _ _) (fun x hx=>?_) (fun x hx=>?_) (fun h0 hns k=>?_) h2 h3 h4
 · have:=List.all_eq_true.mp h1 x hx
   simpa using this
 · have:=List.all_eq_true.mp h5 x.1 (List.of_mem_zip (a:=x.1) (b:=x.2) hx).1
   show sc.names.lookup x.1=some .local
   simpa using this
 · refine wpAny_mono (q h.objs.size h0 _ _ ⟨rfl,rfl,rfl,rfl,h4,h6⟩ (st.push (Heap.get?_none_of_le (Nat.le_refl _)) k ⟨_,hns,.of fun x=>?_⟩)) (fun fl s' z=>?_) (fun ξ ξ z=>z.elim)
   · rw [lookup_reverse (zip_keys_nodup hnd)]
     exact zip_get hnd hv hlen x
   · cases fl <;> exact z
end
end
section
set_option backward.match.sparseCases false
noncomputable def Room (A:Around) (D:Nat):Prop:=A.depth+D<recursionLimit/\A.units+8 * D+100<cLine/\A.handled=none
structure Wp {α β:Type} (R:β->α->Prop) (K:Kc) (D:Nat) (x:List Value->Sem α) (as:List V) (k:β->Sg->Prop) (σ:Sg):Prop where
 ok:∀ {A:Around} {E:VP} {L m fs h t vs} {Q:α->Shared->Prop},Room A D->St K σ L m fs h->AllAt as vs →
  (∀ c u σ' h' t',R c u->k c σ'->St K σ' L m fs h'->Q u ⟨h',#[],K.d,t',K.os⟩)->wpAny (model prg K.w) A (x vs) Q E ⟨h,#[],K.d,t,K.os⟩
noncomputable def Tells {α β:Type} (R:β->α->Prop) (K:Kc) (A:Around) (x:Sem α) (L:Addr) (m:Loc) (σ:Sg) (k:β->Sg->Prop):Prop:=
 ∀ {E:VP} {fs h t} {Q:α->Shared->Prop},St K σ L m fs h->(∀ c u σ' h' t',R c u->k c σ'->St K σ' L m fs h'->Q u ⟨h',#[],K.d,t',K.os⟩)->wpAny (model prg K.w) A x Q E ⟨h,#[],K.d,t,K.os⟩
noncomputable abbrev RU:Unit->Unit->Prop:=fun ξ ξ=>True
noncomputable def on1 {α:Type} (f:Value->Sem α):List Value->Sem α
 | [v]=>f v
 | _=>unsupported ""
noncomputable def on2 {α:Type} (f:Value->Value->Sem α):List Value->Sem α
 | [v,w]=>f v w
 | _=>unsupported ""
noncomputable def on3 {α:Type} (f:Value->Value->Value->Sem α):List Value->Sem α
 | [v,w,x]=>f v w x
 | _=>unsupported ""
noncomputable abbrev BinW (K D op a b k σ):=Wp V.At K D (on2 (binaryOp op)) [a,b] k σ
noncomputable abbrev InpW (K D op a b k σ):=Wp V.At K D (on2 (inplaceOp op)) [a,b] k σ
noncomputable abbrev UnW (K D op a k σ):=Wp V.At K D (on1 (unaryOp op)) [a] k σ
noncomputable abbrev CmpW (K D op a b k σ):=Wp V.At K D (on2 (compareOp op)) [a,b] k σ
noncomputable abbrev TruW (K D a) (k:Bool->Sg->Prop) (σ):=Wp Eq K D (on1 truthy) [a] k σ
noncomputable abbrev GetW (K D a attr k σ):=Wp V.At K D (on1 fun v=>getAttr v attr true) [a] k σ
noncomputable abbrev SetW (K D o attr a) (k:Sg->Prop) (σ):=Wp RU K D (on2 fun o v=>setAttr o attr v) [o,a] (fun ξ=>k) σ
noncomputable abbrev ItemW (K D o i k σ):=Wp V.At K D (on2 getItem) [o,i] k σ
noncomputable abbrev SetIW (K D o i a) (k:Sg->Prop) (σ):=Wp RU K D (on3 setItem) [o,i,a] (fun ξ=>k) σ
noncomputable abbrev CallV (K D) (fv:Value) (as:List V) (k:V->Sg->Prop) (σ):=Wp V.At K D (fun vs=>call fv vs) as k σ
noncomputable def FV (K:Kc) (fv:Value):Prop:=(∃ f o fd,fv=.ref f/\K.h0.get? f=some o/\o.data=.func fd)\/(∃ C lo ci lim,fv=.ref C/\ClsAt K.h0 lo C ci lim)\/(∃ id,fv=.builtin id)\/∃ T,fv=.type T
noncomputable def GIs (K:Kc) (x:Str) (fv:Value):Prop:=K.mg x=some fv\/(K.mg x=none/\K.mb x=some fv)
noncomputable def MethIs (K:Kc) (σ:Sg) (a:V) (name:Str) (fv:Value):Prop:=∀ {A:Around} {E:VP} {L m fs h t v pl} {Q:Value×List Value->Shared->Prop},St K σ L m fs h->a.At v →
 (∀ t',Q (fv,[v]) ⟨h,#[],K.d,t',K.os⟩)->wpAny (model prg K.w) A (getMethod v name pl) Q E ⟨h,#[],K.d,t,K.os⟩
noncomputable def NotPy (K:Kc) (σ:Sg) (a:V):Prop:=∀ {A:Around} {E:VP} {L m fs h t v} {Q:Bool->Shared->Prop},St K σ L m fs h->a.At v →
 Q false ⟨h,#[],K.d,t,K.os⟩->wpAny (model prg K.w) A (getitemInPython v) Q E ⟨h,#[],K.d,t,K.os⟩
noncomputable def Has (K:Kc) (σ:Sg) (a:Addr) (c:Cell):Prop:=σ.M a=some c\/σ.F a=some c\/CellAt K K.h0 a c
noncomputable def Fresh (σ:Sg) (a:Addr):Prop:=σ.M a=none/\σ.F a=none
noncomputable def SliceIs (l:List V) (lo up:V) (r:List V):Prop:=(lo=.none/\up=.none/\r=l)\/(∃ n:Nat,lo=.int n/\up=.none/\r=l.drop n)\/(∃ n:Nat,lo=.none/\up=.int n/\r=l.take n)
set_option genCtorIdx true in
inductive EK where
 | const | name | bin | un | cmp | boolop | ifexp | callN | callM | attr | sub | slice | tup | list | dict0 | other
deriving DecidableEq
noncomputable def one1 {α:Type}:List α->Bool | []=>false | _::r=>r.isEmpty
noncomputable def kindE:Expr->EK
 | .Constant ..=>.const
 | .Name ..=>.name
 | .BinOp ..=>.bin
 | .UnaryOp ..=>.un
 | .Compare _ ops rs _=>match one1 ops with | true=>(match one1 rs with | true=>.cmp | false=>.other) | false=>.other
 | .BoolOp ..=>.boolop
 | .IfExp ..=>.ifexp
 | .Call f _ ks _=>match ks.isEmpty with | true=>(match f with | .Attribute ..=>.callM | .Name ..=>.callN | _=>.other) | false=>.other
 | .Attribute ..=>.attr
 | .Subscript _ i _=>match i with | .Slice _ _ d _=>(match d with | none=>.slice | some _=>.other) | _=>.sub
 | .Tuple ..=>.tup
 | .List ..=>.list
 | .Dict ks vs _=>match ks.isEmpty with | true=>(match vs.isEmpty with | true=>.dict0 | false=>.other) | false=>.other
 | _=>.other
noncomputable def e0:Expr:=.Constant .none 0 ⟨0,0,0,0⟩
noncomputable def eConst:Expr->Const | .Constant c _ _=>c | _=>.none
noncomputable def eName:Expr->Str | .Name x _=>x | .Call (.Name x _) _ _ _=>x | _=>""
noncomputable def eL:Expr->Expr | .BinOp l _ _ _=>l | .Compare l _ _ _=>l | .UnaryOp _ x _=>x | .IfExp t _ _ _=>t | .Call (.Attribute o _ _) _ _ _=>o | .Attribute o _ _=>o | .Subscript o _ _=>o | _=>e0
noncomputable def eR:Expr->Expr | .BinOp _ _ r _=>r | .Compare _ _ [r] _=>r | .IfExp _ b _ _=>b | .Subscript _ i _=>i | _=>e0
noncomputable def eX:Expr->Expr | .IfExp _ _ c _=>c | _=>e0
noncomputable def eOp:Expr->Operator | .BinOp _ op _ _=>op | _=>.Add
noncomputable def eCop:Expr->CmpOp | .Compare _ [op] _ _=>op | _=>.Eq
noncomputable def eUop:Expr->UnaryOp | .UnaryOp op _ _=>op | _=>.Not
noncomputable def eBop:Expr->BoolOp | .BoolOp op _ _=>op | _=>.And
noncomputable def eBs:Expr->List Expr | .BoolOp _ l _=>l | .Call _ l _ _=>l | .Tuple l _ _=>l | .List l _=>l | _=>[]
noncomputable def eAttr:Expr->Str | .Attribute _ n _=>n | .Call (.Attribute _ n _) _ _ _=>n | _=>""
noncomputable def eLo:Expr->Option Expr | .Subscript _ (.Slice l _ _ _) _=>l | _=>none
noncomputable def eUp:Expr->Option Expr | .Subscript _ (.Slice _ u _ _) _=>u | _=>none
noncomputable def eRow:Expr->Bool | .Call (.Attribute _ _ p) _ _ q=>p.endLine==q.line | _=>false
noncomputable def zeroCall:Expr->Bool | .Call (.Name _ _) [] [] _=>true | _=>false
noncomputable def lnil:List Expr->Bool | []=>true | _=>false
noncomputable def lhd:List Expr->Expr | e::_=>e | []=>e0
noncomputable def ltl:List Expr->List Expr | _::r=>r | []=>[]
noncomputable def optE:Option Expr->Bool | some _=>true | none=>false
noncomputable def optG:Option Expr->Expr | some e=>e | none=>e0
noncomputable def constV:Const->Option V
 | .none=>some .none
 | .bool b=>some (.bool b)
 | .int i=>some (.int i)
 | .str s=>some (.str s)
 | _=>none
noncomputable def fewArgs:Nat->List Expr->Bool
 | _,[]=>true
 | 0,_=>false
 | _+1,.Starred ..::_=>false
 | n+1,_::r=>fewArgs n r
structure Rec where
 E:Expr->Loc->Sg->(V->Sg->Prop)->Prop
 T:Expr->Loc->Sg->(Bool->Sg->Prop)->Prop
 L:List Expr->Loc->Sg->(List V->Sg->Prop)->Prop
 B:BoolOp->List Expr->Loc->Sg->(V->Sg->Prop)->Prop
 TB:BoolOp->List Expr->Loc->Sg->(Bool->Sg->Prop)->Prop
deriving Inhabited
structure Cx where
 K:Kc
 D:Nat
 sc:Scope
 isPickle:Unit:=()
noncomputable def cx0:Cx:=⟨kc0,0,default,()⟩
noncomputable def HasL (K:Kc) (σ:Sg) (x:Addr) (l:List V):Prop:=Has K σ x (.list l)\/∃ vs,K.h0.IsList x vs/\AllAt l vs.toList
noncomputable abbrev KV:=V->Sg->Prop
noncomputable abbrev KB:=Bool->Sg->Prop
noncomputable def exG (x:Str) (K:Kc) (G:Value->Prop):Prop:=∃ f,GIs K x f/\FV K f/\G f
noncomputable def exMt (x:Str) (K:Kc) (σ:Sg) (a:V) (G:Value->Prop):Prop:=∃ f,MethIs K σ a x f/\FV K f/\G f
noncomputable def kL2 (a:V) (k:List V->Sg->Prop) (as:List V) (σ:Sg):Prop:=k (a::as) σ
noncomputable def kL (l:List Expr) (r:Rec) (m:Loc) (k:List V->Sg->Prop) (a:V) (σ:Sg):Prop:=r.L (ltl l) m σ (kL2 a k)
section
variable (e:Expr) (c:Cx) (r:Rec) (m:Loc)
noncomputable def kBin2 (a:V) (k:KV) (b:V) (σ:Sg):Prop:=BinW c.K c.D (eOp e) a b k σ
noncomputable def kBin (k:KV) (a:V) (σ:Sg):Prop:=r.E (eR e) m σ (kBin2 e c a k)
noncomputable def kUn (k:KV) (a:V) (σ:Sg):Prop:=UnW c.K c.D (eUop e) a k σ
noncomputable def kCmp2 (a:V) (k:KV) (b:V) (σ:Sg):Prop:=CmpW c.K c.D (eCop e) a b k σ
noncomputable def kCmp (k:KV) (a:V) (σ:Sg):Prop:=r.E (eR e) m σ (kCmp2 e c a k)
noncomputable def kIf (k:KV) (b:Bool) (σ:Sg):Prop:=match b with | true=>r.E (eR e) m σ k | false=>r.E (eX e) m σ k
noncomputable def kCall (f:Value) (k:KV) (as:List V) (σ:Sg):Prop:=CallV c.K c.D f as k σ
noncomputable def kCal (k:KV) (σ:Sg) (f:Value):Prop:=r.L (eBs e) m σ (kCall c f k)
noncomputable def kMet2 (f:Value) (a:V) (k:KV) (as:List V) (σ:Sg):Prop:=CallV c.K c.D f (a::as) k σ
noncomputable def kMet3 (a:V) (k:KV) (σ:Sg) (f:Value):Prop:=r.L (eBs e) m σ (kMet2 c f a k)
noncomputable def kMet (k:KV) (a:V) (σ:Sg):Prop:=exMt (eAttr e) c.K σ a (kMet3 e c r m a k σ)
noncomputable def kAttr (k:KV) (a:V) (σ:Sg):Prop:=GetW c.K c.D a (eAttr e) k σ
noncomputable def kSub2 (a:V) (k:KV) (i:V) (σ:Sg):Prop:=NotPy c.K σ a/\ItemW c.K c.D a i k σ
noncomputable def kSub (k:KV) (a:V) (σ:Sg):Prop:=r.E (eR e) m σ (kSub2 c a k)
noncomputable def kSl0 (a lo:V) (k:KV) (up:V) (σ:Sg):Prop:=∃ x l r,a=.ref x/\HasL c.K σ x l/\l.length<=5000/\SliceIs l lo up r/\∀ y,Fresh σ y->k (.ref y) (σ.set y (.list r))
noncomputable def kSl1 (a:V) (k:KV) (lo:V) (σ:Sg):Prop:=match optE (eUp e) with | false=>kSl0 c a lo k .none σ | true=>r.E (optG (eUp e)) m σ (kSl0 c a lo k)
noncomputable def kSl (k:KV) (a:V) (σ:Sg):Prop:=match optE (eLo e) with | false=>kSl1 e c r m a k .none σ | true=>r.E (optG (eLo e)) m σ (kSl1 e c r m a k)
noncomputable def kTup (k:KV) (as:List V) (σ:Sg):Prop:=as.length<=100/\∀ y,Fresh σ y->k (.ref y) (σ.fz y (.tup as))
noncomputable def kList (k:KV) (as:List V) (σ:Sg):Prop:=as.length<=100/\∀ y,Fresh σ y->k (.ref y) (σ.set y (.list as))
noncomputable def kNot (k:KB) (b:Bool) (σ:Sg):Prop:=k (!b) σ
noncomputable def kTb (k:KB) (v:V) (σ:Sg):Prop:=match v with | .bool x=>k x σ | _=>False
noncomputable def kTru (k:KB) (a:V) (σ:Sg):Prop:=TruW c.K c.D a k σ
end
noncomputable def kB2 (op:BoolOp) (l:List Expr) (r:Rec) (m:Loc) (a:V) (k:KV) (b:Bool) (σ:Sg):Prop:=match op with
 | .And=>match b with | false=>k a σ | true=>r.B op (ltl l) m σ k
 | .Or=>match b with | true=>k a σ | false=>r.B op (ltl l) m σ k
noncomputable def kB (op:BoolOp) (l:List Expr) (c:Cx) (r:Rec) (m:Loc) (k:KV) (a:V) (σ:Sg):Prop:=TruW c.K c.D a (kB2 op l r m a k) σ
noncomputable def kTB (op:BoolOp) (l:List Expr) (r:Rec) (m:Loc) (k:KB) (b:Bool) (σ:Sg):Prop:=match op with
 | .And=>match b with | false=>k false σ | true=>r.TB op (ltl l) m σ k
 | .Or=>match b with | true=>k true σ | false=>r.TB op (ltl l) m σ k
noncomputable def stepE (c:Cx) (r:Rec) (e:Expr) (m:Loc) (σ:Sg) (k:V->Sg->Prop):Prop:=
 match kindE e with
 | .const=>match constV (eConst e) with | some a=>k a σ | none=>False
 | .name=>match c.sc.names.lookup (eName e) with
  | some .local=>match m.get (eName e) with | some a=>k a σ | none=>False
  | some .globalImplicit=>match gInt (eName e) with
   | some i=>k (.int i) σ
   | none=>∃ a v,c.K.mg (eName e)=some v/\a.At v/\k a σ
  | _=>False
 | .bin=>r.E (eL e) m σ (kBin e c r m k)
 | .un=>r.E (eL e) m σ (kUn e c k)
 | .cmp=>match behindInMarks (eCop e) (eR e) with
  | true=>False
  | false=>r.E (eL e) m σ (kCmp e c r m k)
 | .boolop=>r.B (eBop e) (eBs e) m σ k
 | .ifexp=>r.T (eL e) m σ (kIf e r m k)
 | .callN=>match fewArgs 20 (eBs e),c.sc.names.lookup (eName e) with
  | true,some .globalImplicit=>exG (eName e) c.K (kCal e c r m k σ)
  | _,_=>False
 | .callM=>match fewArgs 20 (eBs e),zeroCall (eL e),eRow e with
  | true,false,true=>r.E (eL e) m σ (kMet e c r m k)
  | _,_,_=>False
 | .attr=>match zeroCall (eL e) with
  | true=>False
  | false=>r.E (eL e) m σ (kAttr e c k)
 | .sub=>r.E (eL e) m σ (kSub e c r m k)
 | .slice=>r.E (eL e) m σ (kSl e c r m k)
 | .tup=>match fewArgs 40 (eBs e) with
  | true=>r.L (eBs e) m σ (kTup k)
  | false=>False
 | .list=>match fewArgs 40 (eBs e) with
  | true=>r.L (eBs e) m σ (kList k)
  | false=>False
 | .dict0=>∃ c0,(c0=.dict []\/c0=.idict [])/\∀ y,Fresh σ y->k (.ref y) (σ.set y c0)
 | .other=>∀ {A:Around} {env:Env} {L:Addr},Room A c.D->Fe env c.sc L->Tells V.At c.K A (eval e env) L m σ k
noncomputable def stepT (c:Cx) (r:Rec) (e:Expr) (m:Loc) (σ:Sg) (k:Bool->Sg->Prop):Prop:=
 match kindE e with
 | .un=>match eUop e with
  | .Not=>r.T (eL e) m σ (kNot k)
  | _=>False
 | .boolop=>r.TB (eBop e) (eBs e) m σ k
 | .cmp=>match behindInMarks (eCop e) (eR e) with
  | true=>False
  | false=>r.E (eL e) m σ (kCmp e c r m (kTb k))
 | .ifexp=>False
 | .other=>False
 | _=>r.E e m σ (kTru c k)
noncomputable def stepL (r:Rec) (l:List Expr) (m:Loc) (σ:Sg) (k:List V->Sg->Prop):Prop:=
 match lnil l with
 | true=>k [] σ
 | false=>r.E (lhd l) m σ (kL l r m k)
noncomputable def stepB (c:Cx) (r:Rec) (op:BoolOp) (l:List Expr) (m:Loc) (σ:Sg) (k:V->Sg->Prop):Prop:=
 match lnil l with
 | true=>False
 | false=>match lnil (ltl l) with
  | true=>r.E (lhd l) m σ k
  | false=>r.E (lhd l) m σ (kB op l c r m k)
noncomputable def stepTB (r:Rec) (op:BoolOp) (l:List Expr) (m:Loc) (σ:Sg) (k:Bool->Sg->Prop):Prop:=
 match lnil l with
 | true=>match op with | .And=>k true σ | .Or=>k false σ
 | false=>r.T (lhd l) m σ (kTB op l r m k)
noncomputable def recE:Nat->Cx->Rec
 | 0,_=>⟨fun ξ ξ ξ ξ=>False,fun ξ ξ ξ ξ=>False,fun ξ ξ ξ ξ=>False,fun ξ ξ ξ ξ ξ=>False,fun ξ ξ ξ ξ ξ=>False⟩
 | n+1,c=>⟨stepE c (recE n c),stepT c (recE n c),stepL (recE n c),stepB c (recE n c),stepTB (recE n c)⟩
end
section
section
variable {K:Kc} {σ:Sg} {L:Addr} {m:Loc} {fs:Fs} {h:Heap} {t:Nat} {A:Around} {E:VP}
structure RecOk (c:Cx) (r:Rec) (A:Around) (env:Env) (L:Addr):Prop where
 okE:∀ {e m σ k},r.E e m σ k->Tells V.At c.K A (eval e env) L m σ k
 okT:∀ {e m σ k},r.T e m σ k->Tells Eq c.K A (isTrue e env (eval e env)) L m σ k
 okL:∀ {l m σ k pos n},r.L l m σ k->fewArgs n l=true->Tells AllAt c.K A (spliced (backTo pos (starEach l env))) L m σ k
 okB:∀ {op l m σ k pos},r.B op l m σ k->Tells V.At c.K A (boolOp pos op (evalEach l env)) L m σ k
 okTB:∀ {op l m σ k},r.TB op l m σ k->Tells Eq c.K A (allTrue op l env) L m σ k
theorem Wp.use1 {α β:Type} {R:β->α->Prop} {D k} {f:Value->Sem α} {a:V} {v:Value} (w:Wp R K D (on1 f) [a] k σ) (st:St K σ L m fs h) (hr:Room A D) (hv:a.At v) {Q:α->Shared->Prop}
 (q:∀ c u σ' h' t',R c u->k c σ'->St K σ' L m fs h'->Q u ⟨h',#[],K.d,t',K.os⟩):wpAny (model prg K.w) A (f v) Q E ⟨h,#[],K.d,t,K.os⟩:=w.ok (vs:=[v]) hr st ⟨hv,trivial⟩ q
theorem Wp.use2 {α β:Type} {R:β->α->Prop} {D k} {f:Value->Value->Sem α} {a b:V} {v w:Value} (x:Wp R K D (on2 f) [a,b] k σ) (st:St K σ L m fs h) (hr:Room A D) (hv:a.At v) (hw:b.At w) {Q:α->Shared->Prop}
 (q:∀ c u σ' h' t',R c u->k c σ'->St K σ' L m fs h'->Q u ⟨h',#[],K.d,t',K.os⟩):wpAny (model prg K.w) A (f v w) Q E ⟨h,#[],K.d,t,K.os⟩:=x.ok (vs:=[v,w]) hr st ⟨hv,hw,trivial⟩ q
theorem Wp.use3 {α β:Type} {R:β->α->Prop} {D k} {f:Value->Value->Value->Sem α} {a b d:V} {v w y:Value} (x:Wp R K D (on3 f) [a,b,d] k σ) (st:St K σ L m fs h) (hr:Room A D) (hv:a.At v) (hw:b.At w) (hy:d.At y) {Q:α->Shared->Prop}
 (q:∀ c u σ' h' t',R c u->k c σ'->St K σ' L m fs h'->Q u ⟨h',#[],K.d,t',K.os⟩):wpAny (model prg K.w) A (f v w y) Q E ⟨h,#[],K.d,t,K.os⟩:=x.ok (vs:=[v,w,y]) hr st ⟨hv,hw,hy,trivial⟩ q
theorem Has.at {a c} (x:Has K σ a c) (st:St K σ L m fs h):CellAt K h a c:=by
 rcases x with x | x | x
 · exact st.cell _ _ x
 · exact (st.fz _ _ x).1
 · exact x.at fun o e=>st.h0 _ _ e
theorem AllAt.len:∀ {as vs},AllAt as vs->vs.length=as.length
 | [],[],_=>rfl
 | _::_,_::_,h=>congrArg (·+1) (AllAt.len h.2)
 | [],_::_,h=>h.elim
 | _::_,[],h=>h.elim
theorem AllAt.drop:∀ {as vs} (n:Nat),AllAt as vs->AllAt (as.drop n) (vs.drop n)
 | _,_,0,h=>h
 | [],[],n+1,_=>trivial
 | _::_,_::_,n+1,h=>AllAt.drop n h.2
 | [],_::_,_,h=>h.elim
 | _::_,[],_,h=>h.elim
theorem AllAt.take:∀ {as vs} (n:Nat),AllAt as vs->AllAt (as.take n) (vs.take n)
 | _,_,0,_=>trivial
 | [],[],n+1,_=>trivial
 | _::_,_::_,n+1,h=>⟨h.1,AllAt.take n h.2⟩
 | [],_::_,_,h=>h.elim
 | _::_,[],_,h=>h.elim
theorem fresh_at (st:St K σ L m fs h):Fresh σ h.objs.size:=⟨(st.fresh (Heap.get?_none_of_le (Nat.le_refl _))).1,(st.fresh (Heap.get?_none_of_le (Nat.le_refl _))).2.1⟩
theorem few_cons {n:Nat} {e:Expr} {r:List Expr} (h:fewArgs n (e::r)=true) (env:Env):starEach (e::r) env=(false,eval e env)::starEach r env/\∃ n',fewArgs n' r=true:=by
 induction n using Nat.casesOn with
 | zero=>injection h
 | succ n=>cases e <;> first | exact ⟨rfl,n,h⟩ | injection h
theorem few_len {n:Nat}:∀ {l:List Expr},fewArgs n l=true->l.length<=n:=by
 induction n with
 | zero=>intro l h;induction l using List.casesOn with | nil=>exact Nat.le_refl _ | cons _ _=>injection h
 | succ n ih=>intro l h;induction l using List.casesOn with
  | nil=>exact Nat.zero_le _
  | cons e r=>cases e <;> first | (exact Nat.succ_le_succ (ih h)) | injection h
theorem few_star {n:Nat} (env:Env) (pos:Pos):∀ {l:List Expr},fewArgs n l=true->(backTo pos (starEach l env)).any (·.1)=false/\(backTo pos (starEach l env)).all (!·.1)=true/\(backTo pos (starEach l env)).length=l.length:=by
 induction n with
 | zero=>intro l h;induction l using List.casesOn with | nil=>exact ⟨rfl,rfl,rfl⟩ | cons _ _=>injection h
 | succ n ih=>intro l h;induction l using List.casesOn with
  | nil=>exact ⟨rfl,rfl,rfl⟩
  | cons e r=>
   have hr:fewArgs n r=true:=by cases e <;> first | exact h | injection h
   refine ea0_3 (ih hr) fun i1 i2 i3=>?_
   have hs:=(few_cons h env).1
   refine qE hs (⟨?_,?_,?_⟩)
   · show (false||(backTo pos (starEach r env)).any (·.1))=false
     refine qE i1 ?_;rfl
   · show (true&&(backTo pos (starEach r env)).all (!·.1))=true
     refine qE i2 ?_;rfl
   · show (backTo pos (starEach r env)).length+1=r.length+1
     exact qE i3 rfl
theorem args_few {s:Shared} {f:Value} {n:Nat} {l:List Expr} {env:Env} {pos:Pos} {Q:Args->Shared->Prop} {M:Model} (hf:fewArgs n l=true) (h:wpAny M A (spliced (backTo pos (starEach l env))) (fun vs s'=>Q ⟨vs,[]⟩ s') E s) :
 wpAny M A (evalArgs f true (backTo pos (starEach l env)) []) Q E s:=by
 induction l using List.casesOn with
 | nil=>
  unfold evalArgs
  show wpAny M A (spliced (backTo pos (starEach [] env)) >>= _) Q E s
  refine wpAny_bind (wpAny_mono h (fun vs s' h'=>?_) fun ξ ξ x=>x)
  first
   | (refine wpAny_bind (wpAny_pure ?_);refine wpAny_holding ?_;exact wpAny_bind (wpAny_pure (wpAny_bind (wpAny_pure (wpAny_pure (by simpa using h'))))))
   | (refine wpAny_holding ?_;exact wpAny_bind (wpAny_pure (wpAny_bind (wpAny_pure (wpAny_pure h')))))
 | cons e r=>
  rw [(few_cons hf env).1] at h ⊢
  exact Calls.evalArgs_plain h
theorem call_FV (st:St K σ L m fs h) {fv:Value} (hf:FV K fv) {n:Nat} {l:List Expr} {env:Env} {pos pos':Pos} {first:List Value} (few:fewArgs n l=true) {Q:VP}
 (x:wpAny (model prg K.w) A (spliced (backTo pos' (starEach l env))) (fun vs s'=>(Kp K.h0 s'.heap)/\wpAny (model prg K.w) A (call fv (first++vs)) Q E s') E ⟨h,#[],K.d,t,K.os⟩) :
 wpAny (model prg K.w) A (callWith pos fv first (backTo pos' (starEach l env)) []) Q E ⟨h,#[],K.d,t,K.os⟩:=by
 revert st hf pos' first few Q x
 revert K σ L m fs h t A E fv n l env pos
 refine no_implicit_lambda% (al14 (n:=⟨(kc0,default,default,default,default,default,default,a0,default)⟩) ?_)
 generalize et14 _ _=υ
 generalize υ.1=K,υ.2.1=σ,υ.2.2.1=L,υ.2.2.2.1=m,υ.2.2.2.2.1=fs,υ.2.2.2.2.2.1=h,υ.2.2.2.2.2.2.1=t,υ.2.2.2.2.2.2.2.1=A,υ.2.2.2.2.2.2.2.2.1=E,υ.2.2.2.2.2.2.2.2.2.1=fv,υ.2.2.2.2.2.2.2.2.2.2.1=n,υ.2.2.2.2.2.2.2.2.2.2.2.1=l,υ.2.2.2.2.2.2.2.2.2.2.2.2.1=env,υ.2.2.2.2.2.2.2.2.2.2.2.2.2=pos
 intro st hf pos' first few Q x
 have hp:=(few_star env pos' few).1
 rcases hf with ⟨f,o,fd,rfl,h1,h2⟩ | ⟨C,lo,ci,lim,rfl,X⟩ | ⟨id,rfl⟩ | ⟨T,rfl⟩
 · exact Calls.callWith_function (args_few few (wpAny_mono x (fun vs s' z=>⟨⟨z.1 _ _ h1,h2⟩,z.2⟩) fun ξ ξ z=>z))
 · unfold callWith
   refine wpAny_bind (wpAny_holding (args_few few (wpAny_mono x (fun vs s' z=>?_) fun ξ ξ z=>z)))
   refine ea6_1 X.ex fun n' sub k0 k2 k3 m' y51=>?_;refine ea0_3 y51 fun ln e r=>?_;clear y51
   have e':=z.1 _ _ e
   refine wpAny_bind (wpAny_standAt ?_)
   show wpAny _ _ (keeperOf (.ref C) >>= _) _ _ _
   unfold keeperOf
   refine wpAny_bind (wpAny_bind (wpAny_load e' ?_))
   refine wpAny_bind (wpAny_specialOf (T:="type") (r:=some (.builtin "type.__call__")) ⟨_,e',rfl⟩ F.lookup_type_call ?_)
   refine qE (if_pos (by rfl)) (wpAny_pure (qE hp ?_))
   show wpAny _ _ (call (.ref C) (first++vs) [] >>= fun r=>do holding [r] point;pure r) _ _ _
   exact wpAny_bind (wpAny_mono z.2 (fun r s' hr=>wpAny_bind (wpAny_holding (wpAny_point (wpAny_pure hr)))) fun ξ ξ x=>x)
 · exact Calls.callWith_builtin hp (args_few few (wpAny_mono x (fun vs s' z=>z.2) fun ξ ξ z=>z))
 · exact PySem.callWith_type hp (args_few few (wpAny_mono x (fun vs s' z=>z.2) fun ξ ξ z=>z))
end
end
section
section
variable {c:Cx} {r:Rec} {A:Around} {env:Env} {L:Addr} {m:Loc} {σ:Sg} {e:Expr}
noncomputable def Sh (e:Expr):EK->Prop
 | .const=>∃ n p,e=.Constant (eConst e) n p
 | .name=>∃ p,e=.Name (eName e) p
 | .bin=>∃ p,e=.BinOp (eL e) (eOp e) (eR e) p
 | .un=>∃ p,e=.UnaryOp (eUop e) (eL e) p
 | .cmp=>∃ p,e=.Compare (eL e) [eCop e] [eR e] p
 | .boolop=>∃ p,e=.BoolOp (eBop e) (eBs e) p
 | .ifexp=>∃ p,e=.IfExp (eL e) (eR e) (eX e) p
 | .callN=>∃ p q,e=.Call (.Name (eName e) p) (eBs e) [] q
 | .callM=>∃ p q,e=.Call (.Attribute (eL e) (eAttr e) p) (eBs e) [] q/\(eRow e=(p.endLine==q.line))
 | .attr=>∃ p,e=.Attribute (eL e) (eAttr e) p
 | .sub=>(∃ p,e=.Subscript (eL e) (eR e) p)/\∀ a b d p,eR e≠.Slice a b d p
 | .slice=>∃ p q,e=.Subscript (eL e) (.Slice (eLo e) (eUp e) none p) q
 | .tup=>∃ n p,e=.Tuple (eBs e) n p
 | .list=>∃ p,e=.List (eBs e) p
 | .dict0=>∃ p,e=.Dict [] [] p
 | .other=>True
noncomputable def isSl:Expr->Bool
 | .Slice ..=>true
 | _=>false
theorem noSl {e:Expr} (h:isSl e=false):∀ a b d p,e≠.Slice a b d p:=fun a b d p x=>Bool.noConfusion ((congrArg isSl x).symm.trans h)
theorem sh (e:Expr):Sh e (kindE e):=by
 induction e using Expr.casesOn with
 | Constant c n p=>exact ⟨n,p,rfl⟩
 | Name x p=>exact ⟨p,rfl⟩
 | BinOp l o r p=>exact ⟨p,rfl⟩
 | UnaryOp o l p=>exact ⟨p,rfl⟩
 | BoolOp o l p=>exact ⟨p,rfl⟩
 | IfExp a b c p=>exact ⟨p,rfl⟩
 | Attribute o n p=>exact ⟨p,rfl⟩
 | Tuple l n p=>exact ⟨n,p,rfl⟩
 | List l p=>exact ⟨p,rfl⟩
 | Compare l os rs p=>induction os using List.casesOn with
  | nil=>exact trivial
  | cons o t=>induction t using List.casesOn with
   | nil=>induction rs using List.casesOn with
    | nil=>exact trivial
    | cons r t=>induction t using List.casesOn with
     | nil=>exact ⟨p,rfl⟩
     | cons _ _=>exact trivial
   | cons _ _=>exact trivial
 | Call f l ks q=>induction ks using List.casesOn with
  | nil=>induction f using Expr.casesOn with
   | Attribute o n p=>exact ⟨p,q,rfl,rfl⟩
   | Name x p=>exact ⟨p,q,rfl⟩
   | _=>exact trivial
  | cons _ _=>exact trivial
 | Subscript o i q=>induction i using Expr.casesOn with
  | Slice l u d p=>induction d with
   | none=>exact ⟨p,q,rfl⟩
   | some _=>exact trivial
  | _=>exact ⟨⟨q,rfl⟩,noSl rfl⟩
 | Dict ks vs p=>induction ks using List.casesOn with
  | nil=>induction vs using List.casesOn with
   | nil=>exact ⟨p,rfl⟩
   | cons _ _=>exact trivial
  | cons _ _=>exact trivial
 | _=>exact trivial
theorem sh' {κ:EK} (h:kindE e=κ):Sh e κ:=h▸sh e
theorem base_plain {o:Expr} (hz:zeroCall o=false) (attr:Str) (env:Env) (x:Sem Value):attributeBase o attr env x=x:=by
 induction o using Expr.casesOn with
 | Call f l ks p=>induction f using Expr.casesOn with
  | Name id q=>induction l using List.casesOn with
   | nil=>induction ks using List.casesOn with
    | nil=>injection hz
    | cons _ _=>rfl
   | cons _ _=>rfl
  | _=>rfl
 | _=>rfl
theorem Fe.kf (fe:Fe env c.sc L):env.scope.kind=.function:=by refine qE fe.scope ?_;exact fe.kind
theorem Fe.k {sc} (fe:Fe env sc L) (x:Str):env.kindOf x=sc.names.lookup x:=by unfold Env.kindOf;exact qE fe.scope rfl
theorem Fe.nodbg {sc} (fe:Fe env sc L) {x:Str} {k} (hx:sc.names.lookup x=some k):(x==("__debug__":Str))=false:=by
 rw [beq_eq_false_iff_ne]
 rintro rfl
 replace hx:=fe.dbg▸hx;injection hx
theorem HasL.list {K σ L m fs h a l} (x:HasL K σ a l) (st:St K σ L m fs h):∃ vs,h.IsList a vs/\AllAt l vs.toList:=by
 rcases x with x | ⟨vs,⟨o,e,r⟩,av⟩
 · refine ea2_2 (x.at st) fun vs n e r=>?_;exact ⟨vs,⟨_,e,rfl,n,rfl⟩,r⟩
 · exact ⟨vs,⟨o,st.h0 _ _ e,r⟩,av⟩
theorem CellAt.list {K h a l} (x:CellAt K h a (.list l)):∃ vs,h.IsList a vs/\AllAt l vs.toList:=by refine ea2_2 x fun vs n e r=>?_;clear x;exact ⟨vs,⟨_,e,rfl,n,rfl⟩,r⟩
theorem atRef (a:Addr):V.At (.ref a) (.ref a):=rfl
theorem atNone:V.At .none .none:=rfl
theorem slice_vals {l:List V} {lo up:V} {rr:List V} (hs:SliceIs l lo up rr) {vs:Array Value} (hv:AllAt l vs.toList) {vl vu:Value} (hl:lo.At vl) (hu:up.At vu) :
 ∃ i j,IsPart vl i/\IsPart vu j/\AllAt rr (slicePick vs i j none).toList:=by
 rcases hs with ⟨rfl,rfl,rfl⟩ | ⟨n,rfl,rfl,rfl⟩ | ⟨n,rfl,rfl,rfl⟩
 · cases hl;cases hu;exact ⟨none,none,.none,.none,by rw [slicePick_all];exact hv⟩
 · refine ea1_1 hl fun t z1=>?_;clear hl;subst z1;cases hu;exact ⟨some n,none,.int _ _,.none,by rw [slicePick_from'];exact hv.drop n⟩
 · refine ea1_1 hu fun t z1=>?_;clear hu;subst z1;cases hl;exact ⟨none,some n,.none,.int _ _,by rw [slicePick_upto'];exact hv.take n⟩
set_option tactic.hygienic true in
theorem stepE_sound (ro:RecOk c r A env L) (hr:Room A c.D) (fe:Fe env c.sc L) {k:V->Sg->Prop} (x:stepE c r e m σ k):Tells V.At c.K A (eval e env) L m σ k:=by
 revert ro hr fe x;revert c r A env L m σ e k;refine no_implicit_lambda% (al9 (n:=⟨(cx0,default,a0,default)⟩) ?_);generalize et9 _ _=υ;generalize υ.1=c,υ.2.1=r,υ.2.2.1=A,υ.2.2.2.1=env,υ.2.2.2.2.1=L,υ.2.2.2.2.2.1=m,υ.2.2.2.2.2.2.1=σ,υ.2.2.2.2.2.2.2.1=e,υ.2.2.2.2.2.2.2.2=k;clear υ;intro ro hr fe x
 intro E fs h t Q st q
 revert st q;revert E fs h t Q;refine no_implicit_lambda% (al5 ?_);generalize et5 _ _=υ;generalize υ.1=E,υ.2.1=fs,υ.2.2.1=h,υ.2.2.2.1=t,υ.2.2.2.2=Q;clear υ;intro st q
 unfold stepE at x
 cases hk:kindE e <;> replace x:=hk▸x <;> dsimp only at x
 case const=>
  refine ea2_1 (sh' hk) fun n p he=>?_
  revert he;revert n p;refine al2 ?_;generalize et2 _ _=υ;generalize υ.1=n,υ.2=p;clear υ;intro he
  refine qE he ?_
  induction hc:eConst e with
  | none=>replace x:=hc▸x;exact wpAny_Constant_none (q _ _ _ _ _ (show V.At .none .none from rfl) x st)
  | bool b=>replace x:=hc▸x;exact wpAny_Constant_bool (q _ _ _ _ _ (show V.At (.bool b) _ from rfl) x st)
  | int i=>replace x:=hc▸x;exact wpAny_Constant_int (q _ _ _ _ _ (show V.At (.int i) _ from ⟨_,rfl⟩) x st)
  | str s=>replace x:=hc▸x;exact wpAny_Constant_str (q _ _ _ _ _ (show V.At (.str s) _ from ⟨_,rfl⟩) x st)
  | _=>replace x:=hc▸x;exact x.elim
 case name=>
  refine ea1_1 (sh' hk) fun p he=>?_
  revert he;revert p;refine al1 ?_;generalize et1 _ _=p;intro he
  refine qE he ?_
  induction hl:c.sc.names.lookup (eName e) with
  | none=>replace x:=hl▸x;exact x.elim
  | some kd=>
   replace x:=hl▸x
   induction kd with
   | «local»=>
    dsimp only at x
    induction hm:m.get (eName e) with
    | none=>replace x:=hm▸x;exact x.elim
    | some a=>
     replace x:=hm▸x
     exact ea1_2 st.fr.1 fun mv hn ho=>ea1_2 (ho _ _ hm) fun v hv av=>wpAny_Name (wpAny_loadName_local fe.kf ((fe.k _).trans hl) (by refine qE fe.loc ?_;exact hn) hv (q _ _ _ _ _ av x st)) (fe.nodbg hl)
   | globalImplicit=>
    have x:∃ a v,c.K.mg (eName e)=some v/\a.At v/\k a σ:=by
     dsimp only at x
     induction hg:gInt (eName e) with
     | none=>replace x:=hg▸x;exact x
     | some i=>
      replace x:=hg▸x
      exact ea1_2 (c.K.gl.G _ (gInt_mem hg)) fun v hv hl=>⟨.int i,v,hv,hl,x⟩
    exact ea2_3 x fun a v hv av x=>Name_function_global fe.kf ((fe.k _).trans hl) (loadGlobal_global (by refine qE fe.glo ?_;exact st.gl.g) hv (q _ _ _ _ _ av x st)) (fe.nodbg hl)
   | _=>exact x.elim
 case bin=>
  refine ea1_1 (sh' hk) fun p he=>?_
  revert he;revert p;refine al1 ?_;generalize et1 _ _=p;intro he
  exact qE he (wpAny_BinOp (ro.okE x st fun a v σ1 h1 t1 av x1 st1=>ro.okE x1 st1 fun b w σ2 h2 t2 bv x2 st2=>x2.use2 st2 hr av bv q))
 case un=>
  refine ea1_1 (sh' hk) fun p he=>?_
  revert he;revert p;refine al1 ?_;generalize et1 _ _=p;intro he
  exact qE he (wpAny_UnaryOp (ro.okE x st fun a v σ1 h1 t1 av x1 st1=>x1.use1 st1 hr av q))
 case cmp=>
  refine ea1_1 (sh' hk) fun p he=>?_
  revert he;revert p;refine al1 ?_;generalize et1 _ _=p;intro he
  induction hm:behindInMarks (eCop e) (eR e) with
  | true=>replace x:=hm▸x;exact x.elim
  | false=>
   replace x:=hm▸x
   exact qE he (wpAny_Compare1 (ro.okE x st fun a v σ1 h1 t1 av x1 st1=>ro.okE x1 st1 fun b w σ2 h2 t2 bv x2 st2=>x2.use2 st2 hr av bv q) hm)
 case boolop=>
  refine ea1_1 (sh' hk) fun p he=>?_
  revert he;revert p;refine al1 ?_;generalize et1 _ _=p;intro he
  rw [he,arm_eval_BoolOp]
  exact ro.okB x st q
 case ifexp=>
  refine ea1_1 (sh' hk) fun p he=>?_
  revert he;revert p;refine al1 ?_;generalize et1 _ _=p;intro he
  refine qE he (wpAny_IfExp (ro.okT x st fun b b' σ1 h1 t1 e1 x1 st1=>?_))
  revert e1 x1 st1;revert b b' σ1 h1 t1;refine al5 ?_;generalize et5 _ _=υ;generalize υ.1=b,υ.2.1=b',υ.2.2.1=σ1,υ.2.2.2.1=h1,υ.2.2.2.2=t1;clear υ;intro e1 x1 st1
  subst e1
  cases b
  · exact ro.okE x1 st1 q
  · exact ro.okE x1 st1 q
 case callN=>
  refine ea2_1 (sh' hk) fun p p2 he=>?_
  revert he;revert p p2;refine al2 ?_;generalize et2 _ _=υ;generalize υ.1=p,υ.2=p2;clear υ;intro he
  induction hf:fewArgs 20 (eBs e) with
  | false=>replace x:=hf▸x;exact x.elim
  | true=>
   induction hl:c.sc.names.lookup (eName e) with
   | none=>replace x:=hl▸hf▸x;exact x.elim
   | some kd=>
    rw [hf,hl] at x
    cases kd <;> first | exact x.elim | skip
    refine ea1_3 x fun fv gi FVf x=>?_
    revert gi FVf x;revert fv;refine al1 ?_;generalize et1 _ _=fv;intro gi FVf x
    refine qE he (wpAny_Call_Name_kw (Name_function_global fe.kf ((fe.k _).trans hl) ?_ (fe.nodbg hl)))
    have fin:wpAny (model prg c.K.w) A (callWith p2 fv [] (backTo p2 (starEach (eBs e) env)) []) Q E ⟨h,#[],c.K.d,t,c.K.os⟩:=
     call_FV st FVf hf (ro.okL x hf |> fun y=>y st fun as vs σ1 h1 t1 av x1 st1=>⟨st1.h0,x1.ok hr st1 av q⟩)
    rcases gi with hg | ⟨hg,hb⟩
    · exact loadGlobal_global (by refine qE fe.glo ?_;exact st.gl.g) hg fin
    · exact loadGlobal_builtin (by refine qE fe.glo ?_;exact st.gl.g) hg (by refine qE fe.bui ?_;exact st.gl.b) hb fin
 case callM=>
  refine ea2_2 (sh' hk) fun p p2 he hrow=>?_
  revert he hrow;revert p p2;refine al2 ?_;generalize et2 _ _=υ;generalize υ.1=p,υ.2=p2;clear υ;intro he hrow
  induction hf:fewArgs 20 (eBs e) with
  | false=>replace x:=hf▸x;exact x.elim
  | true=>
   induction hz:zeroCall (eL e) with
   | true=>replace x:=hz▸hf▸x;exact x.elim
   | false=>
    induction hw:eRow e with
    | false=>replace x:=hw▸hz▸hf▸x;exact x.elim
    | true=>
     replace x:=hw▸hz▸hf▸x
     rw [he,arm_eval_Call,base_plain hz]
     refine wpAny_bind (ro.okE x st fun a v σ1 h1 t1 av x1 st1=>wpAny_bind (wpAny_standAt ?_))
     refine ea1_3 x1 fun fv mi FVf x1=>?_
     unfold methodCall
     have hform:methodCallForm ((eBs e).length+List.length ([]:List Keyword)) (backTo p2 (starEach (eBs e) env)) (backToKw p2 (keywordEach [] env))=true:=by
      unfold methodCallForm
      refine qE ((few_star env p2 hf).2.1) ?_
      show (true&&true&&decide ((eBs e).length+0+0<30))=true
      have:=few_len hf
      simp;lia
     refine qE hform (wpAny_bind (wpAny_holding ?_))
     unfold calleeOf
     refine qE (if_pos rfl) (mi st1 av fun t2=>wpAny_bind ?_)
     unfold methodCallPos
     replace hw:=hrow▸hw
     rw [if_pos (by refine qE hw ?_;rfl)]
     exact wpAny_pure (call_FV (st1.keeps (fun ξ ξ e=>e)) FVf hf (ro.okL x1 hf |> fun y=>y (st1.keeps fun ξ ξ e=>e) fun as vs σ2 h2 t3 av2 x2 st2=>⟨st2.h0,x2.ok hr st2 ⟨av,av2⟩ q⟩))
 case attr=>
  refine ea1_1 (sh' hk) fun p he=>?_
  revert he;revert p;refine al1 ?_;generalize et1 _ _=p;intro he
  induction hz:zeroCall (eL e) with
  | true=>replace x:=hz▸x;exact x.elim
  | false=>
   replace x:=hz▸x
   rw [he,arm_eval_Attribute,base_plain hz]
   refine wpAny_bind (ro.okE x st fun a v σ1 h1 t1 av x1 st1=>wpAny_bind (wpAny_standAt (wpAny_bind (wpAny_holding ?_))))
   exact x1.use1 st1 hr av fun c2 u σ2 h2 t2 cu x2 st2=>wpAny_bind (wpAny_letTemporaryGo (wpAny_pure (q _ _ _ _ _ cu x2 st2)))
 case sub=>
  refine ea0_2 (sh' hk) fun z1 hns=>?_;refine ea1_1 z1 fun p he=>?_;clear z1
  revert he;revert p;refine al1 ?_;generalize et1 _ _=p;intro he
  rw [he,arm_eval_Subscript]
  refine wpAny_bind (ro.okE x st fun a v σ1 h1 t1 av x1 st1=>wpAny_bind (wpAny_holding (ro.okE x1 st1 fun b w σ2 h2 t2 bv x2 st2=>wpAny_bind (wpAny_standAt (wpAny_bind (x2.1 st2 av ?_))))))
  have hs:∀ (o i:Value),subscripted (eR e) false o i=operate [o,i] (getItem o i):=by
   intro o i
   revert o i;refine no_implicit_lambda% (al2 ?_);generalize et2 _ _=υ;generalize υ.1=o,υ.2=i;clear υ
   induction hx:eR e using Expr.casesOn with
   | Slice l u d p=>exact absurd hx (hns _ _ _ _)
   | _=>rfl
  rw [hs]
  exact wpAny_bind (wpAny_operateT (Wp.use2 x2.2 st2 hr av bv fun c2 u σ2 h2 t2 cu x2 st2=>wpAny_bind (wpAny_letTemporaryGo (wpAny_pure (q _ _ _ _ _ cu x2 st2)))))
 case slice=>
  refine ea2_1 (sh' hk) fun p p2 he=>?_
  revert he;revert p p2;refine al2 ?_;generalize et2 _ _=υ;generalize υ.1=p,υ.2=p2;clear υ;intro he
  refine qE he ?_
  rw [arm_eval_Subscript]
  have tail:∀ {lo up a:V} {vl vu v:Value} {σ3:Sg} {h3:Heap} {t3:Nat},lo.At vl->up.At vu->a.At v->St c.K σ3 L m fs h3 →
   (∃ x l r,a=.ref x/\HasL c.K σ3 x l/\l.length<=5000/\SliceIs l lo up r/\∀ y,Fresh σ3 y->k (.ref y) (σ3.set y (.list r))) →
   wpAny (model prg c.K.w) A (do
    standAt p2
    let r ← subscripted (.Slice (eLo e) (eUp e) none p) (← getitemInPython v) v (.ref h3.objs.size)
    letTemporaryGo (eL e) v r
    pure r) Q E ⟨h3.push { cls:=.type "slice",data:=.fields #[vl,vu,.none] },#[],c.K.d,t3,c.K.os⟩:=by
   intro lo up a vl vu v σ3 h3 t3 al au av st3 z1;refine ea3_5 z1 fun x l r z2 hx hlen hs hk2=>?_;clear z1;subst z2
   cases av
   refine ea1_2 (hx.list st3) fun vs hl hall=>?_
   have hl':=hl.push { cls:=.type "slice",data:=.fields #[vl,vu,.none] }
   refine ea2_3 (slice_vals hs hall al au) fun i j pi pj hr2=>wpAny_bind (wpAny_standAt (wpAny_bind ?_))
   unfold getitemInPython
   refine wpAny_bind (wpAny_specialOf (T:="list") hl'.typeIs list_getitem_lookup (wpAny_pure ?_))
   refine wpAny_bind (wpAny_operateT (wpAny_getItem_list_slice hl' (Heap.IsSliceOf.new ..) pi pj .none (by simp) (wpAny_bind (wpAny_letTemporaryGo (wpAny_pure ?_))) ?_))
   · have n1:=Heap.get?_none_of_le (h:=h3) (Nat.le_refl _)
     have k1:∀ b o,h3.get? b=some o->(h3.push { cls:=.type "slice",data:=.fields #[vl,vu,.none] }).get? b=some o:=fun b o e=>Heap.get?_push_of_some _ e
     have st4:=st3.keeps k1
     refine q _ _ _ _ _ (atRef _) (hk2 _ ?_) (st4.new (Heap.get?_none_of_le (Nat.le_refl _)) (fun b o e=>Heap.get?_push_of_some _ e) ⟨_,_,Heap.get?_push_size _ rfl,hr2⟩)
     exact fresh_at st4
   · refine qE sizeLine_eq ?_;have:=hall.len;simp at this;lia
  refine wpAny_bind (ro.okE x st fun a v σ1 h1 t1 av x1 st1=>wpAny_bind (wpAny_holding (wpAny_Slice ?_)))
  unfold kSl at x1
  induction hlo:eLo e with
  | none=>
   replace x1:=hlo▸x1
   have x1:kSl1 e c r m a k .none σ1:=x1
   unfold kSl1 at x1
   induction hup:eUp e with
   | none=>
    replace x1:=hup▸x1
    exact wpAny_pure (wpAny_pure (wpAny_pure (by rw [hlo,hup] at tail;exact tail atNone atNone av st1 x1)))
   | some u=>
    replace x1:=hup▸x1
    refine wpAny_pure (ro.okE x1 st1 fun b w σ2 h2 t2 bv x2 st2=>wpAny_pure (by rw [hlo,hup] at tail;exact tail atNone bv av st2 x2))
  | some l=>
   replace x1:=hlo▸x1
   refine ro.okE x1 st1 fun b w σ2 h2 t2 bv x2 st2=>?_
   unfold kSl1 at x2
   induction hup:eUp e with
   | none=>
    replace x2:=hup▸x2
    exact wpAny_pure (wpAny_pure (by rw [hlo,hup] at tail;exact tail bv atNone av st2 x2))
   | some u=>
    replace x2:=hup▸x2
    exact ro.okE x2 st2 fun d z σ3 h3 t3 dv x3 st3=>wpAny_pure (by rw [hlo,hup] at tail;exact tail bv dv av st3 x3)
 case tup=>
  refine ea2_1 (sh' hk) fun n p he=>?_
  induction hf:fewArgs 40 (eBs e) with
  | false=>replace x:=hf▸x;exact x.elim
  | true=>
   replace x:=hf▸x
   refine qE he (wpAny_Tuple (ro.okL x hf |> fun y=>y st fun as vs σ1 h1 t1 av x1 st1=>⟨?_,q _ _ _ _ _ (atRef _) (x1.2 _ (fresh_at st1)) (st1.newF (Heap.get?_none_of_le (Nat.le_refl _)) (fun b o e=>Heap.get?_push_of_some _ e) ⟨_,_,Heap.get?_push_size _ rfl,by simpa using av⟩)⟩))
   refine qE av.len (qE sizeLine_eq ?_);have:=x1.1;lia
 case list=>
  refine ea1_1 (sh' hk) fun p he=>?_
  induction hf:fewArgs 40 (eBs e) with
  | false=>replace x:=hf▸x;exact x.elim
  | true=>
   replace x:=hf▸x
   refine qE he (wpAny_List (ro.okL x hf |> fun y=>y st fun as vs σ1 h1 t1 av x1 st1=>⟨?_,q _ _ _ _ _ (atRef _) (x1.2 _ (fresh_at st1)) (st1.new (Heap.get?_none_of_le (Nat.le_refl _)) (fun b o e=>Heap.get?_push_of_some _ e) ⟨_,_,Heap.get?_push_size _ rfl,by simpa using av⟩)⟩))
   refine qE av.len (qE sizeLine_eq ?_);have:=x1.1;lia
 case dict0=>
  refine ea1_1 (sh' hk) fun p he=>?_
  rw [he,eval_Dict_empty]
  refine wpAny_bind (wpAny_standAt ?_)
  refine ea1_2 x fun c0 hc x=>?_
  have hn:=Heap.get?_none_of_le (h:=h) (Nat.le_refl _)
  have e0:(h.push { cls:=.type "dict",data:=.dict #[] }).get? h.objs.size=some { cls:=.type "dict",data:=.dict #[] }:=Heap.get?_push_size _ rfl
  have cell:CellAt c.K (h.push { cls:=.type "dict",data:=.dict #[] }) h.objs.size c0:=by
   rcases hc with rfl | rfl
   · exact ⟨[],⟨_,#[],0,e0,⟨rfl,rfl,rfl⟩,rfl,(by intro e he;simp at he),.nil,.nil⟩,trivial⟩
   · exact ⟨[],⟨_,#[],0,e0,⟨rfl,rfl,rfl⟩,rfl,(by intro e he;simp at he),.nil,.nil⟩,trivial⟩
  have fin:=q _ _ _ _ t (atRef _) (x _ (fresh_at st)) (st.new hn (fun b o e=>Heap.get?_push_of_some _ e) cell)
  unfold newDict
  exact wpAny_newObj_type fin
 case other=>exact x hr fe st q
end
end
section
section
variable {c:Cx} {r:Rec} {A:Around} {env:Env} {L:Addr} {m:Loc} {σ:Sg} {e:Expr}
theorem stepT_sound (ro:RecOk c r A env L) (hr:Room A c.D) {k:Bool->Sg->Prop} (x:stepT c r e m σ k):Tells Eq c.K A (isTrue e env (eval e env)) L m σ k:=by
 intro E fs h t Q st q
 unfold stepT at x
 have gen:(isTrue e env (eval e env)=(do let v ← eval e env;standAt e.pos;holding [v] (truthy v)))->r.E e m σ (kTru c k)->wpAny (model prg c.K.w) A (isTrue e env (eval e env)) Q E ⟨h,#[],c.K.d,t,c.K.os⟩:=fun hi x=>
  wpAny_isTrue_value (ro.okE x st fun a v σ1 h1 t1 av x1 st1=>Wp.use1 x1 st1 hr av q) hi
 cases hk:kindE e <;> replace x:=hk▸x <;> dsimp only at x
 case const=>refine ea2_1 (sh' hk) fun n p he=>?_;exact gen (by refine qE he ?_;rfl) x
 case name=>refine ea1_1 (sh' hk) fun p he=>?_;exact gen (by refine qE he ?_;rfl) x
 case bin=>refine ea1_1 (sh' hk) fun p he=>?_;exact gen (by refine qE he ?_;rfl) x
 case un=>
  refine ea1_1 (sh' hk) fun p he=>?_
  induction hu:eUop e with
  | Not=>
   rw [hu] at x he
   exact qE he (wpAny_isTrue_Not (ro.okT x st fun b b' σ1 h1 t1 e1 x1 st1=>by subst e1;exact q _ _ _ _ _ rfl x1 st1))
  | _=>replace x:=hu▸x;exact x.elim
 case cmp=>
  refine ea1_1 (sh' hk) fun p he=>?_
  induction hm:behindInMarks (eCop e) (eR e) with
  | true=>replace x:=hm▸x;exact x.elim
  | false=>
   replace x:=hm▸x
   refine qE he (wpAny_isTrue_Compare1 (ro.okE x st fun a v σ1 h1 t1 av x1 st1=>ro.okE x1 st1 fun b w σ2 h2 t2 bv x2 st2=>Wp.use2 x2 st2 hr av bv fun d u σ3 h3 t3 du x3 st3=>?_) hm)
   cases d <;> first | exact x3.elim | skip
   cases du
   exact wpAny_truthy_bool (q _ _ _ _ _ rfl x3 st3)
 case boolop=>
  exact ea1_1 (sh' hk) fun p he=>qE he (wpAny_isTrue_BoolOp (ro.okTB x st q))
 case callN=>refine ea2_1 (sh' hk) fun p p2 he=>?_;exact gen (by refine qE he ?_;rfl) x
 case callM=>refine ea2_2 (sh' hk) fun p p2 he ξ=>?_;exact gen (by refine qE he ?_;rfl) x
 case attr=>refine ea1_1 (sh' hk) fun p he=>?_;exact gen (by refine qE he ?_;rfl) x
 case sub=>refine ea0_2 (sh' hk) fun z1 ξ=>?_;refine ea1_1 z1 fun p he=>?_;clear z1;exact gen (by refine qE he ?_;rfl) x
 case slice=>refine ea2_1 (sh' hk) fun p p2 he=>?_;exact gen (by refine qE he ?_;rfl) x
 case tup=>refine ea2_1 (sh' hk) fun n p he=>?_;exact gen (by refine qE he ?_;rfl) x
 case list=>refine ea1_1 (sh' hk) fun p he=>?_;exact gen (by refine qE he ?_;rfl) x
 case dict0=>refine ea1_1 (sh' hk) fun p he=>?_;exact gen (by refine qE he ?_;rfl) x
theorem stepL_sound (ro:RecOk c r A env L) {l:List Expr} {n:Nat} {pos:Pos} {k:List V->Sg->Prop} (x:stepL r l m σ k) (hf:fewArgs n l=true):Tells AllAt c.K A (spliced (backTo pos (starEach l env))) L m σ k:=by
 intro E fs h t Q st q
 induction l using List.casesOn with
 | nil=>exact wpAny_items_nil (q [] [] σ h t trivial x st)
 | cons e l=>
  refine ea0_2 (few_cons hf env) fun hs z1=>?_;refine ea1_1 z1 fun n' hf'=>?_;clear z1
  exact wpAny_items_cons (ro.okE x st fun a v σ1 h1 t1 av x1 st1=>ro.okL x1 hf' |> fun y=>y st1 fun as vs σ2 h2 t2 avs x2 st2=>q (a::as) (v::vs) _ _ _ ⟨av,avs⟩ x2 st2) hs
theorem stepB_sound (ro:RecOk c r A env L) (hr:Room A c.D) {op:BoolOp} {l:List Expr} {pos:Pos} {k:V->Sg->Prop} (x:stepB c r op l m σ k):Tells V.At c.K A (boolOp pos op (evalEach l env)) L m σ k:=by
 intro E fs h t Q st q
 induction l using List.casesOn with
 | nil=>exact x.elim
 | cons e l=>
  induction l using List.casesOn with
  | nil=>exact ro.okE x st q
  | cons e2 l=>
   show wpAny _ A (do
    let v ← eval e env
    standAt pos
    let t ← holding [v] (truthy v)
    match op,t with
    | .And,false | .Or,true=>pure v
    | _,_=>boolOp pos op (evalEach (e2::l) env)) _ _ _
   refine wpAny_bind (ro.okE x st fun a v σ1 h1 t1 av x1 st1=>wpAny_bind (wpAny_standAt (wpAny_bind (wpAny_holding (Wp.use1 x1 st1 hr av fun b b' σ2 h2 t2 eb x2 st2=>?_)))))
   subst eb
   cases op <;> cases b
   · exact wpAny_pure (q _ _ _ _ _ av x2 st2)
   · exact ro.okB x2 st2 q
   · exact ro.okB x2 st2 q
   · exact wpAny_pure (q _ _ _ _ _ av x2 st2)
theorem stepTB_sound (ro:RecOk c r A env L) {op:BoolOp} {l:List Expr} {k:Bool->Sg->Prop} (x:stepTB r op l m σ k):Tells Eq c.K A (allTrue op l env) L m σ k:=by
 intro E fs h t Q st q
 induction l using List.casesOn with
 | nil=>
  cases op
  · exact wpAny_allTrue_And_nil (q _ _ _ _ _ rfl x st)
  · exact wpAny_allTrue_Or_nil (q _ _ _ _ _ rfl x st)
 | cons e l=>
  cases op
  · refine wpAny_allTrue_And_cons (ro.okT x st fun b b' σ1 h1 t1 eb x1 st1=>?_)
    subst eb
    cases b
    · exact q _ _ _ _ _ rfl x1 st1
    · exact ro.okTB x1 st1 q
  · refine wpAny_allTrue_Or_cons (ro.okT x st fun b b' σ1 h1 t1 eb x1 st1=>?_)
    subst eb
    cases b
    · exact ro.okTB x1 st1 q
    · exact q _ _ _ _ _ rfl x1 st1
theorem recE_ok (hr:Room A c.D) (fe:Fe env c.sc L):∀ n,RecOk c (recE n c) A env L
 | 0=>⟨fun x=>x.elim,fun x=>x.elim,fun x=>x.elim,fun x=>x.elim,fun x=>x.elim⟩
 | n+1=>⟨fun x=>stepE_sound (recE_ok hr fe n) hr fe x,fun x=>stepT_sound (recE_ok hr fe n) hr x,fun x hf=>stepL_sound (recE_ok hr fe n) x hf,fun x=>stepB_sound (recE_ok hr fe n) hr x,fun x=>stepTB_sound (recE_ok hr fe n) x⟩
end
end
section
set_option backward.match.sparseCases false
inductive FlV where
 | next | brk | cont
 | ret (a:V)
deriving Inhabited
noncomputable def FlV.At:FlV->Flow->Prop
 | .next,f=>f=.next
 | .brk,f=>f=.brk
 | .cont,f=>f=.cont
 | .ret a,f=>∃ v,f=.ret v/\a.At v
noncomputable def TellsS (K:Kc) (A:Around) (x:Sem Flow) (L:Addr) (m:Loc) (σ:Sg) (k:FlV->Loc->Sg->Prop):Prop:=
 ∀ {E:VP} {fs h t} {Q:Flow->Shared->Prop},St K σ L m fs h->(∀ c u m' σ' h' t',c.At u->k c m' σ'->St K σ' L m' fs h'->Q u ⟨h',#[],K.d,t',K.os⟩)->wpAny (model prg K.w) A x Q E ⟨h,#[],K.d,t,K.os⟩
set_option genCtorIdx true in
inductive SK where
 | expr | asgN | asgA | asgS | asgT | augN | augA | ret0 | ret1 | iff | whil | forr | brk | cont | other
deriving DecidableEq
noncomputable def namesOf:List Expr->Option (List Str)
 | []=>some []
 | e::r=>match exName e with | some x=>(match namesOf r with | some l=>some (x::l) | none=>none) | none=>none
theorem namesOf_cons {e:Expr} {r:List Expr} {ns:List Str} (h:namesOf (e::r)=some ns):∃ x p l,e=.Name x p/\namesOf r=some l/\ns=x::l:=by
 replace h:(match exName e with | some x=>(match namesOf r with | some l=>some (x::l) | none=>none) | none=>none)=some ns:=h
 induction hx:exName e with
 | none=>rw [hx] at h;injection h
 | some x=>
  induction hr:namesOf r with
  | none=>rw [hx,hr] at h;injection h
  | some l=>rw [hx,hr] at h;cases h;exact ea1_1 (exName.use hx) fun p z=>⟨x,p,l,z,rfl,rfl⟩
noncomputable def isComp:Expr->Bool | .ListComp ..=>true | .SetComp ..=>true | .DictComp ..=>true | _=>false
noncomputable def isTup:Expr->Bool | .Tuple ..=>true | _=>false
noncomputable def isSet:Expr->Bool | .Set ..=>true | _=>false
noncomputable def kTg (t e:Expr):SK:=match t with
 | .Name ..=>.asgN
 | .Attribute ..=>.asgA
 | .Subscript ..=>.asgS
 | .Tuple l _ _=>match isTup e with | true=>.other | false=>(match namesOf l with | some _=>.asgT | none=>.other)
 | _=>.other
noncomputable def kindS:Stmt->SK
 | .Expr e _=>match isComp e with | true=>.other | false=>.expr
 | .Assign ts e _=>match isComp e with | true=>.other | false=>(match ts with | []=>.other | t::r=>match r.isEmpty with | true=>kTg t e | false=>.other)
 | .AugAssign t _ _ _=>match t with | .Name ..=>.augN | .Attribute ..=>.augA | _=>.other
 | .Return v _=>match v with | none=>.ret0 | some _=>.ret1
 | .If ..=>.iff
 | .While _ _ l _=>match l.isEmpty with | true=>.whil | false=>.other
 | .For _ e _ l _=>match l.isEmpty with | true=>(match isSet e with | true=>.other | false=>.forr) | false=>.other
 | .Break _=>.brk
 | .Continue _=>.cont
 | _=>.other
noncomputable def sE:Stmt->Expr | .Expr e _=>e | .Assign _ e _=>e | .AugAssign _ _ e _=>e | .Return (some e) _=>e | .If t _ _ _=>t | .While t _ _ _=>t | .For _ i _ _ _=>i | _=>e0
noncomputable def sTg:Stmt->Expr | .Assign [t] _ _=>t | .AugAssign t _ _ _=>t | .For t _ _ _ _=>t | _=>e0
noncomputable def sOp:Stmt->Operator | .AugAssign _ op _ _=>op | _=>.Add
noncomputable def sB:Stmt->List Stmt | .If _ b _ _=>b | .While _ b _ _=>b | .For _ _ b _ _=>b | _=>[]
noncomputable def sC:Stmt->List Stmt | .If _ _ c _=>c | _=>[]
noncomputable def putAll:Loc->List Str->List V->Loc
 | m,x::xs,a::as=>putAll (m.put x a) xs as
 | m,_,_=>m
noncomputable def snil:List Stmt->Bool | []=>true | _=>false
noncomputable def s0:Stmt:=.Pass ⟨0,0,0,0⟩
noncomputable def shd:List Stmt->Stmt | s::_=>s | []=>s0
noncomputable def stl:List Stmt->List Stmt | _::r=>r | []=>[]
structure RecS where
 S:Stmt->Loc->Sg->(FlV->Loc->Sg->Prop)->Prop
 SS:List Stmt->Loc->Sg->(FlV->Loc->Sg->Prop)->Prop
deriving Inhabited
noncomputable def isLoc (c:Cx) (x:Str):Bool:=c.sc.names.lookup x==some .local
noncomputable abbrev UnpW (K D n a k σ):=Wp AllAt K D (on1 fun v=>unpackItems v n none) [a] k σ
noncomputable abbrev KF:=FlV->Loc->Sg->Prop
noncomputable def kUnp (m:Loc) (ns:List Str) (k:Loc->Sg->Prop) (as:List V) (σ:Sg):Prop:=as.length=ns.length/\k (putAll m ns as) σ
noncomputable def asg (c:Cx) (t:Expr) (a:V) (m:Loc) (σ:Sg) (k:Loc->Sg->Prop):Prop:=
 match kindE t with
 | .name=>match isLoc c (eName t) with | true=>k (m.put (eName t) a) σ | false=>False
 | .tup=>match namesOf (eBs t) with
  | some ns=>ns.all (isLoc c)=true/\UnpW c.K c.D ns.length a (kUnp m ns k) σ
  | none=>False
 | _=>False
inductive Src where
 | list (x:Addr)
 | tup (x:Addr)
 | range (x:Addr)
noncomputable def SrcOk (K:Kc) (σ:Sg) (items:List V):Src->Prop
 | .list x=>Has K σ x (.list items)
 | .tup x=>Has K σ x (.tup items)
 | .range x=>Has K σ x (.range items.length)/\items.length<=1000/\∀ i,i<items.length->items[i]?=some (.int i)
noncomputable def Src.addr:Src->Addr | .list x=>x | .tup x=>x | .range x=>x
noncomputable def retV:FlV->V | .ret a=>a | _=>.none
noncomputable def kRet (k:V->Sg->Prop) (f:FlV) (_:Loc) (σ:Sg):Prop:=k (retV f) σ
noncomputable def jNx {α:Type} (m:Loc) (k:KF) (_:α) (σ:Sg):Prop:=k .next m σ
noncomputable def jN (x:Str) (m:Loc) (k:KF) (a:V) (σ:Sg):Prop:=k .next (m.put x a) σ
section
variable (s:Stmt) (c:Cx) (rE:Rec) (r:RecS) (m:Loc)
noncomputable def jA2 (a:V) (k:KF) (o:V) (σ:Sg):Prop:=SetW c.K c.D o (eAttr (sTg s)) a (k .next m) σ
noncomputable def jA (k:KF) (a:V) (σ:Sg):Prop:=rE.E (eL (sTg s)) m σ (jA2 s c m a k)
noncomputable def jS3 (a o:V) (k:KF) (i:V) (σ:Sg):Prop:=SetIW c.K c.D o i a (k .next m) σ
noncomputable def jS2 (a:V) (k:KF) (o:V) (σ:Sg):Prop:=rE.E (eR (sTg s)) m σ (jS3 c m a o k)
noncomputable def jS (k:KF) (a:V) (σ:Sg):Prop:=rE.E (eL (sTg s)) m σ (jS2 s c rE m a k)
noncomputable def jT (k:KF) (a:V) (σ:Sg):Prop:=asg c (sTg s) a m σ (k .next)
noncomputable def jU (a:V) (k:KF) (b:V) (σ:Sg):Prop:=InpW c.K c.D (sOp s) a b (jN (eName (sTg s)) m k) σ
noncomputable def jG4 (o:V) (k:KF) (v:V) (σ:Sg):Prop:=SetW c.K c.D o (eAttr (sTg s)) v (k .next m) σ
noncomputable def jG3 (o a:V) (k:KF) (b:V) (σ:Sg):Prop:=InpW c.K c.D (sOp s) a b (jG4 s c m o k) σ
noncomputable def jG2 (o:V) (k:KF) (a:V) (σ:Sg):Prop:=rE.E (sE s) m σ (jG3 s c m o a k)
noncomputable def jG (k:KF) (o:V) (σ:Sg):Prop:=GetW c.K c.D o (eAttr (sTg s)) (jG2 s c rE m o k) σ
noncomputable def jR (k:KF) (a:V) (σ:Sg):Prop:=k (.ret a) m σ
noncomputable def jI (k:KF) (b:Bool) (σ:Sg):Prop:=match b with | true=>r.SS (sB s) m σ k | false=>r.SS (sC s) m σ k
noncomputable def jLap (j:Nat) (I:Loc->Sg->Prop) (k:KF) (f:FlV) (m':Loc) (σ:Sg):Prop:=match f with | .next=>I (m'.take j) σ | .cont=>I (m'.take j) σ | .brk=>k .next m' σ | .ret a=>k (.ret a) m' σ
noncomputable def jLess (I:Nat->Loc->Sg->Prop) (n:Nat) (m:Loc) (σ:Sg):Prop:=∃ n',n'<n/\I n' m σ
end
noncomputable def jW (s:Stmt) (j:Nat) (r:RecS) (m:Loc) (I:Nat->Loc->Sg->Prop) (n:Nat) (k:KF) (b:Bool) (σ:Sg):Prop:=match b with | true=>r.SS (sB s) m σ (jLap j (jLess I n) k) | false=>k .next m σ
noncomputable def jF2 (s:Stmt) (j:Nat) (r:RecS) (I:Loc->Sg->Prop) (k:KF) (m:Loc) (σ:Sg):Prop:=r.SS (sB s) m σ (jLap j I k)
noncomputable def jF (s:Stmt) (c:Cx) (r:RecS) (m:Loc) (k:KF) (a:V) (σ:Sg):Prop:=∃ (j:Nat) (src:Src) (items:List V) (I:List V->Loc->Sg->Prop),a=.ref src.addr/\I items m σ/\(∀ l m σ,I l m σ->SrcOk c.K σ items src) ∧
 (∀ x l m σ,I (x::l) m σ->asg c (sTg s) x m σ (jF2 s j r (I l) k)) ∧
 ∀ m σ,I [] m σ->k .next m σ
noncomputable def jSeq (l:List Stmt) (r:RecS) (k:KF) (f:FlV) (m:Loc) (σ:Sg):Prop:=match f with
 | .next=>r.SS l m σ k
 | .brk=>k .brk m σ
 | .cont=>k .cont m σ
 | .ret a=>k (.ret a) m σ
noncomputable def stepS (c:Cx) (rE:Rec) (r:RecS) (s:Stmt) (m:Loc) (σ:Sg) (k:FlV->Loc->Sg->Prop):Prop:=
 match kindS s with
 | .expr=>rE.E (sE s) m σ (jNx m k)
 | .asgN=>match isLoc c (eName (sTg s)) with
  | true=>rE.E (sE s) m σ (jN (eName (sTg s)) m k)
  | false=>False
 | .asgA=>rE.E (sE s) m σ (jA s c rE m k)
 | .asgS=>rE.E (sE s) m σ (jS s c rE m k)
 | .asgT=>rE.E (sE s) m σ (jT s c m k)
 | .augN=>match isLoc c (eName (sTg s)),m.get (eName (sTg s)) with
  | true,some a=>rE.E (sE s) m σ (jU s c m a k)
  | _,_=>False
 | .augA=>rE.E (eL (sTg s)) m σ (jG s c rE m k)
 | .ret0=>k (.ret .none) m σ
 | .ret1=>rE.E (sE s) m σ (jR m k)
 | .iff=>rE.T (sE s) m σ (jI s r m k)
 | .whil=>∃ (j:Nat) (I:Nat->Loc->Sg->Prop) (n0:Nat),I n0 m σ/\∀ n m σ,I n m σ->rE.T (sE s) m σ (jW s j r m I n k)
 | .forr=>rE.E (sE s) m σ (jF s c r m k)
 | .brk=>k .brk m σ
 | .cont=>k .cont m σ
 | .other=>∀ {A env L},Room A c.D->Fe env c.sc L->TellsS c.K A (exec s env) L m σ k
noncomputable def stepSS (r:RecS) (l:List Stmt) (m:Loc) (σ:Sg) (k:FlV->Loc->Sg->Prop):Prop:=
 match snil l with
 | true=>k .next m σ
 | false=>r.S (shd l) m σ (jSeq (stl l) r k)
noncomputable def recS:Nat->Cx->RecS
 | 0,_=>⟨fun ξ ξ ξ ξ=>False,fun ξ ξ ξ ξ=>False⟩
 | n+1,c=>⟨stepS c (recE 40 c) (recS n c),stepSS (recS n c)⟩
noncomputable def vc (c:Cx) (body:List Stmt) (m:Loc) (σ:Sg) (k:FlV->Loc->Sg->Prop):Prop:=(recS 60 c).SS body m σ k
end
section
section
variable {c:Cx} {rE:Rec} {r:RecS} {A:Around} {env:Env} {L:Addr} {m:Loc} {σ:Sg} {s:Stmt}
structure RecSOk (c:Cx) (r:RecS) (A:Around) (env:Env) (L:Addr):Prop where
 okS:∀ {s m σ k},r.S s m σ k->TellsS c.K A (exec s env) L m σ k
 okSS:∀ {l m σ k},r.SS l m σ k->TellsS c.K A (execs l env) L m σ k
theorem frame_store {h':Heap} {x:Str} {v:Value} {a:V} {mv:Str->Option Value} (ho:LocAt m mv) (hn:h'.Ns L fun y=>if y=x then some v else mv y) (av:a.At v):FrameAt h' L (m.put x a):=by
 refine ⟨_,hn,fun z b hz=>?_⟩
 rw [Loc.get_put] at hz
 show ∃ w,(if z=x then some v else mv z)=some w/\_
 by_cases e:z=x
 · rw [if_pos e] at hz ⊢;cases hz;exact ⟨v,rfl,av⟩
 · rw [if_neg e] at hz ⊢;exact ho z b hz
theorem store_loc {fs:Fs} {h:Heap} {t:Nat} {E:VP} (fe:Fe env c.sc L) {x:Str} {a:V} {v:Value} (hl:c.sc.names.lookup x=some .local) (st:St c.K σ L m fs h) (av:a.At v) {M:Model} {Q:Unit->Shared->Prop}
 (q:∀ h' t',St c.K σ L (m.put x a) fs h'->Q () ⟨h',#[],c.K.d,t',c.K.os⟩):wpAny M A (storeName env x v) Q E ⟨h,#[],c.K.d,t,c.K.os⟩:=by
 refine ea1_2 st.fr.1 fun mv hn ho=>?_
 have hloc:=fe.loc
 refine wpAny_storeName_local ((fe.k _).trans hl) (by refine qE hloc ?_;exact hn) (fun h' hg' S=>q _ _ ?_) (by refine qE fe.scope (qE fe.kind ?_);rfl)
 rw [hloc] at hg' S
 exact st.frame S (frame_store ho hg' av)
set_option tactic.hygienic true in
theorem asg_all {fs:Fs} {E:VP} (fe:Fe env c.sc L) {M:Model} {Q:Unit->Shared->Prop}:∀ (elts:List Expr) (ns:List Str) (as:List V) (vs:List Value) (m:Loc) (h:Heap) (t:Nat),namesOf elts=some ns->ns.all (isLoc c)=true->as.length=ns.length->AllAt as vs →
 St c.K σ L m fs h->(∀ h' t',St c.K σ L (putAll m ns as) fs h'->Q () ⟨h',#[],c.K.d,t',c.K.os⟩)->wpAny M A (assignInOrder ((assignEach elts env).map (·.2)) vs) Q E ⟨h,#[],c.K.d,t,c.K.os⟩
 | [],ns,as,vs,m,h,t,e,_,hl,av,st,q=>by
  cases e
  induction as using List.casesOn with
  | nil=>induction vs using List.casesOn with
   | nil=>exact wpAny_pure (q h t st)
   | cons _ _=>exact av.elim
  | cons _ _=>simp at hl
 | e::r,ns,as,vs,m,h,t,en,ha,hl,av,st,q=>by
  refine ea3_3 (namesOf_cons en) fun x p l z hr z2=>?_;clear en;subst z;subst z2
  · induction as using List.casesOn with
    | nil=>simp at hl
    | cons a as=>
     induction vs using List.casesOn with
     | nil=>exact av.elim
     | cons v vs=>
      rw [List.all_cons,Bool.and_eq_true] at ha
      have hx:c.sc.names.lookup x=some .local:=by have:=ha.1;unfold isLoc at this;simpa using this
      show wpAny M A (assignInOrder (assign (.Name x p) env::(assignEach r env).map (·.2)) (v::vs)) Q E _
      unfold assignInOrder
      exact wpAny_bind (wpAny_holding (wpAny_assign_Name (store_loc fe hx st av.1 fun h' t' st'=>asg_all fe r l as vs _ h' t' hr ha.2 (by simpa using hl) av.2 st' q)))
set_option tactic.hygienic true in
theorem names_len:∀ {elts:List Expr} {ns:List Str},namesOf elts=some ns->(assignEach elts env).length=ns.length/\(assignEach elts env).findIdx? (·.1)=none
 | [],ns,e=>by cases e;exact ⟨rfl,rfl⟩
 | e::r,ns,en=>by
  refine ea3_3 (namesOf_cons en) fun x p l z hr z2=>?_;clear en;subst z;subst z2
  · refine ea0_2 (names_len (elts:=r) hr) fun h1 h2=>⟨?_,?_⟩
    · show (assignEach r env).length+1=l.length+1
      exact qE h1 rfl
    · show ((false,assign (.Name x p) env)::assignEach r env).findIdx? (·.1)=none
      refine qE List.findIdx?_cons ?_
      simp [h2]
theorem asg_sound {fs:Fs} {h:Heap} {t:Nat} {E:VP} (hr:Room A c.D) (fe:Fe env c.sc L) {tg:Expr} {a:V} {v:Value} {k:Loc->Sg->Prop} (x:asg c tg a m σ k) (st:St c.K σ L m fs h) (av:a.At v) {Q:Unit->Shared->Prop}
 (q:∀ m' σ' h' t',k m' σ'->St c.K σ' L m' fs h'->Q () ⟨h',#[],c.K.d,t',c.K.os⟩):wpAny (model prg c.K.w) A (assign tg env v) Q E ⟨h,#[],c.K.d,t,c.K.os⟩:=by
 unfold asg at x
 cases hk:kindE tg <;> replace x:=hk▸x <;> dsimp only at x <;> first | exact x.elim | skip
 case name=>
  refine ea1_1 (sh' hk) fun p he=>?_
  induction hl:isLoc c (eName tg) with
  | false=>replace x:=hl▸x;exact x.elim
  | true=>
   replace x:=hl▸x
   exact qE he (wpAny_assign_Name (store_loc fe (by unfold isLoc at hl;simpa using hl) st av fun h' t' st'=>q _ _ _ _ x st'))
 case tup=>
  refine ea2_1 (sh' hk) fun n p he=>?_
  induction hn:namesOf (eBs tg) with
  | none=>replace x:=hn▸x;exact x.elim
  | some ns=>
   replace x:=hn▸x
   refine ea0_2 (names_len (env:=env) hn) fun h1 h2=>?_
   rw [he,arm_assign_Tuple]
   refine wpAny_bind (wpAny_standAt ?_)
   unfold unpack
   refine qE h1 (qE h2 ?_)
   refine wpAny_bind (wpAny_holding (Wp.use1 x.2 st hr av fun as vs σ2 h2 t2 avs x2 st2=>?_))
   exact asg_all fe _ _ _ _ _ _ _ hn x.1 x2.1 avs st2 fun h' t' st'=>q _ _ _ _ x2.2 st'
theorem noComp {e:Expr} (h:isComp e=false) (tg:Option Expr) (l:Nat) (env:Env):swapsWith e tg l env=pure false:=by
 cases e <;> first | rfl | injection h
noncomputable def Ks (s:Stmt):SK->Prop
 | .expr=>∃ p,s=.Expr (sE s) p/\isComp (sE s)=false
 | .asgN=>∃ p p2,s=.Assign [.Name (eName (sTg s)) p] (sE s) p2/\isComp (sE s)=false
 | .asgA=>∃ p p2,s=.Assign [.Attribute (eL (sTg s)) (eAttr (sTg s)) p] (sE s) p2/\isComp (sE s)=false
 | .asgS=>∃ p p2,s=.Assign [.Subscript (eL (sTg s)) (eR (sTg s)) p] (sE s) p2/\isComp (sE s)=false
 | .asgT=>∃ p2,s=.Assign [sTg s] (sE s) p2/\(∃ l n p,sTg s=.Tuple l n p)/\isComp (sE s)=false/\isTup (sE s)=false
 | .augN=>∃ p p2,s=.AugAssign (.Name (eName (sTg s)) p) (sOp s) (sE s) p2
 | .augA=>∃ p p2,s=.AugAssign (.Attribute (eL (sTg s)) (eAttr (sTg s)) p) (sOp s) (sE s) p2
 | .ret0=>∃ p,s=.Return none p
 | .ret1=>∃ p,s=.Return (some (sE s)) p
 | .iff=>∃ p,s=.If (sE s) (sB s) (sC s) p
 | .whil=>∃ p,s=.While (sE s) (sB s) [] p
 | .forr=>∃ p,s=.For (sTg s) (sE s) (sB s) [] p/\isSet (sE s)=false
 | .brk=>∃ p,s=.Break p
 | .cont=>∃ p,s=.Continue p
 | .other=>True
theorem ks (s:Stmt):Ks s (kindS s):=by
 induction s using Stmt.casesOn with
 | Expr e p=>
  show Ks _ (match isComp e with | true=>SK.other | false=>.expr)
  induction h:isComp e with
  | true=>exact trivial
  | false=>exact ⟨p,rfl,h⟩
 | Assign ts e p=>
  show Ks _ (match isComp e with | true=>SK.other | false=>(match ts with | []=>.other | t::r=>match r.isEmpty with | true=>kTg t e | false=>.other))
  induction h:isComp e with
  | true=>exact trivial
  | false=>
   induction ts using List.casesOn with
   | nil=>exact trivial
   | cons t r=>induction r using List.casesOn with
    | cons _ _=>exact trivial
    | nil=>induction t using Expr.casesOn with
     | Name x q=>exact ⟨q,p,rfl,h⟩
     | Attribute o n q=>exact ⟨q,p,rfl,h⟩
     | Subscript o i q=>exact ⟨q,p,rfl,h⟩
     | Tuple l n q=>
      show Ks _ (match isTup e with | true=>SK.other | false=>(match namesOf l with | some _=>.asgT | none=>.other))
      induction ht:isTup e with
      | true=>exact trivial
      | false=>cases namesOf l with
       | none=>exact trivial
       | some _=>exact ⟨p,rfl,⟨l,n,q,rfl⟩,h,ht⟩
     | _=>exact trivial
 | AugAssign t o e p=>induction t using Expr.casesOn with
  | Name x q=>exact ⟨q,p,rfl⟩
  | Attribute o n q=>exact ⟨q,p,rfl⟩
  | _=>exact trivial
 | Return v p=>induction v with
  | none=>exact ⟨p,rfl⟩
  | some _=>exact ⟨p,rfl⟩
 | If t a b p=>exact ⟨p,rfl⟩
 | While t b l p=>induction l using List.casesOn with
  | nil=>exact ⟨p,rfl⟩
  | cons _ _=>exact trivial
 | For t e b l p=>induction l using List.casesOn with
  | nil=>
   show Ks _ (match isSet e with | true=>SK.other | false=>.forr)
   induction h:isSet e with
   | true=>exact trivial
   | false=>exact ⟨p,rfl,h⟩
  | cons _ _=>exact trivial
 | Break p=>exact ⟨p,rfl⟩
 | Continue p=>exact ⟨p,rfl⟩
 | _=>exact trivial
theorem ks' {κ:SK} (h:kindS s=κ):Ks s κ:=h▸ks s
end
end
section
theorem fNext:FlV.At .next .next:=rfl
theorem fBrk:FlV.At .brk .brk:=rfl
theorem fCont:FlV.At .cont .cont:=rfl
theorem noCompS {e:Expr} (h:isComp e=false) (tg:Expr) (l:Nat) (env:Env):swapsWithSole [tg] e l env=pure false:=noComp h _ _ _
section
variable {c:Cx} {rE:Rec} {r:RecS} {A:Around} {env:Env} {L:Addr} {m:Loc} {σ:Sg} {s:Stmt}
theorem AllAt.get:∀ {as:List V} {vs:List Value} {i:Nat} {a:V},AllAt as vs->as[i]?=some a->∃ v,vs[i]?=some v/\a.At v
 | a::_,v::_,0,b,h,e=>by cases e;exact ⟨v,rfl,h.1⟩
 | _::as,_::vs,i+1,b,h,e=>AllAt.get (as:=as) (vs:=vs) (i:=i) h.2 e
 | [],_,i,_,_,e=>by simp at e
 | _::_,[],_,_,h,_=>h.elim
structure ItSem (K:Kc) (A:Around) (ok:Heap->Prop) (items:List V) (P:Nat->Obj->Prop):Prop where
 item:∀ {E:VP} {h it o i a t} {Q:Option Value->Shared->Prop},h.get? it=some o->P i o->ok h->items[i]?=some a →
  (∀ v h' o' t',a.At v->h'.get? it=some o'->P (i+1) o'->(∀ b x,b≠it->h.get? b=some x->h'.get? b=some x)->Q (some v) ⟨h',#[],K.d,t',K.os⟩)->wpAny (model prg K.w) A (pyNext (.ref it)) Q E ⟨h,#[],K.d,t,K.os⟩
 done:∀ {E:VP} {h it o i t} {Q:Option Value->Shared->Prop},h.get? it=some o->P i o->ok h->items[i]?=none →
  (∀ h',(∀ b x,b≠it->h.get? b=some x->h'.get? b=some x)->Q none ⟨h',#[],K.d,t,K.os⟩)->wpAny (model prg K.w) A (pyNext (.ref it)) Q E ⟨h,#[],K.d,t,K.os⟩
 cls:∀ i o,P i o->∃ n vs,o.cls=.type n/\o.data=.fields vs/\(["enumerate","zip","dict_itemiterator","dict_reverseitemiterator","odict_iterator","itertools.zip_longest","itertools.pairwise"].contains n)=false
theorem go_plain {M:Model} {A:Around} {E:VP} {s:Shared} {tg:Expr} {it:Addr} {v:Value} {o:Obj} {n:String} {vs:Array Value} {Q:Unit->Shared->Prop} (ho:s.heap.get? it=some o) (hc:o.cls=.type n) (hd:o.data=.fields vs)
 (hn:(["enumerate","zip","dict_itemiterator","dict_reverseitemiterator","odict_iterator","itertools.zip_longest","itertools.pairwise"].contains n)=false) (q:Q () s):wpAny M A (letOwnedTupleGo tg (.ref it) v) Q E s:=by
 have key:∀ T,wpAny M A (do
  let o ← load it
  match o.cls,o.data with
  | .type n,.fields vs=>
   if ["enumerate","zip","dict_itemiterator","dict_reverseitemiterator","odict_iterator","itertools.zip_longest","itertools.pairwise"].contains n&&vs[0]?==some (rawInt T) then
    rule "for.unpacks-the-owned-tuple"
    updateField it 0 .none
  | _,_=>pure ()) Q E s:=by
  intro T
  refine wpAny_bind (wpAny_load ho ?_)
  refine qE hc (qE hd ?_)
  dsimp only
  rw [hn,Bool.false_and,if_neg (by simp)]
  exact wpAny_pure q
 unfold letOwnedTupleGo
 cases tg <;> first
  | exact wpAny_pure q
  | (cases v <;> first | exact wpAny_pure q | exact key _)
theorem sem_list (K:Kc) {A:Around} (hh:A.handled=none) (x:Addr) (items:List V):ItSem K A (fun h=>∃ vs,h.IsList x vs/\AllAt items vs.toList) items (fun i o=>o.cls=.type "list_iterator"/\o.data=.fields #[.ref x,.int i 0]) where
 item:=by
  intro E h it o i a t Q ho z1;refine ea0_2 z1 fun hc hd=>?_;clear z1;intro z2;refine ea1_2 z2 fun vs hl av=>?_;clear z2;intro hi q
  refine ea1_2 (av.get hi) fun v hv hav=>?_
  exact wpAny_pyNext_list_item ⟨o,ho,hc,hd⟩ hl (by simpa using hv) fun h' hit S=>let ⟨o',e1,e2,e3⟩:=hit;q v h' o' t hav e1 ⟨e2,e3⟩ fun b x hb e=>(S.2 _ hb).trans e
 done:=by
  intro E h it o i t Q ho z1;refine ea0_2 z1 fun hc hd=>?_;clear z1;intro z2;refine ea1_2 z2 fun vs hl av=>?_;clear z2;intro hi q
  refine wpAny_pyNext_list_end hh ⟨o,ho,hc,hd⟩ hl ?_ fun h' S=>q h' fun b x hb e=>S b x hb e
  have:=av.len
  rw [List.getElem?_eq_none_iff] at hi
  rw [Array.getElem?_eq_none_iff]
  simp at this;lia
 cls:=fun i o h=>⟨_,_,h.1,h.2,by decide⟩
theorem sem_tup (K:Kc) {A:Around} (hh:A.handled=none) (x:Addr) (items:List V):ItSem K A (fun h=>∃ vs,h.IsTuple x vs/\AllAt items vs.toList) items (fun i o=>o.cls=.type "tuple_iterator"/\o.data=.fields #[.ref x,.int i 0]) where
 item:=by
  intro E h it o i a t Q ho z1;refine ea0_2 z1 fun hc hd=>?_;clear z1;intro z2;refine ea1_2 z2 fun vs hl av=>?_;clear z2;intro hi q
  refine ea1_2 (av.get hi) fun v hv hav=>?_
  exact wpAny_pyNext_tuple_item ⟨o,ho,hc,hd⟩ hl (by simpa using hv) fun h' hit S=>let ⟨o',e1,e2,e3⟩:=hit;q v h' o' t hav e1 ⟨e2,e3⟩ fun b x hb e=>(S.2 _ hb).trans e
 done:=by
  intro E h it o i t Q ho z1;refine ea0_2 z1 fun hc hd=>?_;clear z1;intro z2;refine ea1_2 z2 fun vs hl av=>?_;clear z2;intro hi q
  refine wpAny_pyNext_tuple_end hh ⟨o,ho,hc,hd⟩ hl ?_ fun h' S=>q h' fun b x hb e=>S b x hb e
  have:=av.len
  rw [List.getElem?_eq_none_iff] at hi
  rw [Array.getElem?_eq_none_iff]
  simp at this;lia
 cls:=fun i o h=>⟨_,_,h.1,h.2,by decide⟩
theorem sem_range (K:Kc) {A:Around} (hh:A.handled=none) (items:List V) (hi:∀ i,i<items.length->items[i]?=some (.int i)):ItSem K A (fun h=>True) items
 (fun i o=>o={ cls:=.type "range_iterator",dict:=none,data:=.fields #[rawInt i,rawInt ((items.length:Int)-i),rawInt 1],slots:=#[] }) where
 item:=by
  rintro E h it o i a t Q ho rfl ξ hi2 q
  have hlt:i<items.length:=by rw [List.getElem?_eq_some_iff] at hi2;exact hi2.1
  replace hi2:=hi i hlt▸hi2
  cases hi2
  refine wpAny_pyNext_range_item ho (by lia) fun h' hit S=>q _ h' _ _ ⟨_,rfl⟩ hit ?_ fun b x hb e=>(S.2 _ hb).trans e
  refine qE (show (items.length:Int)-i-1=items.length-((i+1:Nat):Int) by lia) ?_
  rfl
 done:=by
  rintro E h it o i t Q ho rfl ξ hi2 q
  rw [List.getElem?_eq_none_iff] at hi2
  exact wpAny_pyNext_range_end hh ho (by lia) fun h' S=>q h' fun b x hb e=>S b x hb e
 cls:=fun i o h=>by subst h;exact ⟨_,_,rfl,rfl,by decide⟩
theorem for_sound (ro:RecOk c rE A env L) (rs:RecSOk c r A env L) (hr:Room A c.D) (fe:Fe env c.sc L) {k:FlV->Loc->Sg->Prop} {a:V} {v:Value} {fs:Fs} {h:Heap} {t:Nat} {E:VP} {Q:Flow->Shared->Prop} (av:a.At v) (st:St c.K σ L m fs h)
 {s:Stmt} (x:jF s c r m k a σ)
 (q:∀ c_1 u m' σ' h' t',FlV.At c_1 u->k c_1 m' σ'->St c.K σ' L m' fs h'->Q u ⟨h',#[],c.K.d,t',c.K.os⟩) :
 wpAny (model prg c.K.w) A (pyIter v) (fun it s₂=>codeAny (model prg c.K.w) A (.forLoop (sTg s) it (sB s) [] env) (fun r s'=>match r with | .ok f=>Q f s' | .error e=>cameBackBy (model prg c.K.w) A env E e s') s₂) E ⟨h,#[],c.K.d,t,c.K.os⟩:=by
 revert ro rs hr fe E Q av st s x q;revert c rE r A env L m σ k a v fs h t;refine no_implicit_lambda% (al14 (n:=⟨(cx0,default,default,a0,default)⟩) ?_);generalize et14 _ _=υ;generalize υ.1=c,υ.2.1=rE,υ.2.2.1=r,υ.2.2.2.1=A,υ.2.2.2.2.1=env,υ.2.2.2.2.2.1=L,υ.2.2.2.2.2.2.1=m,υ.2.2.2.2.2.2.2.1=σ,υ.2.2.2.2.2.2.2.2.1=k,υ.2.2.2.2.2.2.2.2.2.1=a,υ.2.2.2.2.2.2.2.2.2.2.1=v,υ.2.2.2.2.2.2.2.2.2.2.2.1=fs,υ.2.2.2.2.2.2.2.2.2.2.2.2.1=h,υ.2.2.2.2.2.2.2.2.2.2.2.2.2=t;clear υ;intro ro rs hr fe E Q av st s x q
 revert ro rs hr fe av st x q;revert E Q s;refine no_implicit_lambda% (al3 ?_);generalize et3 _ _=υ;generalize υ.1=E,υ.2.1=Q,υ.2.2=s;clear υ;intro ro rs hr fe av st x q
 refine ea4_5 x fun j src items I z1 hI0 hsrc hturn hend=>?_;clear x;subst z1
 cases av
 have main:∀ {ok:Heap->Prop} {P:Nat->Obj->Prop} (sem:ItSem c.K A ok items P),(∀ l m σ fs h,I l m σ->St c.K σ L m fs h->ok h)->∀ {it:Addr} {o:Obj} {h1:Heap} {t1:Nat},h.get? it=none->h1.get? it=some o->P 0 o->(Kp h h1) →
  codeAny (model prg c.K.w) A (.forLoop (sTg s) (.ref it) (sB s) [] env) (fun r s'=>match r with | .ok f=>Q f s' | .error e=>cameBackBy (model prg c.K.w) A env E e s') ⟨h1,#[],c.K.d,t1,c.K.os⟩:=by
  intro ok P sem hok it o h1 t1 hn ho hP k1
  refine codeAny_forLoop_any (fun n s'=>∃ i m σ h2 t2 o2,s'=⟨h2,#[],c.K.d,t2,c.K.os⟩/\n=items.length-i/\i<=items.length/\St c.K σ L m ((it,.obj o2)::fs) h2/\P i o2/\I (items.drop i) m σ) ?_ items.length
   ⟨0,m,σ,h1,t1,o,rfl,rfl,Nat.zero_le _,st.hold hn k1 ho,hP,hI0⟩
  intro n s' z1;refine ea6_1 z1 fun i m2 σ2 h2 t2 o2 y34=>?_;refine ea0_6 y34 fun z2 z3 hi st2 hP2 hI2=>?_;clear y34;clear z1;subst z2;subst z3
  have ho2:h2.get? it=some o2:=(st2.frs (it,.obj o2) (List.mem_cons_self ..)).1
  induction hx:items[i]? with
  | none=>
   refine sem.done ho2 hP2 (hok _ _ _ _ _ hI2 st2) hx fun h3 S=>?_
   have he:items.drop i=[]:=by rw [List.getElem?_eq_none_iff] at hx;exact List.drop_eq_nil_of_le hx
   replace hI2:=he▸hI2
   exact wpAny_execs_nil (q _ _ _ _ _ _ fNext (hend _ _ hI2) (st2.unheld S))
  | some a=>
   have hlt:i<items.length:=by rw [List.getElem?_eq_some_iff] at hx;exact hx.1
   have hd:items.drop i=a::items.drop (i+1):=by
    refine qE (List.drop_eq_getElem_cons hlt) ?_
    replace hx:=List.getElem?_eq_getElem hlt▸hx
    exact qE (Option.some.inj hx) rfl
   refine sem.item ho2 hP2 (hok _ _ _ _ _ hI2 st2) hx fun v h3 o3 t3 hav ho3 hP3 S=>?_
   have st3:=st2.held S ho3
   refine ea2_3 (sem.cls _ _ hP3) fun nm vs c1 c2 c3=>go_plain ho3 c1 c2 c3 ?_
   replace hI2:=hd▸hI2
   refine asg_sound hr fe (hturn _ _ _ _ hI2) st3 hav fun m4 σ4 h4 t4 x4 st4=>rs.okSS x4 st4 fun f u m5 σ5 h5 t5 fu x5 st5=>?_
   have step:I (items.drop (i+1)) (m5.take j) σ5->∃ n',n'<items.length-i/\∃ i m σ h2 t2 o2,(⟨h5,#[],c.K.d,t5,c.K.os⟩:Shared)=⟨h2,#[],c.K.d,t2,c.K.os⟩/\n'=items.length-i/\i<=items.length/\St c.K σ L m ((it,.obj o2)::fs) h2/\P i o2/\I (items.drop i) m σ:=
    fun hi5=>⟨items.length-(i+1),by lia,i+1,m5.take j,σ5,h5,t5,o3,rfl,rfl,hlt,st5.short j,hP3,hi5⟩
   induction f with
   | next=>cases fu;exact step x5
   | cont=>cases fu;exact step x5
   | brk=>cases fu;exact q _ _ _ _ _ _ fNext x5 st5.unhold
   | ret a=>refine ea1_2 fu fun v z1 av=>?_;clear fu;subst z1;exact q (.ret a) _ _ _ _ _ ⟨_,rfl,av⟩ x5 st5.unhold
 induction src with
 | list x=>
  exact ea1_2 ((Has.at (hsrc _ _ _ hI0) st).list) fun vs hl hv=>wpAny_pyIter_list hl (main (sem_list c.K hr.2.2 x items) (fun l m σ fs h hi s=>(Has.at (hsrc _ _ _ hi) s).list) (Heap.get?_none_of_le (Nat.le_refl _)) (Heap.get?_push_size _ rfl) ⟨rfl,rfl⟩ fun b x e=>Heap.get?_push_of_some _ e)
 | tup x=>
  have tl:∀ {h},CellAt c.K h x (.tup items)->∃ vs,h.IsTuple x vs/\AllAt items vs.toList:=fun ⟨vs,n,e,r⟩=>⟨vs,⟨_,e,rfl,n,rfl⟩,r⟩
  exact ea1_2 (tl (Has.at (hsrc _ _ _ hI0) st)) fun vs hl hv=>wpAny_pyIter_tuple hl (main (sem_tup c.K hr.2.2 x items) (fun l m σ fs h hi s=>tl (Has.at (hsrc _ _ _ hi) s)) (Heap.get?_none_of_le (Nat.le_refl _)) (Heap.get?_push_size _ rfl) ⟨rfl,rfl⟩ fun b x e=>Heap.get?_push_of_some _ e)
 | range x=>
  refine ea0_3 (hsrc _ _ _ hI0) fun hx hlen hi=>ea3_1 (hx.at st) fun u v w e=>?_
  have hsz:Builtin.Range.rangeSize 0 (items.length:Int) 1=items.length:=by
   unfold Builtin.Range.rangeSize
   refine qE (if_pos (by decide)) ?_
   by_cases h0:(0:Int)<items.length
   · refine qE (if_pos h0) ?_;simp
   · refine qE (if_neg h0) ?_;lia
  have fits:∀ z:Int,0<=z->z<=2000->Builtin.Range.rangeFitsLong z=true:=fun z h1 h2=>by
   unfold Builtin.Range.rangeFitsLong
   rw [Bool.and_eq_true,decide_eq_true_eq,decide_eq_true_eq]
   constructor <;> lia
  refine wpAny_pyIter_range e ?_ ?_
  · unfold Builtin.Range.small
    rw [hsz,fits 0 (by lia) (by lia),fits items.length (by lia) (by lia),fits 1 (by lia) (by lia),if_pos (by decide),fits _ (by lia) (by lia)]
    simp
  · refine qE hsz (main (sem_range c.K hr.2.2 items hi) (fun ξ ξ ξ ξ ξ ξ ξ=>trivial) (Heap.get?_none_of_le (Nat.le_refl _)) (Heap.get?_push_size _ rfl) ?_ fun b x e=>Heap.get?_push_of_some _ e)
    simp
theorem stepS_sound (ro:RecOk c rE A env L) (rs:RecSOk c r A env L) (hr:Room A c.D) (fe:Fe env c.sc L) {k:FlV->Loc->Sg->Prop} (x:stepS c rE r s m σ k):TellsS c.K A (exec s env) L m σ k:=by
 revert ro rs hr fe x;revert c rE r A env L m σ s k;refine no_implicit_lambda% (al10 (n:=⟨(cx0,default,default,a0,default)⟩) ?_);generalize et10 _ _=υ;generalize υ.1=c,υ.2.1=rE,υ.2.2.1=r,υ.2.2.2.1=A,υ.2.2.2.2.1=env,υ.2.2.2.2.2.1=L,υ.2.2.2.2.2.2.1=m,υ.2.2.2.2.2.2.2.1=σ,υ.2.2.2.2.2.2.2.2.1=s,υ.2.2.2.2.2.2.2.2.2=k;clear υ;intro ro rs hr fe x
 intro E fs h t Q st q
 revert st q;revert E fs h t Q;refine no_implicit_lambda% (al5 ?_);generalize et5 _ _=υ;generalize υ.1=E,υ.2.1=fs,υ.2.2.1=h,υ.2.2.2.1=t,υ.2.2.2.2=Q;clear υ;intro st q
 unfold stepS at x
 cases hk:kindS s <;> replace x:=hk▸x <;> dsimp only at x
 case expr=>
  refine ea1_2 (ks' hk) fun p he hc=>qE he (wpAny_Expr_any (ro.okE x st fun a v σ1 h1 t1 av x1 st1=>q _ _ _ _ _ _ fNext x1 st1) ?_ (noComp hc _ _ _))
  unfold interactive
  refine qE fe.scope (qE fe.kind ?_);rfl
 case asgN=>
  refine ea2_2 (ks' hk) fun p p2 he hc=>?_
  induction hl:isLoc c (eName (sTg s)) with
  | false=>replace x:=hl▸x;exact x.elim
  | true=>
   replace x:=hl▸x
   exact qE he (wpAny_Assign_Name (ro.okE x st fun a v σ1 h1 t1 av x1 st1=>store_loc fe (by unfold isLoc at hl;simpa using hl) st1 av fun h' t' st'=>q _ _ _ _ _ _ fNext x1 st') (noComp hc _ _ _))
 case asgA=>
  refine ea2_2 (ks' hk) fun p p2 he hc=>qE he (wpAny_Assign_stores (ro.okE x st fun a v σ1 h1 t1 av x1 st1=>?_) (noCompS hc _ _ _) rfl)
  show wpAny _ _ (assign (.Attribute (eL (sTg s)) (eAttr (sTg s)) p) env v) _ _ _
  rw [arm_assign_Attribute]
  refine wpAny_bind (wpAny_holding (ro.okE x1 st1 fun o ov σ2 h2 t2 oav x2 st2=>wpAny_bind (wpAny_standAt (wpAny_bind (wpAny_holding ?_)))))
  exact Wp.use2 x2 st2 hr oav av fun ξ ξ σ3 h3 t3 ξ x3 st3=>wpAny_release (q _ _ _ _ _ _ fNext x3 st3)
 case asgS=>
  refine ea2_2 (ks' hk) fun p p2 he hc=>qE he (wpAny_Assign_stores (ro.okE x st fun a v σ1 h1 t1 av x1 st1=>?_) (noCompS hc _ _ _) rfl)
  show wpAny _ _ (assign (.Subscript (eL (sTg s)) (eR (sTg s)) p) env v) _ _ _
  rw [arm_assign_Subscript]
  refine wpAny_bind (wpAny_holding (ro.okE x1 st1 fun o ov σ2 h2 t2 oav x2 st2=>wpAny_bind (wpAny_holding (ro.okE x2 st2 fun i iv σ3 h3 t3 iav x3 st3=>wpAny_bind (wpAny_standAt (wpAny_bind (wpAny_holding ?_)))))))
  exact Wp.use3 x3 st3 hr oav iav av fun ξ ξ σ4 h4 t4 ξ x4 st4=>wpAny_release (q _ _ _ _ _ _ fNext x4 st4)
 case asgT=>
  refine ea1_4 (ks' hk) fun p2 he z1 hc htup=>?_;refine ea3_1 z1 fun l n pp ht=>?_;clear z1
  refine qE he (wpAny_Assign_stores (ro.okE x st fun a v σ1 h1 t1 av x1 st1=>?_) (noCompS hc _ _ _) ?_)
  · rw [show (assignEach [sTg s] env).map (·.2)=[assign (sTg s) env] from by refine qE ht ?_;rfl]
    exact asg_sound hr fe x1 st1 av fun m' σ' h' t' x2 st2=>q _ _ _ _ _ _ fNext x2 st2
  · unfold swappedStores
    refine qE ht ?_
    cases hv:sE s <;> first | rfl | (replace htup:=hv▸htup;injection htup)
 case augN=>
  refine ea2_1 (ks' hk) fun p p2 he=>?_
  induction hl:isLoc c (eName (sTg s)) with
  | false=>replace x:=hl▸x;exact x.elim
  | true=>
   induction hm:m.get (eName (sTg s)) with
   | none=>replace x:=hm▸hl▸x;exact x.elim
   | some a=>
    rw [hl,hm] at x
    have hloc:c.sc.names.lookup (eName (sTg s))=some .local:=by unfold isLoc at hl;simpa using hl
    refine qE he (ea1_2 st.fr.1 fun mv hn ho=>ea1_2 (ho _ _ hm) fun v hv av=>wpAny_AugAssign_Name (wpAny_loadName_local fe.kf ((fe.k _).trans hloc) (by refine qE fe.loc ?_;exact hn) hv ?_))
    exact ro.okE x st fun b w σ1 h1 t1 bv x1 st1=>Wp.use2 x1 st1 hr av bv fun d u σ2 h2 t2 du x2 st2=>store_loc fe hloc st2 du fun h' t' st'=>q _ _ _ _ _ _ fNext x2 st'
 case augA=>
  exact ea2_1 (ks' hk) fun p p2 he=>qE he (wpAny_AugAssign_AttributeAny (ro.okE x st fun o ov σ1 h1 t1 oav x1 st1=>Wp.use1 x1 st1 hr oav fun a v σ2 h2 t2 av x2 st2=>ro.okE x2 st2 fun b w σ3 h3 t3 bv x3 st3=>Wp.use2 x3 st3 hr av bv fun d u σ4 h4 t4 du x4 st4=>Wp.use2 x4 st4 hr oav du fun ξ ξ σ5 h5 t5 ξ x5 st5=>q _ _ _ _ _ _ fNext x5 st5))
 case ret0=>
  exact ea1_1 (ks' hk) fun p he=>qE he (wpAny_Return_none (q (.ret .none) _ _ _ _ _ ⟨_,rfl,atNone⟩ x st))
 case ret1=>
  exact ea1_1 (ks' hk) fun p he=>qE he (wpAny_Return_some (ro.okE x st fun a v σ1 h1 t1 av x1 st1=>q (.ret a) _ _ _ _ _ ⟨_,rfl,av⟩ x1 st1))
 case iff=>
  refine ea1_1 (ks' hk) fun p he=>qE he (wpAny_If (ro.okT x st fun b b' σ1 h1 t1 eb x1 st1=>?_))
  subst eb
  cases b
  · exact rs.okSS x1 st1 q
  · exact rs.okSS x1 st1 q
 case whil=>
  refine ea1_1 (ks' hk) fun p he=>?_
  refine ea3_2 x fun j I n0 h0 hI=>?_;clear x
  refine qE he (wpAny_While (codeAny_whileLoop (fun n s'=>∃ m σ h t,s'=⟨h,#[],c.K.d,t,c.K.os⟩/\I n m σ/\St c.K σ L m fs h) ?_ n0 ⟨m,σ,h,t,rfl,h0,st⟩))
  intro n s' z1;refine ea4_1 z1 fun m1 σ1 h1 t1 y35=>?_;refine ea0_3 y35 fun z2 i1 st1=>?_;clear y35;clear z1;subst z2
  refine ro.okT (hI n m1 σ1 i1) st1 fun b b' σ2 h2 t2 eb x2 st2=>?_
  subst eb
  cases b
  · exact qE (if_neg (by simp)) (wpAny_execs_nil (q _ _ _ _ _ _ fNext x2 st2))
  · refine qE (if_pos rfl) (rs.okSS x2 st2 fun f u m3 σ3 h3 t3 fu x3 st3=>?_)
    induction f with
    | next=>cases fu;refine ea1_2 x3 fun n' hn hi=>?_;clear x3;exact ⟨n',hn,m3.take j,σ3,h3,t3,rfl,hi,st3.short j⟩
    | cont=>cases fu;refine ea1_2 x3 fun n' hn hi=>?_;clear x3;exact ⟨n',hn,m3.take j,σ3,h3,t3,rfl,hi,st3.short j⟩
    | brk=>cases fu;exact q _ _ _ _ _ _ fNext x3 st3
    | ret a=>refine ea1_2 fu fun v z1 av=>?_;clear fu;subst z1;exact q (.ret a) _ _ _ _ _ ⟨_,rfl,av⟩ x3 st3
 case forr=>
  refine ea1_2 (ks' hk) fun p he hs=>qE he (wpAny_For (ro.okE x st fun a v σ1 h1 t1 av x1 st1=>for_sound ro rs hr fe av st1 x1 q) (fun y=>?_))
  unfold foldedSetIterable
  cases hv:sE s <;> first | rfl | (replace hs:=hv▸hs;injection hs)
 case brk=>
  exact ea1_1 (ks' hk) fun p he=>qE he (wpAny_Break (q _ _ _ _ _ _ fBrk x st))
 case cont=>
  exact ea1_1 (ks' hk) fun p he=>qE he (wpAny_Continue (q _ _ _ _ _ _ fCont x st))
 case other=>exact x hr fe st q
theorem stepSS_sound (rs:RecSOk c r A env L) {l:List Stmt} {k:FlV->Loc->Sg->Prop} (x:stepSS r l m σ k):TellsS c.K A (execs l env) L m σ k:=by
 intro E fs h t Q st q
 induction l using List.casesOn with
 | nil=>exact wpAny_execs_nil (q _ _ _ _ _ _ fNext x st)
 | cons s l=>
  refine wpAny_execs_cons (rs.okS x st fun f u m1 σ1 h1 t1 fu x1 st1=>?_)
  induction f with
  | next=>cases fu;exact rs.okSS x1 st1 q
  | brk=>cases fu;exact q _ _ _ _ _ _ fBrk x1 st1
  | cont=>cases fu;exact q _ _ _ _ _ _ fCont x1 st1
  | ret a=>refine ea1_2 fu fun v z1 av=>?_;clear fu;subst z1;exact q (.ret a) _ _ _ _ _ ⟨_,rfl,av⟩ x1 st1
theorem recS_ok (hr:Room A c.D) (fe:Fe env c.sc L):∀ n,RecSOk c (recS n c) A env L
 | 0=>⟨fun x=>x.elim,fun x=>x.elim⟩
 | n+1=>⟨fun x=>stepS_sound (recE_ok hr fe 40) (recS_ok hr fe n) hr fe x,fun x=>stepSS_sound (recS_ok hr fe n) x⟩
end
end
theorem zip_lookup_some:∀ {ns:List Str} {vs:List Value},ns.length<=vs.length->∀ n∈ns,((ns.zip vs).lookup n).isSome=true
 | [],_,_,n,h=>by cases h
 | x::ns,[],h,_,_=>by simp at h
 | x::ns,v::vs,h,n,hn=>by
  refine qE List.zip_cons_cons (qE List.lookup_cons ?_)
  by_cases e:n=x
  · subst e;rw [beq_self_eq_true];rfl
  · exact qE (show (n==x)=false by simpa using e) (zip_lookup_some (by simpa using h) n (List.mem_of_ne_of_mem e hn))
theorem zip_filterMap:∀ {ns:List Str} {vs:List Value},nodupS ns=true->ns.length=vs.length->ns.filterMap (fun n=>((ns.zip vs).lookup n).map (n,·))=ns.zip vs
 | [],[],_,_=>rfl
 | [],_::_,_,e=>by simp at e
 | x::ns,[],_,e=>by simp at e
 | x::ns,v::vs,hn,e=>by
  rw [nodupS,Bool.and_eq_true] at hn
  have hx:=nodupS_notin hn.1
  refine qE List.zip_cons_cons (qE List.filterMap_cons ?_)
  rw [List.lookup_cons,beq_self_eq_true]
  simp only [Option.map_some]
  congr 1
  have hh:∀ (l:List Str),(∀ n∈l,n≠x)->l.filterMap (fun n=>(((x,v)::ns.zip vs).lookup n).map (n,·))=l.filterMap (fun n=>((ns.zip vs).lookup n).map (n,·)):=by
   intro l
   induction l with
   | nil=>intro ξ;rfl
   | cons y l ih=>
    intro hl
    exact qE List.filterMap_cons (qE List.filterMap_cons (qE (ih fun n hm=>hl n (List.mem_cons_of_mem _ hm)) (qE List.lookup_cons (qE (show (y==x)=false from by rw [beq_eq_false_iff_ne];exact hl y (List.mem_cons_self ..)) rfl))))
  exact qE (hh ns fun n hm e=>hx (e▸hm)) (zip_filterMap hn.2 (by simpa using e))
theorem bind_plain {name qual:Str} {params:Arguments} {body:List Stmt} {sc:Scope} {pm code doc:Value} (hp:okParams params=true) (hd:params.defaults=[]) {vs:List Value} (hl:(params.args.map (·.arg)).length=vs.length) (hn:nodupS (params.args.map (·.arg))=true) :
 bindArgs (defFd name qual params body sc mainGlobals .none .none none pm code doc) ⟨vs,[]⟩=pure ((params.args.map (·.arg)).zip vs):=by
 obtain ⟨po,a,va,ko,kd,kwa,d⟩:=params
 simp only [okParams,Bool.and_eq_true,List.isEmpty_iff,Option.isNone_iff_eq_none] at hp
 refine ea0_2 hp fun z1 ξ=>?_;clear hp;refine ea0_2 z1 fun z2 ξ=>?_;clear z1;refine ea0_2 z2 fun z3 z10=>?_;clear z2;refine ea0_2 z3 fun z4 z9=>?_;clear z3;refine ea0_2 z4 fun z5 z8=>?_;clear z4;refine ea0_2 z5 fun z6 z7=>?_;clear z5;subst z6;subst z7;subst z8;subst z9;subst z10
 dsimp only at hd hl hn ⊢
 subst hd
 have hmiss:(a.map (·.arg)).filter (fun n=>(((a.map (·.arg)).zip vs).lookup n).isNone)=[]:=by
  rw [List.filter_eq_nil_iff]
  intro n hm
  have:=zip_lookup_some (Nat.le_of_eq hl) n hm
  induction h:((a.map (·.arg)).zip vs).lookup n with
  | none=>replace this:=h▸this;injection this
  | some v=>simp
 have hgt:¬ vs.length > (a.map (·.arg)).length:=by lia
 have hfm:=zip_filterMap hn hl
 refine (if_neg (fun x=>hgt (of_decide_eq_true (Bool.and_eq_true_iff.mp x).1))).trans ?_
 refine (if_neg (c:=(!(List.filter (fun n=>(((a.map (·.arg)).zip vs).lookup n).isNone) (List.take ((a.map (·.arg)).length-(List.drop (0-(a.map (·.arg)).length) ([]:List Value)).length) (a.map (·.arg)))).isEmpty)=true) (fun x=>by rw [List.drop_nil,List.length_nil,Nat.sub_zero,List.take_length,hmiss] at x;injection x)).trans ?_
 refine (congrArg (fun l:List (Str×Value)=>(ForIn.forIn l ((a.map (·.arg)).zip vs) _:Sem (List (Str×Value))) >>= _) (show (List.drop ((a.map (·.arg)).length-(List.drop (0-(a.map (·.arg)).length) ([]:List Value)).length) (a.map (·.arg))).zip (List.drop (0-(a.map (·.arg)).length) ([]:List Value))=[] from by rw [List.drop_nil,List.zip_nil_right])).trans ?_
 refine Eq.trans (b:=(pure (((a.map fun x:Arg=>x.arg)++[]).filterMap fun n=>(((a.map fun x:Arg=>x.arg).zip vs).lookup n).map (n,·)):Sem (List (Str×Value)))) rfl ?_
 rw [List.append_nil,hfm]
noncomputable def fOk (params:Arguments) (sc:Scope) (n:Nat):Bool:=okParams params&&params.defaults.isEmpty&&okFn sc (params.args.map (·.arg))&&nodupS (params.args.map (·.arg))&&(params.args.length==n)
theorem AllAt.length_eq {as:List V} {vs:List Value} (h:AllAt as vs):as.length=vs.length:=h.len.symm
theorem Room.deeper {A:Around} {D:Nat} {env:Env} (h:Room A (D+1)):Room (A.deeper env) D:=
 ⟨by have:=h.1;show A.depth+1+D<recursionLimit;lia,by have:=h.2.1;show A.units+3+8 * D+100<cLine;lia,h.2.2⟩
theorem Room.up {A:Around} {D D':Nat} (h:Room A D') (l:D<=D'):Room A D:=⟨by have:=h.1;lia,by have:=h.2.1;lia,h.2.2⟩
theorem Wp.up {α β:Type} {R:β->α->Prop} {K:Kc} {D D':Nat} {x:List Value->Sem α} {as:List V} {k:β->Sg->Prop} {σ:Sg} (w:Wp R K D x as k σ) (l:D<=D'):Wp R K D' x as k σ:=⟨fun hr st av q=>w.ok (hr.up l) st av q⟩
theorem Wp.mono {α β:Type} {R:β->α->Prop} {K:Kc} {D:Nat} {x:List Value->Sem α} {as:List V} {k k':β->Sg->Prop} {σ:Sg} (w:Wp R K D x as k σ) (l:∀ a σ',k a σ'->k' a σ'):Wp R K D x as k' σ:=
 ⟨fun hr st av q=>w.ok hr st av fun c u σ' h' t' r x s=>q c u σ' h' t' r (l _ _ x) s⟩
theorem call_vc {K:Kc} {D:Nat} {f:Addr} {lo:Addr} {name qual:Str} {params:Arguments} {body:List Stmt} {sc:Scope} {as:List V} {k:V->Sg->Prop} {σ:Sg} (Fn:FnAt K.h0 lo f name qual params body sc) (hf:fOk params sc as.length=true)
 (x:vc ⟨K,D,sc,()⟩ body ((params.args.map (·.arg)).zip as) σ (kRet k)):CallV K (D+1) (.ref f) as k σ:=by
 refine ⟨fun {A E L m fs h t vs Q} hr st av q=>?_⟩
 simp only [fOk,Bool.and_eq_true,List.isEmpty_iff,beq_iff_eq] at hf
 refine ea0_2 hf fun z1 h5=>?_;clear hf;refine ea0_2 z1 fun z2 h4=>?_;clear z1;refine ea0_2 z2 fun z3 h3=>?_;clear z2;refine ea0_2 z3 fun h1 h2=>?_;clear z3
 have hlen:(params.args.map (·.arg)).length=vs.length:=by rw [List.length_map,h5,av.length_eq]
 refine wpAny_call (code_fn st Fn (by have:=hr.1;lia) av h2 h3 h4 hlen (fun pm code doc=>bind_plain h1 h2 hlen h4) fun L' h' t' env fe st'=>?_)
 refine (recS_ok (c:=⟨K,D,sc,()⟩) hr.deeper fe 60).okSS x st' fun fl u m2 σ2 h2 t2 fu x2 st2=>?_
 have s2:=st2.pop
 induction fl with
 | ret a=>refine ea1_2 fu fun v z1 av=>?_;clear fu;subst z1;exact q _ _ _ _ _ av x2 s2
 | next=>cases fu;exact q _ _ _ _ _ atNone x2 s2
 | brk=>cases fu;exact q _ _ _ _ _ atNone x2 s2
 | cont=>cases fu;exact q _ _ _ _ _ atNone x2 s2
section
open Builtin.ObjectAttr
noncomputable abbrev instO (C d:Addr):Obj:={ cls:=.ref C,dict:=some d,data:=.plain }
noncomputable def IsCls (h:Heap) (C:Addr):Prop:=∃ sl cd pre,h.get? C=some (clsObj sl cd)/\cd.hasDict=true/\cd.mro=.ref C::pre++[.type "object"]/\∀ v∈pre,∃ b,v=.ref b
section
variable {K:Kc} {A:Around} {E:VP} {h:Heap} {t:Nat} {C d x:Addr} {mv:Str->Option Value} {name:Str} {v:Value}
noncomputable abbrev LkT (K:Kc) (h:Heap) (C:Addr) (name:Str) (r:Option Value):Prop:=Looks (model prg K.w) h (typeLookup (.ref C) name) r
theorem get_entry {tk:Tok} {Q:PySem.Fin->Shared->Prop} (hC:IsCls h C) (Y:LkT K h C name none) (hx:h.get? x=some (instO C d)) (hns:h.Ns d mv) (hv:mv name=some v) (hq:Q (.done (.ret v)) ⟨h,#[],K.d,t,K.os⟩) :
 wpAny (model prg K.w) A (Builtin.«proto.getattr_hooked» ⟨[.ref x,.str name tk],[]⟩) Q E ⟨h,#[],K.d,t,K.os⟩:=by
 refine ea3_3 hC fun sl cd pre hC hdi ξ=>?_
 unfold Builtin.«proto.getattr_hooked»
 repeat (first | (with_reducible refine wpAny_loadPart_at hx ?_) | (with_reducible refine lk_use Y (fun ξ ξ e=>e) ?_) | (with_reducible refine wpAny_loadPart_at hC ?_) | (with_reducible refine wpAny_nsGet hns ?_;refine qE hv ?_) | wp_step)
 exact hq
theorem get_field {expr:Bool} {Q:VP} (hC:IsCls h C) (X:LkT K h C "__getattribute__" (some (.builtin "object.__getattribute__"))) (Y:LkT K h C name none) (hx:h.get? x=some (instO C d)) (hns:h.Ns d mv) (hv:mv name=some v)
 (hh:handedOut v=pure v) (hq:∀ t',Q v ⟨h,#[],K.d,t',K.os⟩):wpAny (model prg K.w) A (getAttr (.ref x) name expr) Q E ⟨h,#[],K.d,t,K.os⟩:=by
 unfold getAttr getAttrBy
 repeat (first | (with_reducible refine wpAny_loadPart_at hx ?_) | (with_reducible refine lk_use X (fun ξ ξ e=>e) ?_) | wp_step)
 show wpAny _ _ ((runValue (.builtin "proto.getattr_hooked" ⟨[.ref x,.str name t],[]⟩)).onRaise (noteIf true (.ref x) (.str name t))) _ _ _
 refine wpAny_onRaise (wpAny_runValue (codeAny_builtin F.plainObj_entry_getattr_hooked (get_entry hC Y hx hns hv ?_)))
 show wpAny _ _ (handedOut v) _ _ _
 exact qE hh (wpAny_pure (hq _))
theorem get_meth {pl:Sem Bool} {f:Addr} {of:Obj} {Q:Value×List Value->Shared->Prop} (X:LkT K h C "__getattribute__" (some (.builtin "object.__getattribute__"))) (Z:LkT K h C "__getattr__" none) (Y:LkT K h C name (some (.ref f)))
 (hfo:h.get? f=some of) (hfc:of.cls=.type "function") (hx:h.get? x=some (instO C d)) (hns:h.Ns d mv) (hv:mv name=none) (hq:Q (.ref f,[.ref x]) ⟨h,#[],K.d,t,K.os⟩) :
 wpAny (model prg K.w) A (getMethod (.ref x) name pl) Q E ⟨h,#[],K.d,t,K.os⟩:=by
 revert X Z Y hfo hfc hx hns hv hq
 revert K A E h t C d x mv name pl f of Q
 refine no_implicit_lambda% (al14 (n:=⟨(kc0,a0,default)⟩) ?_)
 generalize et14 _ _=υ
 generalize υ.1=K,υ.2.1=A,υ.2.2.1=E,υ.2.2.2.1=h,υ.2.2.2.2.1=t,υ.2.2.2.2.2.1=C,υ.2.2.2.2.2.2.1=d,υ.2.2.2.2.2.2.2.1=x,υ.2.2.2.2.2.2.2.2.1=mv,υ.2.2.2.2.2.2.2.2.2.1=name,υ.2.2.2.2.2.2.2.2.2.2.1=pl,υ.2.2.2.2.2.2.2.2.2.2.2.1=f,υ.2.2.2.2.2.2.2.2.2.2.2.2.1=of,υ.2.2.2.2.2.2.2.2.2.2.2.2.2=Q
 intro X Z Y hfo hfc hx hns hv hq
 have hcan:=F.canon_object_ga
 unfold getMethod specialOf
 repeat (first | (with_reducible refine wpAny_loadPart_at hx ?_) | (with_reducible refine lk_use X (fun ξ ξ e=>e) ?_) | (with_reducible refine lk_use Z (fun ξ ξ e=>e) ?_) | (with_reducible refine lk_use Y (fun ξ ξ e=>e) ?_) | (with_reducible refine wpAny_typeOf (T:="function") ⟨_,hfo,hfc⟩ ?_) | (with_reducible refine wpAny_nsGet hns ?_;refine qE hv ?_) | simp only [hcan,Bool.false_eq_true,if_false] | wp_step)
 exact hq
end
end
section
open Builtin.ObjectAttr
section
variable {K:Kc} {A:Around} {E:VP} {h:Heap} {t:Nat} {C d x:Addr} {mv:Str->Option Value} {name:Str} {v:Value}
theorem cls_mro {M:Model} (hC:IsCls h C):∃ pre,(∀ v∈pre,∃ b,v=Value.ref b)/\Looks M h (mroOf (.ref C)) (.ref C::pre++[.type "object"]):=by
 refine ea3_4 hC fun sl cd pre hC hdi hm hp=>⟨pre,hp,fun A Q E s k q=>?_⟩
 unfold mroOf classData
 exact wpAny_bind (wpAny_bind (wpAny_load (k _ _ hC) (wpAny_pure (wpAny_pure (by show Q cd.mro s;refine qE hm ?_;exact q)))))
theorem pass_refs (self:Value) (what:Str) (l:List Value):∀ pre:List Value,(∀ v∈pre,∃ b,v=Value.ref b)->refuseLoop self what (pre++l)=refuseLoop self what l
 | [],_=>rfl
 | v::pre,h=>by
  refine ea1_1 (h v (List.mem_cons_self ..)) fun b z1=>?_;subst z1
  rw [List.cons_append,refuseLoop_ref]
  exact pass_refs self what l pre fun v hv=>h v (List.mem_cons_of_mem _ hv)
theorem sub_obj {M:Model} (hC:IsCls h C):Looks M h (isSubtype (.ref C) (.type "object")) true:=by
 refine ea1_2 (cls_mro (M:=M) hC) fun pre hp L=>?_
 intro A Q E s k q
 unfold isSubtype
 refine wpAny_bind (lk_use L k ?_)
 dsimp only
 exact qE (if_neg (by simp)) (wpAny_pure (qE (show (Value.ref C::pre++[Value.type "object"]).contains (.type "object")=true by simp) q))
theorem set_entry {tk:Tok} {ns:List Str} {Q:PySem.Fin->Shared->Prop} (hC:IsCls h C) (Y:LkT K h C name none) (hx:h.get? x=some (instO C d)) (hxd:d≠x) (hns:h.Ns1 d mv) (hw:Within mv ns) (hsz:ns.length<=1000)
 (hq:∀ h' t',h'.Ns1 d (fun y=>if y=name then some v else mv y)->(∀ b o,b≠d->h.get? b=some o->h'.get? b=some o)->Q (.done (.ret .none)) ⟨h',#[],K.d,t',K.os⟩) :
 wpAny (model prg K.w) A (Builtin.«object.__setattr__» ⟨[.ref x,.str name tk,v],[]⟩) Q E ⟨h,#[],K.d,t,K.os⟩:=by
 revert hC Y hx hxd hns hw hsz hq
 revert K A E h t C d x mv name v tk ns Q
 refine no_implicit_lambda% (al14 (n:=⟨(kc0,a0,default)⟩) ?_)
 generalize et14 _ _=υ
 generalize υ.1=K,υ.2.1=A,υ.2.2.1=E,υ.2.2.2.1=h,υ.2.2.2.2.1=t,υ.2.2.2.2.2.1=C,υ.2.2.2.2.2.2.1=d,υ.2.2.2.2.2.2.2.1=x,υ.2.2.2.2.2.2.2.2.1=mv,υ.2.2.2.2.2.2.2.2.2.1=name,υ.2.2.2.2.2.2.2.2.2.2.1=v,υ.2.2.2.2.2.2.2.2.2.2.2.1=tk,υ.2.2.2.2.2.2.2.2.2.2.2.2.1=ns,υ.2.2.2.2.2.2.2.2.2.2.2.2.2=Q
 intro hC Y hx hxd hns hw hsz hq
 refine ea1_2 (cls_mro (M:=model prg K.w) hC) fun pre hp L=>?_
 have SF:=PySem.F.store_object
 have hpass:refuseLoop (.ref x) "__setattr__" (.ref C::pre++[.type "object"])=pure ():=by
  rw [List.cons_append,refuseLoop_ref,pass_refs _ _ _ _ hp];exact SF.passes (.ref x)
 unfold Builtin.«object.__setattr__»
 repeat (first | rw [refuse_eq] | (rw [hpass]) | (with_reducible refine wpAny_loadPart_at hx ?_) | (with_reducible refine lk_use L (fun ξ ξ e=>e) ?_) | (with_reducible refine lk_use Y (fun ξ ξ e=>e) ?_) | wp_step)
 refine ea3_3 (id hC) fun sl cd pre2 hCo hdi ξ=>wpAny_load hCo (wpAny_pure ?_)
 rw [if_neg (by refine qE hdi ?_;simp)]
 refine wpAny_pure ?_
 show wpAny _ _ (storeInDict d (.str name tk) name v) _ _ _
 unfold storeInDict newKeyGuard
 refine wpAny_bind (wpAny_pure (wpAny_bind (wpAny_nsSet1 hns fun h' hn' hs=>?_)))
 refine ea3_3 (hn'.count (Within.cons name v hw)) fun oD esD epD hoD hdD hcD=>wpAny_bind (wpAny_lookBehind hoD (by refine qE hdD ?_;exact pastItsLine_dict (Nat.le_trans hcD (by refine qE List.length_cons (qE sizeLine_eq ?_);lia))) ?_)
 wp_walk
 exact hq h' _ hn' fun b o hb e=>(hs.2 b hb).trans e
theorem set_field {ns:List Str} {Q:Unit->Shared->Prop} (hC:IsCls h C) (X:LkT K h C "__setattr__" (some (.builtin "object.__setattr__"))) (Y:LkT K h C name none) (hx:h.get? x=some (instO C d)) (hxd:d≠x) (hns:h.Ns1 d mv) (hw:Within mv ns) (hsz:ns.length<=1000)
 (hq:∀ h' t',h'.Ns1 d (fun y=>if y=name then some v else mv y)->(∀ b o,b≠d->h.get? b=some o->h'.get? b=some o)->Q () ⟨h',#[],K.d,t',K.os⟩) :
 wpAny (model prg K.w) A (setAttr (.ref x) name v) Q E ⟨h,#[],K.d,t,K.os⟩:=by
 have SF:=PySem.F.store_object
 have f3:=SF.slot.bind (.ref x)
 have S:=sub_obj (M:=model prg K.w) hC
 unfold setAttr callSpecial? specialOf
 repeat (any_goals (first | assumption | (with_reducible refine wpAny_loadPart_at hx ?_) | (with_reducible refine lk_use X (fun ξ ξ e=>e) ?_) | wp_step))
 refine codeAny_call_builtin SF.slot.plain SF.entry ?_
 have chk:∀ {A':Around} {Q':Unit->Shared->Prop} {E':VP} {t':Nat},Q' () ⟨h,#[],K.d,t',K.os⟩->wpAny (model prg K.w) A' (checkBuiltinCall "object.__setattr__" ⟨[.ref x,.str name t,v],[]⟩) Q' E' ⟨h,#[],K.d,t',K.os⟩:=by
  intro A' Q' E' t' q
  simp only [checkBuiltinCall,SF.kind,SF.split]
  refine wpAny_bind ?_
  unfold isInstance
  repeat (first | (with_reducible refine wpAny_loadPart_at hx ?_) | (with_reducible refine lk_use S (fun ξ ξ e=>e) ?_) | wp_step)
  exact q
 refine chk (set_entry hC Y hx hxd hns hw hsz fun h' t' hn' k=>?_)
 repeat (any_goals (first | assumption | wp_step))
 exact hq h' _ hn' k
end
end
section
open Builtin.ObjectAttr
structure ClsN (h:Heap) (C:Addr):Prop where
 is:IsCls h C
 ob:∃ sl cd,h.get? C=some (clsObj sl cd)/\cd.abstract=false/\cd.hasDel=false/\(sl.toList[4]?).join=some (.builtin "object.__new__")
section
variable {K:Kc} {A:Around} {E:VP} {h:Heap} {t:Nat} {C d x:Addr} {mv:Str->Option Value} {name:Str} {v:Value}
theorem ClsN.makes (X:ClsN h C):Makes (model prg K.w) h C:=by
 refine ea1_2 (cls_mro (M:=model prg K.w) X.is) fun pre hp hm=>ea2_4 X.ob fun sl cd hC e1 e2 e3=>?_
 have e4:cd.mro.isEmpty=false:=by
  refine ea3_4 X.is fun sl' cd' pre' hC' ξ hm' ξ=>?_
  replace hC':=hC▸hC';cases hC'
  refine qE hm' ?_;rfl
 have made:Looks (model prg K.w) h (Bind.madeBy (.ref C)) (some "object.__new__"):=by
  intro A Q E s k q
  unfold Bind.madeBy
  refine wpAny_bind (hm A _ E s k ?_)
  rw [List.cons_append,List.forIn_cons]
  refine wpAny_bind (wpAny_bind (wpAny_bind (wpAny_bind (wpAny_loadPart (k _ _ hC) (wpAny_pure ?_)))))
  dsimp only
  refine qB Array.getElem?_toList (qE e3 ?_)
  exact wpAny_pure (wpAny_pure (wpAny_pure q))
 have tyC:Looks (model prg K.w) h (typeOf (.ref C)) (.type "type"):=(Looks.ld (part:=none) hC).andThen .now
 refine ⟨⟨_,_,_,_,hC,e1,e2,e4⟩,made,?_,?_,sub_obj X.is,?_,?_⟩
 · intro A Q E s k q
   unfold Bind.staticBase
   refine wpAny_bind (hm A _ E s k ?_)
   rw [List.cons_append,List.forIn_cons]
   exact wpAny_bind (wpAny_bind (wpAny_bind (made A _ E s k (wpAny_pure (wpAny_pure (wpAny_pure q))))))
 · intro A Q E s k q
   unfold isSubtype
   refine wpAny_bind (lk_use hm k ?_)
   dsimp only
   exact qE (if_neg (by simp)) (wpAny_pure (qE (show (Value.ref C::pre++[Value.type "object"]).contains (.ref C)=true by simp) q))
 · exact tyC.andThen (Looks.of_pure F.lookup_type_call)
 · exact tyC.andThen (Looks.of_pure F.sub_type_type)
theorem bind_function {f:Addr} {o:Obj} (self:Value) (ho:h.get? f=some o) (hc:o.cls=.type "function") {M:Model}:Looks M h (bindSpecial (.ref f) self) (.ref f,[self]):=by
 unfold bindSpecial
 have ty:Looks M h (typeOf (.ref f)) (.type "function"):=by
  intro A Q E s k q
  exact wpAny_typeOf (T:="function") ⟨_,k _ _ ho,hc⟩ q
 exact ty.andThen (Looks.of_pure (by kernel_rfl))
theorem Room.under {A:Around} {D:Nat} {C:Addr} {vs:List Value} (h:Room A (D+1)):Room (A.under (.builtin "type.__call__" ⟨.ref C::vs,[]⟩)) D:=
 ⟨by have:=h.1;show A.depth+1+D<recursionLimit;lia,by have:=h.2.1;show A.units+(Code.builtin "type.__call__" ⟨.ref C::vs,[]⟩).cUnits+8 * D+100<cLine;refine qE (show (Code.builtin "type.__call__" ⟨.ref C::vs,[]⟩).cUnits=1 from rfl) ?_;lia,h.2.2⟩
theorem new_vc {D:Nat} {f lo:Addr} {cls fname qual:Str} {params:Arguments} {body:List Stmt} {sc:Scope} {as:List V} {k:V->Sg->Prop} {σ:Sg} (hg:K.mg cls=some (.ref C)) (X:ClsN K.h0 C) (hi:LkT K K.h0 C "__init__" (some (.ref f)))
 (Fn:FnAt K.h0 lo f fname qual params body sc) (hf:fOk params sc (as.length+1)=true)
 (x:∀ x d,Fresh σ x->Fresh σ d->d≠x->vc ⟨K,D,sc,()⟩ body ((params.args.map (·.arg)).zip (.ref x::as)) ((σ.set d (.ns [])).fz x (.inst cls d)) fun f m' σ'=>retV f=.none/\k (.ref x) σ'):CallV K (D+2) (.ref C) as k σ:=by
 refine ⟨fun {A E L m fs h t vs Q} hr st av q=>?_⟩
 simp only [fOk,Bool.and_eq_true,List.isEmpty_iff,beq_iff_eq] at hf
 refine ea0_2 hf fun z1 h5=>?_;clear hf;refine ea0_2 z1 fun z2 h4=>?_;clear z1;refine ea0_2 z2 fun z3 h3=>?_;clear z2;refine ea0_2 z3 fun h1 h2=>?_;clear z3
 have hlen:(params.args.map (·.arg)).length=(Value.ref (h.objs.size+1)::vs).length:=by rw [List.length_map,h5,List.length_cons,av.length_eq]
 have kh:Kp K.h0 h:=st.h0
 refine ea0_2 ((Fn.ks kh).ex) fun lf z1=>?_;refine ea6_4 z1 fun dV dvs pm code doc P' lc lP e ξ=>?_;clear z1
 have XN:ClsN h C:=by
  obtain ⟨⟨sl,cd,pre,a1,a2,a3,a4⟩,⟨sl',cd',b1,b2⟩⟩:=X
  exact ⟨⟨sl,cd,pre,kh _ _ a1,a2,a3,a4⟩,⟨sl',cd',kh _ _ b1,b2⟩⟩
 refine wpAny_call (make_core XN.makes (hi.keeps kh) (fun self=>bind_function self e rfl) (.inl rfl) ?_)
 have hx:((h.push emptyDict).push (instObj C h.objs.size)).get? (h.objs.size+1)=some (instObj C h.objs.size):=by heap_get
 have hd:((h.push emptyDict).push (instObj C h.objs.size)).get? h.objs.size=some emptyDict:=Heap.get?_push_of_some _ (Heap.get?_push_size _ rfl)
 have nd:=Heap.get?_none_of_le (h:=h) (Nat.le_refl _)
 have nx:=Heap.get?_none_of_le (h:=h) (Nat.le_succ h.objs.size)
 have k2:∀ b o,h.get? b=some o->((h.push emptyDict).push (instObj C h.objs.size)).get? b=some o:=fun b o e=>Heap.get?_push_of_some _ (Heap.get?_push_of_some _ e)
 have ndx:h.objs.size≠h.objs.size+1:=Nat.ne_of_lt (Nat.lt_succ_self _)
 have hfr:=st.fresh nd
 have hfrx:=st.fresh nx
 have st1:St K (σ.set h.objs.size (.ns [])) L m fs (h.push emptyDict):=st.new nd (fun b o e=>Heap.get?_push_of_some _ e) ⟨_,Heap.Ns1.of_empty ⟨_,#[],_,Heap.get?_push_size _ rfl,rfl,fun e he=>absurd he (by simp),fun ξ=>rfl⟩,fun ξ=>trivial⟩
 have nx1:(h.push emptyDict).get? (h.objs.size+1)=none:=Heap.get?_none_of_le (Nat.le_of_eq (Heap.size_push ..))
 have st2:St K ((σ.set h.objs.size (.ns [])).fz (h.objs.size+1) (.inst cls h.objs.size)) L m fs ((h.push emptyDict).push (instObj C h.objs.size)):=st1.newF nx1 (fun b o e=>Heap.get?_push_of_some _ e) ⟨C,hg,hx⟩
 have V:=x (h.objs.size+1) h.objs.size ⟨hfrx.1,hfrx.2.1⟩ ⟨hfr.1,hfr.2.1⟩ ndx
 refine code_fn st2 Fn (by have:=hr.1;show A.depth+1<recursionLimit;lia) (as:=.ref (h.objs.size+1)::as) (vs:=.ref (h.objs.size+1)::vs) ⟨atRef _,av⟩ h2 h3 h4 hlen (fun pm code doc=>bind_plain h1 h2 hlen h4) fun L' h' t' env fe st'=>?_
 refine (recS_ok (c:=⟨K,D,sc,()⟩) (Room.deeper (Room.under hr)) fe 60).okSS V st' fun fl u m2 σ2 h2 t2 fu x2 st3=>?_
 have s3:=st3.pop
 have fin:∀ v:Value,v=.none->InitBack (h.objs.size+1) (fun r s'=>match r with | .ok (.ret v)=>Q v s' | .ok _=>False | .error e=>E e s') (.ok (.ret v)) ⟨h2,#[],K.d,t2,K.os⟩:=fun v hv=>⟨hv,q _ _ _ _ _ (atRef _) x2.2 s3⟩
 induction fl with
 | ret a=>
  refine ea1_2 fu fun v z1 av=>?_;clear fu;subst z1
  have ha:a=.none:=x2.1
  subst ha
  exact fin v av
 | next=>cases fu;exact fin _ rfl
 | brk=>cases fu;exact fin _ rfl
 | cont=>cases fu;exact fin _ rfl
end
end
section
set_option backward.match.sparseCases false
noncomputable def nthS:List Stmt->Nat->Stmt
 | s::_,0=>s
 | _::r,n+1=>nthS r n
 | [],_=>s0
theorem nthS_mem:∀ {l:List Stmt} {i:Nat},i<l.length->nthS l i∈l
 | s::_,0,_=>List.mem_cons_self ..
 | _::r,n+1,h=>List.mem_cons_of_mem _ (nthS_mem (by simpa using h))
noncomputable def stAt (i:Nat):Stmt:=nthS prg.main.body i
noncomputable def fName:Stmt->Str | .FunctionDef n _ _ _ _ _ _ _ _ _=>n | .ClassDef n _ _ _ _ _ _ _ _ _ _=>n | _=>""
noncomputable def fPar:Stmt->Arguments | .FunctionDef _ a _ _ _ _ _ _ _ _=>a | _=>⟨[],[],none,[],[],none,[]⟩
noncomputable def fBody:Stmt->List Stmt | .FunctionDef _ _ b _ _ _ _ _ _ _=>b | .ClassDef _ _ _ b _ _ _ _ _ _ _=>b | _=>[]
noncomputable def fSc:Stmt->Scope | .FunctionDef _ _ _ _ _ _ sc _ _ _=>sc | .ClassDef _ _ _ _ _ _ sc _ _ _ _=>sc | _=>prg.main.scope
noncomputable def fBs:Stmt->List Expr | .ClassDef _ bs _ _ _ _ _ _ _ _ _=>bs | _=>[]
noncomputable def cx (i:Nat) (K:Kc) (D:Nat):Cx:=⟨K,D-1,fSc (stAt i),()⟩
noncomputable def isFn (s:Stmt):Bool:=(methOf s).isSome
theorem isFn.use {s:Stmt} (h:isFn s=true):∃ m,methOf s=some m/\m.name=fName s/\m.params=fPar s/\m.body=fBody s/\m.sc=fSc s:=by
 unfold isFn at h
 induction hm:methOf s with
 | none=>replace h:=hm▸h;injection h
 | some m=>have:=methOf.use hm;subst this;exact ⟨m,rfl,rfl,rfl,rfl,rfl⟩
noncomputable def fnOk (i:Nat):Bool:=decide (i<prg.main.body.length)&&isFn (stAt i)
noncomputable def gv (K:Kc) (x:Str):Value:=(K.mg x).getD .none
section
variable {K:Kc}
theorem fn_at (i:Nat) (h:fnOk i=true):∃ f,K.mg (fName (stAt i))=some (.ref f)/\gv K (fName (stAt i))=.ref f/\FnAt K.h0 K.lo f (fName (stAt i)) (fName (stAt i)) (fPar (stAt i)) (fBody (stAt i)) (fSc (stAt i)):=by
 simp only [fnOk,Bool.and_eq_true,decide_eq_true_eq] at h
 refine ea1_5 (isFn.use h.2) fun m hm e1 e2 e3 e4=>ea1_2 (K.gl.G _ (fn_mem _ _ _ abs_all.1.1 _ (nthS_mem h.1) m hm)) fun f hf F=>?_
 dsimp only at hf
 replace hf:=e1▸hf
 refine ⟨f,hf,by unfold gv;refine qE hf ?_;rfl,?_⟩
 refine qB e1 (qB e2 (qB e3 (qB e4 ?_)));exact F
theorem fn_gis (i:Nat) (h:fnOk i=true):GIs K (fName (stAt i)) (gv K (fName (stAt i)))/\FV K (gv K (fName (stAt i))):=by
 refine ea1_3 (fn_at (K:=K) i h) fun f h1 h2 F=>?_
 refine ea0_2 F.ex fun lf z1=>?_;refine ea6_4 z1 fun dV vs pm code doc P' lc lP e r=>?_;clear z1
 exact qE h2 (⟨.inl h1,.inl ⟨f,_,_,rfl,e,rfl⟩⟩)
theorem fn_vc (i n:Nat) {D:Nat} {as:List V} {k:V->Sg->Prop} {σ:Sg} (h:(fnOk i&&fOk (fPar (stAt i)) (fSc (stAt i)) n)=true) (hn:as.length=n)
 (x:vc ⟨K,D,fSc (stAt i),()⟩ (fBody (stAt i)) (((fPar (stAt i)).args.map (·.arg)).zip as) σ (kRet k)):CallV K (D+1) (gv K (fName (stAt i))) as k σ:=by
 rw [Bool.and_eq_true] at h
 exact ea1_3 (fn_at (K:=K) i h.1) fun f h1 h2 F=>qE h2 (call_vc F (hn▸h.2) x)
noncomputable def clsOk (i:Nat):Bool:=decide (i<prg.main.body.length)&&(methOf (stAt i)).isNone&&(classOf (stAt i)).isSome
noncomputable def cMs (s:Stmt):List Meth:=(methsOf (fBody s)).getD []
theorem classOf_get {s:Stmt} {C bs} (h:classOf s=some (C,bs)):C.name=fName s/\C.ms=cMs s/\bs=fBs s:=by
 refine ea1_2 (classOf.use' h) fun body h1 z1=>?_;subst z1
 exact ⟨rfl,by show C.ms=(methsOf _).getD [];refine qE (show methsOf (fBody (Stmt.ClassDef _ _ _ _ _ _ _ _ _ _ _))=some C.ms from h1) ?_;rfl,rfl⟩
noncomputable def CLk (K:Kc) (cls name:Str) (r:Option Value):Prop:=∀ C,K.mg cls=some (.ref C)->LkT K K.h0 C name r
noncomputable def CIs (K:Kc) (cls:Str):Prop:=∃ C,K.mg cls=some (.ref C)/\ClsN K.h0 C/\∃ lo ci lim,ClsAt K.h0 lo C ci lim
theorem look_own {M:Model} {h:Heap} {lo a ci lim} (x:ClsAt h lo a ci lim) {name:Str} {v:Value} (ho:offNames name) (hm:ci.m name=some v):Looks M h (typeLookup (.ref a) name) (some v):=by
 intro A Q E s kp q
 rw [typeLookup_eq]
 refine wpAny_bind (lk_use x.mro kp ?_)
 rw [lookupAlong_cons]
 exact wpAny_bind (lk_use (x.own ho hm) kp (wpAny_pure q))
theorem cls_n {C lo ci lim pre} (X:ClsAt K.h0 lo C ci lim) (hr:ci.rest=pre++[.type "object"]) (hp:∀ v∈pre,∃ b,v=Value.ref b) (hm:ci.maker="object.__new__"):ClsN K.h0 C:=by
 refine ea6_5 X.ex fun n sub k0 k2 k3 m' ln e l N f=>?_
 replace e:=hr▸hm▸e
 exact ⟨⟨_,_,pre,e,rfl,rfl,hp⟩,⟨_,_,e,rfl,rfl,rfl⟩⟩
theorem cl_obj (i:Nat) (h:clsOk i=true) (hb:lnil (fBs (stAt i))=true):CIs K (fName (stAt i)) ∧
 (∀ name r,name ∉ (cMs (stAt i)).map (·.name)->name ∉ freeNames->offNames name->lookupAlong [.type "object"] name=pure r->CLk K (fName (stAt i)) name r) ∧
 ∀ m∈cMs (stAt i),offNames m.name->∃ f,CLk K (fName (stAt i)) m.name (some (.ref f))/\FnAt K.h0 K.lo f m.name (fName (stAt i)++"."++m.name) m.params m.body m.sc:=by
 simp only [clsOk,Bool.and_eq_true,decide_eq_true_eq,Option.isNone_iff_eq_none,Option.isSome_iff_exists] at h
 refine ea0_2 h fun z1 z2=>?_;clear h;refine ea0_2 z1 fun h1 h2=>?_;clear z1;refine ea1_1 z2 fun z3 h3=>?_;clear z2;obtain ⟨C,bs⟩:=z3
 refine ea0_3 (classOf_get h3) fun e1 e2 e3=>ea1_2 (cls_mem _ _ _ abs_all.1.1 _ (nthS_mem h1) h2 C bs h3) fun base hmem hbase=>?_
 replace hb:=e3.symm▸hb
 induction bs using List.casesOn with
 | cons _ _=>injection hb
 | nil=>
  obtain rfl:=hbase rfl
  refine ea2_8 (K.gl.G _ hmem) fun a ci hv la X n1 n2 z1 M Z=>?_;refine ea0_3 z1 fun b1 b2 b3=>?_;clear z1
  dsimp only at hv Z M
  rw [e1] at hv M
  rw [e2] at Z M
  have look:∀ {name r r'},offNames name->ci.m name=r'->lookupAlong [.type "object"] name=pure r->LkT K K.h0 a name (match r' with | some v=>some v | none=>r):=fun {name r r'} ho hm hr=>by
   have y:=X.look (M:=model prg K.w) ho hm (r:=r) (by refine qE b2 ?_;exact Looks.of_pure (M:=model prg K.w) hr)
   cases r' <;> exact y
  refine ⟨⟨a,hv,cls_n X (pre:=[]) b2 (fun ξ h=>by cases h) b3,_,_,_,X⟩,fun name r hn hf ho hr C' hC'=>?_,fun m hm ho=>?_⟩
  · replace hC':=hv▸hC';cases hC'
    exact look ho (Z _ hn hf) hr
  · refine ea1_2 (M m hm) fun f hf F=>⟨f,fun C' hC'=>?_,F⟩
    replace hC':=hv▸hC';cases hC'
    exact look_own X ho hf
theorem cl_sub (i j:Nat) (h:clsOk i=true) (hj:clsOk j=true) (hbj:lnil (fBs (stAt j))=true) (ht:(fName (stAt i),fName (stAt j))∈tabC):CIs K (fName (stAt i)) ∧
 (∀ name r,name ∉ (cMs (stAt i)).map (·.name)->name ∉ (cMs (stAt j)).map (·.name)->name ∉ freeNames->offNames name->lookupAlong [.type "object"] name=pure r->CLk K (fName (stAt i)) name r) ∧
 ∀ m∈cMs (stAt i),offNames m.name->∃ f,CLk K (fName (stAt i)) m.name (some (.ref f))/\FnAt K.h0 K.lo f m.name (fName (stAt i)++"."++m.name) m.params m.body m.sc:=by
 refine ea0_3 (cl_obj (K:=K) j hj hbj) fun z1 lookj ξ=>?_;refine ea1_2 z1 fun Cj hvj ξ=>?_;clear z1
 refine ea1_1 (tabC_mem ht) fun ms' hmem'=>?_
 refine ea2_8 (K.gl.G _ hmem') fun a' ci' hv' la' X' z1 z2 z3 z4 z5=>?_;clear z1;clear z2;refine ea1_4 z3 fun ba hba b1 b2 b3=>?_;clear z3;clear z4;clear z5
 simp only [clsOk,Bool.and_eq_true,decide_eq_true_eq,Option.isNone_iff_eq_none,Option.isSome_iff_exists] at h
 refine ea0_2 h fun z1 z2=>?_;clear h;refine ea0_2 z1 fun h1 h2=>?_;clear z1;refine ea1_1 z2 fun z3 h3=>?_;clear z2;obtain ⟨C,bs⟩:=z3
 refine ea0_3 (classOf_get h3) fun e1 e2 e3=>ea1_2 (cls_mem _ _ _ abs_all.1.1 _ (nthS_mem h1) h2 C bs h3) fun base hmem hbase=>ea2_8 (K.gl.G _ hmem) fun a ci hv la X n1 n2 B M Z=>?_
 dsimp only at hv Z M hv' hba
 rw [e1] at hv M
 rw [e2] at Z M
 have ea:a'=a:=by replace hv':=hv▸hv';cases hv';rfl
 subst ea
 have eb:ba=Cj:=by replace hba:=hvj▸hba;cases hba;rfl
 subst eb
 have er:ci.rest=[.ref ba,.type "object"]/\ci.maker="object.__new__":=by
  refine ea6_5 X.ex fun n sub k0 k2 k3 m' ln e l N f=>ea6_5 X'.ex fun n' sub' k0' k2' k3' m'' ln' e' l' N' f'=>?_
  replace e':=e▸e'
  injection e' with e'
  injection e' with _ _ e5 e6
  injection e5 with e5
  injection e5 with _ _ e7
  injection e7 with _ e7
  have e8:=congrArg Array.toList e6
  simp only [List.cons.injEq,Option.some.injEq,Value.builtin.injEq] at e8
  exact ⟨by refine qE e7 (qE b2 ?_);rfl,by refine qE e8.2.2.2.2.1 (qE b3 ?_);rfl⟩
 have look:∀ {name r},offNames name->ci.m name=none->name ∉ (cMs (stAt j)).map (·.name)->name ∉ freeNames->lookupAlong [.type "object"] name=pure r->LkT K K.h0 a' name r:=fun {name r} ho hm hnj hf hr=>by
  simp only [clsOk,Bool.and_eq_true,decide_eq_true_eq,Option.isNone_iff_eq_none,Option.isSome_iff_exists] at hj
  refine ea0_2 hj fun z1 z2=>?_;clear hj;refine ea0_2 z1 fun j1 j2=>?_;clear z1;refine ea1_1 z2 fun z3 j3=>?_;clear z2;obtain ⟨Cd,bsj⟩:=z3
  refine ea0_3 (classOf_get j3) fun f1 f2 f3=>ea1_2 (cls_mem _ _ _ abs_all.1.1 _ (nthS_mem j1) j2 Cd bsj j3) fun basej hmemj hbasej=>?_
  refine ea2_8 (K.gl.G _ hmemj) fun aj cij hvj' laj Xj z1 z2 z3 z4 Zj=>?_;clear z1;clear z2;clear z3;clear z4
  dsimp only at hvj' Zj
  replace hvj':=f1▸hvj'
  replace Zj:=f2▸Zj
  have ej:aj=ba:=by replace hvj':=hvj▸hvj';cases hvj';rfl
  subst ej
  intro A Q E s kp q
  rw [typeLookup_eq]
  refine wpAny_bind (lk_use X.mro kp ?_)
  rw [lookupAlong_cons]
  refine wpAny_bind (lk_use (X.own ho hm) kp ?_)
  dsimp only
  rw [er.1,lookupAlong_cons]
  refine wpAny_bind (lk_use (Xj.own ho (Zj _ hnj hf)) kp ?_)
  dsimp only
  exact qE hr (wpAny_pure q)
 refine ⟨⟨a',hv,cls_n X (pre:=[.ref ba]) er.1 (fun v h=>⟨ba,by simpa using h⟩) er.2,_,_,_,X⟩,fun name r hn hnj hf ho hr C' hC'=>?_,fun m hm ho=>?_⟩
 · replace hC':=hv▸hC';cases hC'
   exact look ho (Z _ hn hf) hnj hf hr
 · refine ea1_2 (M m hm) fun f hf F=>⟨f,fun C' hC'=>?_,F⟩
   replace hC':=hv▸hC';cases hC'
   exact look_own X ho hf
end
end
section
structure CT (K:Kc) (cls:Str) (attrs:List Str):Prop where
 is:CIs K cls
 ga:CLk K cls "__getattribute__" (some (.builtin "object.__getattribute__"))
 gt:CLk K cls "__getattr__" none
 sa:CLk K cls "__setattr__" (some (.builtin "object.__setattr__"))
 at_:∀ a∈attrs,CLk K cls a none
theorem ob_ga:lookupAlong [.type "object"] "__getattribute__"=pure (some (.builtin "object.__getattribute__")):=by kernel_rfl
theorem ob_gt:lookupAlong [.type "object"] "__getattr__"=pure none:=by kernel_rfl
theorem ob_sa:lookupAlong [.type "object"] "__setattr__"=pure (some (.builtin "object.__setattr__")):=by kernel_rfl
noncomputable abbrev nodeAt:List Str:=["kind","a","kids","flags","at","nid"]
noncomputable abbrev tokAt:List Str:=["kind","text","num","at","end","line_before"]
noncomputable abbrev diagAt:List Str:=["number","at","args","file"]
noncomputable abbrev diagsAt:List Str:=["rows","file"]
noncomputable abbrev parAt:List Str:=["tokens","at","diags","parts","firsts","tails","types","deep","pending","allow_in","in_func","in_loop","in_switch","labels","no_cond","ret_bar","in_literal","covers","commas","not_arrow","splits","saved"]
noncomputable abbrev allAt:List Str:=nodeAt++tokAt++diagAt++diagsAt++parAt
theorem ob_none:∀ a∈allAt,lookupAlong [.type "object"] a=pure none:=List.map_inj_left.mp (show allAt.map (lookupAlong [.type "object"])=allAt.map fun _=>pure none by kernel_rfl)
noncomputable abbrev offB (k:Str):Bool:=k != "__qualname__"&&k != "__dict__"&&k != "__weakref__"&&k != "__doc__"
theorem offB.use {k:Str} (h:offB k=true):offNames k:=by
 simp only [offB,Bool.and_eq_true,bne_iff_ne] at h
 exact ⟨h.1.1.1,h.1.1.2,h.1.2,h.2⟩
noncomputable def freeB (i:Nat) (k:Str):Bool:=!((cMs (stAt i)).any fun m=>m.name==k)&&!(freeNames.any fun y=>y==k)&&offB k
theorem freeB.use {i:Nat} {k:Str} (h:freeB i k=true):k ∉ (cMs (stAt i)).map (·.name)/\k ∉ freeNames/\offNames k:=by
 simp only [freeB,Bool.and_eq_true,Bool.not_eq_true'] at h
 refine ⟨fun hm=>?_,fun hm=>?_,offB.use (by simp only [offB,Bool.and_eq_true];exact h.2)⟩
 · exact ea1_2 (List.mem_map.mp hm) fun m h1 h2=>List.any_eq_false.mp h.1.1 m h1 (by simpa using h2)
 · exact List.any_eq_false.mp h.1.2 k hm (by simp)
noncomputable abbrev spN:List Str:=["__getattribute__","__getattr__","__setattr__"]
variable {K:Kc}
theorem ct_obj (i:Nat) (attrs:List Str) (h:(clsOk i&&lnil (fBs (stAt i))&&(attrs++spN).all (freeB i))=true) (ha:∀ a∈attrs,lookupAlong [.type "object"] a=pure none):CT K (fName (stAt i)) attrs:=by
 simp only [Bool.and_eq_true] at h
 refine ea0_3 (cl_obj (K:=K) i h.1.1 h.1.2) fun c1 c2 z1=>?_;clear z1
 have fr:=fun a hm=>freeB.use (List.all_eq_true.mp h.2 a hm)
 have sp:=fun a (hm:a∈spN)=>fr a (List.mem_append_right _ hm)
 exact ⟨c1,c2 _ _ (sp _ (by simp)).1 (sp _ (by simp)).2.1 (sp _ (by simp)).2.2 ob_ga,c2 _ _ (sp _ (by simp)).1 (sp _ (by simp)).2.1 (sp _ (by simp)).2.2 ob_gt,
  c2 _ _ (sp _ (by simp)).1 (sp _ (by simp)).2.1 (sp _ (by simp)).2.2 ob_sa,fun a hm=>c2 _ _ (fr _ (List.mem_append_left _ hm)).1 (fr _ (List.mem_append_left _ hm)).2.1 (fr _ (List.mem_append_left _ hm)).2.2 (ha a hm)⟩
theorem ct_sub (i j:Nat) (attrs:List Str) (h:(clsOk i&&clsOk j&&lnil (fBs (stAt j))&&tabC.any (fun p=>p.1==fName (stAt i)&&p.2==fName (stAt j))&&(attrs++spN).all (fun a=>freeB i a&&freeB j a))=true) (ha:∀ a∈attrs,lookupAlong [.type "object"] a=pure none):CT K (fName (stAt i)) attrs:=by
 simp only [Bool.and_eq_true] at h
 have ht:(fName (stAt i),fName (stAt j))∈tabC:=by
  refine ea1_2 (List.any_eq_true.mp h.1.2) fun p hp he=>?_
  rw [Bool.and_eq_true,beq_iff_eq,beq_iff_eq] at he
  refine qB he.1 (qB he.2 ?_);exact hp
 refine ea0_3 (cl_sub (K:=K) i j h.1.1.1.1 h.1.1.1.2 h.1.1.2 ht) fun c1 c2 z1=>?_;clear z1
 have fr:=fun a hm=>(Bool.and_eq_true _ _▸List.all_eq_true.mp h.2 a hm:freeB i a=true/\freeB j a=true)
 have go:∀ a r,a∈attrs++spN->lookupAlong [.type "object"] a=pure r->CLk K (fName (stAt i)) a r:=fun a r hm hr=>
  c2 a r (freeB.use (fr a hm).1).1 (freeB.use (fr a hm).2).1 (freeB.use (fr a hm).1).2.1 (freeB.use (fr a hm).1).2.2 hr
 exact ⟨c1,go _ _ (List.mem_append_right _ (by simp)) ob_ga,go _ _ (List.mem_append_right _ (by simp)) ob_gt,go _ _ (List.mem_append_right _ (by simp)) ob_sa,fun a hm=>go a _ (List.mem_append_left _ hm) (ha a hm)⟩
theorem sub_all {l:List Str} (h:l.all (fun a=>allAt.any fun b=>b==a)=true):∀ a∈l,lookupAlong [.type "object"] a=pure none:=fun a hm=>by
 exact ea1_2 (List.any_eq_true.mp (List.all_eq_true.mp h a hm)) fun b hb he=>qB (by simpa using he:b=a) (ob_none b hb)
theorem ct_Node:CT K "Node" nodeAt:=ct_obj 45 nodeAt (by decide +kernel) (sub_all (by decide +kernel))
theorem ct_Token:CT K "Token" tokAt:=ct_obj 63 tokAt (by decide +kernel) (sub_all (by decide +kernel))
theorem ct_Diag:CT K "Diag" diagAt:=ct_obj 69 diagAt (by decide +kernel) (sub_all (by decide +kernel))
theorem ct_Diags:CT K "Diags" diagsAt:=ct_obj 70 diagsAt (by decide +kernel) (sub_all (by decide +kernel))
theorem ct_Parser:CT K "Parser" parAt:=ct_obj 84 parAt (by decide +kernel) (sub_all (by decide +kernel))
theorem ct_NamePart:CT K "NamePart" []:=ct_sub 106 83 [] (by decide +kernel) (sub_all (by decide +kernel))
theorem ct_ExprPart:CT K "ExprPart" []:=ct_sub 137 83 [] (by decide +kernel) (sub_all (by decide +kernel))
theorem ct_NumRule:CT K "PexprNumRule" []:=ct_sub 158 136 [] (by decide +kernel) (sub_all (by decide +kernel))
theorem ct_StrRule:CT K "PexprStrRule" []:=ct_sub 159 136 [] (by decide +kernel) (sub_all (by decide +kernel))
theorem ct_TplFirst:CT K "TplFirst" []:=ct_sub 160 136 [] (by decide +kernel) (sub_all (by decide +kernel))
theorem ct_NameRule:CT K "PexprNameRule" []:=ct_sub 161 136 [] (by decide +kernel) (sub_all (by decide +kernel))
theorem ct_WordFirst:CT K "WordFirst" ["kind"]:=ct_sub 162 136 ["kind"] (by decide +kernel) (sub_all (by decide +kernel))
theorem ct_ParenRule:CT K "PexprParenRule" []:=ct_sub 163 136 [] (by decide +kernel) (sub_all (by decide +kernel))
end
section
set_option backward.match.sparseCases false
set_option tactic.hygienic true in
theorem isDI.use {gs:List (Str×GV)} {x:Str} {l:List (Str×Int)} (h:isDI gs x l=true):(x,GV.dict (l.map fun p=>(p.1,DV.lit (.int p.2))))∈gs:=by
 unfold isDI at h
 split at h
 · rename_i l' hl
   rw [Bool.and_eq_true,beq_iff_eq] at h
   have:l'=l.map fun p=>(p.1,DV.lit (.int p.2)):=by
    refine ea0_2 h fun h1 h2=>?_;clear h
    clear hl
    induction l' generalizing l with
    | nil=>induction l using List.casesOn with
     | nil=>rfl
     | cons _ _=>injection h1
    | cons a r ih=>induction l using List.casesOn with
     | nil=>injection h1
     | cons b s=>
      rw [List.zip_cons_cons,List.all_cons,Bool.and_eq_true] at h2
      refine qE List.map_cons (qE (ih (by simpa using h1) h2.2) ?_)
      obtain ⟨a1,a2⟩:=a
      have h3:=h2.1
      dsimp only at h3
      rw [Bool.and_eq_true,beq_iff_eq] at h3
      refine ea0_2 h3 fun h3 h4=>?_
      subst h3
      split at h4
      · exact qE (eq_of_beq h4) rfl
      · injection h4
   refine qB this ?_;exact mem_of_lookup hl
 · injection h
set_option tactic.hygienic true in
theorem isDT.use {gs:List (Str×GV)} {x:Str} {l:List (Str×List Str)} (h:isDT gs x l=true):(x,GV.dict (l.map fun p=>(p.1,DV.tup p.2)))∈gs:=by
 unfold isDT at h
 split at h
 · rename_i l' hl
   rw [Bool.and_eq_true,beq_iff_eq] at h
   have:l'=l.map fun p=>(p.1,DV.tup p.2):=by
    refine ea0_2 h fun h1 h2=>?_;clear h
    clear hl
    induction l' generalizing l with
    | nil=>induction l using List.casesOn with
     | nil=>rfl
     | cons _ _=>injection h1
    | cons a r ih=>induction l using List.casesOn with
     | nil=>injection h1
     | cons b s=>
      rw [List.zip_cons_cons,List.all_cons,Bool.and_eq_true] at h2
      refine qE List.map_cons (qE (ih (by simpa using h1) h2.2) ?_)
      obtain ⟨a1,a2⟩:=a
      have h3:=h2.1
      dsimp only at h3
      rw [Bool.and_eq_true,beq_iff_eq] at h3
      refine ea0_2 h3 fun h3 h4=>?_
      subst h3
      split at h4
      · exact qE (eq_of_beq h4) rfl
      · injection h4
   refine qB this ?_;exact mem_of_lookup hl
 · injection h
set_option tactic.hygienic true in
theorem isTI.use {gs:List (Str×GV)} {x:Str} {l:List Int} (h:isTI gs x l=true):(x,GV.tup (l.map .int))∈gs:=by
 unfold isTI at h
 split at h
 · rename_i l' hl
   rw [Bool.and_eq_true,beq_iff_eq] at h
   have:l'=l.map .int:=by
    refine ea0_2 h fun h1 h2=>?_;clear h
    clear hl
    induction l' generalizing l with
    | nil=>induction l using List.casesOn with
     | nil=>rfl
     | cons _ _=>injection h1
    | cons a r ih=>induction l using List.casesOn with
     | nil=>injection h1
     | cons b s=>
      rw [List.zip_cons_cons,List.all_cons,Bool.and_eq_true] at h2
      refine qE List.map_cons (qE (ih (by simpa using h1) h2.2) ?_)
      have h4:=h2.1
      dsimp only at h4
      split at h4
      · exact qE (eq_of_beq h4) rfl
      · injection h4
   refine qB this ?_;exact mem_of_lookup hl
 · injection h
set_option tactic.hygienic true in
theorem isTS.use {gs:List (Str×GV)} {x:Str} {l:List Str} (h:isTS gs x l=true):(x,GV.tup (l.map .str))∈gs:=by
 unfold isTS at h
 split at h
 · rename_i l' hl
   rw [Bool.and_eq_true,beq_iff_eq] at h
   have:l'=l.map .str:=by
    refine ea0_2 h fun h1 h2=>?_;clear h
    clear hl
    induction l' generalizing l with
    | nil=>induction l using List.casesOn with
     | nil=>rfl
     | cons _ _=>injection h1
    | cons a r ih=>induction l using List.casesOn with
     | nil=>injection h1
     | cons b s=>
      rw [List.zip_cons_cons,List.all_cons,Bool.and_eq_true] at h2
      refine qE List.map_cons (qE (ih (by simpa using h1) h2.2) ?_)
      have h4:=h2.1
      dsimp only at h4
      split at h4
      · exact qE (eq_of_beq h4) rfl
      · injection h4
   refine qB this ?_;exact mem_of_lookup hl
 · injection h
theorem tabs_use:((((((isDI tsEnd.gs "MEMBER_WORDS" memberW=true/\isDI tsEnd.gs "POWERS" powersT=true)/\isDT tsEnd.gs "LATE_WORDS" lateW=true)/\isTI tsEnd.gs "NOT_LEFT" notLeft=true)/\isTS tsEnd.gs "ASSIGN_SIGNS" assignS=true)/\isTS tsEnd.gs "UNARY_KEYS" unaryK=true)/\isTI tsEnd.gs "OWN_PARTS" ownParts=true)/\(offN.all fun x=>!(tsEnd.gs.any fun p=>p.1==x))=true:=by
 have:=abs_all.2.2
 unfold okTabs at this
 simpa only [Bool.and_eq_true] using this
theorem off_use {x:Str} (h:x∈offN):x ∉ tsEnd.gs.map (·.1):=fun hm=>by
 have:=List.all_eq_true.mp tabs_use.2 x h
 refine ea1_2 (List.mem_map.mp hm) fun p hp z1=>?_;subst z1
 rw [Bool.not_eq_true'] at this
 exact absurd (List.any_eq_false.mp this p hp) (by simp)
end
section
variable {K:Kc} {D:Nat} {σ σ' σ'' σa σb σ1 σ2 σ3:Sg} {k:V->Sg->Prop} {kb:Bool->Sg->Prop}
section
theorem hand_plain {a:V} {v:Value} (h:a.At v):PySem.handedOut v=pure v:=by
 induction a with
 | none=>cases h;rfl
 | bool b=>cases h;rfl
 | int i=>refine ea1_1 h fun t z1=>?_;clear h;subst z1;rfl
 | str s=>refine ea1_1 h fun t z1=>?_;clear h;subst z1;rfl
 | ref a=>cases h;rfl
theorem at0 {vs:List Value} (h:AllAt [] vs):vs=[]:=by induction vs using List.casesOn with | nil=>rfl | cons ξ ξ=>exact h.elim
theorem atc {a:V} {l:List V} {vs:List Value} (h:AllAt (a::l) vs):∃ v ws,vs=v::ws/\a.At v/\AllAt l ws:=by induction vs using List.casesOn with | nil=>exact h.elim | cons v ws=>exact ⟨v,ws,rfl,h.1,h.2⟩
theorem at1 {a:V} {vs:List Value} (h:AllAt [a] vs):∃ v,vs=[v]/\a.At v:=ea2_3 (atc h) fun v ws e h1 h2=>⟨v,by rw [e,at0 h2],h1⟩
theorem at2 {a b:V} {vs:List Value} (h:AllAt [a,b] vs):∃ v w,vs=[v,w]/\a.At v/\b.At w:=ea2_3 (atc h) fun v ws e h1 h2=>ea1_2 (at1 h2) fun w e2 h3=>⟨v,w,by rw [e,e2],h1,h3⟩
theorem at3 {a b c:V} {vs:List Value} (h:AllAt [a,b,c] vs):∃ v w u,vs=[v,w,u]/\a.At v/\b.At w/\c.At u:=ea2_3 (atc h) fun v ws e h1 h2=>ea2_3 (at2 h2) fun w u e2 h3 h4=>⟨v,w,u,by rw [e,e2],h1,h3,h4⟩
theorem Loc.get_mem {y:Str} {a:V}:∀ {r:Loc},Loc.get r y=some a->y∈r.map (·.1):=by
 intro r
 induction r with
 | nil=>intro h;injection h
 | cons p r ih=>
  intro h
  unfold Loc.get at h
  by_cases hz:y=p.1
  · exact hz▸List.mem_cons_self ..
  · replace h:=if_neg hz▸h
    exact List.mem_cons_of_mem _ (ih h)
theorem getW {cls:Str} {attrs:List Str} (ct:CT K cls attrs) {x d:Addr} {m:Loc} {attr:Str} {k:V->Sg->Prop} (hx:Has K σ x (.inst cls d)) (hd:Has K σ d (.ns m))
 (q:match attrs.contains attr,m.get attr with | true,some w=>k w σ | _,_=>False):GetW K D (.ref x) attr k σ:=by
 induction ha:attrs.contains attr with
 | false=>replace q:=ha▸q;exact q.elim
 | true=>
  induction hm:m.get attr with
  | none=>replace q:=hm▸ha▸q;exact q.elim
  | some w=>
   rw [ha,hm] at q
   refine ⟨fun {A E L mm fs h t vs Q} hr st av qq=>?_⟩
   · refine ea1_2 (at1 av) fun v z aw=>?_;subst z;cases aw
     refine ea1_3 ct.is fun C hC XN z1=>?_;clear z1
     refine ea1_2 (hx.at st) fun C' hC' ox=>?_
     replace hC':=hC▸hC';cases hC'
     refine ea1_2 (hd.at st) fun mv hns ho=>?_
     have hw:=ho attr
     replace hw:=hm▸hw
     refine ea1_2 hw.some fun v hv wv=>?_
     have kh:=st.h0
     have is:IsCls h C:=by
      exact ea3_2 XN.is fun sl cd pre a1 a2=>⟨sl,cd,pre,kh _ _ a1,a2⟩
     exact get_field is ((ct.ga C hC).keeps kh) ((ct.at_ attr (by simpa using ha) C hC).keeps kh) ox hns.ns hv (hand_plain wv) fun t'=>qq _ _ _ _ _ wv q st
theorem setW {cls:Str} {attrs:List Str} (ct:CT K cls attrs) {x d:Addr} {m:Loc} {attr:Str} {a:V} {k:Sg->Prop} (hx:Has K σ x (.inst cls d)) (hd:σ.M d=some (.ns m)) (hl:m.length<=900) (hc:attrs.contains attr=true)
 (q:k (σ.set d (.ns (m.put attr a)))):SetW K D (.ref x) attr a k σ:=by
 refine ⟨fun {A E L mm fs h t vs Q} hr st av qq=>?_⟩
 · refine ea2_3 (at2 av) fun v u z av1 aw=>?_;subst z;cases av1
   refine ea1_3 ct.is fun C hC XN z1=>?_;clear z1
   refine ea1_2 (hx.at st) fun C' hC' ox=>?_
   replace hC':=hC▸hC';cases hC'
   refine ea1_2 (st.cell _ _ hd) fun mv hns ho=>?_
   have kh:=st.h0
   have is:IsCls h C:=by
    exact ea3_2 XN.is fun sl cd pre a1 a2=>⟨sl,cd,pre,kh _ _ a1,a2⟩
   have hdx:d≠x:=by
    rintro rfl
    refine ea3_3 hns fun o es ep e1 e2 ξ=>?_;clear hns
    replace e1:=ox▸e1;cases e1;injection e2
   have hw:Within mv (m.map (·.1)):=fun y hy=>by
    have:=ho y
    induction hg:m.get y with
    | none=>replace this:=hg▸this;induction hm:mv y with
     | none=>exact absurd hm hy
     | some v=>replace this:=hm▸this;exact this.elim
    | some a=>
     exact Loc.get_mem hg
   refine set_field is ((ct.sa C hC).keeps kh) ((ct.at_ attr (by simpa using hc) C hC).keeps kh) ox hdx hns hw (by rw [List.length_map];lia) fun h' t' hn' kk=>qq () () _ _ _ trivial q (st.set hd kk ⟨_,hn',fun z=>?_⟩)
   rw [Loc.get_put]
   by_cases hz:z=attr
   · refine qE (if_pos hz) (qE (if_pos hz) ?_);exact aw
   · refine qE (if_neg hz) (qE (if_neg hz) ?_);exact ho z
theorem methI {cls:Str} {attrs:List Str} (ct:CT K cls attrs) {x d f:Addr} {m:Loc} {name:Str} (hx:Has K σ x (.inst cls d)) (hd:Has K σ d (.ns m)) (hm:m.get name=none) (hf:CLk K cls name (some (.ref f))) {lo:Addr} {nm qual:Str} {ps:Arguments} {b:List Stmt} {sc:Scope} (F:FnAt K.h0 lo f nm qual ps b sc) :
 MethIs K σ (.ref x) name (.ref f)/\FV K (.ref f):=by
 refine ea0_2 F.ex fun lf z1=>?_;refine ea6_4 z1 fun dV vs pm code doc P' lc lP e r=>?_;clear z1
 refine ⟨fun {A E L mm fs h t v pl Q} st av q=>?_,.inl ⟨f,_,_,rfl,e,rfl⟩⟩
 cases av
 refine ea1_3 ct.is fun C hC XN z1=>?_;clear z1
 refine ea1_2 (hx.at st) fun C' hC' ox=>?_
 replace hC':=hC▸hC';cases hC'
 refine ea1_2 (hd.at st) fun mv hns ho=>?_
 have hw:=ho name
 replace hw:=hm▸hw
 have hv:mv name=none:=by induction h:mv name with
  | none=>rfl
  | some v=>replace hw:=h▸hw;exact hw.elim
 have kh:=st.h0
 exact get_meth ((ct.ga C hC).keeps kh) ((ct.gt C hC).keeps kh) ((hf C hC).keeps kh) (kh _ _ e) rfl ox hns.ns hv (q t)
@[elab_as_elim] theorem atII {P:List Value->Prop} {i j:Int} {vs:List Value} (h:AllAt [.int i,.int j] vs) (q:∀ t u,P [.int i t,.int j u]):P vs:=ea2_3 (at2 h) fun v w z x y=>ea1_1 x fun t x=>ea1_1 y fun u y=>by rw [z,x,y];exact q t u
@[elab_as_elim] theorem atSS {P:List Value->Prop} {i j:Str} {vs:List Value} (h:AllAt [.str i,.str j] vs) (q:∀ t u,P [.str i t,.str j u]):P vs:=ea2_3 (at2 h) fun v w z x y=>ea1_1 x fun t x=>ea1_1 y fun u y=>by rw [z,x,y];exact q t u
@[elab_as_elim] theorem atI1 {P:List Value->Prop} {i:Int} {vs:List Value} (h:AllAt [.int i] vs) (q:∀ t,P [.int i t]):P vs:=ea1_2 (at1 h) fun v z x=>ea1_1 x fun t x=>by rw [z,x];exact q t
theorem atInt (i:Int) (t:Tok):V.At (.int i) (.int i t):=⟨t,rfl⟩
theorem atStr (i:Str) (t:Tok):V.At (.str i) (.str i t):=⟨t,rfl⟩
theorem atBool (b:Bool):V.At (.bool b) (.bool b):=rfl
variable {i j:Int} {x y:Str}
theorem addI (q:k (.int (i+j)) σ):BinW K D .Add (.int i) (.int j) k σ:=⟨fun hr st av qq=>atII av fun t u=>PyProof.Rows.add_int (qq _ _ _ _ _ (atInt _ _) q st)⟩
theorem subI (q:k (.int (i-j)) σ):BinW K D .Sub (.int i) (.int j) k σ:=⟨fun hr st av qq=>atII av fun t u=>PyProof.Rows.sub_int (qq _ _ _ _ _ (atInt _ _) q st)⟩
theorem modI (hj:j≠0) (q:k (.int (i.fmod j)) σ):BinW K D .Mod (.int i) (.int j) k σ:=⟨fun hr st av qq=>atII av fun t u=>PyProof.Rows.mod_int hj (qq _ _ _ _ _ (atInt _ _) q st)⟩
theorem andI (q:k (.int (Builtin.bitAnd i j)) σ):BinW K D .BitAnd (.int i) (.int j) k σ:=⟨fun hr st av qq=>atII av fun t u=>PyProof.Rows.and_int (qq _ _ _ _ _ (atInt _ _) q st)⟩
theorem iaddI (q:k (.int (i+j)) σ):InpW K D .Add (.int i) (.int j) k σ:=⟨fun hr st av qq=>atII av fun t u=>PyProof.Rows.iadd_int (qq _ _ _ _ _ (atInt _ _) q st)⟩
theorem isubI (q:k (.int (i-j)) σ):InpW K D .Sub (.int i) (.int j) k σ:=⟨fun hr st av qq=>atII av fun t u=>PyProof.Rows.isub_int (qq _ _ _ _ _ (atInt _ _) q st)⟩
theorem iorI (q:k (.int (Builtin.bitOr i j)) σ):InpW K D .BitOr (.int i) (.int j) k σ:=⟨fun hr st av qq=>atII av fun t u=>PyProof.Rows.ior_int (qq _ _ _ _ _ (atInt _ _) q st)⟩
theorem eqI (q:k (.bool (i==j)) σ):CmpW K D .Eq (.int i) (.int j) k σ:=⟨fun hr st av qq=>atII av fun t u=>PyProof.Rows.eq_int (qq _ _ _ _ _ (atBool _) q st)⟩
theorem neI (q:k (.bool (i != j)) σ):CmpW K D .NotEq (.int i) (.int j) k σ:=⟨fun hr st av qq=>atII av fun t u=>PyProof.Rows.ne_int (qq _ _ _ _ _ (atBool _) q st)⟩
theorem ltI (q:k (.bool (decide (i<j))) σ):CmpW K D .Lt (.int i) (.int j) k σ:=⟨fun hr st av qq=>atII av fun t u=>PyProof.Rows.lt_int (qq _ _ _ _ _ (atBool _) q st)⟩
theorem gtI (q:k (.bool (decide (j<i))) σ):CmpW K D .Gt (.int i) (.int j) k σ:=⟨fun hr st av qq=>atII av fun t u=>PyProof.Rows.gt_int (qq _ _ _ _ _ (atBool _) q st)⟩
theorem leI (q:k (.bool (decide (i<=j))) σ):CmpW K D .LtE (.int i) (.int j) k σ:=⟨fun hr st av qq=>atII av fun t u=>PyProof.Rows.le_int (qq _ _ _ _ _ (atBool _) q st)⟩
theorem geI (q:k (.bool (decide (j<=i))) σ):CmpW K D .GtE (.int i) (.int j) k σ:=⟨fun hr st av qq=>atII av fun t u=>PyProof.Rows.ge_int (qq _ _ _ _ _ (atBool _) q st)⟩
theorem eqS (q:k (.bool (x==y)) σ):CmpW K D .Eq (.str x) (.str y) k σ:=⟨fun hr st av qq=>atSS av fun t u=>PyProof.Rows.eq_str (qq _ _ _ _ _ (atBool _) q st)⟩
theorem isN {a:V} (q:k (.bool (decide (a=.none))) σ):CmpW K D .Is a .none k σ:=⟨fun hr st av qq=>by
 refine ea2_3 (at2 av) fun v w z1 hv z2=>?_;subst z1;subst z2
 refine is_none (qq _ _ _ _ _ ?_ q st)
 show _=_
 induction a with
 | none=>cases hv;rfl
 | bool b=>cases hv;rfl
 | int i=>refine ea1_1 hv fun t z1=>?_;clear hv;subst z1;rfl
 | str s=>refine ea1_1 hv fun t z1=>?_;clear hv;subst z1;rfl
 | ref a=>cases hv;rfl⟩
theorem isNotN {a:V} (q:k (.bool (!decide (a=.none))) σ):CmpW K D .IsNot a .none k σ:=⟨fun hr st av qq=>by
 refine ea2_3 (at2 av) fun v w z1 hv z2=>?_;subst z1;subst z2
 refine isNot_none (qq _ _ _ _ _ ?_ q st)
 show _=_
 induction a with
 | none=>cases hv;rfl
 | bool b=>cases hv;rfl
 | int i=>refine ea1_1 hv fun t z1=>?_;clear hv;subst z1;rfl
 | str s=>refine ea1_1 hv fun t z1=>?_;clear hv;subst z1;rfl
 | ref a=>cases hv;rfl⟩
theorem truB {b:Bool} (q:kb b σ):TruW K D (.bool b) kb σ:=⟨fun hr st av qq=>by refine ea1_2 (at1 av) fun v z1 hv=>?_;subst z1;cases hv;exact wpAny_truthy_bool (qq _ _ _ _ _ rfl q st)⟩
theorem truI (q:kb (i != 0) σ):TruW K D (.int i) kb σ:=⟨fun hr st av qq=>atI1 av fun t=>PySem.P.truthy_int (qq _ _ _ _ _ rfl q st)⟩
theorem negI (q:k (.int (-i)) σ):UnW K D .USub (.int i) k σ:=⟨fun hr st av qq=>atI1 av fun t=>PySem.P.neg_int (qq _ _ _ _ _ (atInt _ _) q st)⟩
theorem notW {a:V} (w:TruW K D a (fun b σ'=>k (.bool (!b)) σ') σ):UnW K D .Not a k σ:=⟨fun hr st av qq=>by refine ea1_2 (at1 av) fun v z1 hv=>?_;subst z1;exact not_value (Wp.use1 w st hr hv fun b b' σ' h' t' e x s=>by cases e;exact qq _ _ _ _ _ (atBool _) x s)⟩
set_option genInjectivity false in
structure Tok where
 kind:Int
 text:Str
 num:Int
 at_:Int
 end_:Int
 line:Bool
deriving Inhabited
noncomputable def Tok.ns (t:Tok):Loc:=[("kind",.int t.kind),("text",.str t.text),("num",.int t.num),("at",.int t.at_),("end",.int t.end_),("line_before",.bool t.line)]
noncomputable def TokAt (σ:Sg) (a:Addr) (t:Tok):Prop:=∃ d,σ.F a=some (.inst "Token" d)/\σ.F d=some (.ns t.ns)
theorem getTok {a:Addr} {t:Tok} {attr:Str} (h:TokAt σ a t) (q:match tokAt.contains attr,t.ns.get attr with | true,some w=>k w σ | _,_=>False):GetW K D (.ref a) attr k σ:=by
 refine ea1_2 h fun d h1 h2=>?_;clear h
 exact getW ct_Token (.inr (.inl h1)) (.inr (.inl h2)) q
theorem c_is_token {tok:Addr} {t:Tok} {kd:Int} {tx:Str} (ht:TokAt σ tok t) (q:k (.bool (t.kind==kd&&t.text==tx)) σ):CallV K (D+1) (gv K "is_token") [.ref tok,.int kd,.str tx] k σ:=by
 refine fn_vc 86 3 (by decide +kernel) rfl ?_
 (conv=>whnf);refine getTok ht ?_
 (conv=>whnf);refine eqI ?_
 (conv=>whnf);refine truB ?_
 induction hk:(t.kind==kd) with
 | false=>replace q:=hk▸q;(conv=>whnf);exact q
 | true=>
  replace q:=hk▸q
  (conv=>whnf);refine getTok ht ?_
  (conv=>whnf);refine eqS ?_
  (conv=>whnf);exact q
end
section
variable {x:Addr} {l:List V} {a:V}
theorem mAppend (hx:Has K σ x (.list l)):MethIs K σ (.ref x) "append" (.builtin "list.append")/\FV K (.builtin "list.append"):=by
 refine ⟨fun {A E L mm fs h t v pl Q} st av q=>?_,.inr (.inr (.inl ⟨_,rfl⟩))⟩
 cases av
 exact ea2_2 (hx.at st) fun vs n e r=>Calls.getMethod_list_append e rfl rfl (q t)
theorem AllAt.append {as bs:List V} {vs ws:List Value}:AllAt as vs->AllAt bs ws->AllAt (as++bs) (vs++ws):=by
 intro h1 h2
 induction as generalizing vs with
 | nil=>induction vs using List.casesOn with
  | nil=>exact h2
  | cons _ _=>exact h1.elim
 | cons a as ih=>induction vs using List.casesOn with
  | nil=>exact h1.elim
  | cons v vs=>exact ⟨h1.1,ih h1.2⟩
theorem cAppend (hx:σ.M x=some (.list l)) (hl:l.length<=5000) (q:k .none (σ.set x (.list (l++[a])))):CallV K D (.builtin "list.append") [.ref x,a] k σ:=⟨fun {A E L m fs h t vs Q} hr st av qq=>by
 refine ea2_3 (at2 av) fun v w z1 hv hw=>?_;subst z1
 cases hv
 refine ea2_2 (st.cell _ _ hx) fun vs n e r=>?_
 have hT:(⟨h,#[],K.d,t,K.os⟩:Shared).TypeIs (.ref x) "list":=⟨_,e,rfl⟩
 refine wpAny_call_entry slot_list_append hT entry_list_append ?_ (args_list_append _ _)
 show wpAny _ _ (updateSeq x (·.push w) >>= fun ξ=>ret .none) _ _ _
 have hsz:vs.size<=sizeLine:=by have:=r.len;refine qE sizeLine_eq ?_;simp at this;lia
 refine wpAny_bind (wpAny_updateSeq e rfl (wpAny_pure ⟨.none,rfl,qq _ _ _ _ _ atNone q (st.set hx (fun b o hb eb=>(Heap.get?_update_ne _ _ _ _ hb).trans eb) ⟨vs.push w,_,Heap.get?_update_self _ e rfl,?_⟩)⟩))
 have one:AllAt [a] [w]:=⟨hw,trivial⟩
 refine qE Array.toList_push ?_;exact r.append one⟩
theorem lenL (hx:Has K σ x (.list l)) (hl:l.length<=5000) (q:k (.int l.length) σ):CallV K D (.builtin "len") [.ref x] k σ:=⟨fun {A E L m fs h t vs Q} hr st av qq=>by
 refine ea1_2 (at1 av) fun v z1 hv=>?_;subst z1
 cases hv
 refine ea2_2 (hx.at st) fun vs n e r=>?_
 have hlen:vs.size=l.length:=by have:=r.len;simpa using this
 exact Calls.call_len_list ⟨_,e,rfl,n,rfl⟩ (by lia) (qq _ _ _ _ _ (by refine qE hlen ?_;exact atInt _ _) q st)⟩
theorem notPyL (hx:Has K σ x (.list l)):NotPy K σ (.ref x):=fun {A E L m fs h t v Q} st av q=>by
 cases av
 refine ea2_2 (hx.at st) fun vs n e r=>?_
 unfold getitemInPython
 exact wpAny_bind (wpAny_specialOf (T:="list") ⟨_,e,rfl⟩ list_getitem_lookup (wpAny_pure q))
theorem itemL {i:Nat} (hx:Has K σ x (.list l)) (hi:l[i]?=some a) (hl:i<5000) (q:k a σ):ItemW K D (.ref x) (.int i) k σ:=⟨fun {A E L m fs h t vs Q} hr st av qq=>by
 refine ea2_3 (at2 av) fun v w z1 hv z2=>?_;subst z1;refine ea1_1 z2 fun u z3=>?_;clear z2;subst z3
 cases hv
 refine ea2_2 (hx.at st) fun vs n e r=>ea1_2 (r.get hi) fun y hy ya=>?_
 exact wpAny_getItem_list ⟨_,e,rfl,n,rfl⟩ (by lia) (by lia) (by simpa using hy) (qq _ _ _ _ _ ya q st)⟩
theorem truL (hx:Has K σ x (.list l)) (hl:l.length<=5000) (q:kb (!l.isEmpty) σ):TruW K D (.ref x) kb σ:=⟨fun {A E L m fs h t vs Q} hr st av qq=>by
 refine ea1_2 (at1 av) fun v z1 hv=>?_;subst z1
 cases hv
 refine ea2_2 (hx.at st) fun vs n e r=>?_
 have hlen:vs.size=l.length:=by have:=r.len;simpa using this
 refine wpAny_truthy_list ⟨_,e,rfl,n,rfl⟩ (by lia) (qq _ _ _ _ _ ?_ q st)
 rw [Array.isEmpty]
 induction l using List.casesOn with
 | nil=>simp at hlen;simp [hlen]
 | cons b l=>simp at hlen;simp [hlen]⟩
theorem seq_last {vs:List Value} {a:V} (h:AllAt (l++[a]) vs):∃ ws v,vs=ws++[v]/\AllAt l ws/\a.At v:=by
 induction l generalizing vs with
 | nil=>exact ea1_2 (at1 h) fun v z h=>⟨[],v,z,trivial,h⟩
 | cons b l ih=>
  refine ea2_3 (atc h) fun w ws z h1 h2=>?_;subst z
  refine ea2_3 (ih h2) fun ws v z1 h3 h4=>?_;subst z1
  exact ⟨w::ws,v,rfl,⟨h1,h3⟩,h4⟩
theorem getMethod_list {M:Model} {A:Around} {E:VP} {s:Shared} {l:Addr} {o:Obj} {pl:Sem Bool} {name:Str} {id:String} {Q:Value×List Value->Shared->Prop} (ho:s.heap.get? l=some o) (hc:o.cls=.type "list") (hd:o.dict=none)
 (hs:typeLookup (.type "list") name=pure (some (.builtin id))) (ht:typeOf (.builtin id)=pure (.type "method_descriptor")) (h:Q (.builtin id,[.ref l]) s):wpAny M A (getMethod (.ref l) name pl) Q E s:=by
 have hT:s.TypeIs (.ref l) "list":=⟨o,ho,hc⟩
 unfold getMethod
 refine wpAny_bind (wpAny_specialOf hT list_getattribute ?_)
 show wpAny M A (if (Manifest.canonical "list.__getattribute__" != "object.__getattribute__")=true then _ else _) Q E s
 refine qE canon_list_getattribute (qE (if_neg Bool.false_ne_true) ?_)
 refine wpAny_bind (wpAny_specialOf hT list_getattr_none ?_)
 refine wpAny_bind (wpAny_specialOf hT hs ?_)
 refine wpAny_bind (wpAny_of_eq ht ?_)
 refine wpAny_bind (wpAny_load ho ?_)
 exact qE hd (wpAny_bind (wpAny_rule (wpAny_pure h)))
theorem ty_list_pop:typeOf (.builtin "list.pop")=pure (.type "method_descriptor"):=by kernel_rfl
theorem mPop (hx:Has K σ x (.list l)):MethIs K σ (.ref x) "pop" (.builtin "list.pop")/\FV K (.builtin "list.pop"):=by
 refine ⟨fun {A E L mm fs h t v pl Q} st av q=>?_,.inr (.inr (.inl ⟨_,rfl⟩))⟩
 cases av
 exact ea2_2 (hx.at st) fun vs n e r=>getMethod_list e rfl rfl PySem.F.slot_list_pop.lookup ty_list_pop (q t)
theorem cPop (hx:σ.M x=some (.list (l++[a]))) (hl:l.length<=5000) (q:k a (σ.set x (.list l))):CallV K D (.builtin "list.pop") [.ref x] k σ:=⟨fun {A E L m fs h t vs Q} hr st av qq=>by
 refine ea1_2 (at1 av) fun v z1 hv=>?_;subst z1
 cases hv
 refine ea2_2 (st.cell _ _ hx) fun vs n e r=>ea2_3 (seq_last r) fun ws y hw h1 h2=>?_
 have hsz:vs.size=l.length+1:=by have:=r.len;simp at this;lia
 have hT:(⟨h,#[],K.d,t,K.os⟩:Shared).TypeIs (.ref x) "list":=⟨_,e,rfl⟩
 have hy:vs[vs.size-1]?=some y:=by
  refine qB Array.getElem?_toList (qE hw (qE hsz ?_))
  have:=h1.len
  refine qE (List.getElem?_append_right (by lia)) ?_
  simp [this]
 refine call_meets PySem.F.slot_list_pop hT PySem.F.entry_list_pop (PySem.F.args_list_pop_1 _) (PySem.MeetsSeq.list_pop_last x vs n y hy (by refine qE sizeLine_eq ?_;lia)) ⟨e,?_⟩
 refine qq _ _ _ _ _ h2 q (st.set hx (fun b o hb eb=>(Heap.get?_update_ne _ _ _ _ hb).trans eb) ⟨_,_,Heap.get?_update_self _ e rfl,?_⟩)
 rw [show (vs.eraseIdxIfInBounds (vs.size-1)).toList=ws from ?_]
 · exact h1
 · have hlt:vs.size-1<vs.size:=by lia
   unfold Array.eraseIdxIfInBounds
   refine qE (dif_pos hlt) (qE Array.toList_eraseIdx (qE hw ?_))
   have:=h1.len
   rw [List.eraseIdx_append_of_length_le (by lia)]
   refine qE (show vs.size-1-ws.length=0 by lia) ?_
   simp⟩
end
section
variable {x:Addr} {l:List V} {a:V}
theorem CellAt.tup {h:Heap} (c:CellAt K h x (.tup l)):∃ vs n,h.get? x=some { cls:=.type "tuple",data:=.seq vs n }/\AllAt l vs.toList:=c
theorem any_int {ls:List Int} {i:Int}:∀ {vs:List Value},AllAt (ls.map V.int) vs->vs.any (fun | .int y _=>y==i | _=>false)=ls.any (·==i):=by
 induction ls with
 | nil=>intro vs h;match vs,h with | [],_=>rfl
 | cons a r ih=>intro vs h;match vs,h with
  | v::vs,h=>
   refine ea0_2 h fun z1 h2=>?_;clear h;refine ea1_1 z1 fun t z2=>?_;clear z1;subst z2
   exact qE List.any_cons (qE List.any_cons (qE (ih h2) rfl))
theorem any_str {ls:List Str} {i:Str}:∀ {vs:List Value},AllAt (ls.map V.str) vs->vs.any (fun | .str y _=>y==i | _=>false)=ls.any (·==i):=by
 induction ls with
 | nil=>intro vs h;match vs,h with | [],_=>rfl
 | cons a r ih=>intro vs h;match vs,h with
  | v::vs,h=>
   refine ea0_2 h fun z1 h2=>?_;clear h;refine ea1_1 z1 fun t z2=>?_;clear z1;subst z2
   exact qE List.any_cons (qE List.any_cons (qE (ih h2) rfl))
theorem mem_int {ls:List Int}:∀ {vs:List Value},AllAt (ls.map V.int) vs->∀ v∈vs,∃ y t,v=.int y t:=by
 induction ls with
 | nil=>intro vs h;match vs,h with | [],_=>intro v hv;cases hv
 | cons a r ih=>intro vs h;match vs,h with
  | v::vs,h=>
   intro w hw
   rcases List.mem_cons.mp hw with rfl | hw
   · refine ea1_1 h.1 fun t z1=>?_;subst z1;exact ⟨_,_,rfl⟩
   · exact ih h.2 w hw
theorem mem_str {ls:List Str}:∀ {vs:List Value},AllAt (ls.map V.str) vs->∀ v∈vs,∃ y t,v=.str y t:=by
 induction ls with
 | nil=>intro vs h;match vs,h with | [],_=>intro v hv;cases hv
 | cons a r ih=>intro vs h;match vs,h with
  | v::vs,h=>
   intro w hw
   rcases List.mem_cons.mp hw with rfl | hw
   · refine ea1_1 h.1 fun t z1=>?_;subst z1;exact ⟨_,_,rfl⟩
   · exact ih h.2 w hw
theorem inTupI {ls:List Int} {i:Int} (hx:Has K σ x (.tup (ls.map V.int))) (q:k (.bool (ls.any (·==i))) σ):CmpW K D .In (.int i) (.ref x) k σ:=⟨fun {A E L m fs h t vs Q} hr st av qq=>by
 refine ea2_3 (at2 av) fun v w z1 z2 hw=>?_;subst z1;refine ea1_1 z2 fun u z3=>?_;clear z2;subst z3
 cases hw
 refine ea2_2 ((hx.at st).tup) fun vs n e r=>SeqAt.in_tupleAt (fun | .int y _=>y==i | _=>false) ⟨_,e,rfl,n,rfl⟩ (fun y hy=>?_) (qq _ _ _ _ _ ?_ q st)
 · refine ea2_1 (mem_int r y (by simpa using hy)) fun z t' z1=>?_;subst z1
   exact (MeetsSeq.EqGives.int _ _ _ _).at _ _
 · refine qB Array.any_toList (qE (any_int r) ?_);exact atBool _⟩
theorem inTupS {ls:List Str} {i:Str} (hx:Has K σ x (.tup (ls.map V.str))) (q:k (.bool (ls.any (·==i))) σ):CmpW K D .In (.str i) (.ref x) k σ:=⟨fun {A E L m fs h t vs Q} hr st av qq=>by
 refine ea2_3 (at2 av) fun v w z1 z2 hw=>?_;subst z1;refine ea1_1 z2 fun u z3=>?_;clear z2;subst z3
 cases hw
 refine ea2_2 ((hx.at st).tup) fun vs n e r=>SeqAt.in_tupleAt (fun | .str y _=>y==i | _=>false) ⟨_,e,rfl,n,rfl⟩ (fun y hy=>?_) (qq _ _ _ _ _ ?_ q st)
 · refine ea2_1 (mem_str r y (by simpa using hy)) fun z t' z1=>?_;subst z1
   exact (eqGives_str _ _ _ _).at _ _
 · refine qB Array.any_toList (qE (any_str r) ?_);exact atBool _⟩
theorem notPyT (hx:Has K σ x (.tup l)):NotPy K σ (.ref x):=fun {A E L m fs h t v Q} st av q=>by
 cases av
 refine ea2_2 ((hx.at st).tup) fun vs n e r=>?_
 unfold getitemInPython
 exact wpAny_bind (wpAny_specialOf (T:="tuple") ⟨_,e,rfl⟩ PySem.F.slot_tuple_getitem.lookup (wpAny_pure q))
theorem itemT {i:Nat} (hx:Has K σ x (.tup l)) (hi:l[i]?=some a) (hl:i<5000) (q:k a σ):ItemW K D (.ref x) (.int i) k σ:=⟨fun {A E L m fs h t vs Q} hr st av qq=>by
 refine ea2_3 (at2 av) fun v w z1 hv z2=>?_;subst z1;refine ea1_1 z2 fun u z3=>?_;clear z2;subst z3
 cases hv
 refine ea2_2 ((hx.at st).tup) fun vs n e r=>ea1_2 (r.get hi) fun y hy ya=>?_
 have hy':vs[i]?=some y:=by simpa using hy
 have hlt:i<vs.size:=by rw [Array.getElem?_eq_some_iff] at hy';exact hy'.1
 exact P.getItem_tuple e (by lia) (by lia) (k:=i) (by refine qE (seqIndex_of (by lia) (by lia)) ?_;simp) hy' (qq _ _ _ _ _ ya q st)⟩
noncomputable def kget {κ:Type} [DecidableEq κ] (m:List (κ×V)) (x:κ):Option V:=(m.find? fun p=>p.1=x).map (·.2)
theorem kv_get {κ:Type} [DecidableEq κ] {m:List (κ×V)}:∀ {kvs:List (κ×Value)},KVAt m kvs->∀ x,OptAt (kget m x) (valueAt kvs x):=by
 induction m with
 | nil=>intro kvs h x;induction kvs using List.casesOn with
  | nil=>exact trivial
  | cons _ _=>exact h.elim
 | cons p r ih=>intro kvs h x;induction kvs using List.casesOn with
  | nil=>exact h.elim
  | cons q kvs=>
   obtain ⟨p1,p2⟩:=p
   obtain ⟨q1,q2⟩:=q
   have e:p1=q1:=h.1
   subst e
   unfold kget valueAt
   refine qE List.find?_cons (qE List.find?_cons ?_)
   by_cases hx:p1=x
   · simp only [hx,decide_true];exact h.2.1
   · simp only [hx,decide_false];exact ih h.2.2 x
theorem optAt_isSome {a:Option V} {v:Option Value} (h:OptAt a v):v.isSome=a.isSome:=by cases a <;> cases v <;> first | rfl | exact h.elim
theorem ne_sys (st:St K σ L m fs h) (hx:σ.M x≠none\/σ.F x≠none\/(∃ o,K.h0.get? x=some o/\x≠sysModules)):(x==sysModules)=false:=by
 rw [beq_eq_false_iff_ne]
 rintro rfl
 refine ea4_1 K.gl.boot fun h0 mb0 mg0 c0 y33=>?_;refine ea1_2 y33 fun P0 B kb=>?_;clear y33
 refine ea1_2 B.noPylong fun mm z1 ξ=>?_;refine ea3_2 z1 fun o es ep e ξ=>?_;clear z1
 have hb:=st.base _ _ (kb _ _ e (by decide) (by decide))
 rcases hx with h1 | h1 | ⟨_,_,h1⟩
 · exact h1 hb.2.1
 · exact h1 hb.2.2
 · exact h1 rfl
noncomputable def Own (K:Kc) (σ:Sg) (x:Addr):Prop:=σ.M x≠none\/σ.F x≠none\/(∃ o,K.h0.get? x=some o/\x≠sysModules)
theorem inD {m:Loc} {s:Str} (hx:Has K σ x (.dict m)) (ho:Own K σ x) (q:k (.bool (kget m s).isSome) σ):CmpW K D .In (.str s) (.ref x) k σ:=⟨fun {A E L mm fs h t vs Q} hr st av qq=>by
 refine ea2_3 (at2 av) fun v w z1 z2 hw=>?_;subst z1;refine ea1_1 z2 fun u z3=>?_;clear z2;subst z3
 cases hw
 refine ea1_2 (hx.at st) fun kvs hd hk=>wpAny_in_of (knd:=PySem.strKind prg K.w) (k:=s) (by show Value.isStrOf s (.str s u)=true;simp [Value.isStrOf]) (ne_sys st ho) hd.mapOf (qq _ _ _ _ _ ?_ q st)
 refine qE (optAt_isSome (kv_get hk s)) ?_;exact atBool _⟩
theorem itemD {m:Loc} {s:Str} (hx:Has K σ x (.dict m)) (hg:kget m s=some a) (q:k a σ):ItemW K D (.ref x) (.str s) k σ:=⟨fun {A E L mm fs h t vs Q} hr st av qq=>by
 refine ea2_3 (at2 av) fun v w z1 hv z2=>?_;subst z1;refine ea1_1 z2 fun u z3=>?_;clear z2;subst z3
 cases hv
 refine ea1_2 (hx.at st) fun kvs hd hk=>?_
 have:=kv_get hk s
 replace this:=hg▸this
 refine ea1_2 this.some fun v hv va=>?_
 exact wpAny_getItem_of (knd:=PySem.strKind prg K.w) (k:=s) (by show Value.isStrOf s (.str s u)=true;simp [Value.isStrOf]) hd.mapOf hv (qq _ _ _ _ _ va q st)⟩
theorem notPyD {m:Loc} (hx:Has K σ x (.dict m)):NotPy K σ (.ref x):=fun {A E L mm fs h t v Q} st av q=>by
 cases av
 refine ea1_2 (hx.at st) fun kvs hd hk=>?_
 unfold getitemInPython
 exact wpAny_bind (wpAny_specialOf (T:="dict") hd.typeIs slot_dict_getitem.lookup (wpAny_pure q))
theorem inDI {m:List (Int×V)} {s:Int} (hx:Has K σ x (.idict m)) (ho:Own K σ x) (q:k (.bool (kget m s).isSome) σ):CmpW K D .In (.int s) (.ref x) k σ:=⟨fun {A E L mm fs h t vs Q} hr st av qq=>by
 refine ea2_3 (at2 av) fun v w z1 z2 hw=>?_;subst z1;refine ea1_1 z2 fun u z3=>?_;clear z2;subst z3
 cases hw
 refine ea1_2 (hx.at st) fun kvs hd hk=>wpAny_in_of (knd:=intKind prg K.w) (k:=s) (by show Value.isInt s (.int s u)=true;simp [Value.isInt]) (ne_sys st ho) hd.mapOf (qq _ _ _ _ _ ?_ q st)
 refine qE (optAt_isSome (kv_get hk s)) ?_;exact atBool _⟩
theorem itemDI {m:List (Int×V)} {s:Int} (hx:Has K σ x (.idict m)) (hg:kget m s=some a) (q:k a σ):ItemW K D (.ref x) (.int s) k σ:=⟨fun {A E L mm fs h t vs Q} hr st av qq=>by
 refine ea2_3 (at2 av) fun v w z1 hv z2=>?_;subst z1;refine ea1_1 z2 fun u z3=>?_;clear z2;subst z3
 cases hv
 refine ea1_2 (hx.at st) fun kvs hd hk=>?_
 have:=kv_get hk s
 replace this:=hg▸this
 refine ea1_2 this.some fun v hv va=>?_
 exact wpAny_getItem_of (knd:=intKind prg K.w) (k:=s) (by show Value.isInt s (.int s u)=true;simp [Value.isInt]) hd.mapOf hv (qq _ _ _ _ _ va q st)⟩
theorem notPyDI {m:List (Int×V)} (hx:Has K σ x (.idict m)):NotPy K σ (.ref x):=fun {A E L mm fs h t v Q} st av q=>by
 cases av
 refine ea1_2 (hx.at st) fun kvs hd hk=>?_
 unfold getitemInPython
 exact wpAny_bind (wpAny_specialOf (T:="dict") hd.typeIs slot_dict_getitem.lookup (wpAny_pure q))
end
section
variable {x:Addr} {l:List V} {a:V}
noncomputable def Gh (σ σ':Sg):Prop:=∀ K L m fs h,St K σ L m fs h->St K σ' L m fs h
theorem Wp.post {α β:Type} {R:β->α->Prop} {K:Kc} {D:Nat} {x:List Value->Sem α} {as:List V} {k:β->Sg->Prop} {σ:Sg} (w:Wp R K D x as (fun c σ1=>∃ σ2,Gh σ1 σ2/\k c σ2) σ):Wp R K D x as k σ:=
 ⟨fun hr st av q=>w.ok hr st av fun c u σ' h' t' r x s=>by refine ea1_2 x fun σ2 g kx=>?_;clear x;exact q _ _ _ _ _ r kx (g _ _ _ _ _ s)⟩
theorem Gh.trans {σ1 σ2 σ3:Sg} (a:Gh σ1 σ2) (b:Gh σ2 σ3):Gh σ1 σ3:=fun ξ ξ ξ ξ ξ s=>b _ _ _ _ _ (a _ _ _ _ _ s)
theorem Gh.ice {a:Addr} {c:Cell} (hc:σ.M a=some c):Gh σ (σ.ice a c):=fun ξ ξ ξ ξ ξ s=>s.ice hc
theorem niD {m:Loc} {s:Str} (hx:Has K σ x (.dict m)) (ho:Own K σ x) (q:k (.bool (!(kget m s).isSome)) σ):CmpW K D .NotIn (.str s) (.ref x) k σ:=⟨fun {A E L mm fs h t vs Q} hr st av qq=>by
 refine ea2_3 (at2 av) fun v w z1 z2 hw=>?_;subst z1;refine ea1_1 z2 fun u z3=>?_;clear z2;subst z3
 cases hw
 refine ea1_2 (hx.at st) fun kvs hd hk=>wpAny_notIn_of (knd:=PySem.strKind prg K.w) (k:=s) (by show Value.isStrOf s (.str s u)=true;simp [Value.isStrOf]) (ne_sys st ho) hd.mapOf (qq _ _ _ _ _ ?_ q st)
 refine qE (optAt_isSome (kv_get hk s)) ?_;exact atBool _⟩
theorem niDI {m:List (Int×V)} {s:Int} (hx:Has K σ x (.idict m)) (ho:Own K σ x) (q:k (.bool (!(kget m s).isSome)) σ):CmpW K D .NotIn (.int s) (.ref x) k σ:=⟨fun {A E L mm fs h t vs Q} hr st av qq=>by
 refine ea2_3 (at2 av) fun v w z1 z2 hw=>?_;subst z1;refine ea1_1 z2 fun u z3=>?_;clear z2;subst z3
 cases hw
 refine ea1_2 (hx.at st) fun kvs hd hk=>wpAny_notIn_of (knd:=intKind prg K.w) (k:=s) (by show Value.isInt s (.int s u)=true;simp [Value.isInt]) (ne_sys st ho) hd.mapOf (qq _ _ _ _ _ ?_ q st)
 refine qE (optAt_isSome (kv_get hk s)) ?_;exact atBool _⟩
noncomputable def kset {κ:Type} [DecidableEq κ] (m:List (κ×V)) (s:κ) (a:V):List (κ×V):=if m.any (fun kv=>kv.1=s) then m.map (fun kv=>if kv.1=s then (kv.1,a) else kv) else m++[(s,a)]
theorem kv_any {κ:Type} [DecidableEq κ] {m:List (κ×V)} {s:κ}:∀ {kvs:List (κ×Value)},KVAt m kvs->kvs.any (fun kv=>kv.1=s)=m.any (fun kv=>kv.1=s):=by
 induction m with
 | nil=>intro kvs h;match kvs,h with | [],_=>rfl
 | cons p r ih=>intro kvs h;match kvs,h with
  | q::kvs,h=>exact qE List.any_cons (qE List.any_cons (qE (ih h.2.2) (qE h.1 rfl)))
theorem kv_set {κ:Type} [DecidableEq κ] {m:List (κ×V)} {s:κ} {a:V} {v:Value} (ha:a.At v) {kvs:List (κ×Value)} (h:KVAt m kvs):KVAt (kset m s a) (stored kvs s v):=by
 have up:∀ {m:List (κ×V)} {kvs:List (κ×Value)},KVAt m kvs->KVAt (m.map (fun kv=>if kv.1=s then (kv.1,a) else kv)) (kvs.map (fun kv=>if kv.1=s then (kv.1,v) else kv)):=by
  intro m
  induction m with
  | nil=>intro kvs h;match kvs,h with | [],_=>exact trivial
  | cons p r ih=>intro kvs h;match kvs,h with
   | q::kvs,h=>
    refine qE List.map_cons (qE List.map_cons ?_)
    refine ⟨?_,?_,ih h.2.2⟩
    · refine qE h.1 ?_;split <;> first | rfl | exact h.1
    · refine qE h.1 ?_;split
      · exact ha
      · exact h.2.1
 have app:∀ {m:List (κ×V)} {kvs:List (κ×Value)},KVAt m kvs->KVAt (m++[(s,a)]) (kvs++[(s,v)]):=by
  intro m
  induction m with
  | nil=>intro kvs h;match kvs,h with | [],_=>exact ⟨rfl,ha,trivial⟩
  | cons p r ih=>intro kvs h;match kvs,h with
   | q::kvs,h=>exact ⟨h.1,h.2.1,ih h.2.2⟩
 unfold kset stored
 refine qE (kv_any h) ?_
 split
 · exact up h
 · exact app h
theorem KVAt.len {κ:Type} {m:List (κ×V)}:∀ {kvs:List (κ×Value)},KVAt m kvs->kvs.length=m.length:=by
 induction m with
 | nil=>intro kvs h;match kvs,h with | [],_=>rfl
 | cons p r ih=>intro kvs h;match kvs,h with
  | q::kvs,h=>exact qE List.length_cons (qE List.length_cons (qE (ih h.2.2) rfl))
variable {ku:Sg->Prop}
theorem setD {m:Loc} {s:Str} (hx:σ.M x=some (.dict m)) (hl:m.length<=1000) (q:ku (σ.set x (.dict (kset m s a)))):SetIW K D (.ref x) (.str s) a ku σ:=⟨fun {A E L mm fs h t vs Q} hr st av qq=>by
 refine ea3_4 (at3 av) fun v w u z1 hv z2 hu=>?_;subst z1;refine ea1_1 z2 fun t' z3=>?_;clear z2;subst z3
 cases hv
 refine ea1_2 (st.cell _ _ hx) fun kvs hd hk=>wpAny_setItem_pairs (knd:=PySem.strKind prg K.w) (k:=s) (by show Value.isStrOf s (.str s t')=true;simp [Value.isStrOf]) hd (fun h' d' sb=>?_) (by refine qE hk.len (qE sizeLine_eq ?_);lia)
 exact qq () () _ _ _ trivial q (st.set hx (fun b o hb eb=>(sb.2 _ hb).trans eb) ⟨_,d',kv_set hu hk⟩)⟩
theorem setDI {m:List (Int×V)} {s:Int} (hx:σ.M x=some (.idict m)) (hl:m.length<=1000) (q:ku (σ.set x (.idict (kset m s a)))):SetIW K D (.ref x) (.int s) a ku σ:=⟨fun {A E L mm fs h t vs Q} hr st av qq=>by
 refine ea3_4 (at3 av) fun v w u z1 hv z2 hu=>?_;subst z1;refine ea1_1 z2 fun t' z3=>?_;clear z2;subst z3
 cases hv
 refine ea1_2 (st.cell _ _ hx) fun kvs hd hk=>wpAny_setItem_pairs (knd:=intKind prg K.w) (k:=s) (by show Value.isInt s (.int s t')=true;simp [Value.isInt]) hd (fun h' d' sb=>?_) (by refine qE hk.len (qE sizeLine_eq ?_);lia)
 exact qq () () _ _ _ trivial q (st.set hx (fun b o hb eb=>(sb.2 _ hb).trans eb) ⟨_,d',kv_set hu hk⟩)⟩
theorem getMethod_dict {M:Model} {A:Around} {E:VP} {s:Shared} {l:Addr} {o:Obj} {pl:Sem Bool} {name:Str} {id:String} {Q:Value×List Value->Shared->Prop} (ho:s.heap.get? l=some o) (hc:o.ExactDict)
 (hs:typeLookup (.type "dict") name=pure (some (.builtin id))) (ht:typeOf (.builtin id)=pure (.type "method_descriptor")) (h:Q (.builtin id,[.ref l]) s):wpAny M A (getMethod (.ref l) name pl) Q E s:=by
 have hT:s.TypeIs (.ref l) "dict":=⟨o,ho,hc.1⟩
 unfold getMethod
 refine wpAny_bind (wpAny_specialOf hT PySem.F.slot_dict_getattribute.lookup ?_)
 refine wpAny_bind (wpAny_specialOf hT (by kernel_rfl:typeLookup (.type "dict") "__getattr__"=pure none) ?_)
 refine wpAny_bind (wpAny_specialOf hT hs ?_)
 refine wpAny_bind (wpAny_of_eq ht ?_)
 refine wpAny_bind (wpAny_load ho ?_)
 exact qE hc.2.1 (wpAny_bind (wpAny_rule (wpAny_pure h)))
theorem mGetD {m:Loc} (hx:Has K σ x (.dict m)):MethIs K σ (.ref x) "get" (.builtin "dict.get")/\FV K (.builtin "dict.get"):=by
 refine ⟨fun {A E L mm fs h t v pl Q} st av q=>?_,.inr (.inr (.inl ⟨_,rfl⟩))⟩
 cases av
 refine ea1_2 (hx.at st) fun kvs z1 hk=>?_;refine ea3_3 z1 fun o es ep e hc r=>?_;clear z1
 exact getMethod_dict e hc PySem.F.slot_dict_get.lookup PySem.F.type_dict_get (q t)
theorem cGetD {m:Loc} {s:Str} {dflt:V} (hx:Has K σ x (.dict m)) (ho:Own K σ x) (q:k ((kget m s).getD dflt) σ):CallV K D (.builtin "dict.get") [.ref x,.str s,dflt] k σ:=⟨fun {A E L mm fs h t vs Q} hr st av qq=>by
 refine ea3_4 (at3 av) fun v w u z1 hv z2 hu=>?_;subst z1;refine ea1_1 z2 fun t' z3=>?_;clear z2;subst z3
 cases hv
 refine ea1_2 (hx.at st) fun kvs hd hk=>?_
 have hg:=kv_get hk s
 refine call_meetsIn PySem.F.slot_dict_get hd.typeIs PySem.F.entry_dict_get (PySem.F.args_dict_get_3 _ _ _) (meets_dict_get_default (PySem.strKind prg K.w) x (k:=s) (by show Value.isStrOf s (.str s t')=true;simp [Value.isStrOf]) (ne_sys st ho) u) ⟨_,hd.mapOf,?_⟩
 refine qq _ _ _ _ _ ?_ q st
 induction e1:kget m s with
 | none=>induction e2:valueAt kvs s with
  | none=>exact hu
  | some v=>rw [e1,e2] at hg;exact hg.elim
 | some b=>induction e2:valueAt kvs s with
  | none=>replace hg:=e2▸e1▸hg;exact hg.elim
  | some v=>rw [e1,e2] at hg;exact hg⟩
theorem lastL (hx:Has K σ x (.list (l++[a]))) (hl:l.length<=5000) (q:k a σ):ItemW K D (.ref x) (.int (-1)) k σ:=⟨fun {A E L m fs h t vs Q} hr st av qq=>by
 refine ea2_3 (at2 av) fun v w z1 hv z2=>?_;subst z1;refine ea1_1 z2 fun u z3=>?_;clear z2;subst z3
 cases hv
 refine ea2_2 (hx.at st) fun vs n e r=>ea2_3 (seq_last r) fun ws y hw h1 h2=>?_
 have hlen:=h1.len
 have hsz:vs.size=ws.length+1:=by refine qB Array.length_toList (qE hw ?_);simp
 refine wpAny_getItem_list_neg ⟨_,e,rfl,n,rfl⟩ (by lia) (by lia) (by lia) ?_ (qq _ _ _ _ _ h2 q st)
 refine qB Array.getElem?_toList (qE hw (qE hsz (qE (show ((-1:Int)+((ws.length+1:Nat):Int)).toNat=ws.length by lia) ?_)))
 simp⟩
theorem addS {s u:Str} (hl:s.length+u.length<=5000) (q:k (.str (s++u)) σ):BinW K D .Add (.str s) (.str u) k σ:=⟨fun {A E L m fs h t vs Q} hr st av qq=>by
 refine ea2_3 (at2 av) fun v w z1 z2 z4=>?_;subst z1;refine ea1_1 z2 fun t1 z3=>?_;clear z2;subst z3;refine ea1_1 z4 fun t2 z5=>?_;clear z4;subst z5
 exact PyProof.Rows.add_str (fun t' tk=>qq _ _ _ _ _ (atStr _ _) q st) (by refine qE sizeLine_eq ?_;lia)⟩
theorem tupOf (hx:Has K σ x (.list l)) (hl:l.length<=5000) (q:∀ y,Fresh σ y->k (.ref y) (σ.fz y (.tup l))):CallV K D (.type "tuple") [.ref x] k σ:=⟨fun {A E L m fs h t vs Q} hr st av qq=>by
 refine ea1_2 (at1 av) fun v z1 hv=>?_;subst z1
 cases hv
 refine ea2_2 (hx.at st) fun vs n e r=>?_
 have hlen:vs.size=l.length:=by have:=r.len;simpa using this
 refine call_tuple_list ⟨_,e,rfl,n,rfl⟩ (fun h' kh=>?_) (by refine qE hlen (qE sizeLine_eq ?_);lia)
 have st1:=st.keeps kh
 have ny:=Heap.get?_none_of_le (h:=h') (Nat.le_refl _)
 have fr:=st1.fresh ny
 exact qq _ _ _ _ _ (atRef _) (q _ ⟨fr.1,fr.2.1⟩) (st1.newF ny (fun b o e=>Heap.get?_push_of_some _ e) ⟨vs,0,Heap.get?_push_size _ rfl,r⟩)⟩
theorem unpT {ku:List V->Sg->Prop} {n:Nat} (hx:Has K σ x (.tup l)) (hl:l.length=n) (q:ku l σ):UnpW K D n (.ref x) ku σ:=⟨fun {A E L m fs h t vs Q} hr st av qq=>by
 refine ea1_2 (at1 av) fun v z1 hv=>?_;subst z1
 cases hv
 refine ea2_2 ((hx.at st).tup) fun vs n' e r=>?_
 have hlen:vs.size=n:=by have:=r.len;simp at this;lia
 subst hlen
 show wpAny (model prg K.w) A (unpackItems (.ref x) vs.size none) Q E _
 refine wpAny_unpackItems_tuple hr.2.2 ⟨_,e,rfl,n',rfl⟩ fun h' hk=>?_
 exact qq _ _ _ _ _ r q (st.keeps fun b o eb=>hk b o (by rintro rfl;exact absurd (Heap.lt_size eb) (Nat.lt_irrefl _)) eb)⟩
theorem rangeW {n:Nat} (q:∀ y,Fresh σ y->k (.ref y) (σ.fz y (.range n))):CallV K D (.type "range") [.int n] k σ:=⟨fun {A E L m fs h t vs Q} hr st av qq=>by
 refine ea1_2 (at1 av) fun v z1 z2=>?_;subst z1;refine ea1_1 z2 fun u z3=>?_;clear z2;subst z3
 refine call_range_1 ?_
 have ny:=Heap.get?_none_of_le (h:=h) (Nat.le_refl _)
 have fr:=st.fresh ny
 exact qq _ _ _ _ _ (atRef _) (q _ ⟨fr.1,fr.2.1⟩) (st.newF ny (fun b o e=>Heap.get?_push_of_some _ e) ⟨_,_,_,IsRange.new _ _ _ _ _ _ _⟩)⟩
theorem strW {i:Int} (hi:0<=i) (hj:i<1000000) (q:k (.str (toString i:Str)) σ):CallV K D (.type "str") [.int i] k σ:=⟨fun {A E L m fs h t vs Q} hr st av qq=>by
 refine ea1_2 (at1 av) fun v z1 z2=>?_;subst z1;refine ea1_1 z2 fun u z3=>?_;clear z2;subst z3
 exact str_of_int_fit (N:=1000000) (by split <;> lia) (by lia) fun ξ=>qq _ _ _ _ _ (atStr _ _) q st⟩
theorem gis_b {x:Str} {v:Value} (h:x∈offN) (hs:startupNames.any (fun y=>y==x)=false) (hn:x≠"__name__") (hb:bootBuiltins x=some v):GIs K x v:=by
 refine .inr ⟨?_,(K.gl.bm x hn).trans hb⟩
 induction e:K.mg x with
 | none=>rfl
 | some v=>
  rcases K.gl.names x v e with h1 | h1
  · exact absurd (List.any_eq_false.mp hs x h1) (by simp)
  · exact absurd h1 (off_use h)
theorem g_len:GIs K "len" (.builtin "len")/\FV K (.builtin "len"):=⟨gis_b (by decide) (by decide +kernel) (by decide) (by kernel_rfl),.inr (.inr (.inl ⟨_,rfl⟩))⟩
theorem g_tuple:GIs K "tuple" (.type "tuple")/\FV K (.type "tuple"):=⟨gis_b (by decide) (by decide +kernel) (by decide) (by kernel_rfl),.inr (.inr (.inr ⟨_,rfl⟩))⟩
theorem g_range:GIs K "range" (.type "range")/\FV K (.type "range"):=⟨gis_b (by decide) (by decide +kernel) (by decide) (by kernel_rfl),.inr (.inr (.inr ⟨_,rfl⟩))⟩
theorem g_str:GIs K "str" (.type "str")/\FV K (.type "str"):=⟨gis_b (by decide) (by decide +kernel) (by decide) (by kernel_rfl),.inr (.inr (.inr ⟨_,rfl⟩))⟩
theorem above {a:Addr} (h:K.lo<=a):a≠sysModules:=Nat.ne_of_gt (Nat.lt_of_lt_of_le K.gl.lob h)
theorem kv_of {β:Type} {f:β->DV} {g:β->Value->V->Prop}:∀ {l:List (Str×β)} {kvs:List (Str×Value)},kvs.map (·.1)=l.map (·.1)->(kvs.map (·.1)).Nodup->(∀ p∈l,∃ v,(p.1,v)∈kvs/\∃ a,g p.2 v a/\a.At v) →
 ∃ m:Loc,KVAt m kvs/\m.map (·.1)=l.map (·.1)/\∀ p∈l,∃ v a,(p.1,a)∈m/\g p.2 v a:=by
 intro l
 induction l with
 | nil=>intro kvs h ξ ξ;induction kvs using List.casesOn with
  | nil=>exact ⟨[],trivial,rfl,fun ξ h=>nomatch h⟩
  | cons _ _=>injection h
 | cons p r ih=>intro kvs h nd hm;induction kvs using List.casesOn with
  | nil=>injection h
  | cons q kvs=>
   rw [List.map_cons,List.map_cons,List.cons.injEq] at h
   rw [List.map_cons,List.nodup_cons] at nd
   refine ea1_2 (hm p (List.mem_cons_self ..)) fun v hv z1=>?_;refine ea1_2 z1 fun a ga av=>?_;clear z1
   have ev:q.2=v:=by
    rcases List.mem_cons.mp hv with e | e
    · exact qB e rfl
    · exact absurd (h.1▸List.mem_map.mpr ⟨_,e,rfl⟩) nd.1
   have nr:∀ p'∈r,p'.1≠q.1:=fun p' hp' e=>nd.1 (by refine qE h.2 (qB e ?_);exact List.mem_map.mpr ⟨p',hp',rfl⟩)
   obtain ⟨m,k1,k2,k3⟩:=ih h.2 nd.2 fun p' hp'=>by
    refine ea1_2 (hm p' (List.mem_cons_of_mem _ hp')) fun v' hv' r'=>?_
    rcases List.mem_cons.mp hv' with e | e
    · exact absurd (congrArg Prod.fst e) (nr p' hp')
    · exact ⟨v',e,r'⟩
   refine ⟨(p.1,a)::m,⟨h.1.symm,ev▸av,k1⟩,by exact qE List.map_cons (qE List.map_cons (qE k2 rfl)),fun p' hp'=>?_⟩
   rcases List.mem_cons.mp hp' with rfl | hp'
   · exact ⟨v,a,List.mem_cons_self ..,ga⟩
   · refine ea2_2 (k3 p' hp') fun v' a' h1 h2=>?_;exact ⟨v',a',List.mem_cons_of_mem _ h1,h2⟩
theorem map_int:∀ {m:Loc} {l:List (Str×Int)},(l.map (·.1)).Nodup->m.map (·.1)=l.map (·.1)->(∀ p∈l,∃ (v:Value) (a:V),(p.1,a)∈m/\a=.int p.2)->m=l.map fun p=>(p.1,.int p.2):=by
 intro m
 induction m with
 | nil=>intro l ξ h ξ;induction l using List.casesOn with
  | nil=>rfl
  | cons _ _=>injection h
 | cons q m ih=>intro l nd h hm;induction l using List.casesOn with
  | nil=>injection h
  | cons p r=>
   rw [List.map_cons,List.map_cons,List.cons.injEq] at h
   rw [List.map_cons,List.nodup_cons] at nd
   have nm:∀ a,(p.1,a) ∉ m:=fun a hx=>nd.1 (by refine qB h.2 ?_;exact List.mem_map.mpr ⟨_,hx,rfl⟩)
   rw [List.map_cons,ih nd.2 h.2 fun p' hp'=>by
    refine ea2_2 (hm p' (List.mem_cons_of_mem _ hp')) fun v a h1 h2=>?_
    rcases List.mem_cons.mp h1 with e | e
    · exact absurd (List.mem_map.mpr ⟨p',hp',by exact qE (show p'.1=q.1 from congrArg Prod.fst e) (qE h.1 rfl)⟩) nd.1
    · exact ⟨v,a,e,h2⟩]
   refine ea2_2 (hm p (List.mem_cons_self ..)) fun v a h1 h2=>?_
   rcases List.mem_cons.mp h1 with e | e
   · exact qB e (qE h2 rfl)
   · exact absurd e (nm _)
theorem gdI {x:Str} {l:List (Str×Int)} (h:isDI tsEnd.gs x l=true) (nd:(l.map (·.1)).Nodup):∃ a,K.mg x=some (.ref a)/\CellAt K K.h0 a (.dict (l.map fun p=>(p.1,.int p.2)))/\∀ σ,Own K σ a:=by
 refine ea2_5 (K.gl.G _ (isDI.use h)) fun a kvs h1 h2 h3 h4 h5=>?_
 replace h4:=List.map_map▸h4
 have ndk:(kvs.map (·.1)).Nodup:=by refine ea3_6 h3 fun o es ep ξ ξ ξ ξ ξ n=>?_;clear h3;exact n
 obtain ⟨m,k1,k2,k3⟩:=kv_of (l:=l) (f:=fun i=>DV.lit (.int i)) (g:=fun i v a=>a=.int i) h4 ndk fun p hp=>by
  exact ea1_2 (h5 _ (List.mem_map.mpr ⟨p,hp,rfl⟩)) fun v hv hd=>⟨v,hv,.int p.2,rfl,hd⟩
 have:=map_int nd k2 k3
 subst this
 obtain ⟨o,ho⟩:∃ o,K.h0.get? a=some o:=by refine ea3_2 h3 fun o es ep e ξ=>?_;clear h3;exact ⟨o,e⟩
 exact ⟨a,h1,⟨kvs,h3,k1⟩,fun σ=>.inr (.inr ⟨o,ho,above h2⟩)⟩
theorem gdT {x:Str} {l:List (Str×List Str)} (h:isDT tsEnd.gs x l=true):∃ (a:Addr) (m:Loc),K.mg x=some (.ref a)/\CellAt K K.h0 a (.dict m)/\(∀ σ,Own K σ a)/\m.map (·.1)=l.map (·.1)/\∀ p∈l,∃ b,(p.1,V.ref b)∈m/\CellAt K K.h0 b (.tup (p.2.map .str)):=by
 refine ea2_5 (K.gl.G _ (isDT.use h)) fun a kvs h1 h2 h3 h4 h5=>?_
 replace h4:=List.map_map▸h4
 have ndk:(kvs.map (·.1)).Nodup:=by refine ea3_6 h3 fun o es ep ξ ξ ξ ξ ξ n=>?_;clear h3;exact n
 have lits:∀ {l:List Str} {vs:List Value},LitsAt (l.map .str) vs->AllAt (l.map .str) vs:=by
  intro l
  induction l with
  | nil=>intro vs h;match vs,h with | [],_=>exact trivial
  | cons p r ih=>intro vs h;match vs,h with
   | v::vs,h=>exact ⟨h.1,ih h.2⟩
 obtain ⟨m,k1,k2,k3⟩:=kv_of (l:=l) (f:=fun t=>DV.tup t) (g:=fun t v a=>∃ b,a=.ref b/\CellAt K K.h0 b (.tup (t.map .str))) h4 ndk fun p hp=>by
  refine ea1_2 (h5 _ (List.mem_map.mpr ⟨p,hp,rfl⟩)) fun v hv hd=>?_
  refine ea2_4 hd fun b vs z1 hb e la=>?_;clear hd;subst z1
  exact ⟨_,hv,.ref b,⟨b,rfl,vs,0,e,lits la⟩,rfl⟩
 obtain ⟨o,ho⟩:∃ o,K.h0.get? a=some o:=by refine ea3_2 h3 fun o es ep e ξ=>?_;clear h3;exact ⟨o,e⟩
 refine ⟨a,m,h1,⟨kvs,h3,k1⟩,fun σ=>.inr (.inr ⟨o,ho,above h2⟩),k2,fun p hp=>?_⟩
 refine ea2_2 (k3 p hp) fun v a' hm z1=>?_;refine ea1_2 z1 fun b z2 hb=>?_;clear z1;subst z2
 exact ⟨b,hm,hb⟩
theorem gtTI {x:Str} {l:List Int} (h:isTI tsEnd.gs x l=true):∃ a,K.mg x=some (.ref a)/\CellAt K K.h0 a (.tup (l.map .int)):=by
 refine ea1_2 (K.gl.G _ (isTI.use h)) fun v h1 z1=>?_;refine ea2_4 z1 fun a vs z2 hb e la=>?_;clear z1;subst z2
 have lits:∀ {l:List Int} {vs:List Value},LitsAt (l.map .int) vs->AllAt (l.map .int) vs:=by
  intro l
  induction l with
  | nil=>intro vs h;match vs,h with | [],_=>exact trivial
  | cons p r ih=>intro vs h;match vs,h with
   | v::vs,h=>exact ⟨h.1,ih h.2⟩
 exact ⟨a,h1,vs,0,e,lits la⟩
theorem gtTS {x:Str} {l:List Str} (h:isTS tsEnd.gs x l=true):∃ a,K.mg x=some (.ref a)/\CellAt K K.h0 a (.tup (l.map .str)):=by
 refine ea1_2 (K.gl.G _ (isTS.use h)) fun v h1 z1=>?_;refine ea2_4 z1 fun a vs z2 hb e la=>?_;clear z1;subst z2
 have lits:∀ {l:List Str} {vs:List Value},LitsAt (l.map .str) vs->AllAt (l.map .str) vs:=by
  intro l
  induction l with
  | nil=>intro vs h;match vs,h with | [],_=>exact trivial
  | cons p r ih=>intro vs h;match vs,h with
   | v::vs,h=>exact ⟨h.1,ih h.2⟩
 exact ⟨a,h1,vs,0,e,lits la⟩
end
section
theorem dn {n m D:Nat} (h:m<=D) (e:autoParam (Nat.ble (n+1) m=true) tcR):n<=D-1:=Nat.le_sub_of_add_le (Nat.le_trans (Nat.le_of_ble_eq_true e) h)
theorem dl {n m D:Nat} (h:m<=D) (e:autoParam (Nat.ble n m=true) tcR):n<=D:=Nat.le_trans (Nat.le_of_ble_eq_true e) h
theorem fnV (i n:Nat) {D:Nat} {as:List V} {k:V->Sg->Prop} {σ:Sg} (hD:1<=D) (h:(fnOk i&&fOk (fPar (stAt i)) (fSc (stAt i)) n)=true) (hn:as.length=n)
 (x:vc (cx i K D) (fBody (stAt i)) (((fPar (stAt i)).args.map (·.arg)).zip as) σ (kRet k)):CallV K D (gv K (fName (stAt i))) as k σ:=
 (fn_vc i n h hn x).up (by lia)
noncomputable def m0:Meth:=⟨"",⟨[],[],none,[],[],none,[]⟩,[],prg.main.scope,⟨0,0,0,0⟩⟩
noncomputable def nthM:List Meth->Nat->Meth
 | m::_,0=>m
 | _::r,n+1=>nthM r n
 | [],_=>m0
theorem nthM_mem:∀ {l:List Meth} {i:Nat},i<l.length->nthM l i∈l
 | s::_,0,_=>List.mem_cons_self ..
 | _::r,n+1,h=>List.mem_cons_of_mem _ (nthM_mem (by simpa using h))
noncomputable def mt (i j:Nat):Meth:=nthM (cMs (stAt i)) j
noncomputable def cm (i j:Nat) (K:Kc) (D:Nat):Cx:=⟨K,D-1,(mt i j).sc,()⟩
noncomputable def MSpec (K:Kc) (i j:Nat) (f:Addr):Prop:=CLk K (fName (stAt i)) (mt i j).name (some (.ref f))/\FnAt K.h0 K.lo f (mt i j).name (fName (stAt i)++"."++(mt i j).name) (mt i j).params (mt i j).body (mt i j).sc
noncomputable def mAd (K:Kc) (i j:Nat):Addr:=Classical.epsilon (MSpec K i j)
noncomputable def mOk (i j:Nat):Bool:=clsOk i&&lnil (fBs (stAt i))&&decide (j<(cMs (stAt i)).length)&&offB (mt i j).name
noncomputable def mOk2 (i b j:Nat):Bool:=clsOk i&&clsOk b&&lnil (fBs (stAt b))&&tabC.any (fun p=>p.1==fName (stAt i)&&p.2==fName (stAt b))&&decide (j<(cMs (stAt i)).length)&&offB (mt i j).name
theorem m_at {i j:Nat} (h:mOk i j=true):MSpec K i j (mAd K i j):=by
 simp only [mOk,Bool.and_eq_true,decide_eq_true_eq] at h
 exact ea1_2 ((cl_obj (K:=K) i h.1.1.1 h.1.1.2).2.2 _ (nthM_mem h.1.2) (offB.use (k:=(mt i j).name) (by simpa only [offB,Bool.and_eq_true] using h.2))) fun f h1 h2=>Classical.epsilon_spec (p:=MSpec K i j) ⟨f,h1,h2⟩
theorem m_at2 {i b j:Nat} (h:mOk2 i b j=true):MSpec K i j (mAd K i j):=by
 simp only [mOk2,Bool.and_eq_true,decide_eq_true_eq] at h
 have ht:(fName (stAt i),fName (stAt b))∈tabC:=by
  refine ea1_2 (List.any_eq_true.mp h.1.1.2) fun p hp he=>?_
  rw [Bool.and_eq_true,beq_iff_eq,beq_iff_eq] at he
  refine qB he.1 (qB he.2 ?_);exact hp
 exact ea1_2 ((cl_sub (K:=K) i b h.1.1.1.1.1 h.1.1.1.1.2 h.1.1.1.2 ht).2.2 _ (nthM_mem h.1.2) (offB.use (k:=(mt i j).name) (by simpa only [offB,Bool.and_eq_true] using h.2))) fun f h1 h2=>Classical.epsilon_spec (p:=MSpec K i j) ⟨f,h1,h2⟩
theorem mV' {i j:Nat} (n:Nat) {D:Nat} {as:List V} {k:V->Sg->Prop} {σ:Sg} (M:MSpec K i j (mAd K i j)) (hD:1<=D) (h:fOk (mt i j).params (mt i j).sc n=true) (hn:as.length=n)
 (x:vc (cm i j K D) (mt i j).body (((mt i j).params.args.map (·.arg)).zip as) σ (kRet k)):CallV K D (.ref (mAd K i j)) as k σ:=
 (call_vc M.2 (hn▸h) x).up (by lia)
theorem mV (i j n:Nat) {D:Nat} {as:List V} {k:V->Sg->Prop} {σ:Sg} (hD:1<=D) (h:(mOk i j&&fOk (mt i j).params (mt i j).sc n)=true) (hn:as.length=n)
 (x:vc (cm i j K D) (mt i j).body (((mt i j).params.args.map (·.arg)).zip as) σ (kRet k)):CallV K D (.ref (mAd K i j)) as k σ:=by
 rw [Bool.and_eq_true] at h
 exact mV' n (m_at h.1) hD h.2 hn x
theorem mV2 (i b j n:Nat) {D:Nat} {as:List V} {k:V->Sg->Prop} {σ:Sg} (hD:1<=D) (h:(mOk2 i b j&&fOk (mt i j).params (mt i j).sc n)=true) (hn:as.length=n)
 (x:vc (cm i j K D) (mt i j).body (((mt i j).params.args.map (·.arg)).zip as) σ (kRet k)):CallV K D (.ref (mAd K i j)) as k σ:=by
 rw [Bool.and_eq_true] at h
 exact mV' n (m_at2 h.1) hD h.2 hn x
theorem mIs {i j:Nat} {attrs:List Str} (ct:CT K (fName (stAt i)) attrs) (M:MSpec K i j (mAd K i j)) {x d:Addr} {m:Loc} (hx:Has K σ x (.inst (fName (stAt i)) d)) (hd:Has K σ d (.ns m)) (hm:m.get (mt i j).name=none) :
 MethIs K σ (.ref x) (mt i j).name (.ref (mAd K i j))/\FV K (.ref (mAd K i j)):=methI ct hx hd hm M.1 M.2
structure Ex (X:Addr->Prop) (σ σ':Sg):Prop where
 f:∀ a c,σ.F a=some c->σ'.F a=some c
 m:∀ a c,σ.M a=some c->¬ X a->σ'.M a=some c
variable {X:Addr->Prop}
theorem Ex.refl:Ex X σ σ:=⟨fun ξ ξ e=>e,fun ξ ξ e ξ=>e⟩
theorem Ex.trans (a:Ex X σ σ') (b:Ex X σ' σ''):Ex X σ σ'':=⟨fun x c e=>b.f _ _ (a.f _ _ e),fun x c e n=>b.m _ _ (a.m _ _ e n) n⟩
theorem Ex.wide {Y:Addr->Prop} (a:Ex X σ σ') (h:∀ x,X x->Y x):Ex Y σ σ':=⟨a.f,fun x c e n=>a.m _ _ e fun y=>n (h _ y)⟩
theorem Ex.set {y:Addr} {c:Cell} (h:X y):Ex X σ (σ.set y c):=⟨fun ξ ξ e=>e,fun x c' e n=>(upd_other (by rintro rfl;exact n h)).trans e⟩
theorem Ex.new {y:Addr} {c:Cell} (h:Fresh σ y):Ex X σ (σ.set y c):=⟨fun ξ ξ e=>e,fun x c' e n=>(upd_other (by rintro rfl;replace e:=h.1▸e;injection e)).trans e⟩
theorem Ex.fz {y:Addr} {c:Cell} (h:Fresh σ y):Ex X σ (σ.fz y c):=⟨fun x c' e=>(upd_other (by rintro rfl;replace e:=h.2▸e;injection e)).trans e,fun ξ ξ e ξ=>e⟩
theorem set_M {y:Addr} {c:Cell}:(σ.set y c).M y=some c:=upd_same
theorem fz_F {y:Addr} {c:Cell}:(σ.fz y c).F y=some c:=upd_same
theorem ice_F {y:Addr} {c:Cell}:(σ.ice y c).F y=some c:=upd_same
theorem Fresh.set {y z:Addr} {c:Cell} (h:Fresh (σ.set z c) y):Fresh σ y/\y≠z:=by
 have e:y≠z:=by rintro rfl;have:=h.1;replace this:=set_M▸this;injection this
 exact ⟨⟨(upd_other e).symm.trans h.1,h.2⟩,e⟩
theorem Fresh.fz {y z:Addr} {c:Cell} (h:Fresh (σ.fz z c) y):Fresh σ y/\y≠z:=by
 have e:y≠z:=by rintro rfl;have:=h.2;replace this:=fz_F▸this;injection this
 exact ⟨⟨h.1,(upd_other e).symm.trans h.2⟩,e⟩
theorem Fresh.neM {y z:Addr} {c:Cell} (h:Fresh σ y) (e:σ.M z=some c):z≠y:=by rintro rfl;replace e:=h.1▸e;injection e
theorem Fresh.neF {y z:Addr} {c:Cell} (h:Fresh σ y) (e:σ.F z=some c):z≠y:=by rintro rfl;replace e:=h.2▸e;injection e
theorem hF {a:Addr} {c:Cell} (h:σ.F a=some c):Has K σ a c:=.inr (.inl h)
theorem hM {a:Addr} {c:Cell} (h:σ.M a=some c):Has K σ a c:=.inl h
theorem h00 {a:Addr} {c:Cell} (h:CellAt K K.h0 a c):Has K σ a c:=.inr (.inr h)
theorem oF {a:Addr} {c:Cell} (h:σ.F a=some c):Own K σ a:=.inr (.inl (by refine qE h ?_;simp))
theorem oM {a:Addr} {c:Cell} (h:σ.M a=some c):Own K σ a:=.inl (by refine qE h ?_;simp)
theorem TokAt.ex {a:Addr} {t:Tok} (h:TokAt σ a t) (x:Ex X σ σ'):TokAt σ' a t:=let ⟨d,h1,h2⟩:=h;⟨d,x.f _ _ h1,x.f _ _ h2⟩
set_option genInjectivity false in
inductive Av where
 | int (i:Int)
 | str (s:Str)
 | tup (l:List Str)
deriving Inhabited
noncomputable def Av.At (σ:Sg):Av->V->Prop
 | .int i,v=>v=.int i
 | .str s,v=>v=.str s
 | .tup l,v=>∃ a,v=.ref a/\σ.F a=some (.tup (l.map .str))
theorem Av.At.ex {a:Av} {v:V} (h:a.At σ v) (x:Ex X σ σ'):a.At σ' v:=by
 induction a with
 | int i=>exact h
 | str s=>exact h
 | tup l=>refine ea1_2 h fun b h1 h2=>?_;clear h;exact ⟨b,h1,x.f _ _ h2⟩
inductive Fo where
 | nil
 | non (r:Fo)
 | nd (kind:Int) (a:Av) (flags at_:Int) (kids r:Fo)
deriving Inhabited
noncomputable def nodeNs (kind:Int) (a:V) (kl:Addr) (flags at_:Int):Loc:=[("kind",.int kind),("a",a),("kids",.ref kl),("flags",.int flags),("at",.int at_),("nid",.int 0)]
noncomputable def NodeAt (σ:Sg) (x:Addr) (kind:Int) (a:V) (kids:List V) (flags at_:Int):Prop:=∃ d kl,σ.F x=some (.inst "Node" d)/\σ.F d=some (.ns (nodeNs kind a kl flags at_))/\σ.F kl=some (.list kids)
theorem NodeAt.ex {x kind a kids flags at_} (h:NodeAt σ x kind a kids flags at_) (e:Ex X σ σ'):NodeAt σ' x kind a kids flags at_:=ea2_3 h fun d kl h1 h2 h3=>⟨d,kl,e.f _ _ h1,e.f _ _ h2,e.f _ _ h3⟩
noncomputable def FoAt (σ:Sg):Fo->List V->Prop
 | .nil,l=>l=[]
 | .non r,l=>∃ l',l=.none::l'/\FoAt σ r l'
 | .nd kind a flags at_ kids r,l=>∃ x l' av ks,l=.ref x::l'/\a.At σ av/\NodeAt σ x kind av ks flags at_/\FoAt σ kids ks/\FoAt σ r l'
theorem FoAt.ex:∀ {f:Fo} {l:List V},FoAt σ f l->Ex X σ σ'->FoAt σ' f l
 | .nil,l,h,e=>h
 | .non r,l,h,e=>ea1_2 (a:=fun l'=>l=.none::l') (b:=FoAt σ r) h fun l' h1 h2=>⟨l',h1,FoAt.ex h2 e⟩
 | .nd ..,l,h,e=>ea4_5 h fun x l' av ks h1 h2 h3 h4 h5=>⟨x,l',av,ks,h1,h2.ex e,h3.ex e,FoAt.ex h4 e,FoAt.ex h5 e⟩
noncomputable def Fo.len:Fo->Nat
 | .nil=>0
 | .non r=>r.len+1
 | .nd _ _ _ _ _ r=>r.len+1
noncomputable def Fo.size:Fo->Nat
 | .nil=>0
 | .non r=>r.size+1
 | .nd _ _ _ _ ks r=>ks.size+r.size+1
noncomputable def Fo.app:Fo->Fo->Fo
 | .nil,g=>g
 | .non r,g=>.non (r.app g)
 | .nd k a f t ks r,g=>.nd k a f t ks (r.app g)
theorem FoAt.len:∀ {f:Fo} {l:List V},FoAt σ f l->l.length=f.len
 | .nil,l,h=>by cases h;rfl
 | .non r,l,h=>by refine ea1_2 h fun l' z1 h2=>?_;clear h;subst z1;refine qE List.length_cons (qE (FoAt.len h2) ?_);rfl
 | .nd ..,l,h=>by refine ea4_5 h fun x l' av ks z1 h2 h3 h4 h5=>?_;clear h;subst z1;refine qE List.length_cons (qE (FoAt.len h5) ?_);rfl
theorem FoAt.app:∀ {f g:Fo} {l l':List V},FoAt σ f l->FoAt σ g l'->FoAt σ (f.app g) (l++l')
 | .nil,g,l,l',h,h'=>by cases h;exact h'
 | .non r,g,l,l',h,h'=>by refine ea1_2 h fun l1 z1 h2=>?_;clear h;subst z1;exact ⟨l1++l',rfl,FoAt.app h2 h'⟩
 | .nd ..,g,l,l',h,h'=>by refine ea4_5 h fun x l1 av ks z1 h2 h3 h4 h5=>?_;clear h;subst z1;exact ⟨x,l1++l',av,ks,rfl,h2,h3,h4,FoAt.app h5 h'⟩
theorem getNode {k:V->Sg->Prop} {x:Addr} {kind:Int} {a:V} {kids:List V} {flags at_:Int} {attr:Str} (h:NodeAt σ x kind a kids flags at_)
 (q:∀ kl,σ.F kl=some (.list kids)->match nodeAt.contains attr,(nodeNs kind a kl flags at_).get attr with | true,some w=>k w σ | _,_=>False):GetW K D (.ref x) attr k σ:=by
 refine ea2_3 h fun d kl h1 h2 h3=>?_;clear h
 exact getW ct_Node (hF h1) (hF h2) (q kl h3)
end
section
variable {e:Pe} {s:Ps}
section
noncomputable def fA (K:Kc) (i:Nat):Value:=gv K (fName (stAt i))
theorem gFn (i:Nat) {name:Str} {R:Value->Prop} (q:R (fA K i)) (h:autoParam ((fnOk i&&fName (stAt i)==name)=true) tcK):exG name K R:=by
 rw [Bool.and_eq_true,beq_iff_eq] at h
 refine ea0_2 h fun h1 z1=>?_;clear h;subst z1
 exact ⟨_,(fn_gis i h1).1,(fn_gis i h1).2,q⟩
theorem cFn (i n:Nat) {D:Nat} {as:List V} {k:V->Sg->Prop} {σ:Sg} (hD:1<=D)
 (x:vc (cx i K D) (fBody (stAt i)) (((fPar (stAt i)).args.map (·.arg)).zip as) σ (kRet k)) (h:autoParam ((fnOk i&&fOk (fPar (stAt i)) (fSc (stAt i)) n)=true) tcK) (hn:autoParam (as.length=n) tcR):CallV K D (fA K i) as k σ:=fnV i n hD h hn x
theorem orT {r:Rec} {m:Loc} {l:List Expr} {k:KB} {b:Bool} {σ:Sg} (h:b=true\/b=false/\∀ k':KB,k' true σ->r.TB .Or (ltl l) m σ k') (q:k true σ):kTB .Or l r m k b σ:=by
 rcases h with rfl | ⟨rfl,h⟩
 · exact q
 · exact h k q
theorem andF {r:Rec} {m:Loc} {l:List Expr} {k:KB} {b:Bool} {σ:Sg} (h:b=false\/b=true/\∀ k':KB,k' false σ->r.TB .And (ltl l) m σ k') (q:k false σ):kTB .And l r m k b σ:=by
 rcases h with rfl | ⟨rfl,h⟩
 · exact q
 · exact h k q
theorem whilI {rE:Rec} {r:RecS} {s:Stmt} {m:Loc} {k:KF} {σ:Sg} (j:Nat) (J:Nat->Loc->Sg->Prop) (n0:Nat) (h0:J n0 m σ) (h:∀ I:Nat->Loc->Sg->Prop,(∀ n m σ,J n m σ->I n m σ)->∀ n m σ,J n m σ->rE.T (sE s) m σ (jW s j r m I n k)) :
 ∃ (j:Nat) (I:Nat->Loc->Sg->Prop) (n0:Nat),I n0 m σ/\∀ n m σ,I n m σ->rE.T (sE s) m σ (jW s j r m I n k):=⟨j,J,n0,h0,h J fun ξ ξ ξ x=>x⟩
theorem forI {c:Cx} {r:RecS} {s:Stmt} {m:Loc} {k:KF} {σ:Sg} (j:Nat) (src:Src) (items:List V) (J:List V->Loc->Sg->Prop) (h0:J items m σ) (hs:∀ l m σ,J l m σ->SrcOk c.K σ items src) (h:∀ I:List V->Loc->Sg->Prop,(∀ l m σ,J l m σ->I l m σ)->∀ x l m σ,J (x::l) m σ->asg c (sTg s) x m σ (jF2 s j r (I l) k))
 (hE:∀ m σ,J [] m σ->k .next m σ):jF s c r m k (.ref src.addr) σ:=⟨j,src,items,J,rfl,h0,hs,h J fun ξ ξ ξ x=>x,hE⟩
set_option genInjectivity false in
structure Pe where
 p:Addr
 d:Addr
 tl:Addr
 toks:List Addr
 tks:List Tok
 dg:Addr
 dd:Addr
 rl:Addr
 pt:Addr
 xp:Addr
 xd:Addr
 np:Addr
 nd:Addr
 ft:Addr
 r1:Addr
 r2:Addr
 r3:Addr
 r4:Addr
 r5:Addr
 w1:Addr
 w2:Addr
 w3:Addr
 w4:Addr
 tt:Addr
 ty:Addr
 pend:Addr
 lab:Addr
 cov:Addr
 com:Addr
 nar:Addr
 spl:Addr
 sav:Addr
deriving Inhabited
set_option genInjectivity false in
structure Ps where
 at_:Nat
 deep:Int
 al:Bool
 ret:Bool
 dgs:List (Int×Int)
deriving Inhabited
noncomputable def pns (e:Pe) (s:Ps):Loc:=[("tokens",.ref e.tl),("at",.int s.at_),("diags",.ref e.dg),("parts",.ref e.pt),("firsts",.ref e.ft),("tails",.ref e.tt),("types",.ref e.ty),("deep",.int s.deep),("pending",.ref e.pend),("allow_in",.bool s.al),
 ("in_func",.int 0),("in_loop",.int 0),("in_switch",.int 0),("labels",.ref e.lab),("no_cond",.bool false),("ret_bar",.bool s.ret),("in_literal",.int 0),("covers",.ref e.cov),("commas",.ref e.com),("not_arrow",.ref e.nar),("splits",.ref e.spl),("saved",.ref e.sav)]
noncomputable def DgAt (σ:Sg) (v:V) (r:Int×Int):Prop:=∃ a d w f,v=.ref a/\σ.F a=some (.inst "Diag" d)/\σ.F d=some (.ns [("number",.int r.1),("at",.int r.2),("args",w),("file",f)])
theorem DgAt.ex {X} {v:V} {r:Int×Int} (h:DgAt σ v r) (x:Ex X σ σ'):DgAt σ' v r:=ea4_1 h fun a d w f z=>⟨a,d,w,f,z.1,x.f _ _ z.2.1,x.f _ _ z.2.2⟩
inductive DgsAt (σ:Sg):List V->List (Int×Int)->Prop
 | nil:DgsAt σ [] []
 | cons {v r vs rs}:DgAt σ v r->DgsAt σ vs rs->DgsAt σ (v::vs) (r::rs)
theorem DgsAt.ex {X} {vs rs} (h:DgsAt σ vs rs) (x:Ex X σ σ'):DgsAt σ' vs rs:=by
 induction h with
 | nil=>exact .nil
 | cons a _ ih=>exact .cons (a.ex x) ih
theorem DgsAt.snoc {vs rs v r} (h:DgsAt σ vs rs) (a:DgAt σ v r):DgsAt σ (vs++[v]) (rs++[r]):=by
 induction h with
 | nil=>exact .cons a .nil
 | cons b _ ih=>exact .cons b ih
theorem DgsAt.len {vs rs} (h:DgsAt σ vs rs):vs.length=rs.length:=by
 induction h with
 | nil=>rfl
 | cons b _ ih=>exact qE List.length_cons (qE List.length_cons (qE ih rfl))
structure Rule (σ:Sg) (a:Addr) (cls:Str) (m:Loc):Prop where
 ok:∃ d,σ.F a=some (.inst cls d)/\σ.F d=some (.ns m)
theorem Rule.ex {X} {a cls m} (h:Rule σ a cls m) (x:Ex X σ σ'):Rule σ' a cls m:=let ⟨⟨d,h1,h2⟩⟩:=h;⟨⟨d,x.f _ _ h1,x.f _ _ h2⟩⟩
structure PF (σ:Sg) (e:Pe):Prop where
 pi:σ.F e.p=some (.inst "Parser" e.d)
 tl:σ.F e.tl=some (.list (e.toks.map .ref))
 tk:∀ (i:Nat) (t:Tok),e.tks[i]?=some t->∃ a,e.toks[i]?=some a/\TokAt σ a t
 tn:e.toks.length=e.tks.length
 tm:e.tks.length<=4000
 dg:σ.F e.dg=some (.inst "Diags" e.dd)
 dd:σ.F e.dd=some (.ns [("rows",.ref e.rl),("file",.str "")])
 pt:σ.F e.pt=some (.idict [(2,.ref e.xp),(1,.ref e.np)])
 xp:Rule σ e.xp "ExprPart" []
 np:Rule σ e.np "NamePart" []
 ft:σ.F e.ft=some (.dict [("#name",.ref e.r1),("#num",.ref e.r2),("#str",.ref e.r3),("#tpl",.ref e.r4),("(",.ref e.r5),("true",.ref e.w1),("false",.ref e.w2),("null",.ref e.w3),("this",.ref e.w4)])
 r1:Rule σ e.r1 "PexprNameRule" []
 r2:Rule σ e.r2 "PexprNumRule" []
 r3:Rule σ e.r3 "PexprStrRule" []
 r4:Rule σ e.r4 "TplFirst" []
 r5:Rule σ e.r5 "PexprParenRule" []
 w1:Rule σ e.w1 "WordFirst" [("kind",.int 4)]
 w2:Rule σ e.w2 "WordFirst" [("kind",.int 5)]
 w3:Rule σ e.w3 "WordFirst" [("kind",.int 6)]
 w4:Rule σ e.w4 "WordFirst" [("kind",.int 9)]
 tt:σ.F e.tt=some (.dict [])
 cov:σ.F e.cov=some (.list [])
 nn:e.d≠e.rl
theorem PF.ex {X} {e:Pe} (h:PF σ e) (x:Ex X σ σ'):PF σ' e:=
 ⟨x.f _ _ h.pi,x.f _ _ h.tl,fun i t ht=>let ⟨a,h1,h2⟩:=h.tk i t ht;⟨a,h1,h2.ex x⟩,h.tn,h.tm,x.f _ _ h.dg,x.f _ _ h.dd,x.f _ _ h.pt,h.xp.ex x,h.np.ex x,x.f _ _ h.ft,h.r1.ex x,h.r2.ex x,h.r3.ex x,h.r4.ex x,h.r5.ex x,
  h.w1.ex x,h.w2.ex x,h.w3.ex x,h.w4.ex x,x.f _ _ h.tt,x.f _ _ h.cov,h.nn⟩
structure PSt (σ:Sg) (e:Pe) (s:Ps):Prop where
 pf:PF σ e
 pd:σ.M e.d=some (.ns (pns e s))
 rl:∃ rows,σ.M e.rl=some (.list rows)/\DgsAt σ rows s.dgs
 ln:s.dgs.length<=1000
noncomputable def PX (e:Pe):Addr->Prop:=fun a=>a=e.d\/a=e.rl
noncomputable abbrev Px (e:Pe):=Ex (PX e)
theorem PSt.ex {e:Pe} {s:Ps} (h:PSt σ e s) {X} (x:Ex X σ σ') (hd:¬ X e.d) (hr:¬ X e.rl):PSt σ' e s:=
 ⟨h.pf.ex x,x.m _ _ h.pd hd,let ⟨r,h1,h2⟩:=h.rl;⟨r,x.m _ _ h1 hr,h2.ex x⟩,h.ln⟩
theorem PSt.new {e:Pe} {s:Ps} (h:PSt σ e s) {y:Addr} {c:Cell} (f:Fresh σ y):PSt (σ.set y c) e s:=h.ex (X:=fun ξ=>False) (.new f) id id
theorem PSt.fz {e:Pe} {s:Ps} (h:PSt σ e s) {y:Addr} {c:Cell} (f:Fresh σ y):PSt (σ.fz y c) e s:=h.ex (X:=fun ξ=>False) (.fz f) id id
theorem PSt.set {e:Pe} {s s':Ps} (h:PSt σ e s) (hd:s'.dgs=s.dgs):PSt (σ.set e.d (.ns (pns e s'))) e s'/\Px e σ (σ.set e.d (.ns (pns e s'))):=
 ⟨⟨h.pf.ex (X:=PX e) (.set (.inl rfl)),set_M,let ⟨r,h1,h2⟩:=h.rl;⟨r,(upd_other h.pf.nn.symm).trans h1,hd▸h2.ex (X:=PX e) (.set (.inl rfl))⟩,hd▸h.ln⟩,.set (.inl rfl)⟩
theorem getP {e:Pe} {s:Ps} {attr:Str} (h:PSt σ e s) (q:match parAt.contains attr,(pns e s).get attr with | true,some w=>k w σ | _,_=>False):GetW K D (.ref e.p) attr k σ:=getW ct_Parser (hF h.pf.pi) (hM h.pd) q
theorem setP {e:Pe} {s:Ps} (s':Ps) {attr:Str} {a:V} {ku:Sg->Prop} (h:PSt σ e s) (hc:parAt.contains attr=true) (hs:(pns e s).put attr a=pns e s') (hd:s'.dgs=s.dgs)
 (q:∀ σ',PSt σ' e s'->Px e σ σ'->ku σ'):SetW K D (.ref e.p) attr a ku σ:=
 setW ct_Parser (hF h.pf.pi) h.pd (nb rfl:(pns e s).length<=900) hc (by refine qE hs ?_;exact q _ (h.set hd).1 (h.set hd).2)
theorem pM (j:Nat) {e:Pe} {s:Ps} {name:Str} {R:Value->Prop} (P:PSt σ e s) (q:R (.ref (mAd K 84 j))) (h:autoParam ((mOk 84 j&&(mt 84 j).name==name&&!(parAt.contains name)&&fName (stAt 84)=="Parser")=true) tcK):∃ fv,MethIs K σ (.ref e.p) name fv/\FV K fv/\R fv:=by
 rw [Bool.and_eq_true,Bool.and_eq_true,Bool.and_eq_true,beq_iff_eq,beq_iff_eq,Bool.not_eq_true'] at h
 refine ea0_2 h fun z1 h3=>?_;clear h;refine ea0_2 z1 fun z2 h2=>?_;clear z1;refine ea0_2 z2 fun h1 z3=>?_;clear z2;subst z3
 have hg:(pns e s).get (mt 84 j).name=none:=by
  have key:∀ (m:Loc) (x:Str),(m.map (·.1)).contains x=false->m.get x=none:=by
   intro m x hm
   induction m with
   | nil=>rfl
   | cons p r ih=>
    obtain ⟨y,b⟩:=p
    rw [List.map_cons,List.contains_cons,Bool.or_eq_false_iff] at hm
    unfold Loc.get
    exact qE (if_neg (by simpa using hm.1)) (qE (ih hm.2) rfl)
  exact key _ _ h2
 have:=mIs (K:=K) (σ:=σ) (i:=84) (j:=j) (attrs:=parAt) (h3▸ct_Parser) (m_at h1) (x:=e.p) (d:=e.d) (m:=pns e s) (h3▸hF P.pf.pi) (hM P.pd) hg
 exact ⟨_,this.1,this.2,q⟩
variable {t:Tok}
theorem c_now (P:PSt σ e s) (ht:e.tks[s.at_]?=some t) (hD:1<=D) (q:∀ a,TokAt σ a t->k (.ref a) σ):CallV K D (.ref (mAd K 84 1)) [.ref e.p] k σ:=by
 refine mV 84 1 1 hD (by decide +kernel) rfl (getP P (getP P (ea1_2 (P.pf.tk _ _ ht) fun a h1 h2=>⟨notPyL (hF P.pf.tl),itemL (i:=s.at_) (hF P.pf.tl) (by refine qE List.getElem?_map (qE h1 ?_);rfl) ?_ ?_⟩)))
 · have:=(List.getElem?_eq_some_iff.mp ht).1;have:=P.pf.tm;lia
 exact q a h2
end
section
variable {t:Tok} {a:Addr} {kd:Int} {tx:Str}
theorem itemL' {x:Addr} {l:List V} {a:V} {j:Int} (i:Nat) (hx:Has K σ x (.list l)) (hj:j=i) (hi:l[i]?=some a) (hl:i<5000) (q:k a σ):ItemW K D (.ref x) (.int j) k σ:=by subst hj;exact itemL hx hi hl q
theorem gtF {i j:Int} (h:¬ j<i) (q:k (.bool false) σ):CmpW K D .Gt (.int i) (.int j) k σ:=gtI (by refine qE (decide_eq_false h) ?_;exact q)
theorem is_token (ht:TokAt σ a t) (hD:1<=D) (q:k (.bool (t.kind==kd&&t.text==tx)) σ):CallV K D (fA K 86) [.ref a,.int kd,.str tx] k σ:=by
 obtain ⟨D,rfl⟩:∃ D',D=D'+1:=⟨D-1,by lia⟩
 exact c_is_token ht q
theorem c_ahead {n:Nat} (P:PSt σ e s) (ht:e.tks[s.at_+n]?=some t) (hD:1<=D) (q:∀ a,TokAt σ a t->k (.ref a) σ):CallV K D (.ref (mAd K 84 2)) [.ref e.p,.int n] k σ:=by
 have hlt:=(List.getElem?_eq_some_iff.mp ht).1
 have htm:=P.pf.tm
 have hlen:((e.toks.map V.ref).length:Int)=e.tks.length:=by rw [List.length_map,P.pf.tn]
 refine ea1_2 (P.pf.tk _ _ ht) fun a h1 h2=>mV 84 2 2 hD (by decide +kernel) rfl (getP P (addI (⟨_,g_len.1,g_len.2,?_⟩)))
 refine getP P (lenL (hF P.pf.tl) (by rw [List.length_map,P.pf.tn];lia) ?_)
 refine geI ?_
 rw [show decide (((e.toks.map V.ref).length:Int)<=(s.at_:Int)+(n:Int))=false from by refine qE hlen ?_;exact decide_eq_false (by lia)]
 refine getP P (⟨notPyL (hF P.pf.tl),itemL' (s.at_+n) (hF P.pf.tl) (by lia) (by refine qE List.getElem?_map (qE h1 ?_);rfl) (by lia) ?_⟩)
 exact q a h2
theorem c_step (P:PSt σ e s) (ht:e.tks[s.at_]?=some t) (h0:t.kind≠0) (hD:1<=D) (q:∀ a σ',TokAt σ' a t->PSt σ' e { s with at_:=s.at_+1 }->Px e σ σ'->k (.ref a) σ'):CallV K D (.ref (mAd K 84 3)) [.ref e.p] k σ:=by
 have hlt:=(List.getElem?_eq_some_iff.mp ht).1
 have htm:=P.pf.tm
 refine ea1_2 (P.pf.tk _ _ ht) fun a h1 h2=>mV 84 3 1 hD (by decide +kernel) rfl (getP P (getP P (⟨notPyL (hF P.pf.tl),itemL' s.at_ (hF P.pf.tl) rfl (by refine qE List.getElem?_map (qE h1 ?_);rfl) (by lia) ?_⟩)))
 exact getTok h2 (neI (qE (show (t.kind != 0)=true by simpa using h0) (getP P (iaddI (setP { s with at_:=s.at_+1 } P rfl rfl rfl fun σ1 P1 x1=>q a σ1 (h2.ex x1) P1 x1)))))
theorem c_is_sign (P:PSt σ e s) (ht:e.tks[s.at_]?=some t) (hD:2<=D) (q:k (.bool (t.kind==5&&t.text==tx)) σ):CallV K D (.ref (mAd K 84 4)) [.ref e.p,.str tx] k σ:=by
 have hlt:=(List.getElem?_eq_some_iff.mp ht).1
 have htm:=P.pf.tm
 refine ea1_2 (P.pf.tk _ _ ht) fun a h1 h2=>mV 84 4 2 (by lia) (by decide +kernel) rfl (gFn 86 (getP P (getP P (⟨notPyL (hF P.pf.tl),itemL' s.at_ (hF P.pf.tl) rfl (by refine qE List.getElem?_map (qE h1 ?_);rfl) (by lia) ?_⟩))))
 exact is_token h2 (Nat.le_sub_of_add_le hD) q
theorem c_is_name (P:PSt σ e s) (ht:e.tks[s.at_]?=some t) (hD:2<=D) (q:k (.bool (t.kind==1&&t.text==tx)) σ):CallV K D (.ref (mAd K 84 6)) [.ref e.p,.str tx] k σ:=by
 have hlt:=(List.getElem?_eq_some_iff.mp ht).1
 have htm:=P.pf.tm
 refine ea1_2 (P.pf.tk _ _ ht) fun a h1 h2=>mV 84 6 2 (by lia) (by decide +kernel) rfl (gFn 86 (getP P (getP P (⟨notPyL (hF P.pf.tl),itemL' s.at_ (hF P.pf.tl) rfl (by refine qE List.getElem?_map (qE h1 ?_);rfl) (by lia) ?_⟩))))
 exact is_token h2 (Nat.le_sub_of_add_le hD) q
theorem eat_token (P:PSt σ e s) (ht:e.tks[s.at_]?=some t) (h0:kd≠0) (hD:2<=D)
 (q0:(t.kind==kd&&t.text==tx)=false->k (.bool false) σ) (q1:(t.kind==kd&&t.text==tx)=true->∀ σ',PSt σ' e { s with at_:=s.at_+1 }->Px e σ σ'->k (.bool true) σ'):CallV K D (fA K 89) [.ref e.p,.int kd,.str tx] k σ:=by
 refine cFn 89 3 (dl hD) (gFn 86 (pM 1 P (c_now P ht (Nat.le_sub_of_add_le hD) fun a ha=>is_token ha (Nat.le_sub_of_add_le hD) (truB ?_))))
 induction hb:(t.kind==kd&&t.text==tx) with
 | false=>exact q0 hb
 | true=>
  have hk:t.kind=kd:=by rw [Bool.and_eq_true,beq_iff_eq] at hb;exact hb.1
  exact pM 3 P (c_step P ht (hk▸h0) (Nat.le_sub_of_add_le hD) fun a' σ1 ha' P1 x1=>q1 hb σ1 P1 x1)
theorem c_eat_sign (P:PSt σ e s) (ht:e.tks[s.at_]?=some t) (hD:3<=D)
 (q0:(t.kind==5&&t.text==tx)=false->k (.bool false) σ) (q1:(t.kind==5&&t.text==tx)=true->∀ σ',PSt σ' e { s with at_:=s.at_+1 }->Px e σ σ'->k (.bool true) σ'):CallV K D (.ref (mAd K 84 7)) [.ref e.p,.str tx] k σ:=by
 refine mV 84 7 2 (by lia) (by decide +kernel) rfl (gFn 89 (eat_token P ht (by decide) (Nat.le_sub_of_add_le hD) (fun h=>?_) fun h σ1 P1 x1=>?_))
 · exact q0 h
 · exact q1 h σ1 P1 x1
theorem c_need_sign (P:PSt σ e s) (ht:e.tks[s.at_]?=some t) (hk:(t.kind==5&&t.text==tx)=true) (hD:3<=D)
 (q:∀ σ',PSt σ' e { s with at_:=s.at_+1 }->Px e σ σ'->k .none σ'):CallV K D (.ref (mAd K 84 10)) [.ref e.p,.str tx] k σ:=by
 refine mV 84 10 2 (by lia) (by decide +kernel) rfl (gFn 89 (eat_token P ht (by decide) (Nat.le_sub_of_add_le hD) (fun h=>by replace h:=hk▸h;injection h) fun h σ1 P1 x1=>?_))
 exact truB (q σ1 P1 x1)
theorem c_need_name (P:PSt σ e s) (ht:e.tks[s.at_]?=some t) (hk:t.kind=1) (hD:2<=D)
 (q:∀ σ',PSt σ' e { s with at_:=s.at_+1 }->Px e σ σ'->k (.str t.text) σ'):CallV K D (.ref (mAd K 84 12)) [.ref e.p] k σ:=by
 refine mV 84 12 1 (by lia) (by decide +kernel) rfl (pM 1 P (c_now P ht (Nat.le_sub_of_add_le hD) fun a ha=>getTok ha (neI (qE hk (pM 3 P (c_step P ht (by refine qE hk ?_;decide) (Nat.le_sub_of_add_le hD) fun a' σ1 ha' P1 x1=>?_))))))
 exact getTok ha' (q σ1 P1 x1)
theorem c_can_end (P:PSt σ e s) (ht:e.tks[s.at_]?=some t) (hD:2<=D) (hk:(t.line||(t.kind==5&&t.text=="}"))=true)
 (q:k (.bool true) σ):CallV K D (.ref (mAd K 84 17)) [.ref e.p] k σ:=by
 refine mV 84 17 1 (by lia) (by decide +kernel) rfl (pM 1 P (c_now P ht (Nat.le_sub_of_add_le hD) fun a ha=>getTok ha (eqI ?_)))
 induction h0:(t.kind==0) with
 | true=>exact q
 | false=>
  refine getTok ha (truB ?_)
  induction hl:t.line with
  | true=>exact q
  | false=>
   rw [hl,Bool.false_or,Bool.and_eq_true] at hk
   refine getTok ha (eqI (qE hk.1 (truB (getTok ha (eqS (truB ?_))))))
   induction hs:(t.text==";") with
   | true=>exact q
   | false=>
    exact getTok ha (eqS (qE hk.2 q))
theorem c_end_stmt (P:PSt σ e s) (ht:e.tks[s.at_]?=some t) (hD:4<=D)
 (q:((t.kind==5&&t.text==";")=false/\(t.line||(t.kind==5&&t.text=="}"))=true/\k .none σ)\/((t.kind==5&&t.text==";")=true/\∀ σ',PSt σ' e { s with at_:=s.at_+1 }->Px e σ σ'->k .none σ')):CallV K D (.ref (mAd K 84 18)) [.ref e.p] k σ:=by
 refine mV 84 18 1 (by lia) (by decide +kernel) rfl (pM 7 P (c_eat_sign P ht (Nat.le_sub_of_add_le hD) (fun h=>?_) fun h σ1 P1 x1=>?_))
 · rcases q with ⟨-,h2,q⟩ | ⟨h1,-⟩
   · exact truB (pM 17 P (c_can_end P ht (Nat.le_sub_of_add_le (by lia)) h2 (truB q)))
   · replace h1:=h▸h1;injection h1
 · rcases q with ⟨h1,-⟩ | ⟨-,q⟩
   · replace h1:=h▸h1;injection h1
   · exact truB (q σ1 P1 x1)
theorem c_down (P:PSt σ e s) (h:s.deep<40) (hD:1<=D) (q:∀ σ',PSt σ' e { s with deep:=s.deep+1 }->Px e σ σ'->k .none σ'):CallV K D (.ref (mAd K 84 19)) [.ref e.p] k σ:=by
 refine mV 84 19 1 (by lia) (by decide +kernel) rfl (getP P (iaddI (setP { s with deep:=s.deep+1 } P rfl rfl rfl fun σ1 P1 x1=>getP P1 (gtF (by show ¬ (40:Int)<s.deep+1;lia) ?_))))
 exact q σ1 P1 x1
theorem c_up (P:PSt σ e s) (hD:1<=D) (q:∀ σ',PSt σ' e { s with deep:=s.deep-1 }->Px e σ σ'->k .none σ'):CallV K D (.ref (mAd K 84 20)) [.ref e.p] k σ:=by
 exact mV 84 20 1 (by lia) (by decide +kernel) rfl (getP P (isubI (setP { s with deep:=s.deep-1 } P rfl rfl rfl fun σ1 P1 x1=>q σ1 P1 x1)))
end
section
variable {t:Tok} {a:Addr} {kd:Int} {tx:Str}
theorem Wp.disj {α β:Type} {R:β->α->Prop} {K:Kc} {D:Nat} {x:List Value->Sem α} {as:List V} {k:β->Sg->Prop} {σ:Sg} (w:(∀ a c,σ.F a=some c->σ.M a=none)->Wp R K D x as k σ):Wp R K D x as k σ:=
 ⟨fun hr st av q=>(w fun a c e=>(st.fz a c e).2).ok hr st av q⟩
theorem cls_gv {i:Nat} (c:CIs K (fName (stAt i))):∃ C,K.mg (fName (stAt i))=some (.ref C)/\fA K i=.ref C/\ClsN K.h0 C/\GIs K (fName (stAt i)) (fA K i)/\FV K (fA K i):=by
 refine ea1_3 c fun C h1 h2 z1=>?_;clear c;refine ea3_1 z1 fun lo ci lim h3=>?_;clear z1
 have e:fA K i=.ref C:=by show (K.mg _).getD .none=_;refine qE h1 ?_;rfl
 exact ⟨C,h1,e,h2,.inl (by refine qE e ?_;exact h1),by refine qE e ?_;exact .inr (.inl ⟨C,lo,ci,lim,rfl,h3⟩)⟩
theorem gCls (i:Nat) {name:Str} {R:Value->Prop} {attrs:List Str} (ct:CT K name attrs) (q:R (fA K i)) (h:autoParam ((fName (stAt i)==name)=true) tcK):∃ fv,GIs K name fv/\FV K fv/\R fv:=by
 rw [beq_iff_eq] at h
 subst h
 exact ea1_5 (cls_gv ct.is) fun C h1 h2 h3 h4 h5=>⟨_,h4,h5,q⟩
theorem newV' {i n:Nat} {attrs:List Str} (ct:CT K (fName (stAt i)) attrs) {as:List V} (hD:2<=D) (M:MSpec K i 0 (mAd K i 0)) (hn:(mt i 0).name="__init__") (h:fOk (mt i 0).params (mt i 0).sc (n+1)=true) (hl:as.length=n)
 (x:∀ x d,Fresh σ x->Fresh σ d->d≠x->vc ⟨K,D-2,(mt i 0).sc,()⟩ (mt i 0).body (((mt i 0).params.args.map (·.arg)).zip (.ref x::as)) ((σ.set d (.ns [])).fz x (.inst (fName (stAt i)) d)) fun f m' σ'=>retV f=.none/\k (.ref x) σ'):CallV K D (fA K i) as k σ:=by
 refine ea1_5 (cls_gv ct.is) fun C h1 h2 h3 h4 h5=>qE h2 ?_
 have h6:=M.1 C h1
 replace h6:=hn▸h6
 exact (new_vc h1 h3 h6 M.2 (hl▸h) x).up (by lia)
theorem newV (i n:Nat) {attrs:List Str} (ct:CT K (fName (stAt i)) attrs) {as:List V} (hD:2<=D) (h:(mOk i 0&&(mt i 0).name=="__init__"&&fOk (mt i 0).params (mt i 0).sc (n+1))=true) (hl:as.length=n)
 (x:∀ x d,Fresh σ x->Fresh σ d->d≠x->vc ⟨K,D-2,(mt i 0).sc,()⟩ (mt i 0).body (((mt i 0).params.args.map (·.arg)).zip (.ref x::as)) ((σ.set d (.ns [])).fz x (.inst (fName (stAt i)) d)) fun f m' σ'=>retV f=.none/\k (.ref x) σ'):CallV K D (fA K i) as k σ:=by
 rw [Bool.and_eq_true,Bool.and_eq_true,beq_iff_eq] at h
 exact newV' ct hD (m_at h.1.1) h.1.2 h.2 hl x
theorem newV2 (i b n:Nat) {attrs:List Str} (ct:CT K (fName (stAt i)) attrs) {as:List V} (hD:2<=D) (h:(mOk2 i b 0&&(mt i 0).name=="__init__"&&fOk (mt i 0).params (mt i 0).sc (n+1))=true) (hl:as.length=n)
 (x:∀ x d,Fresh σ x->Fresh σ d->d≠x->vc ⟨K,D-2,(mt i 0).sc,()⟩ (mt i 0).body (((mt i 0).params.args.map (·.arg)).zip (.ref x::as)) ((σ.set d (.ns [])).fz x (.inst (fName (stAt i)) d)) fun f m' σ'=>retV f=.none/\k (.ref x) σ'):CallV K D (fA K i) as k σ:=by
 rw [Bool.and_eq_true,Bool.and_eq_true,beq_iff_eq] at h
 exact newV' ct hD (m_at2 h.1.1) h.1.2 h.2 hl x
structure Fill (σ σ':Sg) (x d:Addr) (cls:Str) (m:Loc):Prop where
 fx:σ'.F x=some (.inst cls d)
 md:σ'.M d=some (.ns m)
 f:∀ a c,σ.F a=some c->σ'.F a=some c
 m:∀ a c,σ.M a=some c->σ'.M a=some c
 nf:σ'.F d=none
 old:Fresh σ d
theorem Fill.start {x d:Addr} {cls:Str} (fx:Fresh σ x) (fd:Fresh σ d) (n:d≠x):Fill σ ((σ.set d (.ns [])).fz x (.inst cls d)) x d cls []:=
 ⟨fz_F,set_M,fun a c e=>(upd_other (fx.neF e)).trans e,fun a c e=>(upd_other (fd.neM e)).trans e,(upd_other n).trans fd.2,fd⟩
theorem Fill.put {x d:Addr} {cls:Str} {m:Loc} (h:Fill σ σ' x d cls m) (m':Loc):Fill σ (σ'.set d (.ns m')) x d cls m':=
 ⟨h.fx,set_M,h.f,fun a c e=>(upd_other (h.old.neM e)).trans (h.m _ _ e),h.nf,h.old⟩
theorem setF {x d:Addr} {cls:Str} {attrs:List Str} {m:Loc} {attr:Str} {v:V} {ku:Sg->Prop} (ct:CT K cls attrs) (h:Fill σ σ' x d cls m) (q:∀ σ'',Fill σ σ'' x d cls (m.put attr v)->ku σ'') (hc:autoParam (attrs.contains attr=true) tcK) (hl:autoParam (Nat.ble m.length 900=true) tcR):SetW K D (.ref x) attr v ku σ':=
 setW ct (hF h.fx) h.md (nb hl) hc (q _ (h.put _))
theorem Fill.done {x d:Addr} {cls:Str} {m:Loc} (h:Fill σ σ' x d cls m):∃ σ2,Gh σ' σ2/\σ2.F x=some (.inst cls d)/\σ2.F d=some (.ns m)/\∀ X,Ex X σ σ2:=
 ⟨σ'.ice d (.ns m),Gh.ice h.md,(upd_other (by rintro rfl;have:=h.fx;replace this:=h.nf▸this;injection this)).trans h.fx,ice_F,fun X=>⟨fun a c e=>(upd_other (h.old.neF e)).trans (h.f _ _ e),fun a c e ξ=>(drop_other (h.old.neM e)).trans (h.m _ _ e)⟩⟩
theorem nodeNew {kind flags at_:Int} {v:V} {kl:Addr} {kids:List V} (hk:σ.M kl=some (.list kids)) (hD:2<=D) (q:∀ x σ',NodeAt σ' x kind v kids flags at_->Ex (fun a=>a=kl) σ σ'->k (.ref x) σ'):CallV K D (fA K 45) [.int kind,v,.ref kl,.int flags,.int at_] k σ:=by
 refine Wp.disj fun dj=>Wp.post (newV 45 5 ct_Node hD (by decide +kernel) rfl fun x d fx fd n=>?_)
 have h:=Fill.start (cls:=fName (stAt 45)) fx fd n
 refine setF ct_Node h fun σ1 h=>setF ct_Node h fun σ1 h=>setF ct_Node h fun σ1 h=>setF ct_Node h fun σ1 h=>setF ct_Node h fun σ1 h=>setF ct_Node h fun σ1 h=>⟨rfl,?_⟩
 refine ea1_4 h.done fun σ2 g g1 g2 g3=>?_
 have hk2:=(g3 fun ξ=>False).m _ _ hk id
 have hf:σ.F kl=none:=by
  induction e:σ.F kl with
  | none=>rfl
  | some c=>have:=dj _ _ e;replace this:=hk▸this;injection this
 refine ⟨σ2.ice kl (.list kids),g.trans (Gh.ice hk2),q x _ ⟨d,kl,(upd_other ?_).trans g1,(upd_other ?_).trans g2,ice_F⟩ ⟨fun a c e=>(upd_other ?_).trans ((g3 fun ξ=>False).f _ _ e),fun a c e n=>(drop_other n).trans ((g3 fun ξ=>False).m _ _ e id)⟩⟩
 · rintro rfl;have:=(g3 fun ξ=>False).m _ _ hk id;replace hk:=fx.1▸hk;injection hk
 · rintro rfl;replace hk:=fd.1▸hk;injection hk
 · rintro rfl;replace e:=hf▸e;injection e
theorem c_leaf {kind at_:Int} {v:V} (hD:3<=D) (q:∀ x σ',NodeAt σ' x kind v [] 0 at_->Ex (fun ξ=>False) σ σ'->k (.ref x) σ'):CallV K D (fA K 46) [.int kind,v,.int at_] k σ:=by
 refine cFn 46 3 (dl hD) (gCls 45 ct_Node (⟨by decide,fun y fy=>?_⟩))
 exact nodeNew set_M (Nat.le_sub_of_add_le hD) fun x σ' h1 h2=>q x σ' h1 ⟨fun a c e=>h2.f _ _ e,fun a c e ξ=>h2.m _ _ ((upd_other (fy.neM e)).trans e) (fy.neM e)⟩
theorem c_twig {kind at_:Int} {v:V} {kl:Addr} {kids:List V} (hk:σ.M kl=some (.list kids)) (hD:3<=D) (q:∀ x σ',NodeAt σ' x kind v kids 0 at_->Ex (fun a=>a=kl) σ σ'->k (.ref x) σ'):CallV K D (fA K 47) [.int kind,v,.ref kl,.int at_] k σ:=by
 exact cFn 47 4 (dl hD) (gCls 45 ct_Node (nodeNew hk (Nat.le_sub_of_add_le hD) fun x σ' h1 h2=>q x σ' h1 h2))
theorem c_flagged {kind at_ flags:Int} {v:V} {kl:Addr} {kids:List V} (hk:σ.M kl=some (.list kids)) (hD:3<=D) (q:∀ x σ',NodeAt σ' x kind v kids flags at_->Ex (fun a=>a=kl) σ σ'->k (.ref x) σ'):CallV K D (fA K 48) [.int kind,v,.ref kl,.int flags,.int at_] k σ:=by
 exact cFn 48 5 (dl hD) (gCls 45 ct_Node (nodeNew hk (Nat.le_sub_of_add_le hD) fun x σ' h1 h2=>q x σ' h1 h2))
theorem c_list_of {at_:Int} {kl:Addr} {kids:List V} (hk:σ.M kl=some (.list kids)) (hD:3<=D) (q:∀ x σ',NodeAt σ' x 71 (.str "") kids 0 at_->Ex (fun a=>a=kl) σ σ'->k (.ref x) σ'):CallV K D (fA K 49) [.ref kl,.int at_] k σ:=by
 exact cFn 49 2 (dl hD) (gCls 45 ct_Node (nodeNew hk (Nat.le_sub_of_add_le hD) fun x σ' h1 h2=>q x σ' h1 h2))
theorem c_put {n at_:Int} {args:V} (P:PSt σ e s) (hl:s.dgs.length<999) (hD:3<=D) (q:∀ σ',PSt σ' e { s with dgs:=s.dgs++[(n,at_)] }->Px e σ σ'->k .none σ'):CallV K D (.ref (mAd K 70 1)) [.ref e.dg,.int n,.int at_,args] k σ:=by
 refine mV 70 1 4 (by lia) (by decide +kernel) rfl (getW ct_Diags (hF P.pf.dg) (hF P.pf.dd) (ea1_2 P.rl fun rows hr hd=>⟨_,(mAppend (hM hr)).1,(mAppend (hM hr)).2,?_⟩))
 refine gCls 69 ct_Diag (getW ct_Diags (hF P.pf.dg) (hF P.pf.dd) (Wp.post (newV 69 4 ct_Diag (Nat.le_sub_of_add_le hD) (by decide +kernel) rfl fun x d fx fd nxd=>?_)))
 have h:=Fill.start (cls:=fName (stAt 69)) fx fd nxd
 refine setF ct_Diag h fun σ1 h=>setF ct_Diag h fun σ1 h=>setF ct_Diag h fun σ1 h=>setF ct_Diag h fun σ1 h=>⟨rfl,?_⟩
 refine ea1_4 h.done fun σ2 g g1 g2 g3=>⟨σ2,g,?_⟩
 have hr2:=(g3 fun ξ=>False).m _ _ hr id
 have hlen:=hd.len
 refine cAppend hr2 (by lia) ?_
 have P2:PSt σ2 e s:=P.ex (g3 fun ξ=>False) id id
 have ex:Px e σ2 (σ2.set e.rl (.list (rows++[.ref x]))):=.set (.inr rfl)
 exact q _ ⟨P2.pf.ex ex,(upd_other P.pf.nn).trans P2.pd,⟨_,set_M,(DgsAt.snoc (hd.ex (g3 fun ξ=>False)) (show DgAt σ2 (.ref x) (n,at_) from ⟨x,d,args,.str "",rfl,g1,g2⟩)).ex ex⟩,by show (s.dgs++[(n,at_)]).length<=1000;refine qE List.length_append ?_;exact Nat.le_succ_of_le hl⟩ ((g3 _).trans ex)
theorem dgM {e:Pe} {s:Ps} {name:Str} {R:Value->Prop} (P:PSt σ e s) (h:(name=="put")=true) (q:R (.ref (mAd K 70 1))):∃ fv,MethIs K σ (.ref e.dg) name fv/\FV K fv/\R fv:=by
 rw [beq_iff_eq] at h;subst h
 have h1:(mOk 70 1&&(mt 70 1).name=="put"&&fName (stAt 70)=="Diags")=true:=by decide +kernel
 rw [Bool.and_eq_true,Bool.and_eq_true,beq_iff_eq,beq_iff_eq] at h1
 have:=mIs (K:=K) (σ:=σ) (i:=70) (j:=1) (attrs:=diagsAt) (h1.2▸ct_Diags) (m_at h1.1.1) (x:=e.dg) (d:=e.dd) (m:=[("rows",.ref e.rl),("file",.str "")]) (h1.2▸hF P.pf.dg) (hF P.pf.dd) (by refine qE h1.1.2 ?_;rfl)
 replace this:=h1.1.2▸this
 exact ⟨_,this.1,this.2,q⟩
end
section
variable {t:Tok} {a:Addr} {kd:Int} {tx:Str}
noncomputable abbrev E0:=Ex fun ξ=>False
noncomputable def fzs:Sg->List (Addr×Cell)->Sg
 | σ,[]=>σ
 | σ,p::r=>fzs (σ.fz p.1 p.2) r
noncomputable def FrA:Sg->List (Addr×Cell)->Prop
 | _,[]=>True
 | σ,p::r=>Fresh σ p.1/\FrA (σ.fz p.1 p.2) r
theorem fzs_ok {l:List (Addr×Cell)}:∀ {σ:Sg},FrA σ l->E0 σ (fzs σ l)/\∀ (i:Nat) (h:i<l.length),(fzs σ l).F l[i].1=some l[i].2:=by
 induction l with
 | nil=>exact fun ξ=>⟨.refl,fun i h=>absurd h (Nat.not_lt_zero i)⟩
 | cons p r ih=>
  intro σ h
  have:=ih h.2
  exact ⟨(Ex.fz h.1).trans this.1,fun i hi=>match i with
   | 0=>this.1.f _ _ fz_F
   | i+1=>this.2 i (Nat.lt_of_succ_lt_succ hi)⟩
theorem fz1 {P:Sg->Prop} {σ:Sg} {y:Addr} {c:Cell} (f:Fresh σ y) (q:∀ σ',E0 σ σ'->σ'.F y=some c->P σ'):P (σ.fz y c):=q _ (.fz f) fz_F
theorem set1 {P:Sg->Prop} {σ:Sg} {y:Addr} {c:Cell} (f:Fresh σ y) (q:∀ σ',E0 σ σ'->σ'.M y=some c->P σ'):P (σ.set y c):=q _ (.new f) set_M
theorem fzG {P:Sg->Prop} {σ:Sg} (l:List (Addr×Cell)) (h:FrA σ l) (q:∀ σ',E0 σ σ'->(∀ (i:Nat) (h:i<l.length),σ'.F l[i].1=some l[i].2)->P σ'):P (fzs σ l):=q _ (fzs_ok h).1 (fzs_ok h).2
theorem Ex.px (x:Ex (fun ξ=>False) σ σ') {X}:Ex X σ σ':=x.wide fun ξ h=>h.elim
theorem PSt.e0 (P:PSt σ e s) (x:E0 σ σ'):PSt σ' e s:=P.ex x id id
theorem c_names_prop (ht:TokAt σ a t) (hn:[1,2,4,3].any (·==t.kind)=true) (hD:1<=D) (q:∀ σ',E0 σ σ'->k (.bool true) σ'):CallV K D (fA K 90) [.ref a] k σ:=by
 exact cFn 90 1 hD (getTok ht (tp fun y fy=>inTupI (ls:=[1,2,4,3]) (hF fz_F) (qE hn (q _ (.fz fy)))))
theorem c_starts_prop (ht:TokAt σ a t) (hn:[1,2,4,3].any (·==t.kind)=true) (hD:2<=D) (q:∀ σ',E0 σ σ'->k (.bool true) σ'):CallV K D (fA K 91) [.ref a] k σ:=by
 exact cFn 91 1 (dl hD) (gFn 90 (c_names_prop ht hn (Nat.le_sub_of_add_le hD) fun σ1 x1=>truB (q σ1 x1)))
theorem c_read_prop_name (P:PSt σ e s) (ht:e.tks[s.at_]?=some t) (hn:[1,2,4,3].any (·==t.kind)=true) (hD:2<=D) (q:∀ σ',PSt σ' e { s with at_:=s.at_+1 }->Px e σ σ'->k (.str t.text) σ'):CallV K D (fA K 93) [.ref e.p] k σ:=by
 refine cFn 93 1 (dl hD) (gFn 90 (pM 1 P (c_now P ht (Nat.le_sub_of_add_le hD) fun a ha=>c_names_prop ha hn (Nat.le_sub_of_add_le hD) fun σ1 x1=>?_)))
 have P1:=P.e0 x1
 refine truB (pM 3 P1 ?_)
 have h0:t.kind≠0:=by intro h;replace hn:=h▸hn;exact absurd hn (by decide)
 exact c_step P1 ht h0 (Nat.le_sub_of_add_le hD) fun a' σ2 ha' P2 x2=>getTok ha' (q σ2 P2 (x1.px.trans x2))
theorem c_prop_name (P:PSt σ e s) (ht:e.tks[s.at_]?=some t) (hn:[1,2,4,3].any (·==t.kind)=true) (hD:3<=D) (q:∀ σ',PSt σ' e { s with at_:=s.at_+1 }->Px e σ σ'->k (.str t.text) σ'):CallV K D (.ref (mAd K 84 13)) [.ref e.p] k σ:=by
 exact mV 84 13 1 (by lia) (by decide +kernel) rfl (gFn 93 (c_read_prop_name P ht hn (Nat.le_sub_of_add_le hD) fun σ1 P1 x1=>q σ1 P1 x1))
noncomputable def keyOf (t:Tok):Str:=if t.kind==5||t.kind==2 then t.text else if t.kind==1 then "#name" else if t.kind==3 then "#num" else if t.kind==4 then "#str" else if t.kind==6||t.kind==7 then "#tpl" else ""
theorem c_token_key (ht:TokAt σ a t) (hD:1<=D) (q:k (.str (keyOf t)) σ):CallV K D (fA K 94) [.ref a] k σ:=by
 refine cFn 94 1 hD ?_
 unfold keyOf at q
 refine getTok ht (eqI ?_)
 induction h5:(t.kind==5) with
 | true=>replace q:=h5▸q;refine getTok ht ?_;exact q
 | false=>
  replace q:=h5▸q
  refine getTok ht (eqI ?_)
  induction h2:(t.kind==2) with
  | true=>replace q:=h2▸q;refine getTok ht ?_;exact q
  | false=>
   replace q:=h2▸q
   refine getTok ht (eqI ?_)
   induction h1:(t.kind==1) with
   | true=>replace q:=h1▸q;exact q
   | false=>
    replace q:=h1▸q
    refine getTok ht (eqI ?_)
    induction h3:(t.kind==3) with
    | true=>replace q:=h3▸q;exact q
    | false=>
     replace q:=h3▸q
     refine getTok ht (eqI ?_)
     induction h4:(t.kind==4) with
     | true=>replace q:=h4▸q;exact q
     | false=>
      replace q:=h4▸q
      refine getTok ht (eqI ?_)
      induction h6:(t.kind==6) with
      | true=>replace q:=h6▸q;exact q
      | false=>
       replace q:=h6▸q
       refine getTok ht (eqI ?_)
       induction h7:(t.kind==7) with
       | true=>replace q:=h7▸q;exact q
       | false=>replace q:=h7▸q;exact q
theorem c_opens_sig (ht:TokAt σ a t) (h:t.kind=5->(t.text=="(")=false/\(t.text=="<")=false) (hD:2<=D) (q:k (.bool false) σ):CallV K D (fA K 98) [.ref a] k σ:=by
 have h1:(t.kind==5&&t.text=="(")=false:=by
  induction h5:(t.kind==5) with
  | false=>rfl
  | true=>exact (h (by simpa using h5)).1
 have h2:(t.kind==5&&t.text=="<")=false:=by
  induction h5:(t.kind==5) with
  | false=>rfl
  | true=>exact (h (by simpa using h5)).2
 exact cFn 98 1 (dl hD) (gFn 86 (is_token ht (Nat.le_sub_of_add_le hD) (qE h1 (truB (gFn 86 (is_token ht (Nat.le_sub_of_add_le hD) (qE h2 q)))))))
theorem c_index_sig (P:PSt σ e s) (ht:e.tks[s.at_]?=some t) (h:(t.kind==5&&t.text=="[")=false) (hD:3<=D) (q:k (.bool false) σ):CallV K D (fA K 99) [.ref e.p] k σ:=by
 exact cFn 99 1 (dl hD) (pM 4 P (c_is_sign P ht (Nat.le_sub_of_add_le hD) (qE h (truB q))))
theorem gNm {x:Str} {a:Addr} (h:K.mg x=some (.ref a)) {R:V->Prop} (q:R (.ref a)):∃ a v,K.mg x=some v/\a.At v/\R a:=⟨.ref a,.ref a,h,rfl,q⟩
theorem c_is_assign (ht:TokAt σ a t) (h:t.kind=5->assignS.any (·==t.text)=false) (hD:1<=D) (q:k (.bool false) σ):CallV K D (fA K 139) [.ref a] k σ:=by
 refine cFn 139 1 hD (getTok ht (eqI (truB ?_)))
 induction h5:(t.kind==5) with
 | false=>exact q
 | true=>
  exact getTok ht (ea1_2 (gtTS (K:=K) tabs_use.1.1.1.2) fun b hb hc=>gNm hb (inTupS (h00 hc) (qE (h (by simpa using h5)) q)))
noncomputable abbrev powM:Loc:=powersT.map fun p=>(p.1,.int p.2)
theorem c_power_some {n:Int} (ht:TokAt σ a t) (h5:t.kind=5) (hn:kget powM t.text=some (.int n)) (hD:1<=D) (q:∀ σ',E0 σ σ'->k (.int n) σ'):CallV K D (fA K 144) [.ref a] k σ:=by
 refine cFn 144 1 hD (ea1_3 (gdI (K:=K) tabs_use.1.1.1.1.1.1.2 (by decide +kernel)) fun b hb hc ho=>getTok ht (eqI (qE h5 (getTok ht (tp fun y fy=>?_)))))
 have x1:E0 σ (σ.fz y (.tup [.int 5,.int 2,.int 1])):=.fz fy
 refine inTupI (ls:=[5,2,1]) (hF fz_F) (qE h5 (getTok (ht.ex x1) (gNm hb (inD (h00 hc) (ho _) (qE hn (gNm hb (getTok (ht.ex x1) (⟨notPyD (h00 hc),itemD (h00 hc) hn ?_⟩))))))))
 exact q _ x1
theorem c_power_none (ht:TokAt σ a t) (h1:t.kind≠1) (h2:t.kind≠2) (hn:t.kind=5->kget powM t.text=none) (hD:1<=D) (q:∀ σ',E0 σ σ'->k (.int 0) σ'):CallV K D (fA K 144) [.ref a] k σ:=by
 refine cFn 144 1 hD (ea1_3 (gdI (K:=K) tabs_use.1.1.1.1.1.1.2 (by decide +kernel)) fun b hb hc ho=>getTok ht (eqI (qE (show (t.kind==1)=false by simpa using h1) (getTok ht (tp fun y fy=>?_)))))
 have x1:E0 σ (σ.fz y (.tup [.int 5,.int 2,.int 1])):=.fz fy
 refine inTupI (ls:=[5,2,1]) (hF fz_F) ?_
 induction h5:(t.kind==5) with
 | true=>
  have h5':t.kind=5:=by simpa using h5
  exact qE h5' (getTok (ht.ex x1) (gNm hb (inD (h00 hc) (ho _) (qE (hn h5') (q _ x1)))))
 | false=>
  refine qE (show [5,2,1].any (·==t.kind)=false by simp only [List.any_cons,List.any_nil,Bool.or_eq_false_iff,beq_eq_false_iff_ne] at h5 ⊢;exact ⟨fun h=>h5 h.symm,fun h=>h2 h.symm,fun h=>h1 h.symm,trivial⟩) ?_
  exact q _ x1
theorem c_is_unary {b:Bool} (ht:TokAt σ a t) (h:((t.kind==5||t.kind==2)&&unaryK.any (·==t.text))=b) (hD:1<=D) (q:k (.bool b) σ):CallV K D (fA K 150) [.ref a] k σ:=by
 refine cFn 150 1 hD ?_
 subst h
 have go:(t.kind==5||t.kind==2)=true->k (.bool (unaryK.any (·==t.text))) σ:=fun h=>by replace q:=h▸q;exact q
 refine ea1_2 (gtTS (K:=K) tabs_use.1.1.2) fun b hb hc=>getTok ht (neI ?_)
 induction h5:(t.kind != 5) with
 | false=>
  have h5':t.kind=5:=by simpa using h5
  replace go:=h5'▸go
  exact getTok ht (gNm hb (inTupS (h00 hc) (go rfl)))
 | true=>
  refine getTok ht (neI ?_)
  induction h2:(t.kind != 2) with
  | false=>
   have h2':t.kind=2:=by simpa using h2
   replace go:=h2'▸go
   exact getTok ht (gNm hb (inTupS (h00 hc) (go rfl)))
  | true=>
   have e5:(t.kind==5)=false:=by simpa using h5
   have e2:(t.kind==2)=false:=by simpa using h2
   replace q:=e2▸e5▸q
   exact q
theorem c_is_update (ht:TokAt σ a t) (h:t.kind=5->(t.text=="++")=false/\(t.text=="--")=false) (hD:1<=D) (q:k (.bool false) σ):CallV K D (fA K 151) [.ref a] k σ:=by
 refine cFn 151 1 hD (getTok ht (eqI (truB ?_)))
 induction h5:(t.kind==5) with
 | false=>exact q
 | true=>
  exact ea0_2 (h (by simpa using h5)) fun g1 g2=>getTok ht (eqS (qE g1 (truB (getTok ht (eqS (qE g2 q))))))
theorem c_is_template (ht:TokAt σ a t) (h6:t.kind≠6) (h7:t.kind≠7) (hD:1<=D) (q:k (.bool false) σ):CallV K D (fA K 157) [.ref a] k σ:=by
 exact cFn 157 1 hD (getTok ht (eqI (qE (show (t.kind==6)=false by simpa using h6) (truB (getTok ht (eqI (qE (show (t.kind==7)=false by simpa using h7) q)))))))
theorem c_check_chain {n:Int} {p:V} (hn:n<=60) (hD:1<=D) (q:k .none σ):CallV K D (fA K 87) [p,.int n] k σ:=by
 exact cFn 87 2 hD (gtF (by lia) q)
end
section
variable {t:Tok} {a:Addr} {tx:Str}
inductive Lf where
 | num (n:Nat)
 | str | tt | ff | nul | und | nam | ths | tpl
deriving Inhabited
structure Tk where
 kind:Int
 text:Str
 num:Int
deriving Inhabited
noncomputable def Tk.tok (x:Tk) (i:Nat) (line:Bool):Tok:=⟨x.kind,x.text,x.num,((3 * i+2:Nat):Int),((3 * i+2:Nat):Int)+2,line⟩
noncomputable def Lf.tk:Lf->Tk
 | .num n=>⟨3,toString (n:Int),n⟩
 | .str=>⟨4,"s",0⟩
 | .tt=>⟨2,"true",0⟩
 | .ff=>⟨2,"false",0⟩
 | .nul=>⟨2,"null",0⟩
 | .und=>⟨1,"undefined",0⟩
 | .nam=>⟨1,"v",0⟩
 | .ths=>⟨2,"this",0⟩
 | .tpl=>⟨6,"w",0⟩
noncomputable def Lf.kd:Lf->Int
 | .num _=>1 | .str=>2 | .tt=>4 | .ff=>5 | .nul=>6 | .und=>7 | .nam=>8 | .ths=>9 | .tpl=>3
noncomputable def Lf.av:Lf->Av
 | .num n=>.int n
 | .str=>.str "s"
 | .tt=>.str "" | .ff=>.str "" | .nul=>.str "" | .und=>.str ""
 | .nam=>.str "v"
 | .ths=>.str ""
 | .tpl=>.tup ["w"]
inductive T where
 | leaf (l:Lf)
 | sg (s:Str) (c:T)
 | tp1 (h:T)
 | tp2 (a b:T)
 | par (v:T)
 | sum (s:Str) (l r:T)
deriving Inhabited
noncomputable def sgTk (s:Str):Tk:=⟨if s=="typeof"||s=="void" then 2 else 5,s,0⟩
noncomputable def signs6:List Str:=["-","+","!","~","typeof","void"]
noncomputable def signs4:List Str:=["+","-","*","||"]
noncomputable def T.sz:T->Nat
 | .leaf _=>1
 | .sg _ c=>c.sz+1
 | .tp1 h=>h.sz+2
 | .tp2 a b=>a.sz+b.sz+3
 | .par v=>v.sz+2
 | .sum _ l r=>l.sz+r.sz+1
noncomputable def T.dp:T->Nat
 | .leaf _=>0
 | .sg _ c=>c.dp+1
 | .tp1 h=>h.dp+1
 | .tp2 a b=>max a.dp b.dp+1
 | .par v=>v.dp+1
 | .sum _ l r=>max l.dp r.dp
noncomputable def T.ok:Bool->T->Prop
 | _,.leaf _=>True
 | _,.sg s c=>s∈signs6/\c.ok true
 | _,.tp1 h=>h.ok true
 | _,.tp2 a b=>a.ok true/\b.ok true
 | _,.par v=>v.ok false
 | true,.sum _ _ _=>False
 | false,.sum s l r=>s∈signs4/\l.ok true/\r.ok true
theorem T.ok.val:∀ {t:T},t.ok true->t.ok false
 | .leaf _,h=>h
 | .sg ..,h=>h
 | .tp1 _,h=>h
 | .tp2 ..,h=>h
 | .par _,h=>h
 | .sum ..,h=>h.elim
noncomputable def T.kd:T->Int
 | .leaf l=>l.kd
 | .sg ..=>21
 | .tp1 _=>3
 | .tp2 ..=>3
 | .par _=>33
 | .sum s _ _=>if s=="||" then 24 else 23
noncomputable def T.av:T->Av
 | .leaf l=>l.av
 | .sg s _=>.str s
 | .tp1 _=>.tup ["h","t"]
 | .tp2 ..=>.tup ["h","m","t"]
 | .par _=>.str ""
 | .sum s _ _=>.str s
noncomputable def T.fo:T->Nat->Fo->Fo
 | .leaf l,i,r=>.nd l.kd l.av 0 ((3 * i+2:Nat):Int) .nil r
 | .sg s c,i,r=>.nd 21 (.str s) 0 ((3 * i+2:Nat):Int) (c.fo (i+1) .nil) r
 | .tp1 h,i,r=>.nd 3 (.tup ["h","t"]) 0 ((3 * i+2:Nat):Int) (h.fo (i+1) .nil) r
 | .tp2 a b,i,r=>.nd 3 (.tup ["h","m","t"]) 0 ((3 * i+2:Nat):Int) (a.fo (i+1) (b.fo (i+2+a.sz) .nil)) r
 | .par v,i,r=>.nd 33 (.str "") 0 ((3 * i+2:Nat):Int) (v.fo (i+1) .nil) r
 | .sum s l r',i,r=>.nd (if s=="||" then 24 else 23) (.str s) 0 ((3 * i+2:Nat):Int) (l.fo i (r'.fo (i+1+l.sz) .nil)) r
noncomputable def T.ks:T->Nat->Fo
 | .leaf l,i=>.nil
 | .sg s c,i=>c.fo (i+1) .nil
 | .tp1 h,i=>h.fo (i+1) .nil
 | .tp2 a b,i=>a.fo (i+1) (b.fo (i+2+a.sz) .nil)
 | .par v,i=>v.fo (i+1) .nil
 | .sum s l r',i=>l.fo i (r'.fo (i+1+l.sz) .nil)
theorem T.fo_eq (t:T) (i:Nat) (r:Fo):t.fo i r=.nd t.kd t.av 0 ((3 * i+2:Nat):Int) (t.ks i) r:=by cases t <;> rfl
noncomputable def T.On (L:List Tok):T->Nat->Prop
 | .leaf l,i=>L[i]?=some (l.tk.tok i false)
 | .sg s c,i=>L[i]?=some ((sgTk s).tok i false)/\c.On L (i+1)
 | .tp1 h,i=>L[i]?=some (Tk.tok ⟨7,"h",0⟩ i false)/\h.On L (i+1)/\L[i+1+h.sz]?=some (Tk.tok ⟨9,"t",0⟩ (i+1+h.sz) false)
 | .tp2 a b,i=>L[i]?=some (Tk.tok ⟨7,"h",0⟩ i false)/\a.On L (i+1)/\L[i+1+a.sz]?=some (Tk.tok ⟨8,"m",0⟩ (i+1+a.sz) false)/\b.On L (i+2+a.sz)/\L[i+2+a.sz+b.sz]?=some (Tk.tok ⟨9,"t",0⟩ (i+2+a.sz+b.sz) false)
 | .par v,i=>L[i]?=some (Tk.tok ⟨5,"(",0⟩ i false)/\v.On L (i+1)/\L[i+1+v.sz]?=some (Tk.tok ⟨5,")",0⟩ (i+1+v.sz) false)
 | .sum s l r,i=>l.On L i/\L[i+l.sz]?=some (Tk.tok ⟨5,s,0⟩ (i+l.sz) false)/\r.On L (i+1+l.sz)
structure FolU (t:Tok):Prop where
 n6:t.kind≠6
 n7:t.kind≠7
 up:t.kind=5->(t.text=="++")=false/\(t.text=="--")=false
 pw:(t.kind==5&&t.text=="**")=false
structure FolV (t:Tok):Prop extends FolU t where
 n2:t.kind≠2
 np:t.kind=5->kget powM t.text=none
 nq:(t.kind==5&&t.text=="?")=false
 na:t.kind=5->assignS.any (·==t.text)=false
 ln:t.kind=1->t.text.length<=100
theorem FoAt.one {t:T} {i:Nat} {l:List V} (h:FoAt σ (t.fo i .nil) l):∃ x av ks,l=[.ref x]/\t.av.At σ av/\NodeAt σ x t.kd av ks 0 ((3 * i+2:Nat):Int)/\FoAt σ (t.ks i) ks:=by
 rw [T.fo_eq] at h
 refine ea4_5 h fun x l' av ks z1 h2 h3 h4 h5=>?_;clear h;subst z1
 cases h5
 exact ⟨x,av,ks,rfl,h2,h3,h4⟩
theorem FoAt.mk {t:T} {i:Nat} {x:Addr} {av:V} {ks:List V} {r:Fo} {l:List V} (h2:t.av.At σ av) (h3:NodeAt σ x t.kd av ks 0 ((3 * i+2:Nat):Int)) (h4:FoAt σ (t.ks i) ks) (h5:FoAt σ r l):FoAt σ (t.fo i r) (.ref x::l):=by
 rw [T.fo_eq];exact ⟨x,l,av,ks,rfl,h2,h3,h4,h5⟩
theorem T.size_le:∀ (t:T) (i:Nat) (r:Fo),(t.fo i r).size<=t.sz+r.size
 | .leaf l,i,r=>by show 0+r.size+1<=1+r.size;lia
 | .sg s c,i,r=>by have:_<=_+0:=T.size_le c (i+1) .nil;show Fo.size _+r.size+1<=c.sz+1+r.size;lia
 | .tp1 h,i,r=>by have:_<=_+0:=T.size_le h (i+1) .nil;show Fo.size _+r.size+1<=h.sz+2+r.size;lia
 | .tp2 a b,i,r=>by
  have h1:=T.size_le a (i+1) (b.fo (i+2+a.sz) .nil)
  have h2:_<=_+0:=T.size_le b (i+2+a.sz) .nil
  show Fo.size _+r.size+1<=a.sz+b.sz+3+r.size;lia
 | .par v,i,r=>by have:_<=_+0:=T.size_le v (i+1) .nil;show Fo.size _+r.size+1<=v.sz+2+r.size;lia
 | .sum s l r',i,r=>by
  have h1:=T.size_le l i (r'.fo (i+1+l.sz) .nil)
  have h2:_<=_+0:=T.size_le r' (i+1+l.sz) .nil
  show Fo.size _+r.size+1<=l.sz+r'.sz+1+r.size;lia
inductive Stk (σ:Sg):Nat->List V->Prop
 | nil:Stk σ 0 []
 | snoc {n l y v f lv}:Stk σ n l->σ.F y=some (.tup [v,.int lv])->FoAt σ f [v]->lv+(f.size:Int)<=160->Stk σ (n+f.size) (l++[.ref y])
theorem Stk.ex {X} {n l} (h:Stk σ n l) (x:Ex X σ σ'):Stk σ' n l:=by
 induction h with
 | nil=>exact .nil
 | snoc h h1 h2 h3 ih=>exact .snoc ih (x.f _ _ h1) (h2.ex x) h3
theorem Stk.len {n l} (h:Stk σ n l):l.length<=n:=by
 induction h with
 | nil=>exact Nat.le_refl _
 | @snoc n l y v f lv h h1 h2 h3 ih=>
  have:1<=f.size:=by
   induction f with
   | nil=>injection h2
   | non r=>simp only [Fo.size];lia
   | nd=>simp only [Fo.size];lia
  refine qE List.length_append (qE List.length_singleton ?_);lia
theorem Fo.size_pos {f:Fo} {v:V} {l:List V} (h:FoAt σ f (v::l)):1<=f.size:=by
 induction f with
 | nil=>injection h
 | non r=>simp only [Fo.size];lia
 | nd=>simp only [Fo.size];lia
theorem FoAt.uncons {f:Fo} {v:V} {l:List V} (h:FoAt σ f (v::l)):∃ g r,FoAt σ g [v]/\FoAt σ r l/\f.size=g.size+r.size:=by
 induction f with
 | nil=>injection h
 | non r=>refine ea1_2 h fun l' e h2=>?_;clear h;cases e;exact ⟨.non .nil,r,⟨[],rfl,rfl⟩,h2,by simp only [Fo.size];lia⟩
 | nd kind a flags at_ kids r=>refine ea4_5 h fun x l' av ks e h2 h3 h4 h5=>?_;clear h;cases e;exact ⟨.nd kind a flags at_ kids .nil,r,⟨x,[],av,ks,rfl,h2,h3,h4,rfl⟩,h5,by simp only [Fo.size];lia⟩
theorem FoAt.cases1 {f:Fo} {v:V} (h:FoAt σ f [v]):(v=.none/\f=.non .nil)\/∃ x kind a flags at_ kids av ks,v=.ref x/\f=.nd kind a flags at_ kids .nil/\a.At σ av/\NodeAt σ x kind av ks flags at_/\FoAt σ kids ks:=by
 have e0:∀ (r:Fo),FoAt σ r []->r=.nil:=fun r h=>by
  induction r with
  | nil=>rfl
  | non r=>refine ea1_2 h fun l' e ξ=>?_;clear h;injection e
  | nd=>refine ea4_1 h fun x l' av ks y24=>?_;refine ea0_2 y24 fun e ξ=>?_;clear y24;clear h;injection e
 induction f with
 | nil=>injection h
 | non r=>refine ea1_2 h fun l' e h2=>?_;clear h;cases e;refine qE (e0 _ h2) ?_;exact .inl ⟨rfl,rfl⟩
 | nd kind a flags at_ kids r=>refine ea4_5 h fun x l' av ks e h2 h3 h4 h5=>?_;clear h;cases e;refine qE (e0 _ h5) ?_;exact .inr ⟨x,kind,a,flags,at_,kids,av,ks,rfl,rfl,h2,h3,h4⟩
end
section
variable {t:Tok} {a:Addr} {tx:Str}
theorem Ex.setN {X} {z:Addr} {c:Cell} (x:Ex X σ σ') (h:σ.M z=none):Ex X σ (σ'.set z c):=⟨x.f,fun a c' e n=>(upd_other (by rintro rfl;replace e:=h▸e;injection e)).trans (x.m _ _ e n)⟩
theorem Stk.last {n:Nat} {l:List V} (h:Stk σ n l) (hl:l≠[]):∃ n' l' y v f lv,l=l'++[.ref y]/\n=n'+f.size/\Stk σ n' l'/\σ.F y=some (.tup [v,.int lv])/\FoAt σ f [v]/\lv+(f.size:Int)<=160:=by
 induction h with
 | nil=>exact absurd rfl hl
 | snoc h1 h2 h3 h4=>exact ⟨_,_,_,_,_,_,rfl,rfl,h1,h2,h3,h4⟩
theorem c_check_height {p:V} {v:V} {f:Fo} (hf:FoAt σ f [v]) (hs:f.size<=150) (hD:1<=D) (q:∀ σ',E0 σ σ'->k .none σ'):CallV K D (fA K 88) [p,v] k σ:=by
 revert hf hs hD q;revert K D σ k p v f;refine no_implicit_lambda% (al7 (n:=⟨(kc0,default)⟩) ?_);generalize et7 _ _=υ;generalize υ.1=K,υ.2.1=D,υ.2.2.1=σ,υ.2.2.2.1=k,υ.2.2.2.2.1=p,υ.2.2.2.2.2.1=v,υ.2.2.2.2.2.2=f;clear υ;intro hf hs hD q
 refine cFn 88 2 hD (tp fun y fy=>?_)
 revert fy;revert y;refine al1 ?_;generalize et1 _ _=y;intro fy
 refine tp fun z fz=>?_
 revert fz;revert z;refine al1 ?_;generalize et1 _ _=z;intro fz
 have x1:E0 σ ((σ.fz y (.tup [v,.int 1])).set z (.list [.ref y])):=(Ex.fz fy).trans (.new fz)
 have hz:σ.M z=none:=fz.fz.1.1
 have st0:Stk ((σ.fz y (.tup [v,.int 1])).set z (.list [.ref y])) (0+f.size) ([]++[.ref y]):=.snoc .nil (show (σ.fz y (.tup [v,.int 1])).F y=_ from fz_F) (hf.ex x1) (by lia)
 refine whilI 3 (fun n m' σ'=>m'=([("p",p),("root",v),("stack",.ref z)]:Loc)/\∃ l,σ'.M z=some (.list l)/\E0 σ σ'/\Stk σ' n l/\n<=150) f.size ⟨rfl,_,set_M,x1,by simpa using st0,hs⟩ ?_
 intro I hin n m' σ1 z1;refine ea0_2 z1 fun z2 z3=>?_;clear z1;subst z2;refine ea1_4 z3 fun l hz1 x1 hst hn=>?_;clear z3
 have hl:=hst.len
 refine truL (hM hz1) (by lia) ?_
 induction hl0:l using List.casesOn with
 | nil=>exact q _ x1
 | cons v0 l0=>
  refine ea6_1 (hst.last (by refine qE hl0 ?_;simp)) fun n' l' y v' g lv y9=>?_;refine ea0_6 y9 fun e1 e2 hst' hy hg hlv=>?_;clear y9
  refine qB hl0 (qE e1 (qE (show (!(l'++[V.ref y]).isEmpty)=true from by simp) ?_))
  rw [e1] at hz1 hl
  replace hl:=List.length_append▸hl
  have hgp:=Fo.size_pos hg
  have hl':=hst'.len
  refine ⟨_,(mPop (hM hz1)).1,(mPop (hM hz1)).2,?_⟩
  refine cPop hz1 (by lia) ?_
  have x2:E0 σ (σ1.set z (.list l')):=x1.setN hz
  have x12:Ex (fun a=>a=z) σ1 (σ1.set z (.list l')):=.set rfl
  refine ⟨rfl,unpT (hF (x12.f _ _ hy)) rfl ?_⟩
  refine ⟨rfl,?_⟩
  have hst2:=hst'.ex x12
  have hg2:=hg.ex x12
  refine isN ?_
  rcases hg2.cases1 with ⟨rfl,rfl⟩ | ⟨x,kind,av,flags,at_,kids,av',ks,rfl,rfl,h2,h3,h4⟩
  · refine ⟨n',by simp only [Fo.size] at e2;lia,hin _ _ _ ⟨rfl,l',set_M,x2,hst2,by lia⟩⟩
  · have hks:kids.size+1+n'=n/\lv+1+(kids.size:Int)<=160:=by simp only [Fo.size] at e2 hlv;constructor <;> lia
    refine gtF (by lia) ?_
    refine getNode h3 fun kl hkl=>forI 5 (.list kl) ks (fun rem m2 σ3=>m2=([("p",p),("root",v),("stack",.ref z),("node",.ref x),("level",.int lv)]:Loc)/\σ3.F kl=some (.list ks)/\E0 σ σ3/\∃ l3 n3 g3,σ3.M z=some (.list l3)/\Stk σ3 n3 l3/\FoAt σ3 g3 rem/\n3+g3.size=n'+kids.size/\lv+1+(g3.size:Int)<=160)
     ⟨rfl,hkl,x2,l',n',kids,set_M,hst2,h4,rfl,hks.2⟩ (fun rem m2 σ3 h=>hF h.2.1) ?_ ?_
    · intro I2 hin2 v3 rem m2 σ3 z1;refine ea0_4 z1 fun z2 hkl3 x3 z3=>?_;clear z1;subst z2;refine ea3_5 z3 fun l3 n3 g3 hz3 hst3 hg3 hn3 hlv3=>?_;clear z3
      refine ea2_3 hg3.uncons fun ga gb hga hgb hsz=>?_
      have hl3:=hst3.len
      refine ⟨_,(mAppend (hM hz3)).1,(mAppend (hM hz3)).2,?_⟩
      refine addI (tp fun y4 fy4=>?_)
      have hz4:(σ3.fz y4 (.tup [v3,.int (lv+1)])).M z=some (.list l3):=hz3
      refine cAppend hz4 (by lia) ?_
      have x34:Ex (fun a=>a=z) σ3 ((σ3.fz y4 (.tup [v3,.int (lv+1)])).set z (.list (l3++[.ref y4]))):=(Ex.fz fy4).trans (.set rfl)
      have x4:E0 σ ((σ3.fz y4 (.tup [v3,.int (lv+1)])).set z (.list (l3++[.ref y4]))):=(x3.trans (Ex.fz fy4)).setN hz
      refine hin2 _ _ _ ⟨rfl,x34.f _ _ hkl3,x4,_,n3+ga.size,gb,set_M,.snoc (hst3.ex x34) (show (σ3.fz y4 _).F y4=_ from fz_F) (hga.ex x34) (by lia),hgb.ex x34,by lia,by lia⟩
    · intro m2 σ3 z1;refine ea0_4 z1 fun z2 hkl3 x3 z3=>?_;clear z1;subst z2;refine ea3_5 z3 fun l3 n3 g3 hz3 hst3 hg3 hn3 hlv3=>?_;clear z3
      refine ⟨n3,by lia,hin _ _ _ ⟨rfl,l3,hz3,x3,hst3,by lia⟩⟩
end
section
variable {t:Tok} {a:Addr} {tx:Str} {v:T}
noncomputable def Yield (e:Pe) (s:Ps) (v:T) (k:V->Sg->Prop) (σ:Sg):Prop:=∀ x σ' r,PSt σ' e { s with at_:=s.at_+v.sz,ret:=r }->FoAt σ' (v.fo s.at_ .nil) [.ref x]->Px e σ σ'->k (.ref x) σ'
noncomputable def FolBy (F:Tok->Prop) (e:Pe) (i:Nat):Prop:=∃ f,e.tks[i]?=some f/\F f
theorem FolBy.u {i:Nat} (h:FolBy FolV e i):FolBy FolU e i:=let ⟨f,h1,h2⟩:=h;⟨f,h1,h2.toFolU⟩
noncomputable def CU (K:Kc) (e:Pe) (v:T):Prop:=∀ {D σ} {s:Ps} {k:V->Sg->Prop},PSt σ e s->v.On e.tks s.at_->FolBy FolU e (s.at_+v.sz)->1<=s.deep->s.deep+v.dp<=40->12 * v.dp+20<=D->Yield e s v k σ->CallV K D (fA K 152) [.ref e.p] k σ
noncomputable def CB (K:Kc) (e:Pe) (v:T):Prop:=∀ {D σ} {s:Ps} {k:V->Sg->Prop},PSt σ e s->v.On e.tks s.at_->FolBy FolV e (s.at_+v.sz)->1<=s.deep->s.deep+v.dp<=40->12 * v.dp+21<=D->Yield e s v k σ->CallV K D (fA K 146) [.ref e.p] k σ
noncomputable def CW (K:Kc) (e:Pe) (v:T):Prop:=∀ {D σ} {s:Ps} {k:V->Sg->Prop},PSt σ e s->v.On e.tks s.at_->FolBy FolV e (s.at_+v.sz)->1<=s.deep->s.deep+v.dp<=40->12 * v.dp+22<=D->Yield e s v k σ->CallV K D (fA K 138) [.ref e.p] k σ
noncomputable def CP (K:Kc) (e:Pe) (v:T):Prop:=∀ {D σ} {s:Ps} {k:V->Sg->Prop},PSt σ e s->v.On e.tks s.at_->FolBy FolV e (s.at_+v.sz)->0<=s.deep->s.deep+v.dp+1<=40->v.sz<=140->12 * v.dp+24<=D->Yield e s v k σ->CallV K D (.ref (mAd K 84 21)) [.ref e.p,.int 2] k σ
theorem ruleM (i b j:Nat) {attrs:List Str} {cls name:Str} {m:Loc} {R:Value->Prop} (ct:CT K cls attrs) (r:Rule σ a cls m) (h:(mOk2 i b j&&(mt i j).name==name&&fName (stAt i)==cls)=true) (hm:m.get name=none) (q:R (.ref (mAd K i j))):∃ fv,MethIs K σ (.ref a) name fv/\FV K fv/\R fv:=by
 rw [Bool.and_eq_true,Bool.and_eq_true,beq_iff_eq,beq_iff_eq] at h
 refine ea0_2 h fun z1 z3=>?_;clear h;refine ea0_2 z1 fun h1 z2=>?_;clear z1;subst z2;subst z3
 obtain ⟨d,r1,r2⟩:=r
 have:=mIs (K:=K) (σ:=σ) (i:=i) (j:=j) ct (m_at2 h1) (hF r1) (hF r2) hm
 exact ⟨_,this.1,this.2,q⟩
theorem c_power_here (P:PSt σ e s) (h:FolBy FolV e s.at_) (hD:2<=D) (q:∀ σ',E0 σ σ'->k (.int 0) σ'):CallV K D (fA K 145) [.ref e.p] k σ:=by
 refine ea1_2 h fun t ht f=>?_;clear h
 refine cFn 145 1 (dl hD) (pM 1 P (c_now P ht (Nat.le_sub_of_add_le hD) fun a ha=>getTok ha (eqI (qE (show (t.kind==2)=false by simpa using f.n2) (getTok ha (eqI ?_))))))
 induction h1:(t.kind==1) with
 | false=>
  exact gFn 144 (c_power_none ha (by simpa using h1) f.n2 f.np (Nat.le_sub_of_add_le hD) fun σ1 x1=>q σ1 x1)
 | true=>
  refine getTok ha (addS (by have:=f.ln (by simpa using h1);have:Str.length "#"=1:=(by decide +kernel);lia) ?_)
  exact getP P (niD (hF P.pf.tt) (oF P.pf.tt) (q σ .refl))
theorem c_power_sign {n:Int} {x:Tk} {i:Nat} {l:Bool} (P:PSt σ e s) (ht:e.tks[s.at_]?=some (x.tok i l)) (h5:x.kind=5) (hn:kget powM x.text=some (.int n)) (hD:2<=D) (q:∀ σ',E0 σ σ'->k (.int n) σ'):CallV K D (fA K 145) [.ref e.p] k σ:=by
 refine cFn 145 1 (dl hD) (pM 1 P (c_now P ht (Nat.le_sub_of_add_le hD) fun a ha=>getTok ha (eqI ?_)))
 rw [show ((x.tok i l).kind==2)=false by show (x.kind==2)=false;refine qE h5 ?_;rfl]
 refine getTok ha (eqI ?_)
 rw [show ((x.tok i l).kind==1)=false by show (x.kind==1)=false;refine qE h5 ?_;rfl]
 exact gFn 144 (c_power_some ha h5 hn (Nat.le_sub_of_add_le hD) fun σ1 x1=>q σ1 x1)
theorem cb_op (h:v.ok true) (hu:CU K e v):CB K e v:=by
 intro D σ s k P ho hf h1 h40 hD q
 refine cFn 146 1 (dl hD) (gFn 152 (hu P ho hf.u h1 h40 (Nat.le_sub_of_add_le hD) fun x σ1 r P1 f1 x1=>tp fun y fy=>tp fun z fz=>?_))
 have hyz:y≠z:=fz.neM set_M
 have x2:Px e σ1 ((σ1.set y (.list [.ref x])).set z (.list [])):=(Ex.new fy).trans (.new fz)
 have P2:=(P1.new (c:=.list [.ref x]) fy).new (c:=.list []) fz
 have hy2:((σ1.set y (.list [.ref x])).set z (.list [])).M y=some (.list [.ref x]):=(upd_other hyz).trans set_M
 have hz2:((σ1.set y (.list [.ref x])).set z (.list [])).M z=some (.list []):=set_M
 revert hz2;revert hy2;revert x2;revert P2;refine gn ((σ1.set y (.list [.ref x])).set z (.list [])) fun σ2 P2 x2 hy2 hz2=>?_
 refine ⟨40,fun n m' σ'=>m'=([("p",.ref e.p),("nodes",.ref y),("signs",.ref z),("links",.int 0)]:Loc)/\σ'=σ2,0,⟨rfl,rfl⟩,?_⟩
 intro n m' σ' z1;refine ea0_2 z1 fun z2 z3=>?_;clear z1;subst z2;subst z3
 refine truB (gFn 145 (c_power_here P2 hf (dn hD) fun σ3 x3=>?_))
 have P3:=P2.e0 x3
 have hz3:=x3.m _ _ hz2 id
 have hy3:=x3.m _ _ hy2 id
 refine ⟨40,fun n m' σ'=>m'=([("p",.ref e.p),("nodes",.ref y),("signs",.ref z),("links",.int 0),("power",.int 0)]:Loc)/\σ'=σ3,0,⟨rfl,rfl⟩,?_⟩
 intro n m' σ' z1;refine ea0_2 z1 fun z2 z3=>?_;clear z1;subst z2;subst z3
 refine truL (hM hz3) (nb rfl) (eqI (⟨notPyL (hM hy3),itemL' 0 (hM hy3) rfl rfl (by lia) ?_⟩))
 exact q x σ' r P3 (f1.ex (x2.trans x3.px)) ((x1.trans x2).trans x3.px)
structure Sg4 (s:Str) (n:Int):Prop where
 pw:kget powM s=some (.int n)
 pos:0<n
 q2:(s=="??")=false
 lg:decide (n<=3)=(s=="||")
 u1:(s=="++")=false
 u2:(s=="--")=false
 u3:(s=="**")=false
theorem sg4 {s:Str} (h:s∈signs4):∃ n,Sg4 s n:=by
 simp only [signs4,List.mem_cons,List.not_mem_nil,or_false] at h
 rcases h with rfl | rfl | rfl | rfl
 · exact ⟨9,by decide +kernel,by decide,by decide +kernel,by decide +kernel,by decide +kernel,by decide +kernel,by decide +kernel⟩
 · exact ⟨9,by decide +kernel,by decide,by decide +kernel,by decide +kernel,by decide +kernel,by decide +kernel,by decide +kernel⟩
 · exact ⟨10,by decide +kernel,by decide,by decide +kernel,by decide +kernel,by decide +kernel,by decide +kernel,by decide +kernel⟩
 · exact ⟨2,by decide +kernel,by decide,by decide +kernel,by decide +kernel,by decide +kernel,by decide +kernel,by decide +kernel⟩
theorem Sg4.fol {s:Str} {n:Int} (h:Sg4 s n) (i:Nat):FolU (Tk.tok ⟨5,s,0⟩ i false):=
 ⟨by show (5:Int)≠6;decide,by show (5:Int)≠7;decide,fun ξ=>⟨h.u1,h.u2⟩,by show ((5:Int)==5&&s=="**")=false;refine qE h.u3 ?_;rfl⟩
theorem c_binds_first {n:Int} (ht:TokAt σ a t) (h5:t.kind=5) (hn:kget powM t.text=some (.int n)) (hp:0<n) (hD:2<=D) (q:∀ σ',E0 σ σ'->k (.bool true) σ'):CallV K D (fA K 147) [.ref a,.int 0] k σ:=by
 refine cFn 147 2 (dl hD) (gFn 144 (c_power_some ht h5 hn (Nat.le_sub_of_add_le hD) fun σ1 x1=>eqI (qE (show (n==0)=false by rw [beq_eq_false_iff_ne];lia) ?_)))
 exact gtI (qE (show decide ((0:Int)<n)=true from decide_eq_true hp) (q σ1 x1))
theorem E0.of {y:Addr} {c:Cell} (fy:Fresh σ y) (h:Ex (fun a=>a=y) (σ.set y c) σ'):E0 σ σ':=⟨fun a c e=>h.f _ _ e,fun a c e ξ=>h.m _ _ ((upd_other (fy.neM e)).trans e) (fy.neM e)⟩
theorem c_join {w:Str} {n:Int} {p:V} {sg xl xr:Addr} {kl al:Int} {vl:V} {ksl:List V} {fl:Int} (ht:TokAt σ sg t) (hw:t.text=w) (h4:Sg4 w n) (hl:NodeAt σ xl kl vl ksl fl al) (hD:4<=D)
 (q:∀ x σ',NodeAt σ' x (if w=="||" then 24 else 23) (.str w) [.ref xl,.ref xr] 0 al->E0 σ σ'->k (.ref x) σ'):CallV K D (fA K 148) [p,.ref sg,.ref xl,.ref xr] k σ:=by
 subst hw
 refine cFn 148 4 (dl hD) (ea1_3 (gdI (K:=K) tabs_use.1.1.1.1.1.1.2 (by decide +kernel)) fun b hb hc ho=>getTok ht (eqS (qE h4.q2 (gNm hb (getTok ht (⟨notPyD (h00 hc),itemD (h00 hc) h4.pw ?_⟩))))))
 refine leI (qE (show decide (n<=3)=(t.text=="||") from h4.lg) ?_)
 induction hb:(t.text=="||") with
 | true=>
  replace q:=hb▸q
  refine gFn 47 (getTok ht (tp fun y fy=>?_))
  have x1:E0 σ (σ.set y (.list [.ref xl,.ref xr])):=.new fy
  exact getNode (hl.ex x1) fun kl' hkl=>c_twig set_M (Nat.le_sub_of_add_le hD) fun x σ' h1 h2=>q x σ' h1 (E0.of fy h2)
 | false=>
  replace q:=hb▸q
  refine gFn 47 (getTok ht (tp fun y fy=>?_))
  have x1:E0 σ (σ.set y (.list [.ref xl,.ref xr])):=.new fy
  exact getNode (hl.ex x1) fun kl' hkl=>c_twig set_M (Nat.le_sub_of_add_le hD) fun x σ' h1 h2=>q x σ' h1 (E0.of fy h2)
end
section
variable {t:Tok} {a:Addr} {tx:Str} {v:T}
theorem FoAt.cat {f:Fo} {t:T} {i:Nat} {x:Addr} {l:List V} (h:FoAt σ (t.fo i .nil) [.ref x]) (h2:FoAt σ f l):FoAt σ (t.fo i f) (.ref x::l):=by
 refine ea3_4 h.one fun x' av ks e h3 h4 h5=>?_
 cases e
 exact .mk h3 h4 h5 h2
theorem cb_sum {w:Str} {l r:T} (h:T.ok false (.sum w l r)) (hl:CU K e l) (hr:CU K e r):CB K e (.sum w l r):=by
 revert h hl hr;revert K e w l r;refine no_implicit_lambda% (al5 (n:=⟨(kc0,default)⟩) ?_);generalize et5 _ _=υ;generalize υ.1=K,υ.2.1=e,υ.2.2.1=w,υ.2.2.2.1=l,υ.2.2.2.2=r;clear υ;intro h hl hr
 intro D σ s k P ho hf h1 h40 hD q
 revert P ho hf h1 h40 hD q;revert D σ s k;refine no_implicit_lambda% (al4 ?_);generalize et4 _ _=υ;generalize υ.1=D,υ.2.1=σ,υ.2.2.1=s,υ.2.2.2=k;clear υ;intro P ho hf h1 h40 hD q
 refine ea0_3 h fun hw okl okr=>?_;clear h
 refine ea1_1 (sg4 hw) fun n h4=>?_
 revert h4;revert n;refine al1 ?_;generalize et1 _ _=n;intro h4
 refine ea0_3 ho fun hol hos hor=>?_;clear ho
 have hdp:(T.sum w l r).dp=max l.dp r.dp:=rfl
 replace h40:=hdp▸h40;replace hD:=hdp▸hD;clear hdp
 have hdl:l.dp<=max l.dp r.dp:=Nat.le_max_left ..
 have hdr:r.dp<=max l.dp r.dp:=Nat.le_max_right ..
 refine cFn 146 1 (dl hD) (gFn 152 (hl P hol ⟨_,hos,h4.fol _⟩ h1 (by lia) (show 12 * l.dp+20<=D-1 by lia) fun xl σ1 rt P1 f1 x1=>?_))
 revert P1 f1 x1;revert xl σ1 rt;refine al3 ?_;generalize et3 _ _=υ;generalize υ.1=xl,υ.2.1=σ1,υ.2.2=rt;clear υ;intro P1 f1 x1
 refine tp fun y fy=>?_
 revert fy;revert y;refine al1 ?_;generalize et1 _ _=y;intro fy
 refine tp fun z fz=>?_
 revert fz;revert z;refine al1 ?_;generalize et1 _ _=z;intro fz
 have hyz:y≠z:=fz.neM set_M
 have x2:E0 σ1 ((σ1.set y (.list [.ref xl])).set z (.list [])):=(Ex.new fy).trans (.new fz)
 have P2:=(P1.new (c:=.list [.ref xl]) fy).new (c:=.list []) fz
 have nyd:=fy.neM P1.pd
 have nzd:=fz.set.1.neM P1.pd
 have nyr:e.rl≠y:=by refine ea1_2 P1.rl fun rr h ξ=>?_;exact fy.neM h
 have nzr:e.rl≠z:=by refine ea1_2 P1.rl fun rr h ξ=>?_;exact fz.set.1.neM h
 have ny:¬ PX e y:=by rintro (h | h);exact nyd h.symm;exact nyr h.symm
 have nz:¬ PX e z:=by rintro (h | h);exact nzd h.symm;exact nzr h.symm
 have hy2:((σ1.set y (.list [.ref xl])).set z (.list [])).M y=some (.list [.ref xl]):=(upd_other hyz).trans set_M
 have hz2:((σ1.set y (.list [.ref xl])).set z (.list [])).M z=some (.list []):=set_M
 have f2:=f1.ex x2
 have x12:Px e σ ((σ1.set y (.list [.ref xl])).set z (.list [])):=x1.trans x2.px
 have ny0:σ.M y=none:=by
  induction hh:σ.M y with
  | none=>rfl
  | some c=>have:=x1.m _ _ hh ny;replace this:=fy.1▸this;injection this
 have nz0:σ.M z=none:=by
  induction hh:σ.M z with
  | none=>rfl
  | some c=>have:=x1.m _ _ hh nz;replace this:=fz.set.1.1▸this;injection this
 revert x12;revert f2;revert hz2;revert hy2;revert x2;revert P2;refine gn ((σ1.set y (.list [.ref xl])).set z (.list [])) fun σ2 P2 x2 hy2 hz2 f2 x12=>?_
 revert P2 x2 hy2 hz2 f2 x12;revert σ2;refine al1 ?_;generalize et1 _ _=σ2;intro P2 x2 hy2 hz2 f2 x12
 refine whilI 40 (fun n' m' σ'=>(n'=1/\m'=([("p",.ref e.p),("nodes",.ref y),("signs",.ref z),("links",.int 0)]:Loc)/\σ'=σ2)\/(n'=0/\m'=([("p",.ref e.p),("nodes",.ref y),("signs",.ref z),("links",.int 1),("power",.int n)]:Loc) ∧
  ∃ xr sg rt,PSt σ' e { s with at_:=s.at_+l.sz+1+r.sz,ret:=rt }/\σ'.M y=some (.list [.ref xl,.ref xr])/\σ'.M z=some (.list [.ref sg])/\TokAt σ' sg (Tk.tok ⟨5,w,0⟩ (s.at_+l.sz) false)/\FoAt σ' (l.fo s.at_ .nil) [.ref xl]/\FoAt σ' (r.fo (s.at_+1+l.sz) .nil) [.ref xr]/\Px e σ σ')) 1 (.inl ⟨rfl,rfl,rfl⟩) ?_
 rintro I1 hin1 n' m' σ' (⟨rfl,rfl,rfl⟩ | ⟨rfl,rfl,xr,sg,rt3,P3,hy3,hz3,ht3,fl3,fr3,x3⟩)
 · refine truB (gFn 145 (c_power_sign P2 hos rfl h4.pw (dn hD) fun σ3 x3=>?_))
   have P3:=P2.e0 x3
   have hy3:=x3.m _ _ hy2 id
   have hz3:=x3.m _ _ hz2 id
   refine whilI 40 (fun n' m' σ'=>m'=([("p",.ref e.p),("nodes",.ref y),("signs",.ref z),("links",.int 0),("power",.int n)]:Loc)/\σ'=σ3) 0 ⟨rfl,rfl⟩ ?_
   intro I3 hin3 n' m' σ' z1;refine ea0_2 z1 fun z2 z3=>?_;clear z1;subst z2;subst z3
   refine truL (hM hz3) (nb rfl) (eqI (qE (show (n==0)=false by have:=h4.pos;rw [beq_eq_false_iff_ne];lia) ?_))
   refine iaddI (gFn 87 (c_check_chain (by decide) (dn hD) (pM 1 P3 (c_now P3 hos (dn hD) fun a3 ha3=>getTok ha3 (eqI (⟨_,(mAppend (hM hz3)).1,(mAppend (hM hz3)).2,?_⟩))))))
   refine pM 3 P3 (c_step P3 hos (by show (5:Int)≠0;decide) (dn hD) fun sg σ4 ht4 P4 x4=>?_)
   have hz4:=x4.m _ _ hz3 nz
   have hy4:=x4.m _ _ hy3 ny
   refine cAppend hz4 (nb rfl) ?_
   have P5:PSt (σ4.set z (.list ([]++[.ref sg]))) e { s with at_:=s.at_+l.sz+1,ret:=rt }:=P4.ex (X:=fun a=>a=z) (.set rfl) nzd nzr
   have x45:Ex (fun a=>a=z) σ4 (σ4.set z (.list ([]++[.ref sg]))):=.set rfl
   have hy5:=x45.m _ _ hy4 hyz
   have hz5:(σ4.set z (.list ([]++[.ref sg]))).M z=some (.list [.ref sg]):=set_M
   have x05:Px e σ (σ4.set z (.list ([]++[.ref sg]))):=((x12.trans x3.px).trans x4).setN nz0
   have f5:=((f2.ex x3).ex x4).ex x45
   have ht5:=ht4.ex x45
   revert ht5;revert f5;revert x05;revert hz5;revert hy5;revert x45;revert P5;refine gn (σ4.set z (.list ([]++[.ref sg]))) fun σ5 P5 x45 hy5 hz5 x05 f5 ht5=>?_
   refine ⟨_,(mAppend (hM hy5)).1,(mAppend (hM hy5)).2,?_⟩
   refine gFn 152 ?_
   have e1:s.at_+l.sz+1=s.at_+1+l.sz:=by lia
   have e2:s.at_+(T.sum w l r).sz=s.at_+l.sz+1+r.sz:=by simp only [T.sz];lia
   refine hr P5 (by show r.On e.tks (s.at_+l.sz+1);refine qE e1 ?_;exact hor) (by show FolBy FolU e (s.at_+l.sz+1+r.sz);refine qB e2 ?_;exact hf.u) h1 (show s.deep+r.dp<=40 by lia) (show 12 * r.dp+20<=D-1 by lia) fun xr σ6 r6 P6 f6 x6=>?_
   have hy6:=x6.m _ _ hy5 ny
   have hz6:=x6.m _ _ hz5 nz
   refine cAppend hy6 (nb rfl) ?_
   have x67:Ex (fun a=>a=y) σ6 (σ6.set y (.list [.ref xl,.ref xr])):=.set rfl
   refine ⟨0,Nat.zero_lt_one,hin1 _ _ _ (.inr ⟨rfl,rfl,xr,sg,r6,P6.ex x67 nyd nyr,set_M,x67.m _ _ hz6 hyz.symm,(ht5.ex x6).ex x67,(f5.ex x6).ex x67,?_,(x05.trans x6).setN ny0⟩)⟩
   refine qB e1 ?_;exact f6.ex x67
 · have e2:s.at_+(T.sum w l r).sz=s.at_+l.sz+1+r.sz:=by simp only [T.sz];lia
   refine truB (gFn 145 (c_power_here P3 (by show FolBy FolV e (s.at_+l.sz+1+r.sz);refine qB e2 ?_;exact hf) (dn hD) fun σ4 x4=>?_))
   have P4:=P3.e0 x4
   have hy4:=x4.m _ _ hy3 id
   have hz4:=x4.m _ _ hz3 id
   have ht4:=ht3.ex x4
   have fl4:=fl3.ex x4
   have fr4:=fr3.ex x4
   have x04:=x3.trans x4.px
   refine whilI 40 (fun n' m' σ'=>(n'=1/\m'=([("p",.ref e.p),("nodes",.ref y),("signs",.ref z),("links",.int 1),("power",.int 0)]:Loc)/\σ'=σ4)\/(n'=0/\m'=([("p",.ref e.p),("nodes",.ref y),("signs",.ref z),("links",.int 1),("power",.int 0),("right",.ref xr),("left",.ref xl)]:Loc) ∧
    ∃ x,PSt σ' e { s with at_:=s.at_+(T.sum w l r).sz,ret:=rt3 }/\σ'.M y=some (.list [.ref x])/\σ'.M z=some (.list [])/\FoAt σ' ((T.sum w l r).fo s.at_ .nil) [.ref x]/\Px e σ σ')) 1 (.inl ⟨rfl,rfl,rfl⟩) ?_
   rintro I2 hin2 n' m' σ' (⟨rfl,rfl,rfl⟩ | ⟨rfl,rfl,x,P9,hy9,hz9,f9,x9⟩)
   · refine truL (hM hz4) (nb rfl) (gFn 147 (negI (⟨notPyL (hM hz4),lastL (l:=[]) (hM hz4) (nb rfl) ?_⟩)))
     refine c_binds_first ht4 rfl h4.pw h4.pos (dn hD) fun σ5 x5=>?_
     have P5:=P4.e0 x5
     have hy5:=x5.m _ _ hy4 id
     have hz5:=x5.m _ _ hz4 id
     have ht5:=ht4.ex x5
     have fl5:=fl4.ex x5
     have fr5:=fr4.ex x5
     have x05:=x04.trans x5.px
     refine truB (⟨_,(mPop (hM hy5)).1,(mPop (hM hy5)).2,?_⟩)
     refine cPop (l:=[.ref xl]) hy5 (nb rfl) ?_
     have hy6:(σ5.set y (.list [.ref xl])).M y=some (.list [.ref xl]):=set_M
     refine ⟨_,(mPop (hM hy6)).1,(mPop (hM hy6)).2,?_⟩
     refine cPop (l:=[]) hy6 (nb rfl) ?_
     have x57:Ex (fun a=>a=y) σ5 ((σ5.set y (.list [.ref xl])).set y (.list [])):=(show Ex (fun a=>a=y) σ5 (σ5.set y (.list [.ref xl])) from .set rfl).trans (.set rfl)
     have hy7:((σ5.set y (.list [.ref xl])).set y (.list [])).M y=some (.list []):=set_M
     have P7:=P5.ex x57 nyd nyr
     have hz7:=x57.m _ _ hz5 hyz.symm
     have ht7:=ht5.ex x57
     have fl7:=fl5.ex x57
     have fr7:=fr5.ex x57
     have x07:Px e σ ((σ5.set y (.list [.ref xl])).set y (.list [])):=(x05.setN ny0).setN ny0
     revert x07;revert fr7;revert fl7;revert ht7;revert hz7;revert P7;revert hy7;refine gn ((σ5.set y (.list [.ref xl])).set y (.list [])) fun σ7 hy7 P7 hz7 ht7 fl7 fr7 x07=>?_
     refine ⟨_,(mAppend (hM hy7)).1,(mAppend (hM hy7)).2,?_⟩
     refine gFn 148 (⟨_,(mPop (hM hz7)).1,(mPop (hM hz7)).2,?_⟩)
     refine cPop (l:=[]) hz7 (nb rfl) ?_
     have x78:Ex (fun a=>a=z) σ7 (σ7.set z (.list [])):=.set rfl
     have hy8:=x78.m _ _ hy7 hyz
     have hz8:(σ7.set z (.list [])).M z=some (.list []):=set_M
     have P8:=P7.ex x78 nzd nzr
     have fl8:=fl7.ex x78
     have fr8:=fr7.ex x78
     have x08:Px e σ (σ7.set z (.list [])):=x07.setN nz0
     refine ea3_4 fl8.one fun xl' avl ksl el hl1 hl2 hl3=>?_
     cases el
     refine c_join (ht7.ex x78) rfl h4 hl2 (dn hD) fun x σ9 hx x9=>?_
     have hy9:=x9.m _ _ hy8 id
     have hz9:=x9.m _ _ hz8 id
     refine cAppend hy9 (nb rfl) ?_
     have xA:Ex (fun a=>a=y) σ9 (σ9.set y (.list [.ref x])):=.set rfl
     have PA:=(P8.e0 x9).ex xA nyd nyr
     replace PA:=e2.symm▸PA
     refine ⟨0,Nat.zero_lt_one,hin2 _ _ _ (.inr ⟨rfl,rfl,x,PA,set_M,xA.m _ _ hz9 hyz.symm,?_,(x08.trans x9.px).setN ny0⟩)⟩
     exact FoAt.mk (t:=.sum w l r) rfl (hx.ex xA) (((fl8.ex x9).ex xA).cat ((fr8.ex x9).ex xA)) rfl
   · refine truL (hM hz9) (nb rfl) (eqI (⟨notPyL (hM hy9),itemL' 0 (hM hy9) rfl rfl (by lia) ?_⟩))
     exact q x σ' rt3 P9 f9 x9
end
section
variable {t:Tok} {a:Addr} {tx:Str} {v:T}
theorem cw_of (h:CB K e v):CW K e v:=by
 intro D σ s k P ho hf h1 h40 hD q
 refine cFn 138 1 (dl hD) (getP P (setP { s with ret:=false } P rfl rfl rfl fun σ1 P1 x1=>getP P1 (inDI (hF P1.pf.pt) (oF P1.pf.pt) (gFn 146 (h P1 ho hf h1 h40 (show 12 * v.dp+21<=D-1 by lia) fun x σ2 r P2 f2 x2=>?_)))))
 refine ea1_2 hf fun t ht ff=>?_;clear hf
 exact pM 4 P2 (c_is_sign P2 ht (dn hD) (qE ff.nq (truB (gFn 139 (pM 1 P2 (c_now P2 ht (dn hD) fun a ha=>c_is_assign ha ff.na (dn hD) (truB (getP P2 (eqI (getP P2 (truL (hF P2.pf.cov) (nb rfl) (q x σ2 r P2 f2 (x1.trans x2)))))))))))))
theorem ce_of (h:CW K e v) {D σ} {s:Ps} {k:V->Sg->Prop} (P:PSt σ e s) (ho:v.On e.tks s.at_) (hf:FolBy FolV e (s.at_+v.sz)) (h1:1<=s.deep) (h40:s.deep+v.dp<=40) (hD:12 * v.dp+23<=D) (q:Yield e s v k σ):CallV K D (.ref (mAd K 137 0)) [.ref e.xp,.ref e.p] k σ:=by
 exact mV2 137 83 0 2 (by lia) (by decide +kernel) rfl (gFn 138 (h P ho hf h1 h40 (show 12 * v.dp+22<=D-1 by lia) fun x σ2 r P2 f2 x2=>q x σ2 r P2 f2 x2))
theorem cp_of (h:CW K e v):CP K e v:=by
 intro D σ s k P ho hf h0 h40 h140 hD q
 refine mV 84 21 2 (by lia) (by decide +kernel) rfl (ea1_2 (gtTI (K:=K) tabs_use.1.2) fun b hb hc=>getP P (niDI (hF P.pf.pt) (oF P.pf.pt) (pM 19 P (c_down P (by lia) (dn hD) fun σ1 P1 x1=>gNm hb (inTupI (h00 hc) (getP P1 (⟨notPyDI (hF P1.pf.pt),itemDI (hF P1.pf.pt) rfl ?_⟩)))))))
 refine ruleM 137 83 0 ct_ExprPart P1.pf.xp (by decide +kernel) rfl (ce_of h P1 ho hf (show 1<=s.deep+1 by lia) (show s.deep+1+v.dp<=40 by lia) (show 12 * v.dp+23<=D-1 by lia) fun x σ2 r P2 f2 x2=>?_)
 have fin:∀ σ3,E0 σ2 σ3->∀ σ4,PSt σ4 e { s with at_:=s.at_+v.sz,ret:=r,deep:=s.deep+1-1 }->Px e σ3 σ4->k (.ref x) σ4:=fun σ3 x3 σ4 P4 x4=>q x σ4 r (by replace P4:=(show s.deep+1-1=s.deep by lia)▸P4;exact P4) ((f2.ex x3).ex x4) (((x1.trans x2).trans x3.px).trans x4)
 refine getP P2 (eqI ?_)
 induction hb1:(s.deep+1==1) with
 | false=>
  exact pM 20 P2 (c_up P2 (dn hD) fun σ4 P4 x4=>fin σ2 .refl σ4 P4 x4)
 | true=>
  refine gFn 88 (c_check_height f2 (by have:=T.size_le v s.at_ .nil;show (v.fo s.at_ .nil).size<=150;simp only [Fo.size] at this;lia) (dn hD) fun σ3 x3=>?_)
  have P3:=P2.e0 x3
  exact pM 20 P3 (c_up P3 (dn hD) fun σ4 P4 x4=>fin σ3 x3 σ4 P4 x4)
noncomputable abbrev ftM (e:Pe):Loc:=[("#name",.ref e.r1),("#num",.ref e.r2),("#str",.ref e.r3),("#tpl",.ref e.r4),("(",.ref e.r5),("true",.ref e.w1),("false",.ref e.w2),("null",.ref e.w3),("this",.ref e.w4)]
theorem c_read_first {r:Addr} (P:PSt σ e s) (ht:e.tks[s.at_]?=some t) (hk:kget (ftM e) (keyOf t)=some (.ref r)) (hD:2<=D) (q:∃ fv,MethIs K σ (.ref r) "take" fv/\FV K fv/\CallV K (D-1) fv [.ref r,.ref e.p] k σ):CallV K D (fA K 155) [.ref e.p] k σ:=by
 refine cFn 155 1 (dl hD) (gFn 94 (pM 1 P (c_now P ht (dn hD) fun a ha=>c_token_key ha (dn hD) (getP P (niD (m:=ftM e) (hF P.pf.ft) (oF P.pf.ft) (qE hk (getP P (⟨notPyD (m:=ftM e) (hF P.pf.ft),itemD (m:=ftM e) (hF P.pf.ft) hk ?_⟩))))))))
 refine ea1_3 q fun fv h1 h2 h3=>?_;clear q
 refine ⟨fv,h1,h2,?_⟩
 exact h3
theorem c_read_tails {x:Addr} (P:PSt σ e s) (hf:FolBy FolU e s.at_) (hD:2<=D) (q:k (.ref x) σ):CallV K D (fA K 156) [.ref e.p,.ref x] k σ:=by
 refine ea1_2 hf fun t ht ff=>?_;clear hf
 refine cFn 156 2 (dl hD) (⟨40,fun n m' σ'=>m'=([("p",.ref e.p),("node",.ref x),("chained",.bool false),("links",.int 0)]:Loc)/\σ'=σ,0,⟨rfl,rfl⟩,?_⟩)
 intro n m' σ' z1;refine ea0_2 z1 fun z2 z3=>?_;clear z1;subst z2;subst z3
 refine pM 1 P (c_now P ht (dn hD) fun a ha=>getTok ha (eqI ?_))
 induction h5:(t.kind==5) with
 | false=>
  exact gFn 157 (pM 1 P (c_now P ht (dn hD) fun a ha=>c_is_template ha ff.n6 ff.n7 (dn hD) (truB (truB q))))
 | true=>
  exact pM 1 P (c_now P ht (dn hD) fun a2 ha2=>getTok ha2 (getP P (inD (hF P.pf.tt) (oF P.pf.tt) (gFn 157 (pM 1 P (c_now P ht (dn hD) fun a ha=>c_is_template ha ff.n6 ff.n7 (dn hD) (truB (truB q))))))))
noncomputable def CF (K:Kc) (e:Pe) (v:T):Prop:=∀ {D σ} {s:Ps} {k:V->Sg->Prop},PSt σ e s->v.On e.tks s.at_->FolBy FolU e (s.at_+v.sz)->1<=s.deep->s.deep+v.dp<=40->12 * v.dp+17<=D->Yield e s v k σ->CallV K D (fA K 155) [.ref e.p] k σ
structure Fst (t:Tok):Prop where
 un:((t.kind==5||t.kind==2)&&unaryK.any (·==t.text))=false
 up:t.kind=5->(t.text=="++")=false/\(t.text=="--")=false
theorem cu_of (hc:CF K e v) (h0:∀ i,v.On e.tks i->∃ t,e.tks[i]?=some t/\Fst t):CU K e v:=by
 intro D σ s k P ho hf h1 h40 hD q
 refine ea1_2 (h0 _ ho) fun t0 ht0 f0=>cFn 152 1 (dl hD) (pM 1 P (c_now P ht0 (dn hD) fun a ha=>gFn 150 (c_is_unary ha f0.un (dn hD) (truB (gFn 151 (c_is_update ha f0.up (dn hD) (truB (gFn 154 (cFn 154 1 (dn hD) (gFn 156 (gFn 155 (hc P ho hf h1 h40 (show 12 * v.dp+17<=D-1-1 by lia) fun x σ2 r P2 f2 x2=>c_read_tails P2 hf (show 2<=D-1-1 by lia) ?_))))))))))))
 refine ea1_2 hf fun t ht ff=>?_;clear hf
 exact pM 1 P2 (c_now P2 ht (dn hD) fun a2 ha2=>gFn 151 (c_is_update ha2 ff.up (dn hD) (truB (q x σ2 r P2 f2 x2))))
theorem cu_sg {w:Str} {c:T} (hw:w∈signs6) (hc:CU K e c):CU K e (.sg w c):=by
 revert hw hc;revert K e w c;refine no_implicit_lambda% (al4 (n:=⟨(kc0,default)⟩) ?_);generalize et4 _ _=υ;generalize υ.1=K,υ.2.1=e,υ.2.2.1=w,υ.2.2.2=c;clear υ;intro hw hc
 intro D σ s k P ho hf h1 h40 hD q
 revert P ho hf h1 h40 hD q;revert D σ s k;refine no_implicit_lambda% (al4 ?_);generalize et4 _ _=υ;generalize υ.1=D,υ.2.1=σ,υ.2.2.1=s,υ.2.2.2=k;clear υ;intro P ho hf h1 h40 hD q
 refine ea0_2 ho fun ht0 hoc=>?_;clear ho
 simp only [T.dp] at h40 hD
 have hun:((((sgTk w).tok s.at_ false).kind==5||((sgTk w).tok s.at_ false).kind==2)&&unaryK.any (·==((sgTk w).tok s.at_ false).text))=true/\(sgTk w).kind≠0:=by
  show (((sgTk w).kind==5||(sgTk w).kind==2)&&unaryK.any (·==w))=true/\(sgTk w).kind≠0
  simp only [signs6,List.mem_cons,List.not_mem_nil,or_false] at hw
  rcases hw with rfl | rfl | rfl | rfl | rfl | rfl <;> decide +kernel
 have e2:s.at_+(T.sg w c).sz=s.at_+1+c.sz:=by simp only [T.sz];lia
 replace hf:=e2▸hf
 refine cFn 152 1 (dl hD) (pM 1 P (c_now P ht0 (dn hD) fun a ha=>gFn 150 (c_is_unary ha hun.1 (dn hD) (truB (gFn 153 (cFn 153 1 (dn hD) (pM 3 P (c_step P ht0 hun.2 (show 1<=D-1-1 by lia) fun a1 σ1 ha1 P1 x1=>pM 19 P1 (c_down P1 (show s.deep<40 by lia) (show 1<=D-1-1 by lia) fun σ2 P2 x2=>gFn 152 (hc P2 hoc hf (show 1<=s.deep+1 by lia) (show s.deep+1+c.dp<=40 by lia) (show 12 * c.dp+20<=D-1-1 by lia) fun x σ3 r P3 f3 x3=>pM 20 P3 (c_up P3 (show 1<=D-1-1 by lia) fun σ4 P4 x4=>?_)))))))))))
 refine ea1_2 hf fun t ht ff=>?_;clear hf
 refine pM 4 P4 (c_is_sign P4 ht (show 2<=D-1-1 by lia) (qE ff.pw (truB ?_)))
 have ha4:=(((ha1.ex x2).ex x3).ex x4)
 refine gFn 47 (getTok ha4 (tp fun y fy=>?_))
 have x5:E0 σ4 (σ4.set y (.list [.ref x])):=.new fy
 refine getTok (ha4.ex x5) (c_twig set_M (show 3<=D-1-1 by lia) fun x' σ6 hx x6=>?_)
 have x46:=E0.of fy x6
 have P6:=P4.e0 x46
 have e3:({ s with at_:=s.at_+1+c.sz,deep:=s.deep+1-1,ret:=r }:Ps)={ s with at_:=s.at_+(T.sg w c).sz,ret:=r }:=by exact qE e2 (qE (show s.deep+1-1=s.deep by lia) rfl)
 refine q x' σ6 r (by refine qB e3 ?_;exact P6) (FoAt.mk (t:=.sg w c) rfl hx ((f3.ex x4).ex x46) rfl) ((((x1.trans x2).trans x3).trans x4).trans x46.px)
end
section
variable {t:Tok} {a:Addr} {tx:Str} {v:T}
theorem take_num {r:V} {n:Nat} (P:PSt σ e s) (ht:e.tks[s.at_]?=some ((Lf.num n).tk.tok s.at_ false)) (hD:4<=D) (q:Yield e s (.leaf (.num n)) k σ):CallV K D (.ref (mAd K 158 0)) [r,.ref e.p] k σ:=by
 refine mV2 158 136 0 2 (by lia) (by decide +kernel) rfl (pM 3 P (c_step P ht (by show (3:Int)≠0;decide) (Mine.dn hD) fun a1 σ1 ha1 P1 x1=>?_))
 exact gFn 46 (getTok ha1 (getTok ha1 (c_leaf (Mine.dn hD) fun x σ2 hx x2=>q x σ2 s.ret (P1.e0 x2) (FoAt.mk (t:=.leaf (.num n)) rfl hx rfl rfl) (x1.trans x2.px))))
theorem take_str {r:V} (P:PSt σ e s) (ht:e.tks[s.at_]?=some (Lf.str.tk.tok s.at_ false)) (hD:4<=D) (q:Yield e s (.leaf .str) k σ):CallV K D (.ref (mAd K 159 0)) [r,.ref e.p] k σ:=by
 refine mV2 159 136 0 2 (by lia) (by decide +kernel) rfl (pM 3 P (c_step P ht (by show (4:Int)≠0;decide) (Mine.dn hD) fun a1 σ1 ha1 P1 x1=>?_))
 exact gFn 46 (getTok ha1 (getTok ha1 (c_leaf (Mine.dn hD) fun x σ2 hx x2=>q x σ2 s.ret (P1.e0 x2) (FoAt.mk (t:=.leaf .str) rfl hx rfl rfl) (x1.trans x2.px))))
theorem take_und {r:V} (P:PSt σ e s) (ht:e.tks[s.at_]?=some (Lf.und.tk.tok s.at_ false)) (hD:4<=D) (q:Yield e s (.leaf .und) k σ):CallV K D (.ref (mAd K 161 0)) [r,.ref e.p] k σ:=by
 refine mV2 161 136 0 2 (by lia) (by decide +kernel) rfl (pM 3 P (c_step P ht (by show (1:Int)≠0;decide) (Mine.dn hD) fun a1 σ1 ha1 P1 x1=>?_))
 exact getTok ha1 (eqS (gFn 46 (getTok ha1 (c_leaf (Mine.dn hD) fun x σ2 hx x2=>q x σ2 s.ret (P1.e0 x2) (FoAt.mk (t:=.leaf .und) rfl hx rfl rfl) (x1.trans x2.px)))))
theorem take_nam {r:V} (P:PSt σ e s) (ht:e.tks[s.at_]?=some (Lf.nam.tk.tok s.at_ false)) (hD:4<=D) (q:Yield e s (.leaf .nam) k σ):CallV K D (.ref (mAd K 161 0)) [r,.ref e.p] k σ:=by
 refine mV2 161 136 0 2 (by lia) (by decide +kernel) rfl (pM 3 P (c_step P ht (by show (1:Int)≠0;decide) (Mine.dn hD) fun a1 σ1 ha1 P1 x1=>?_))
 exact getTok ha1 (eqS (gFn 46 (getTok ha1 (getTok ha1 (c_leaf (Mine.dn hD) fun x σ2 hx x2=>q x σ2 s.ret (P1.e0 x2) (FoAt.mk (t:=.leaf .nam) rfl hx rfl rfl) (x1.trans x2.px))))))
theorem take_word {r:Addr} {l:Lf} {kd:Int} (hr:Rule σ r "WordFirst" [("kind",.int kd)]) (P:PSt σ e s) (ht:e.tks[s.at_]?=some (l.tk.tok s.at_ false)) (h2:l.tk.kind=2) (hk:l.kd=kd) (ha:l.av=.str "") (hD:4<=D) (q:Yield e s (.leaf l) k σ):CallV K D (.ref (mAd K 162 1)) [.ref r,.ref e.p] k σ:=by
 refine mV2 162 136 1 2 (by lia) (by decide +kernel) rfl ?_
 obtain ⟨d,r1,r2⟩:=hr
 refine gFn 46 (getW ct_WordFirst (hF r1) (hF r2) (pM 3 P (c_step P ht (by show l.tk.kind≠0;refine qE h2 ?_;decide) (Mine.dn hD) fun a1 σ1 ha1 P1 x1=>?_)))
 exact getTok ha1 (c_leaf (Mine.dn hD) fun x σ2 hx x2=>q x σ2 s.ret (P1.e0 x2) (FoAt.mk (t:=.leaf l) (av:=.str "") (by show l.av.At _ _;refine qE ha ?_;rfl) (by show NodeAt _ _ l.kd _ _ _ _;refine qE hk ?_;exact hx) rfl rfl) (x1.trans x2.px))
theorem take_par {r:V} (h:CP K e v) (P:PSt σ e s) (ho:(T.par v).On e.tks s.at_) (h1:1<=s.deep) (h40:s.deep+(T.par v).dp<=40) (h140:v.sz<=140) (hD:12 * v.dp+27<=D) (q:Yield e s (.par v) k σ):CallV K D (.ref (mAd K 163 0)) [r,.ref e.p] k σ:=by
 refine ea0_3 ho fun ho1 ho2 ho3=>?_;clear ho
 simp only [T.dp] at h40
 have hfol:FolBy FolV e (s.at_+1+v.sz):=⟨_,ho3,⟨⟨by show (5:Int)≠6;decide,by show (5:Int)≠7;decide,fun ξ=>⟨by show ((")":Str)=="++")=false;decide +kernel,by show ((")":Str)=="--")=false;decide +kernel⟩,by show ((5:Int)==5&&(")":Str)=="**")=false;decide +kernel⟩,by show (5:Int)≠2;decide,fun ξ=>by show kget powM ")"=none;decide +kernel,by show ((5:Int)==5&&(")":Str)=="?")=false;decide +kernel,fun ξ=>by show assignS.any (·==(")":Str))=false;decide +kernel,fun h=>by cases h⟩⟩
 refine mV2 163 136 0 2 (by lia) (by decide +kernel) rfl (pM 3 P (c_step P ho1 (by show (5:Int)≠0;decide) (Mine.dn hD) fun a1 σ1 ha1 P1 x1=>?_))
 refine getTok ha1 (gFn 143 (cFn 143 1 (Mine.dn hD) (getP P1 (setP { s with at_:=s.at_+1,al:=true } P1 rfl rfl rfl fun σ2 P2 x2=>pM 21 P2 (h P2 ho2 hfol (show 0<=s.deep by lia) (show s.deep+v.dp+1<=40 by lia) h140 (show 12 * v.dp+24<=D-1-1 by lia) fun x σ3 r3 P3 f3 x3=>setP { s with at_:=s.at_+1+v.sz,ret:=r3 } P3 rfl rfl rfl fun σ4 P4 x4=>?_)))))
 refine pM 10 P4 (c_need_sign P4 ho3 (by show ((5:Int)==5&&(")":Str)==")")=true;decide +kernel) (Mine.dn hD) fun σ5 P5 x5=>?_)
 refine gFn 47 (tp fun y fy=>c_twig set_M (Mine.dn hD) fun x' σ6 hx x6=>?_)
 have x56:=E0.of fy x6
 have P6:=P5.e0 x56
 have e3:s.at_+1+v.sz+1=s.at_+(T.par v).sz:=by simp only [T.sz];lia
 refine q x' σ6 r3 (by refine qB e3 ?_;exact P6) (FoAt.mk (t:=.par v) rfl hx (((f3.ex x4).ex x5).ex x56) rfl) (((((x1.trans x2).trans x3).trans x4).trans x5).trans x56.px)
noncomputable abbrev Rem:=List (T×Tk)
noncomputable def Rem.On (L:List Tok):Rem->Nat->Prop
 | [],_=>True
 | (h,x)::r,i=>h.On L i/\L[i+h.sz]?=some (x.tok (i+h.sz) false)/\(x.kind=match r with | []=>9 | _=>8)/\Rem.On L r (i+h.sz+1)
noncomputable def Rem.sz:Rem->Nat
 | []=>0
 | (h,_)::r=>h.sz+1+Rem.sz r
noncomputable def Rem.fo:Rem->Nat->Fo
 | [],_=>.nil
 | (h,_)::r,i=>h.fo i (Rem.fo r (i+h.sz+1))
theorem Fo.app_nil:∀ f:Fo,f.app .nil=f
 | .nil=>rfl
 | .non r=>congrArg Fo.non (Fo.app_nil r)
 | .nd _ _ _ _ _ r=>congrArg (Fo.nd _ _ _ _ _) (Fo.app_nil r)
theorem Fo.app_assoc:∀ f g h:Fo,(f.app g).app h=f.app (g.app h)
 | .nil,_,_=>rfl
 | .non r,g,h=>congrArg Fo.non (Fo.app_assoc r g h)
 | .nd _ _ _ _ _ r,g,h=>congrArg (Fo.nd _ _ _ _ _) (Fo.app_assoc r g h)
theorem T.fo_app (t:T) (i:Nat) (r:Fo):(t.fo i .nil).app r=t.fo i r:=by rw [T.fo_eq,T.fo_eq];rfl
theorem tplFol (x:Tk) (i:Nat) (h:x.kind=8\/x.kind=9):FolV (x.tok i false):=by
 have h5:(x.tok i false).kind≠5:=by show x.kind≠5;rcases h with h | h <;> refine qE h ?_ <;> decide
 have hb:((x.tok i false).kind==5)=false:=by simpa using h5
 refine ⟨⟨?_,?_,fun h=>absurd h h5,by refine qE hb ?_;rfl⟩,?_,fun h=>absurd h h5,by refine qE hb ?_;rfl,fun h=>absurd h h5,fun h1=>?_⟩
 · show x.kind≠6;rcases h with h | h <;> refine qE h ?_ <;> decide
 · show x.kind≠7;rcases h with h | h <;> refine qE h ?_ <;> decide
 · show x.kind≠2;rcases h with h | h <;> refine qE h ?_ <;> decide
 · have h1:x.kind=1:=h1;rcases h with h | h <;> replace h1:=h▸h1 <;> cases h1
theorem c_read_holes {x0:Tk} {rem0:Rem} {dmax:Nat} (hx0:x0.kind=match rem0 with | []=>6 | _=>7) (P:PSt σ e s) (ht:e.tks[s.at_]?=some (x0.tok s.at_ false)) (ho:Rem.On e.tks rem0 (s.at_+1)) (hc:∀ p∈rem0,CP K e p.1/\p.1.dp<=dmax/\p.1.sz<=140) (h0:0<=s.deep)
 (hB:rem0≠[]->s.deep+dmax+1<=40/\12 * dmax+25<=D) (hlen:rem0.length<=10) (hD:10<=D)
 (q:∀ y σ' tt hl r ks,PSt σ' e { s with at_:=s.at_+1+Rem.sz rem0,ret:=r }->σ'.F y=some (.tup [.ref tt,.ref hl])->σ'.F tt=some (.tup ((x0.text::rem0.map (·.2.text)).map .str))->σ'.M hl=some (.list ks)->FoAt σ' (Rem.fo rem0 (s.at_+1)) ks->¬ PX e hl->σ.M hl=none->Px e σ σ'->k (.ref y) σ') :
 CallV K D (fA K 95) [.ref e.p,.int 2] k σ:=by
 revert hx0 P ht ho hc h0 hB hlen hD q;revert K D σ k e s x0 rem0 dmax;refine no_implicit_lambda% (al9 (n:=⟨(kc0,default)⟩) ?_);generalize et9 _ _=υ;generalize υ.1=K,υ.2.1=D,υ.2.2.1=σ,υ.2.2.2.1=k,υ.2.2.2.2.1=e,υ.2.2.2.2.2.1=s,υ.2.2.2.2.2.2.1=x0,υ.2.2.2.2.2.2.2.1=rem0,υ.2.2.2.2.2.2.2.2=dmax;clear υ;intro hx0 P ht ho hc h0 hB hlen hD q
 refine cFn 95 2 (dl hD) (pM 3 P ?_)
 refine c_step P ht (by show x0.kind≠0;refine qE hx0 ?_;split <;> decide) (Mine.dn hD) fun a1 σ1 ha1 P1 x1=>?_
 revert ha1 P1 x1;revert a1 σ1;refine al2 ?_;generalize et2 _ _=υ;generalize υ.1=a1,υ.2=σ1;clear υ;intro ha1 P1 x1
 refine getTok ha1 (tp fun y fy=>?_)
 revert fy;revert y;refine al1 ?_;generalize et1 _ _=y;intro fy
 refine tp fun z fz=>?_
 revert fz;revert z;refine al1 ?_;generalize et1 _ _=z;intro fz
 have hyz:y≠z:=fz.neM set_M
 have x2:E0 σ1 ((σ1.set y (.list [.str (x0.tok s.at_ false).text])).set z (.list [])):=(Ex.new fy).trans (.new fz)
 have P2:=P1.e0 x2
 have nyd:=fy.neM P1.pd
 have nzd:=fz.set.1.neM P1.pd
 have nyr:e.rl≠y:=by refine ea1_2 P1.rl fun rr h ξ=>?_;exact fy.neM h
 have nzr:e.rl≠z:=by refine ea1_2 P1.rl fun rr h ξ=>?_;exact fz.set.1.neM h
 have ny:¬ PX e y:=by rintro (h | h);exact nyd h.symm;exact nyr h.symm
 have nz:¬ PX e z:=by rintro (h | h);exact nzd h.symm;exact nzr h.symm
 have hy2:((σ1.set y (.list [.str (x0.tok s.at_ false).text])).set z (.list [])).M y=some (.list [.str x0.text]):=(upd_other hyz).trans set_M
 have hz2:((σ1.set y (.list [.str (x0.tok s.at_ false).text])).set z (.list [])).M z=some (.list []):=set_M
 have x12:Px e σ ((σ1.set y (.list [.str (x0.tok s.at_ false).text])).set z (.list [])):=x1.trans x2.px
 have ny0:σ.M y=none:=by
  induction hh:σ.M y with
  | none=>rfl
  | some c=>have:=x1.m _ _ hh ny;replace this:=fy.1▸this;injection this
 have nz0:σ.M z=none:=by
  induction hh:σ.M z with
  | none=>rfl
  | some c=>have:=x1.m _ _ hh nz;replace this:=fz.set.1.1▸this;injection this
 have ha2:=ha1.ex x2
 revert ha2;revert x12;revert hz2;revert hy2;revert x2;revert P2;refine gn ((σ1.set y (.list [.str (x0.tok s.at_ false).text])).set z (.list [])) fun σ2 P2 x2 hy2 hz2 x12 ha2=>?_
 refine whilI 40 (fun n m' σ'=>∃ (tk:Addr) (t:Tok) (rem:Rem) (dn:Rem) (r:Bool) (ks:List V) (fd:Fo),n=rem.length/\m'=([("p",.ref e.p),("n",.int 2),("token",.ref tk),("texts",.ref y),("holes",.ref z)]:Loc)/\TokAt σ' tk t/\(t.kind=match rem with | []=>(match dn with | []=>6 | _=>9) | _=>(match dn with | []=>7 | _=>8)) ∧
  rem0=dn++rem/\PSt σ' e { s with at_:=s.at_+1+Rem.sz dn,ret:=r }/\Rem.On e.tks rem (s.at_+1+Rem.sz dn)/\σ'.M y=some (.list ((x0.text::dn.map (·.2.text)).map .str))/\σ'.M z=some (.list ks)/\FoAt σ' fd ks/\fd.app (Rem.fo rem (s.at_+1+Rem.sz dn))=Rem.fo rem0 (s.at_+1)/\ks.length=dn.length/\Px e σ σ')
  rem0.length ⟨a1,_,rem0,[],s.ret,[],.nil,rfl,rfl,ha2,hx0,rfl,P2,ho,hy2,hz2,rfl,rfl,rfl,x12⟩ ?_
 intro I hin n m' σ3 z1;refine ea6_1 z1 fun tk t rem dn r ks y17=>?_;refine ea1_1 y17 fun fd y18=>?_;clear y17;refine ea0_11 y18 fun z2 z3 ht3 hk3 hrem P3 ho3 hy3 hz3 f3 y19=>?_;clear y18;refine ea0_3 y19 fun hf3 hks x3=>?_;clear y19;clear z1;subst z2;subst z3
 have hdn:dn.length<=10:=by have:=congrArg List.length hrem;replace this:=List.length_append▸this;lia
 induction rem using List.casesOn with
 | nil=>
  have hk7:(t.kind==7)=false/\(t.kind==8)=false:=by refine qE hk3 ?_;cases dn <;> exact ⟨rfl,rfl⟩
  rw [List.append_nil] at hrem
  refine getTok ht3 (eqI (qE hk7.1 (getTok ht3 (eqI (qE hk7.2 (⟨_,g_tuple.1,g_tuple.2,?_⟩))))))
  refine tupOf (hM hy3) (by rw [List.length_map,List.length_cons,List.length_map];lia) fun tt ftt=>?_
  refine tp fun w fw=>?_
  have x4:E0 σ3 ((σ3.fz tt (.tup ((x0.text::dn.map (·.2.text)).map .str))).fz w (.tup [.ref tt,.ref z])):=(Ex.fz ftt).trans (.fz fw)
  rw [Rem.fo,Fo.app_nil] at hf3
  subst hrem
  exact q w _ tt z r ks (P3.e0 x4) fz_F ((upd_other (fw.fz.2.symm)).trans fz_F) (x4.m _ _ hz3 id) (hf3▸f3.ex x4) nz nz0 (x3.trans x4.px)
 | cons p rem=>
  obtain ⟨h,x⟩:=p
  refine ea0_4 ho3 fun o1 o2 o3 o4=>?_;clear ho3
  have hmem:(h,x)∈rem0:=by refine qE hrem ?_;exact List.mem_append_right _ (List.mem_cons_self ..)
  refine ea0_2 (hB (by intro h;replace hmem:=h▸hmem;cases hmem)) fun h40 hD2=>?_
  refine ea0_3 (hc _ hmem) fun c1 c2 c3=>?_
  replace c2:h.dp<=dmax:=c2
  replace c3:h.sz<=140:=c3
  have hx9:x.kind=8\/x.kind=9:=by refine qE o3 ?_;cases rem <;> simp
  have e1:s.at_+1+Rem.sz dn+h.sz+1=s.at_+1+Rem.sz (dn++[(h,x)]):=by
   have:Rem.sz (dn++[(h,x)])=Rem.sz dn+h.sz+1:=by
    clear hrem hf3 hk3 ho hc hy3 hx0 q P3 o1 o2 o4 hks hdn hlen
    induction dn with
    | nil=>show h.sz+1+0=0+h.sz+1;lia
    | cons p r ih=>show _+1+Rem.sz (r++_)=_+1+Rem.sz r+_+1;refine qE ih ?_;lia
   lia
  have hk7:((t.kind==7)=true)\/((t.kind==7)=false/\(t.kind==8)=true):=by
   refine qE hk3 ?_
   induction dn using List.casesOn with
   | nil=>exact .inl rfl
   | cons _ _=>exact .inr ⟨rfl,rfl⟩
  have fin:∀ (σ4:Sg) (r4:Bool) (x4:Addr),PSt σ4 e { s with at_:=s.at_+1+Rem.sz dn+h.sz,ret:=r4 }->FoAt σ4 (h.fo (s.at_+1+Rem.sz dn) .nil) [.ref x4]->Px e σ3 σ4->∀ (a5:Addr),TokAt (σ4.set z (.list (ks++[.ref x4]))) a5 (x.tok (s.at_+1+Rem.sz dn+h.sz) false) →
   ∀ σ6,PSt σ6 e { s with at_:=s.at_+1+Rem.sz dn+h.sz+1,ret:=r4 }->Px e ((σ4.set z (.list (ks++[.ref x4]))).set y (.list ((x0.text::dn.map (·.2.text)).map .str++[.str x.text]))) σ6 →
   ∃ (tk:Addr) (t:Tok) (rem':Rem) (dn':Rem) (r:Bool) (ks:List V) (fd:Fo),rem.length=rem'.length/\(([("p",.ref e.p),("n",.int 2),("token",.ref a5),("texts",.ref y),("holes",.ref z)]:Loc)=([("p",.ref e.p),("n",.int 2),("token",.ref tk),("texts",.ref y),("holes",.ref z)]:Loc))/\TokAt σ6 tk t/\(t.kind=match rem' with | []=>(match dn' with | []=>6 | _=>9) | _=>(match dn' with | []=>7 | _=>8)) ∧
    rem0=dn'++rem'/\PSt σ6 e { s with at_:=s.at_+1+Rem.sz dn',ret:=r }/\Rem.On e.tks rem' (s.at_+1+Rem.sz dn')/\σ6.M y=some (.list ((x0.text::dn'.map (·.2.text)).map .str))/\σ6.M z=some (.list ks)/\FoAt σ6 fd ks/\fd.app (Rem.fo rem' (s.at_+1+Rem.sz dn'))=Rem.fo rem0 (s.at_+1)/\ks.length=dn'.length/\Px e σ σ6:=by
   intro σ4 r4 x4 P4 f4 x34 a5 ha5 σ6 P6 x56
   have xz:Ex (fun a=>a=z) σ4 (σ4.set z (.list (ks++[.ref x4]))):=.set rfl
   have xy:Ex (fun a=>a=y) (σ4.set z (.list (ks++[.ref x4]))) ((σ4.set z (.list (ks++[.ref x4]))).set y (.list ((x0.text::dn.map (·.2.text)).map .str++[.str x.text]))):=.set rfl
   have f5:=(((f3.ex x34).ex xz).ex xy).ex x56
   have f6:=((f4.ex xz).ex xy).ex x56
   refine ⟨a5,_,rem,dn++[(h,x)],r4,ks++[.ref x4],fd.app (h.fo (s.at_+1+Rem.sz dn) .nil),rfl,rfl,(ha5.ex xy).ex x56,?_,by rw [hrem,List.append_assoc];rfl,e1▸P6,e1▸o4,?_,x56.m _ _ ((upd_other hyz.symm).trans set_M) nz,f5.app f6,?_,by refine qE List.length_append (qE List.length_append (qE hks ?_));rfl,(((x3.trans x34).setN nz0).setN ny0).trans x56⟩
   · show x.kind=_
     refine qE o3 ?_
     have:∃ p l,dn++[(h,x)]=p::l:=by cases dn <;> exact ⟨_,_,rfl⟩
     refine ea2_1 this fun p l hpl=>?_;clear this
     refine qE hpl ?_
     cases rem <;> rfl
   · have:=x56.m y _ set_M ny
     refine qE this (qE List.map_append (qE List.map_cons (qE List.map_cons (qE List.map_append ?_))));rfl
   · rw [Fo.app_assoc,T.fo_app,← e1];exact hf3
  refine getTok ht3 (eqI ?_)
  refine orT (hk7.imp id fun h=>⟨h.1,fun k' q'=>by
   refine getTok ht3 (eqI (qE h.2 ?_))
   exact q'⟩) ?_
  refine ⟨_,(mAppend (hM hz3)).1,(mAppend (hM hz3)).2,?_⟩
  refine pM 21 P3 (c1 P3 o1 ⟨_,o2,tplFol x _ hx9⟩ h0 (by show s.deep+(h.dp:Int)+1<=40;lia) c3 (show 12 * h.dp+24<=D-1 by lia) fun x4 σ4 r4 P4 f4 x34=>?_)
  have hz4:=x34.m _ _ hz3 nz
  refine cAppend hz4 (by lia) ?_
  have xz:Ex (fun a=>a=z) σ4 (σ4.set z (.list (ks++[.ref x4]))):=.set rfl
  have P5:=P4.ex xz nzd nzr
  have hy5:=xz.m _ _ (x34.m _ _ hy3 ny) hyz
  refine pM 1 P5 (c_now P5 o2 (Mine.dn hD) fun a5 ha5=>?_)
  have hk5:(x.kind != 8)=false\/((x.kind != 8)=true/\(x.kind != 9)=false):=by
   rcases hx9 with h | h
   · refine qE h ?_;exact .inl (by decide)
   · refine qE h ?_;exact .inr ⟨by decide,by decide⟩
  have xy:Ex (fun a=>a=y) (σ4.set z (.list (ks++[.ref x4]))) ((σ4.set z (.list (ks++[.ref x4]))).set y (.list ((x0.text::dn.map (·.2.text)).map .str++[.str x.text]))):=.set rfl
  have P6:=P5.ex xy nyd nyr
  refine getTok ha5 (neI ?_)
  refine andF (hk5.imp id fun h=>⟨h.1,fun k' q'=>by
   refine getTok ha5 (neI (qE (show ((x.tok (s.at_+1+Rem.sz dn+(_:T).sz) false).kind != 9)=(x.kind != 9) from rfl) (qE h.2 ?_)))
   exact q'⟩) ?_
  refine ⟨_,(mAppend (hM hy5)).1,(mAppend (hM hy5)).2,?_⟩
  refine getTok ha5 (cAppend hy5 (by rw [List.length_map,List.length_cons,List.length_map];lia) ?_)
  refine pM 3 P6 ?_
  refine c_step P6 o2 (by show x.kind≠0;rcases hx9 with h | h <;> refine qE h ?_ <;> decide) (Mine.dn hD) fun a7 σ7 ha7 P7 x7=>?_
  exact ⟨rem.length,Nat.lt_succ_self _,hin _ _ _ (fin σ4 r4 x4 P4 f4 x34 a5 ha5 σ7 P7 x7)⟩
end
section
variable {t:Tok} {a:Addr} {tx:Str} {v:T}
theorem take_tpl {r:V} {x0:Tk} {rem0:Rem} {dmax:Nat} (hx0:x0.kind=match rem0 with | []=>6 | _=>7) (P:PSt σ e s) (ht:e.tks[s.at_]?=some (x0.tok s.at_ false)) (ho:Rem.On e.tks rem0 (s.at_+1)) (hc:∀ p∈rem0,CP K e p.1/\p.1.dp<=dmax/\p.1.sz<=140) (h0:0<=s.deep)
 (hB:rem0≠[]->s.deep+dmax+1<=40/\12 * dmax+26<=D) (hlen:rem0.length<=10) (hD:11<=D) (e1:v.sz=1+Rem.sz rem0) (e2:v.kd=3) (e3:v.av=.tup (x0.text::rem0.map (·.2.text))) (e4:v.ks s.at_=Rem.fo rem0 (s.at_+1)) (q:Yield e s v k σ):CallV K D (.ref (mAd K 160 0)) [r,.ref e.p] k σ:=by
 refine mV2 160 136 0 2 (by lia) (by decide +kernel) rfl (pM 1 P (c_now P ht (dn hD) fun a ha=>getTok ha (getP P (setP { s with al:=true } P rfl rfl rfl fun σ1 P1 x1=>gFn 95 (c_read_holes hx0 P1 ht ho hc h0 (fun h=>⟨(hB h).1,by have:=(hB h).2;show 12 * dmax+25<=D-1;lia⟩) hlen (dn hD) fun y σ2 tt hl r2 ks P2 hy htt hhl f2 nhl hl0 x2=>?_)))))
 refine ⟨rfl,unpT (hF hy) rfl ?_⟩
 refine ⟨rfl,?_⟩
 refine setP { s with at_:=s.at_+1+Rem.sz rem0,ret:=r2 } P2 rfl rfl rfl fun σ3 P3 x3=>gFn 47 (c_twig (x3.m _ _ hhl nhl) (dn hD) fun x σ4 hx x4=>?_)
 have x24:Px e σ σ4:=⟨fun a c h=>x4.f _ _ (x3.f _ _ (x2.f _ _ (x1.f _ _ h))),fun a c h n=>by
  have hne:a≠hl:=by rintro rfl;have:=x1.m _ _ h n;replace this:=hl0▸this;injection this
  exact x4.m _ _ (x3.m _ _ (x2.m _ _ (x1.m _ _ h n) n) n) hne⟩
 have nd:e.d≠hl:=fun h=>nhl (.inl h.symm)
 have nr:e.rl≠hl:=fun h=>nhl (.inr h.symm)
 have e5:s.at_+v.sz=s.at_+1+Rem.sz rem0:=by lia
 refine q x σ4 r2 (by refine qE e5 ?_;exact P3.ex x4 nd nr) (FoAt.mk (t:=v) (av:=.ref tt) (by refine qE e3 ?_;exact ⟨tt,rfl,x4.f _ _ (x3.f _ _ htt)⟩) (by refine qE e2 ?_;exact hx) (by refine qE e4 ?_;exact (f2.ex x3).ex x4) rfl) x24
theorem rM {r:Addr} {k:V->Sg->Prop} (i j:Nat) {attrs:List Str} {cls:Str} {m:Loc} (ct:CT K cls attrs) (ru:Rule σ r cls m) (h:(mOk2 i 136 j&&(mt i j).name=="take"&&fName (stAt i)==cls)=true) (hm:m.get "take"=none) (q:CallV K (D-1) (.ref (mAd K i j)) [.ref r,.ref e.p] k σ) :
 ∃ fv,MethIs K σ (.ref r) "take" fv/\FV K fv/\CallV K (D-1) fv [.ref r,.ref e.p] k σ:=ruleM i 136 j ct ru h hm q
theorem cf_leaf (l:Lf):CF K e (.leaf l):=by
 intro D σ s k P ho hf h1 h40 hD q
 have ho:e.tks[s.at_]?=some (l.tk.tok s.at_ false):=ho
 simp only [T.dp] at hD
 induction l with
 | num n=>exact c_read_first P ho rfl (by lia) (rM 158 0 ct_NumRule P.pf.r2 (by decide +kernel) rfl (take_num P ho (by lia) q))
 | str=>exact c_read_first P ho rfl (by lia) (rM 159 0 ct_StrRule P.pf.r3 (by decide +kernel) rfl (take_str P ho (by lia) q))
 | tt=>exact c_read_first P ho rfl (by lia) (rM 162 1 ct_WordFirst P.pf.w1 (by decide +kernel) rfl (take_word P.pf.w1 P ho rfl rfl rfl (by lia) q))
 | ff=>exact c_read_first P ho rfl (by lia) (rM 162 1 ct_WordFirst P.pf.w2 (by decide +kernel) rfl (take_word P.pf.w2 P ho rfl rfl rfl (by lia) q))
 | nul=>exact c_read_first P ho rfl (by lia) (rM 162 1 ct_WordFirst P.pf.w3 (by decide +kernel) rfl (take_word P.pf.w3 P ho rfl rfl rfl (by lia) q))
 | ths=>exact c_read_first P ho rfl (by lia) (rM 162 1 ct_WordFirst P.pf.w4 (by decide +kernel) rfl (take_word P.pf.w4 P ho rfl rfl rfl (by lia) q))
 | und=>exact c_read_first P ho rfl (by lia) (rM 161 0 ct_NameRule P.pf.r1 (by decide +kernel) rfl (take_und P ho (by lia) q))
 | nam=>exact c_read_first P ho rfl (by lia) (rM 161 0 ct_NameRule P.pf.r1 (by decide +kernel) rfl (take_nam P ho (by lia) q))
 | tpl=>
  refine c_read_first P ho rfl (by lia) (rM 160 0 ct_TplFirst P.pf.r4 (by decide +kernel) rfl (take_tpl (x0:=Lf.tpl.tk) (rem0:=[]) (dmax:=0) rfl P ho trivial (fun p hp=>nomatch hp) (by lia) (fun h=>absurd rfl h) (nb rfl) (by lia) rfl rfl rfl rfl q))
theorem cf_tp1 {h:T} (hc:CP K e h) (hz:h.sz<=140):CF K e (.tp1 h):=by
 intro D σ s k P ho hf h1 h40 hD q
 refine ea0_3 ho fun o1 o2 o3=>?_;clear ho
 simp only [T.dp] at hD h40
 refine c_read_first P o1 rfl (by lia) (rM 160 0 ct_TplFirst P.pf.r4 (by decide +kernel) rfl (take_tpl (x0:=⟨7,"h",0⟩) (rem0:=[(h,⟨9,"t",0⟩)]) (dmax:=h.dp) rfl P o1 ⟨o2,o3,rfl,trivial⟩ (fun p hp=>?_) (by lia) (fun ξ=>⟨by lia,by lia⟩) (nb rfl) (by lia) (by simp only [T.sz,Rem.sz];lia) rfl rfl rfl q))
 rw [List.mem_singleton] at hp;subst hp;exact ⟨hc,Nat.le_refl _,hz⟩
theorem cf_tp2 {a b:T} (ha:CP K e a) (hb:CP K e b) (hza:a.sz<=140) (hzb:b.sz<=140):CF K e (.tp2 a b):=by
 intro D σ s k P ho hf h1 h40 hD q
 refine ea0_5 ho fun o1 o2 o3 o4 o5=>?_;clear ho
 simp only [T.dp] at hD h40
 have hda:a.dp<=max a.dp b.dp:=Nat.le_max_left ..
 have hdb:b.dp<=max a.dp b.dp:=Nat.le_max_right ..
 have e1:s.at_+2+a.sz=s.at_+1+a.sz+1:=by lia
 rw [e1] at o4 o5
 refine c_read_first P o1 rfl (by lia) (rM 160 0 ct_TplFirst P.pf.r4 (by decide +kernel) rfl (take_tpl (x0:=⟨7,"h",0⟩) (rem0:=[(a,⟨8,"m",0⟩),(b,⟨9,"t",0⟩)]) (dmax:=max a.dp b.dp) rfl P o1 ⟨o2,o3,rfl,o4,o5,rfl,trivial⟩ (fun p hp=>?_) (by lia) (fun ξ=>⟨by lia,by lia⟩) (nb rfl) (by lia) (by simp only [T.sz,Rem.sz];lia) rfl rfl (by simp only [T.ks,Rem.fo,e1]) q))
 simp only [List.mem_cons,List.not_mem_nil,or_false] at hp
 rcases hp with rfl | rfl
 · exact ⟨ha,hda,hza⟩
 · exact ⟨hb,hdb,hzb⟩
theorem cf_par {v:T} (hc:CP K e v) (hz:v.sz<=140):CF K e (.par v):=by
 intro D σ s k P ho hf h1 h40 hD q
 have o1:=ho.1
 refine c_read_first P o1 rfl (by lia) (rM 163 0 ct_ParenRule P.pf.r5 (by decide +kernel) rfl (take_par hc P ho h1 h40 hz (by simp only [T.dp] at hD;lia) q))
theorem fst_leaf (l:Lf) (i:Nat):Fst (l.tk.tok i false):=by
 cases l <;> exact ⟨by first | rfl | (show ((((_:Int)==5)||_)&&_)=false;decide +kernel),fun h=>by first | exact absurd h (by decide) | cases h⟩
theorem values (v:T):v.sz<=140->(v.ok true->CU K e v)/\(v.ok false->CP K e v):=by
 have op:∀ v:T,v.ok true->CU K e v->CP K e v:=fun v h hu=>cp_of (cw_of (cb_op h hu))
 have both:∀ v:T,(v.ok true->CU K e v)->(v.ok false->v.ok true)->(v.ok true->CU K e v)/\(v.ok false->CP K e v):=fun v h g=>⟨h,fun hv=>op v (g hv) (h (g hv))⟩
 have sum':∀ w l r,T.ok false (.sum w l r)->CU K e l->CU K e r->CP K e (.sum w l r):=fun w l r h a b=>cp_of (cw_of (cb_sum h a b))
 induction v with
 | leaf l=>exact fun ξ=>both _ (fun ξ=>cu_of (cf_leaf l) fun i h=>⟨_,h,fst_leaf l i⟩) fun h=>h
 | sg w c ih=>exact fun hz=>both _ (fun h=>cu_sg h.1 ((ih (by simp only [T.sz] at hz;lia)).1 h.2)) fun h=>h
 | tp1 c ih=>
  refine fun hz=>?_
  have hz':c.sz<=140:=by simp only [T.sz] at hz;lia
  exact both _ (fun h=>cu_of (cf_tp1 ((ih hz').2 (T.ok.val h)) hz') fun i h=>⟨_,h.1,⟨rfl,fun h=>by cases h⟩⟩) fun h=>h
 | tp2 a b iha ihb=>
  refine fun hz=>?_
  have hza:a.sz<=140:=by simp only [T.sz] at hz;lia
  have hzb:b.sz<=140:=by simp only [T.sz] at hz;lia
  exact both _ (fun h=>cu_of (cf_tp2 ((iha hza).2 (T.ok.val h.1)) ((ihb hzb).2 (T.ok.val h.2)) hza hzb) fun i h=>⟨_,h.1,⟨rfl,fun h=>by cases h⟩⟩) fun h=>h
 | par c ih=>
  refine fun hz=>?_
  have hz':c.sz<=140:=by simp only [T.sz] at hz;lia
  exact both _ (fun h=>cu_of (cf_par ((ih hz').2 h) hz') fun i h=>⟨_,h.1,⟨by show ((((5:Int)==5)||((5:Int)==2))&&unaryK.any (·==("(":Str)))=false;decide +kernel,fun ξ=>⟨by show (("(":Str)=="++")=false;decide +kernel,by show (("(":Str)=="--")=false;decide +kernel⟩⟩⟩) fun h=>h
 | sum w l r ihl ihr=>
  refine fun hz=>⟨fun h=>h.elim,fun h=>?_⟩
  have hzl:l.sz<=140:=by simp only [T.sz] at hz;lia
  have hzr:r.sz<=140:=by simp only [T.sz] at hz;lia
  exact @sum' w l r h ((ihl hzl).1 h.2.1) ((ihr hzr).1 h.2.2)
end
section
variable {t:Tok} {a:Addr} {tx:Str} {v:T}
noncomputable def dropS:Nat->List Stmt->List Stmt
 | 0,l=>l
 | n+1,l=>stl (dropS n l)
noncomputable def vcAt (c:Cx) (body:List Stmt) (i:Nat) (m:Loc) (σ:Sg) (k:FlV->Loc->Sg->Prop):Prop:=(recS (60-i) c).SS (dropS i body) m σ k
noncomputable abbrev memM:Loc:=memberW.map fun p=>(p.1,.int p.2)
noncomputable def mw (w:Str):Int:=(memberW.lookup w).getD 0
noncomputable def late (w:Str):List Str:=(lateW.lookup w).getD []
theorem late_get {m:Loc} (h1:m.map (·.1)=lateW.map (·.1)) (h2:∀ p∈lateW,∃ b,(p.1,V.ref b)∈m/\CellAt K K.h0 b (.tup (p.2.map .str))) (w:Str):(∃ b,kget m w=some (.ref b)/\CellAt K K.h0 b (.tup ((late w).map .str)))\/(kget m w=none/\late w=[]):=by
 have key:∀ (l:List (Str×List Str)) (m:Loc),(l.map (·.1)).Nodup->m.map (·.1)=l.map (·.1)->(∀ p∈l,∃ b,(p.1,V.ref b)∈m/\CellAt K K.h0 b (.tup (p.2.map .str)))->(∃ b,kget m w=some (.ref b)/\CellAt K K.h0 b (.tup (((l.lookup w).getD []).map .str)))\/(kget m w=none/\(l.lookup w).getD []=[]):=by
  intro l
  induction l with
  | nil=>intro m ξ h ξ;induction m using List.casesOn with
   | nil=>exact .inr ⟨rfl,rfl⟩
   | cons _ _=>injection h
  | cons p r ih=>intro m nd h h2;induction m using List.casesOn with
   | nil=>injection h
   | cons x m=>
    rw [List.map_cons,List.map_cons,List.cons.injEq] at h
    rw [List.map_cons,List.nodup_cons] at nd
    obtain ⟨x1,x2⟩:=x
    obtain ⟨p1,p2⟩:=p
    have e:x1=p1:=h.1
    subst e
    by_cases hw:w=x1
    · subst hw
      refine ea1_2 (h2 _ (List.mem_cons_self ..)) fun b hb hc=>.inl ⟨b,?_,by rw [List.lookup_cons,beq_self_eq_true];exact hc⟩
      rcases List.mem_cons.mp hb with e | e
      · cases e;unfold kget;refine qE List.find?_cons ?_;simp
      · exact absurd (h.2▸List.mem_map.mpr ⟨_,e,rfl⟩) nd.1
    · have hn:kget ((x1,x2)::m) w=kget m w:=by unfold kget;refine qE List.find?_cons ?_;simp only [show decide (x1=w)=false from decide_eq_false fun h=>hw h.symm]
      refine qE hn (qE List.lookup_cons (qE (show (w==x1)=false by simpa using hw) ?_))
      refine ih m nd.2 h.2 fun p' hp'=>ea1_2 (h2 p' (List.mem_cons_of_mem _ hp')) fun b hb hc=>?_
      rcases List.mem_cons.mp hb with e | e
      · exact absurd (List.mem_map.mpr ⟨p',hp',(Prod.mk.inj e).1⟩) nd.1
      · exact ⟨b,e,hc⟩
 exact key lateW m (by decide +kernel) h1 h2
noncomputable def stepOk (flags:Int) (w:Str):Bool:=(memberW.lookup w).isSome&&(Builtin.bitAnd flags (mw w)==0)&&(Builtin.bitAnd (mw w) 114688==0||Builtin.bitAnd flags 114688==0)&&(late w).all fun o=>(memberW.lookup o).isSome&&Builtin.bitAnd flags (mw o)==0
theorem mem_get {w:Str} (h:(memberW.lookup w).isSome=true):kget memM w=some (.int (mw w)):=by
 have key:∀ l:List (Str×Int),(l.lookup w).isSome=true->kget (l.map fun p=>(p.1,V.int p.2)) w=some (.int ((l.lookup w).getD 0)):=by
  intro l
  induction l with
  | nil=>intro h;injection h
  | cons p r ih=>
   intro h
   obtain ⟨p1,p2⟩:=p
   rw [List.lookup_cons] at h ⊢
   by_cases hw:w=p1
   · subst hw;rw [beq_self_eq_true];unfold kget;refine qE List.map_cons (qE List.find?_cons ?_);simp
   · rw [show (w==p1)=false by simpa using hw] at h ⊢
     refine qB (ih h) ?_;unfold kget;refine qE List.map_cons (qE List.find?_cons ?_);simp only [show decide (p1=w)=false from decide_eq_false fun h=>hw h.symm]
 exact key memberW h
theorem mem_none {w:Str} (h:(memberW.lookup w).isSome=false):kget memM w=none:=by
 have key:∀ l:List (Str×Int),(l.lookup w).isSome=false->kget (l.map fun p=>(p.1,V.int p.2)) w=none:=by
  intro l
  induction l with
  | nil=>intro h;rfl
  | cons p r ih=>
   intro h
   obtain ⟨p1,p2⟩:=p
   rw [List.lookup_cons] at h
   by_cases hw:w=p1
   · subst hw;rw [beq_self_eq_true] at h;injection h
   · replace h:=(show (w==p1)=false by simpa using hw)▸h
     refine qB (ih h) ?_;unfold kget;refine qE List.map_cons (qE List.find?_cons ?_);simp only [show decide (p1=w)=false from decide_eq_false fun h=>hw h.symm]
 exact key memberW h
theorem c_check_order {flags:Int} (P:PSt σ e s) (ht:e.tks[s.at_]?=some t) (ho:((late t.text).all fun o=>(memberW.lookup o).isSome&&Builtin.bitAnd flags (mw o)==0)=true) (hD:2<=D) (q:∀ σ',E0 σ σ'->k .none σ'):CallV K D (fA K 118) [.ref e.p,.int flags] k σ:=by
 revert P ht ho hD q;revert K D σ k e s t flags;refine no_implicit_lambda% (al8 (n:=⟨(kc0,default)⟩) ?_);generalize et8 _ _=υ;generalize υ.1=K,υ.2.1=D,υ.2.2.1=σ,υ.2.2.2.1=k,υ.2.2.2.2.1=e,υ.2.2.2.2.2.1=s,υ.2.2.2.2.2.2.1=t,υ.2.2.2.2.2.2.2=flags;clear υ;intro P ht ho hD q
 refine cFn 118 2 (dl hD) (ea1_3 (gdI (K:=K) tabs_use.1.1.1.1.1.1.1 (by decide +kernel)) fun b hb hc hO=>?_)
 revert hb hc hO;revert b;refine al1 ?_;generalize et1 _ _=b;intro hb hc hO
 refine ea2_5 (gdT (K:=K) tabs_use.1.1.1.1.1.2) fun c m hc1 hc2 hcO hm1 hm2=>?_
 revert hc1 hc2 hcO hm1 hm2;revert c m;refine al2 ?_;generalize et2 _ _=υ;generalize υ.1=c,υ.2=m;clear υ;intro hc1 hc2 hcO hm1 hm2
 refine pM 1 P (c_now P ht (dn hD) fun a ha=>?_)
 revert ha;revert a;refine al1 ?_;generalize et1 _ _=a;intro ha
 refine gNm hc1 (⟨_,(mGetD (σ:=σ) (h00 hc2)).1,(mGetD (σ:=σ) (h00 hc2)).2,?_⟩)
 refine getTok ha (tp fun y fy=>?_)
 revert fy;revert y;refine al1 ?_;generalize et1 _ _=y;intro fy
 have x1:E0 σ (σ.fz y (.tup [])):=.fz fy
 refine cGetD (h00 hc2) (hcO _) ?_
 have ha1:=ha.ex x1
 rcases late_get hm1 hm2 t.text with ⟨c2,hg,hcb⟩ | ⟨hg,hl⟩
 · refine qE hg (⟨3,.tup c2,(late t.text).map .str,fun rem m' σ'=>m'=([("p",.ref e.p),("flags",.int flags),("word",.ref a)]:Loc)/\E0 σ σ'/\∃ l':List Str,rem=l'.map .str/\(l'.all fun o=>(memberW.lookup o).isSome&&Builtin.bitAnd flags (mw o)==0)=true,rfl,⟨rfl,x1,_,rfl,ho⟩,fun l' m' σ' h=>h00 hcb,?_,?_⟩)
   · intro x rem m' σ2 z1;refine ea0_3 z1 fun z2 x2 z3=>?_;clear z1;subst z2;refine ea1_2 z3 fun l' hl1 hl2=>?_;clear z3
     induction l' using List.casesOn with
     | nil=>injection hl1
     | cons o l'=>
      rw [List.map_cons,List.cons.injEq] at hl1
      refine ea0_2 hl1 fun z1 z2=>?_;clear hl1;subst z1;subst z2
      rw [List.all_cons,Bool.and_eq_true,Bool.and_eq_true,beq_iff_eq] at hl2
      refine ea0_2 hl2 fun z1 g3=>?_;clear hl2;refine ea0_2 z1 fun g1 g2=>?_;clear z1
      refine gNm hb (⟨notPyD (h00 hc),itemD (h00 hc) (mem_get g1) ?_⟩)
      exact andI (truI (qE g2 (⟨rfl,x2,l',rfl,g3⟩)))
   · intro m' σ2 z1;refine ea0_3 z1 fun hm x2 z2=>?_;clear z1;refine ea1_2 z2 fun l' hl1 hl2=>?_;clear z2
     exact q σ2 x2
 · refine qE hg ?_
   refine ⟨40,.tup y,[],fun rem m' σ'=>rem=[]/\E0 (σ.fz y (.tup [])) σ',rfl,⟨rfl,.refl⟩,fun l' m' σ' h=>by
    refine ea0_2 h fun h1 h2=>?_;clear h
    subst h1
    exact hF (h2.f _ _ fz_F),?_,?_⟩
   · intro x rem m' σ2 z1;refine ea0_2 z1 fun h z2=>?_;clear z1;clear z2;injection h
   · intro m' σ2 z1;refine ea0_2 z1 fun z2 x2=>?_;clear z1;clear z2
     exact q σ2 (x1.trans x2)
noncomputable def SeqOn (L:List Tok):Bool->List Tk->Nat->Prop
 | _,[],_=>True
 | ln,x::r,i=>L[i]?=some (x.tok i ln)/\SeqOn L false r (i+1)
noncomputable def nmTk (w:Str):Tk:=⟨1,w,0⟩
noncomputable def modsOk:Int->List Str->Bool
 | _,[]=>true
 | f,w::r=>stepOk f w&&modsOk (Builtin.bitOr f (mw w)) r
noncomputable def orAll:Int->List Str->Int
 | f,[]=>f
 | f,w::r=>orAll (Builtin.bitOr f (mw w)) r
theorem c_marks_member {u:Tok} (P:PSt σ e s) (ht:e.tks[s.at_]?=some t) (hu:e.tks[s.at_+1]?=some u) (hk:[1,2,4,3].any (·==u.kind)=true) (hl:u.line=false) (hD:4<=D) (q:∀ σ',E0 σ σ'->k (.bool true) σ'):CallV K D (fA K 119) [.ref e.p] k σ:=by
 refine cFn 119 1 (dl hD) (pM 2 P (c_ahead (n:=1) P hu (dn hD) fun b hb=>gFn 91 (c_starts_prop hb hk (dn hD) fun σ1 x1=>?_)))
 have P1:=P.e0 x1
 refine truB (pM 6 P1 (c_is_name P1 ht (dn hD) (truB ?_)))
 induction hb2:(t.kind==1&&t.text=="static") with
 | true=>exact q σ1 x1
 | false=>
  refine getTok (hb.ex x1) (notW (truB ?_))
  exact qE hl (q σ1 x1)
theorem bne_f {i:Int} (h:(i==0)=true):(i != 0)=false:=by rw [bne,h];rfl
theorem c_read_modifiers {mods:List Str} {nt:Tk} {ln:Bool} (P:PSt σ e s) (hs:SeqOn e.tks ln (mods.map nmTk++[nt]) s.at_) (hm:modsOk 0 mods=true) (hn:[1,2,4,3].any (·==nt.kind)=true) (hn1:nt.kind=1->(memberW.lookup nt.text).isSome=false) (hD:5<=D)
 (q:∀ σ',PSt σ' e { s with at_:=s.at_+mods.length }->Px e σ σ'->k (.int (orAll 0 mods)) σ'):CallV K D (fA K 117) [.ref e.p] k σ:=by
 revert P hs hm hn hn1 hD q
 revert K D σ k e s mods nt ln
 refine no_implicit_lambda% (al9 (n:=⟨(kc0,default)⟩) ?_)
 generalize et9 _ _=υ
 generalize υ.1=K,υ.2.1=D,υ.2.2.1=σ,υ.2.2.2.1=k,υ.2.2.2.2.1=e,υ.2.2.2.2.2.1=s,υ.2.2.2.2.2.2.1=mods,υ.2.2.2.2.2.2.2.1=nt,υ.2.2.2.2.2.2.2.2=ln
 intro P hs hm hn hn1 hD q
 refine cFn 117 1 (dl hD) ?_
 refine ea1_3 (gdI (K:=K) tabs_use.1.1.1.1.1.1.1 (by decide +kernel)) fun b hb hc hO=>whilI 2 (fun n m' σ'=>∃ (f:Int) (rem:List Str) (i:Nat) (ln:Bool),n=rem.length/\m'=([("p",.ref e.p),("flags",.int f)]:Loc)/\SeqOn e.tks ln (rem.map nmTk++[nt]) i/\modsOk f rem=true/\orAll f rem=orAll 0 mods/\i+rem.length=s.at_+mods.length/\PSt σ' e { s with at_:=i }/\Px e σ σ')
  mods.length ⟨0,mods,s.at_,ln,rfl,rfl,hs,hm,rfl,rfl,P,.refl⟩ ?_
 intro I hin n m' σ1 z1;refine ea4_1 z1 fun f rem i ln y4=>?_;refine ea0_8 y4 fun z2 z3 hs1 ok ho hi P1 x1=>?_;clear y4;clear z1;subst z2;subst z3
 induction rem using List.casesOn with
 | nil=>
  have ht:=hs1.1
  rw [orAll] at ho
  have e1:i=s.at_+mods.length:=by simpa using hi
  subst e1
  refine pM 1 P1 (c_now P1 ht (dn hD) fun a ha=>getTok ha (eqI ?_))
  induction h1:(nt.kind==1) with
  | false=>
   exact qE (show ((nt.tok (s.at_+mods.length) ln).kind==1)=false from h1) (ho▸q σ1 P1 x1)
  | true=>
   exact qE (show ((nt.tok (s.at_+mods.length) ln).kind==1)=true from h1) (pM 1 P1 (c_now P1 ht (dn hD) fun a2 ha2=>getTok ha2 (gNm hb (inD (h00 hc) (hO _) (qE (show kget memM (nt.tok (s.at_+mods.length) ln).text=none from mem_none (hn1 (by simpa using h1))) (ho▸q σ1 P1 x1))))))
 | cons w r=>
  refine ea0_2 hs1 fun ht hs2=>?_;clear hs1
  rw [modsOk,Bool.and_eq_true] at ok
  refine ea0_2 ok fun ok1 ok2=>?_;clear ok
  simp only [stepOk,Bool.and_eq_true] at ok1
  refine ea0_2 ok1 fun z1 g4=>?_;clear ok1;refine ea0_2 z1 fun z2 g3=>?_;clear z1;refine ea0_2 z2 fun g1 g2=>?_;clear z2
  obtain ⟨u,hu,hku,hlu⟩:∃ u:Tok,e.tks[i+1]?=some u/\[1,2,4,3].any (·==u.kind)=true/\u.line=false:=by
   induction r using List.casesOn with
   | nil=>exact ⟨_,hs2.1,hn,rfl⟩
   | cons w2 r=>exact ⟨_,hs2.1,by show [1,2,4,3].any (·==(1:Int))=true;decide,rfl⟩
  refine pM 1 P1 (c_now P1 ht (dn hD) fun a ha=>getTok ha (eqI (pM 1 P1 (c_now P1 ht (dn hD) fun a2 ha2=>getTok ha2 (gNm hb (inD (h00 hc) (hO _) (qE (show kget memM ((nmTk w).tok i ln).text=some (.int (mw w)) from mem_get g1) (gFn 119 (c_marks_member P1 ht hu hku hlu (dn hD) fun σ2 x2=>?_)))))))))
  have P2:=P1.e0 x2
  refine truB (gNm hb (pM 1 P2 (c_now P2 ht (dn hD) fun a3 ha3=>getTok ha3 (⟨notPyD (h00 hc),itemD (h00 hc) (a:=.int (mw w)) (mem_get g1) ?_⟩))))
  refine andI (truI (qE (bne_f g2) (andI (truI ?_))))
  induction hacc:(Builtin.bitAnd (mw w) 114688 != 0) with
  | false=>
   refine gFn 118 (c_check_order P2 ht g4 (dn hD) fun σ3 x3=>?_)
   have P3:=P2.e0 x3
   refine iorI (pM 3 P3 (c_step P3 ht (by show (1:Int)≠0;decide) (dn hD) fun a4 σ4 ha4 P4 x4=>?_))
   exact ⟨r.length,Nat.lt_succ_self _,hin _ _ _ ⟨_,r,i+1,false,rfl,rfl,hs2,ok2,ho,by replace hi:=List.length_cons▸hi;lia,P4,((x1.trans x2.px).trans x3.px).trans x4⟩⟩
  | true=>
   have g5:(Builtin.bitAnd f 114688==0)=true:=by
    rw [Bool.or_eq_true] at g3
    rcases g3 with g3 | g3
    · rw [bne,g3] at hacc;injection hacc
    · exact g3
   refine andI (truI (qE (bne_f g5) (gFn 118 (c_check_order P2 ht g4 (dn hD) fun σ3 x3=>?_))))
   have P3:=P2.e0 x3
   refine iorI (pM 3 P3 (c_step P3 ht (by show (1:Int)≠0;decide) (dn hD) fun a4 σ4 ha4 P4 x4=>?_))
   exact ⟨r.length,Nat.lt_succ_self _,hin _ _ _ ⟨_,r,i+1,false,rfl,rfl,hs2,ok2,ho,by replace hi:=List.length_cons▸hi;lia,P4,((x1.trans x2.px).trans x3.px).trans x4⟩⟩
theorem nm_f {w:Str} (h:t.kind=1->(t.text==w)=false):(t.kind==1&&t.text==w)=false:=by
 induction h1:(t.kind==1) with
 | false=>rfl
 | true=>refine qE (h (by simpa using h1)) ?_;rfl
structure NmOk (t:Tok):Prop where
 k:[1,2,4,3].any (·==t.kind)=true
 k5:t.kind≠5
 w:∀ x∈(["static","async","accessor","get","set"]:List Str),(t.text==x)=false
 c:(t.text=="constructor")=false
 p:(t.text=="prototype")=false
theorem c_refuse_member (P:PSt σ e s) (ht:e.tks[s.at_]?=some t) (hn:NmOk t) (hD:3<=D) (q:k .none σ):CallV K D (fA K 120) [.ref e.p] k σ:=by
 refine cFn 120 1 (dl hD) ?_
 have h5:(t.kind==5)=false:=by simpa using hn.k5
 exact pM 6 P (c_is_name P ht (dn hD) (qE (nm_f fun ξ=>hn.w "static" (by decide)) (truB (pM 4 P (c_is_sign P ht (dn hD) (qE h5 (truB (pM 6 P (c_is_name P ht (dn hD) (qE (nm_f fun ξ=>hn.w "async" (by decide)) (truB (pM 6 P (c_is_name P ht (dn hD) (qE (nm_f fun ξ=>hn.w "accessor" (by decide)) (truB q)))))))))))))))
theorem c_check_marks {p:V} {nm:Str} {fl at_:Int} (h1:(Builtin.bitAnd fl 524288==0)=true) (h2:(nm=="prototype")=false) (hD:1<=D) (q:k .none σ):CallV K D (fA K 123) [p,.str nm,.int fl,.int at_] k σ:=by
 refine cFn 123 4 (dl hD) (andI (truI (qE (bne_f h1) (andI (truI ?_)))))
 induction hb:(Builtin.bitAnd fl 262144 != 0) with
 | false=>exact q
 | true=>
  exact eqS (qE h2 q)
end
section
variable {t:Tok} {a:Addr} {tx:Str} {v:T}
noncomputable def Lf.plain:Lf->Bool
 | .num _=>true | .str=>true | .tt=>true | .ff=>true | .tpl=>true
 | _=>false
noncomputable def T.plain:T->Bool
 | .leaf l=>l.plain
 | .sg w c=>w=="-"&&c.kd==1
 | _=>false
theorem c_is_literal {x:Addr} {i:Nat} (hf:FoAt σ (v.fo i .nil) [.ref x]) (hD:1<=D) (q:∀ σ',E0 σ σ'->k (.bool v.plain) σ'):CallV K D (fA K 115) [.ref x] k σ:=by
 revert hf hD q
 revert K D σ k v x i
 refine no_implicit_lambda% (al7 (n:=⟨(kc0,default)⟩) ?_)
 generalize et7 _ _=υ
 generalize υ.1=K,υ.2.1=D,υ.2.2.1=σ,υ.2.2.2.1=k,υ.2.2.2.2.1=v,υ.2.2.2.2.2.1=x,υ.2.2.2.2.2.2=i
 intro hf hD q
 refine ea3_4 hf.one fun x' av ks e0 h2 h3 h4=>?_
 cases e0
 refine cFn 115 1 hD ?_
 induction v with
 | sg w c=>
  refine ea3_4 (FoAt.one (t:=c) h4) fun x2 av2 ks2 z1 h5 h6 h7=>?_;subst z1
  have e1:av=.str w:=h2
  subst e1
  refine getNode h3 fun kl hkl=>eqI (getNode h3 fun kl hkl=>eqS (truB ?_))
  have q:k (.bool (w=="-"&&c.kd==1)) σ:=q σ .refl
  induction hw:(w=="-") with
  | false=>replace q:=hw▸q;exact q
  | true=>
   replace q:=hw▸q
   refine getNode h3 fun kl hkl=>⟨notPyL (hF hkl),itemL' 0 (hF hkl) rfl rfl (by lia) ?_⟩
   exact getNode h6 fun kl hkl=>eqI q
 | leaf l=>
  have e2:ks=[]:=h4
  subst e2
  cases l
  case tpl=>
   refine getNode h3 fun kl hkl=>eqI (getNode h3 fun kl hkl=>eqI (getNode h3 fun kl hkl=>notW (truL (hF hkl) (nb rfl) ?_)))
   exact q σ .refl
  all_goals
   exact getNode h3 fun kl hkl=>eqI (getNode h3 fun kl hkl=>eqI (getNode h3 fun kl hkl=>tp fun y fy=>inTupI (ls:=[1,2,4,5]) (hF fz_F) (q _ (.fz fy))))
 | tp1 c=>
  refine ea3_4 (FoAt.one (t:=c) h4) fun x2 av2 ks2 z1 h5 h6 h7=>?_;subst z1
  refine getNode h3 fun kl hkl=>eqI (getNode h3 fun kl hkl=>eqI (getNode h3 fun kl hkl=>notW (truL (hF hkl) (nb rfl) ?_)))
  exact q σ .refl
 | tp2 c d=>
  have h4:FoAt σ (c.fo (i+1) (d.fo (i+2+c.sz) .nil)) ks:=h4
  rw [T.fo_eq] at h4
  refine ea4_5 h4 fun x2 l2 av2 ks2 z1 h5 h6 h7 h8=>?_;clear h4;subst z1
  have hl:=FoAt.len h8
  rw [T.fo_eq] at hl
  have hl:l2.length=1:=hl
  refine getNode h3 fun kl hkl=>eqI (getNode h3 fun kl hkl=>eqI (getNode h3 fun kl hkl=>notW (truL (hF hkl) (by refine qE List.length_cons ?_;lia) ?_)))
  exact q σ .refl
 | par c=>
  exact getNode h3 fun kl hkl=>eqI (getNode h3 fun kl hkl=>eqI (getNode h3 fun kl hkl=>tp fun y fy=>inTupI (ls:=[1,2,4,5]) (hF fz_F) (q _ (.fz fy))))
 | sum w c d=>
  have hk:(T.sum w c d).kd=24\/(T.sum w c d).kd=23:=by
   show (if w=="||" then (24:Int) else 23)=24\/(if w=="||" then (24:Int) else 23)=23
   split
   · exact .inl rfl
   · exact .inr rfl
  refine getNode h3 fun kl hkl=>eqI ?_
  rw [show ((T.sum w c d).kd==21)=false by rcases hk with h | h <;> refine qE h ?_ <;> decide]
  refine getNode h3 fun kl hkl=>eqI ?_
  rw [show ((T.sum w c d).kd==3)=false by rcases hk with h | h <;> refine qE h ?_ <;> decide]
  refine getNode h3 fun kl hkl=>tp fun y fy=>inTupI (ls:=[1,2,4,5]) (hF fz_F) ?_
  rw [show [1,2,4,5].any (·==(T.sum w c d).kd)=false by rcases hk with h | h <;> refine qE h ?_ <;> decide]
  exact q _ (.fz fy)
noncomputable def told (fl at_:Int) (kind:Bool):Option (T×Nat)->List (Int×Int)
 | none=>[]
 | some (v,i)=>if kind||Builtin.bitAnd fl 131072==0 then [(1039,at_)] else if v.plain then [] else [(1254,((3 * i+2:Nat):Int))]
noncomputable def InAt (σ:Sg):Option (T×Nat)->V->Prop
 | none,v=>v=.none
 | some (t,i),v=>∃ x,v=.ref x/\FoAt σ (t.fo i .nil) [.ref x]
theorem InAt.ex {X} {o:Option (T×Nat)} {v:V} (h:InAt σ o v) (x:Ex X σ σ'):InAt σ' o v:=by
 induction o with
 | none=>exact h
 | some p=>obtain ⟨t,i⟩:=p;refine ea1_2 h fun y h1 h2=>?_;clear h;exact ⟨y,h1,h2.ex x⟩
theorem told_len {fl at_:Int} {kind:Bool} {o:Option (T×Nat)}:(told fl at_ kind o).length<=1:=by
 induction o with
 | none=>exact Nat.zero_le _
 | some p=>
  obtain ⟨t,i⟩:=p
  unfold told
  dsimp only
  cases (kind||Builtin.bitAnd fl 131072==0) with
  | true=>exact Nat.le_refl 1
  | false=>cases t.plain with
   | true=>exact Nat.zero_le 1
   | false=>exact Nat.le_refl 1
theorem c_declared_field {x:Addr} {nm:Str} {kv iv:V} {fl at_:Int} {kind:Bool} {o:Option (T×Nat)} (P:PSt σ e s) (hl:s.dgs.length<999) (hN:NodeAt σ x 62 (.str nm) [kv,iv] fl at_) (hk:decide (kv=.none)=!kind) (hi:InAt σ o iv) (hD:4<=D)
 (q:∀ σ',PSt σ' e { s with dgs:=s.dgs++told fl at_ kind o }->Px e σ σ'->k .none σ'):CallV K D (fA K 114) [.ref e.p,.ref x] k σ:=by
 revert P hl hN hk hi hD q
 revert K D σ k e s x nm kv iv fl at_ kind o
 refine no_implicit_lambda% (al14 (n:=⟨(kc0,default)⟩) ?_)
 generalize et14 _ _=υ
 generalize υ.1=K,υ.2.1=D,υ.2.2.1=σ,υ.2.2.2.1=k,υ.2.2.2.2.1=e,υ.2.2.2.2.2.1=s,υ.2.2.2.2.2.2.1=x,υ.2.2.2.2.2.2.2.1=nm,υ.2.2.2.2.2.2.2.2.1=kv,υ.2.2.2.2.2.2.2.2.2.1=iv,υ.2.2.2.2.2.2.2.2.2.2.1=fl,υ.2.2.2.2.2.2.2.2.2.2.2.1=at_,υ.2.2.2.2.2.2.2.2.2.2.2.2.1=kind,υ.2.2.2.2.2.2.2.2.2.2.2.2.2=o
 intro P hl hN hk hi hD q
 refine cFn 114 2 (dl hD) (getNode hN fun kl hkl=>⟨notPyL (hF hkl),itemL' 1 (hF hkl) rfl rfl (by lia) ?_⟩)
 refine isN ?_
 induction o with
 | none=>
  have hi:iv=.none:=hi
  subst hi
  exact q σ (by show PSt σ e { s with dgs:=s.dgs++[] };rw [List.append_nil];exact P) .refl
 | some p=>
  obtain ⟨v,i⟩:=p
  refine ea1_2 hi fun y z1 hy=>?_;clear hi;subst z1
  refine getNode hN fun kl2 hkl2=>andI (truI ?_)
  unfold told at q
  have tell1:(kind||Builtin.bitAnd fl 131072==0)=true->∀ σ',PSt σ' e { s with dgs:=s.dgs++[(1039,at_)] }->Px e σ σ'->k .none σ':=fun h=>by dsimp only at q;replace q:=h▸q;exact q
  have tell2:(kind||Builtin.bitAnd fl 131072==0)=false->∀ σ',PSt σ' e { s with dgs:=s.dgs++(if v.plain then [] else [(1254,((3 * i+2:Nat):Int))]) }->Px e σ σ'->k .none σ':=fun h=>by dsimp only at q;replace q:=h▸q;exact q
  induction hro:(Builtin.bitAnd fl 131072 != 0) with
  | false=>
   have h0:(kind||Builtin.bitAnd fl 131072==0)=true:=by rw [bne,Bool.not_eq_false'] at hro;rw [hro,Bool.or_true]
   exact getP P (dgM P (by decide +kernel) (getNode hN fun kl3 hkl3=>tp fun z fz=>c_put (P.fz fz) hl (dn hD) fun σ2 P2 x2=>tell1 h0 σ2 P2 ((Ex.fz fz).trans x2)))
  | true=>
   have h0:(Builtin.bitAnd fl 131072==0)=false:=by rw [bne,Bool.not_eq_true'] at hro;exact hro
   rw [h0,Bool.or_false] at tell1 tell2
   refine getNode hN fun kl3 hkl3=>⟨notPyL (hF hkl3),itemL' 0 (hF hkl3) rfl rfl (by lia) ?_⟩
   refine isNotN ?_
   rw [hk,Bool.not_not]
   induction kind with
   | true=>
    exact getP P (dgM P (by decide +kernel) (getNode hN fun kl3 hkl3=>tp fun z fz=>c_put (P.fz fz) hl (dn hD) fun σ2 P2 x2=>tell1 rfl σ2 P2 ((Ex.fz fz).trans x2)))
   | false=>
    refine gFn 115 (c_is_literal hy (dn hD) fun σ2 x2=>?_)
    have P2:=P.e0 x2
    refine truB ?_
    have tell2:=tell2 rfl
    induction hp:v.plain with
    | true=>
     replace tell2:=hp▸tell2
     exact tell2 σ2 (by show PSt σ2 e { s with dgs:=s.dgs++[] };rw [List.append_nil];exact P2) x2.px
    | false=>
     replace tell2:=hp▸tell2
     refine ea3_4 ((hy.ex x2).one) fun y' av ks e0 h2 h3 h4=>?_
     cases e0
     exact getP P2 (dgM P2 (by decide +kernel) (getNode h3 fun kl3 hkl3=>tp fun z fz=>c_put (P2.fz fz) hl (dn hD) fun σ3 P3 x3=>tell2 σ3 P3 ((x2.px.trans (Ex.fz fz)).trans x3)))
structure FlOk (fl:Int):Prop where
 ab:(Builtin.bitAnd fl 524288==0)=true
 bang:(Builtin.bitAnd fl 2097152==0)=true
 ov:(Builtin.bitAnd fl 1048576==0)=true
theorem c_field_row {x:Addr} {nm:Str} {kv iv:V} {fl at_ cf:Int} {kind:Bool} {o:Option (T×Nat)} (P:PSt σ e s) (hl:s.dgs.length<999) (hN:NodeAt σ x 62 (.str nm) [kv,iv] fl at_) (hk:decide (kv=.none)=!kind) (hi:InAt σ o iv) (hf:FlOk fl) (hn:(nm=="constructor")=false) (hD:5<=D)
 (q:∀ σ',PSt σ' e { s with dgs:=s.dgs++(if Builtin.bitAnd fl 4194304 != 0 then told fl at_ kind o else []) }->Px e σ σ'->k .none σ'):CallV K D (fA K 128) [.ref e.p,.ref x,.int cf] k σ:=by
 refine cFn 128 3 (dl hD) (getNode hN fun kl hkl=>eqS (qE hn (getNode hN fun kl hkl=>andI (truI (qE (bne_f hf.bang) (getNode hN fun kl hkl=>andI (truI ?_)))))))
 induction ha:(Builtin.bitAnd fl 4194304 != 0) with
 | true=>
  replace q:=ha▸q
  exact getNode hN fun kl hkl=>andI (truI (qE (bne_f hf.ov) (getNode hN fun kl hkl=>andI (truI (qE ha (gFn 114 (c_declared_field P hl hN hk hi (dn hD) fun σ2 P2 x2=>q σ2 P2 x2)))))))
 | false=>
  replace q:=ha▸q
  exact getNode hN fun kl hkl=>andI (truI (qE ha (getNode hN fun kl hkl=>andI (truI (qE (bne_f hf.ab) (q σ (by show PSt σ e { s with dgs:=s.dgs++[] };rw [List.append_nil];exact P) .refl))))))
theorem c_part_type {i:Nat} (P:PSt σ e s) (ht:e.tks[s.at_]?=some (Tk.tok ⟨1,"T",0⟩ i false)) (h0:0<=s.deep) (h40:s.deep<40) (hD:6<=D) (q:∀ x σ',PSt σ' e { s with at_:=s.at_+1 }->NodeAt σ' x 8 (.str "T") [] 0 ((3 * i+2:Nat):Int)->Px e σ σ'->k (.ref x) σ'):CallV K D (.ref (mAd K 84 21)) [.ref e.p,.int 1] k σ:=by
 refine mV 84 21 2 (by lia) (by decide +kernel) rfl (ea1_2 (gtTI (K:=K) tabs_use.1.2) fun b hb hc=>getP P (niDI (hF P.pf.pt) (oF P.pf.pt) (pM 19 P (c_down P h40 (dn hD) fun σ1 P1 x1=>gNm hb (inTupI (h00 hc) (getP P1 (⟨notPyDI (hF P1.pf.pt),itemDI (hF P1.pf.pt) rfl ?_⟩)))))))
 refine ruleM 106 83 0 ct_NamePart P1.pf.np (by decide +kernel) rfl (mV2 106 83 0 2 (dn hD) (by decide +kernel) rfl (pM 1 P1 (c_now P1 ht (show 1<=D-1-1 by lia) fun a ha=>getTok ha (gFn 46 (pM 12 P1 (c_need_name P1 ht rfl (show 2<=D-1-1 by lia) fun σ2 P2 x2=>c_leaf (show 3<=D-1-1 by lia) fun x σ3 hx x3=>?_))))))
 have P3:=P2.e0 x3
 have fin:∀ σ4,E0 σ3 σ4->∀ σ5,PSt σ5 e { s with at_:=s.at_+1,deep:=s.deep+1-1 }->Px e σ4 σ5->k (.ref x) σ5:=fun σ4 x4 σ5 P5 x5=>q x σ5 (by replace P5:=(show s.deep+1-1=s.deep by lia)▸P5;exact P5) ((hx.ex x4).ex x5) (((x1.trans x2).trans x3.px).trans (x4.px.trans x5))
 have hfo:FoAt σ3 (.nd 8 (.str "T") 0 ((3 * i+2:Nat):Int) .nil .nil) [.ref x]:=⟨x,[],.str "T",[],rfl,rfl,hx,rfl,rfl⟩
 refine getP P3 (eqI ?_)
 induction hb1:(s.deep+1==1) with
 | false=>
  exact pM 20 P3 (c_up P3 (dn hD) fun σ4 P4 x4=>fin σ3 .refl σ4 P4 x4)
 | true=>
  refine gFn 88 (c_check_height hfo (nb rfl) (dn hD) fun σ4 x4=>?_)
  have P4:=P3.e0 x4
  exact pM 20 P4 (c_up P4 (dn hD) fun σ5 P5 x5=>fin σ4 x4 σ5 P5 x5)
end
section
variable {t:Tok} {a:Addr} {tx:Str} {v:T}
set_option genInjectivity false in
structure Fd where
 mods:List Str
 nt:Tk
 opt:Bool
 kind:Bool
 init:Option T
 semi:Bool
deriving Inhabited
namespace Fd
noncomputable def fl (f:Fd):Int:=if f.opt then Builtin.bitOr (orAll 0 f.mods) 4096 else orAll 0 f.mods
noncomputable def j0 (f:Fd) (i:Nat):Nat:=i+f.mods.length
noncomputable def j1 (f:Fd) (i:Nat):Nat:=f.j0 i+1+f.opt.toNat
noncomputable def j2 (f:Fd) (i:Nat):Nat:=f.j1 i+2 * f.kind.toNat
noncomputable def j3 (f:Fd) (i:Nat):Nat:=match f.init with | none=>f.j2 i | some v=>f.j2 i+1+v.sz
noncomputable def jE (f:Fd) (i:Nat):Nat:=f.j3 i+f.semi.toNat
noncomputable def ini (f:Fd) (i:Nat):Option (T×Nat):=match f.init with | none=>none | some v=>some (v,f.j2 i+1)
noncomputable def at_ (f:Fd) (i:Nat):Int:=((3 * f.j0 i+2:Nat):Int)
noncomputable def told (f:Fd) (i:Nat):List (Int×Int):=Mine.told f.fl (f.at_ i) f.kind (f.ini i)
noncomputable def amb (f:Fd):Bool:=Builtin.bitAnd f.fl 4194304 != 0
end Fd
noncomputable def sgT (x:Str) (i:Nat):Tok:=Tk.tok ⟨5,x,0⟩ i false
set_option genInjectivity false in
structure Fd.On (f:Fd) (L:List Tok) (ln:Bool) (i:Nat):Prop where
 pre:SeqOn L ln (f.mods.map nmTk++[f.nt]) i
 o:f.opt=true->L[f.j0 i+1]?=some (sgT "?" (f.j0 i+1))
 kd:f.kind=true->L[f.j1 i]?=some (sgT ":" (f.j1 i))/\L[f.j1 i+1]?=some (Tk.tok ⟨1,"T",0⟩ (f.j1 i+1) false)
 ini:∀ v,f.init=some v->L[f.j2 i]?=some (sgT "=" (f.j2 i))/\v.On L (f.j2 i+1)
 semi:f.semi=true->L[f.j3 i]?=some (sgT ";" (f.j3 i))
structure Nx (t:Tok):Prop where
 line:t.line=true
 k:[1,4,3].any (·==t.kind)=true\/(t.kind=5/\t.text="}")
 ln:t.kind=1->t.text.length<=100
set_option genInjectivity false in
structure Fd.Ok (f:Fd):Prop where
 mo:modsOk 0 f.mods=true
 nk:[1,2,4,3].any (·==f.nt.kind)=true
 n1:f.nt.kind=1->(memberW.lookup f.nt.text).isSome=false
 nm:∀ i ln,NmOk (f.nt.tok i ln)
 o0:(Builtin.bitAnd (orAll 0 f.mods) 4096==0)=true
 o1:(Builtin.bitAnd (Builtin.bitOr (orAll 0 f.mods) 4096) 4096==0)=false
 f0:FlOk (orAll 0 f.mods)
 f1:FlOk (Builtin.bitOr (orAll 0 f.mods) 4096)
 v:∀ v,f.init=some v->v.ok false/\v.sz<=140/\v.dp<=10
noncomputable def Ends (l:List Str) (t:Tok):Prop:=t.kind=5->l.any (·==t.text)=true
theorem Ends.no {l:List Str} (h:Ends l t) (hx:l.any (·==tx)=false):(t.kind==5&&t.text==tx)=false:=by
 induction h5:(t.kind==5) with
 | false=>rfl
 | true=>
  rw [Bool.true_and,beq_eq_false_iff_ne]
  rintro rfl
  replace hx:=(h (by simpa using h5))▸hx;injection hx
theorem Ends.wide {l l':List Str} (h:Ends l t) (hx:∀ x∈l,x∈l'):Ends l' t:=fun h5=>by
 exact ea1_2 (List.any_eq_true.mp (h h5)) fun x h1 h2=>List.any_eq_true.mpr ⟨x,hx x h1,h2⟩
structure End (t:Tok) (semi:Bool):Prop where
 en:Ends [";","}"] t
 fv:FolV t
 s1:semi=true->(t.kind==5&&t.text==";")=true
 s0:semi=false->(t.kind==5&&t.text==";")=false/\(t.line||(t.kind==5&&t.text=="}"))=true
theorem endSemi (i:Nat):End (sgT ";" i) true:=by
 refine ⟨fun ξ=>by show ([";","}"]:List Str).any (·==(";":Str))=true;decide +kernel,⟨⟨by show (5:Int)≠6;decide,by show (5:Int)≠7;decide,fun ξ=>⟨by show ((";":Str)=="++")=false;decide +kernel,by show ((";":Str)=="--")=false;decide +kernel⟩,by show ((5:Int)==5&&(";":Str)=="**")=false;decide +kernel⟩,
  by show (5:Int)≠2;decide,fun ξ=>by show kget powM ";"=none;decide +kernel,by show ((5:Int)==5&&(";":Str)=="?")=false;decide +kernel,fun ξ=>by show assignS.any (·==(";":Str))=false;decide +kernel,fun h=>by cases h⟩,fun ξ=>by show ((5:Int)==5&&(";":Str)==";")=true;decide +kernel,fun h=>by injection h⟩
theorem endNx {t:Tok} (h:Nx t):End t false:=by
 rcases h.k with hk | ⟨h5,hx⟩
 · have n:∀ z:Int,([1,4,3]:List Int).any (·==z)=false->t.kind≠z:=fun z hz hh=>by replace hk:=hh▸hk;replace hz:=hk▸hz;injection hz
   have n5:(t.kind==5)=false:=by have:=n 5 (by decide);simpa using this
   have n5':t.kind≠5:=n 5 (by decide)
   exact ⟨fun h=>absurd h n5',⟨⟨n 6 (by decide),n 7 (by decide),fun h=>absurd h n5',by refine qE n5 ?_;rfl⟩,n 2 (by decide),fun h=>absurd h n5',by refine qE n5 ?_;rfl,fun h=>absurd h n5',h.ln⟩,fun h=>by (injection h),fun ξ=>⟨by refine qE n5 ?_;rfl,by refine qE h.line ?_;rfl⟩⟩
 · refine ⟨fun ξ=>by refine qE hx ?_;decide +kernel,⟨⟨by refine qE h5 ?_;decide,by refine qE h5 ?_;decide,fun ξ=>⟨by refine qE hx ?_;decide +kernel,by refine qE hx ?_;decide +kernel⟩,by refine qE h5 (qE hx ?_);decide +kernel⟩,by refine qE h5 ?_;decide,fun ξ=>by refine qE hx ?_;decide +kernel,by refine qE h5 (qE hx ?_);decide +kernel,fun ξ=>by refine qE hx ?_;decide +kernel,fun h=>by replace h:=h5▸h;cases h⟩,fun h=>by (injection h),fun ξ=>⟨by refine qE h5 (qE hx ?_);decide +kernel,by refine qE h.line ?_;rfl⟩⟩
theorem c_end {semi:Bool} (P:PSt σ e s) (ht:e.tks[s.at_]?=some t) (h:End t semi) (hD:4<=D) (q:∀ σ',PSt σ' e { s with at_:=s.at_+semi.toNat }->Px e σ σ'->k .none σ'):CallV K D (.ref (mAd K 84 18)) [.ref e.p] k σ:=by
 refine c_end_stmt P ht hD ?_
 induction semi with
 | true=>exact .inr ⟨h.s1 rfl,fun σ' P' x'=>q σ' P' x'⟩
 | false=>exact .inl ⟨(h.s0 rfl).1,(h.s0 rfl).2,q σ P .refl⟩
noncomputable abbrev fdM (e:Pe) (nm:Str) (fl at_ cf:Int) (r:Loc):Loc:=([("p",.ref e.p),("name",.str nm),("flags",.int fl),("at",.int at_),("class_flags",.int cf)]:Loc)++r
theorem field_end {nm:Str} {fl at_ cf:Int} {kv iv:V} {kind semi:Bool} {o:Option (T×Nat)} (P:PSt σ e s) (ht:e.tks[s.at_]?=some t) (he:End t semi) (hl:s.dgs.length<999) (hk:decide (kv=.none)=!kind) (hi:InAt σ o iv) (hf:FlOk fl) (hn:(nm=="constructor")=false) (hD:7<=D)
 (q:∀ x σ',PSt σ' e { s with at_:=s.at_+semi.toNat,dgs:=s.dgs++(if Builtin.bitAnd fl 4194304 != 0 then told fl at_ kind o else []) }->NodeAt σ' x 62 (.str nm) [kv,iv] fl at_->Px e σ σ'->k (.ref x) σ') :
 vcAt (cx 127 K D) (fBody (stAt 127)) 4 (fdM e nm fl at_ cf [("kind",kv),("init",iv)]) σ (kRet k):=by
 refine pM 18 P (c_end P ht he (dn hD) fun σ1 P1 x1=>gFn 48 (tp fun y fy=>c_flagged set_M (dn hD) fun x σ2 hN x2=>?_))
 have x12:=E0.of fy x2
 have P2:=P1.e0 x12
 exact gFn 128 (c_field_row P2 hl hN hk ((hi.ex x1).ex x12) hf hn (dn hD) fun σ3 P3 x3=>q x σ3 P3 (hN.ex x3) ((x1.trans x12.px).trans x3))
theorem field_init {nm:Str} {fl at_ cf:Int} {kv:V} {kind semi:Bool} {o:Option T} {te:Tok} (P:PSt σ e s) (hte:e.tks[(match o with | none=>s.at_ | some v=>s.at_+1+v.sz)]?=some te) (he:End te semi) (hv:∀ v,o=some v->e.tks[s.at_]?=some (sgT "=" s.at_)/\v.On e.tks (s.at_+1)/\v.ok false/\v.sz<=140/\v.dp<=10) (h0:s.deep=0)
 (hl:s.dgs.length<999) (hk:decide (kv=.none)=!kind) (hf:FlOk fl) (hn:(nm=="constructor")=false) (hD:150<=D)
 (q:∀ x iv σ' r,PSt σ' e { s with at_:=(match o with | none=>s.at_ | some v=>s.at_+1+v.sz)+semi.toNat,ret:=r,dgs:=s.dgs++(if Builtin.bitAnd fl 4194304 != 0 then told fl at_ kind (match o with | none=>none | some v=>some (v,s.at_+1)) else []) }->InAt σ' (match o with | none=>none | some v=>some (v,s.at_+1)) iv →
  NodeAt σ' x 62 (.str nm) [kv,iv] fl at_->Px e σ σ'->k (.ref x) σ') :
 vcAt (cx 127 K D) (fBody (stAt 127)) 2 (fdM e nm fl at_ cf [("kind",kv)]) σ (kRet k):=by
 induction o with
 | none=>
  refine pM 7 P (c_eat_sign P hte (dn hD) (fun h=>?_) (fun h=>by rw [he.en.no (by decide +kernel)] at h;injection h))
  refine truB ?_
  have H:=field_end (K:=K) (D:=D) (kv:=kv) (iv:=.none) (kind:=kind) (at_:=at_) (cf:=cf) (o:=none) (k:=k) P hte he hl hk rfl hf hn (by lia) fun x σ2 P2 hN x2=>q x .none σ2 s.ret P2 rfl hN x2
  conv at H=>whnf
  exact H
 | some v=>
  refine ea0_5 (hv v rfl) fun h1 h2 h3 h4 h5=>pM 7 P (c_eat_sign P h1 (dn hD) (fun h=>absurd h (by show ¬ ((5:Int)==5&&("=":Str)=="=")=false;decide +kernel)) fun h σ1 P1 x1=>?_)
  refine truB (pM 21 P1 ((values v h4).2 h3 P1 h2 ⟨te,hte,he.fv⟩ (by show 0<=s.deep;lia) (by show s.deep+v.dp+1<=40;lia) h4 (show 12 * v.dp+24<=D-1 by lia) fun x σ2 r P2 f2 x2=>?_))
  have H:=field_end (K:=K) (D:=D) (kv:=kv) (iv:=.ref x) (kind:=kind) (at_:=at_) (cf:=cf) (o:=some (v,s.at_+1)) (k:=k) P2 hte he hl hk ⟨x,rfl,f2⟩ hf hn (by lia) fun y σ3 P3 hN x3=>q y (.ref x) σ3 r P3 ⟨x,rfl,f2.ex x3⟩ hN ((x1.trans x2).trans x3)
  conv at H=>whnf
  exact H
end
section
variable {t:Tok} {a:Addr} {tx:Str} {v:T}
noncomputable def KdAt (σ:Sg) (kind:Bool) (kv:V) (j:Nat):Prop:=match kind with
 | true=>∃ y,kv=.ref y/\NodeAt σ y 8 (.str "T") [] 0 ((3 * (j+1)+2:Nat):Int)
 | false=>kv=.none
theorem KdAt.ex {X} {kind:Bool} {kv:V} {j:Nat} (h:KdAt σ kind kv j) (x:Ex X σ σ'):KdAt σ' kind kv j:=by
 induction kind with
 | false=>exact h
 | true=>refine ea1_2 h fun y h1 h2=>?_;clear h;exact ⟨y,h1,h2.ex x⟩
theorem KdAt.none {kind:Bool} {kv:V} {j:Nat} (h:KdAt σ kind kv j):decide (kv=.none)=!kind:=by
 induction kind with
 | false=>cases h;rfl
 | true=>refine ea1_2 h fun y z1 ξ=>?_;clear h;subst z1;rfl
noncomputable abbrev jE3 (j:Nat):Option T->Nat
 | none=>j
 | some v=>j+1+v.sz
noncomputable abbrev iniAt (j:Nat):Option T->Option (T×Nat)
 | none=>none
 | some v=>some (v,j+1)
theorem field_init' {nm:Str} {fl at_ cf:Int} {kv:V} {kind semi:Bool} {o:Option T} {te:Tok} (P:PSt σ e s) (hte:e.tks[jE3 s.at_ o]?=some te) (he:End te semi) (hv:∀ v,o=some v->e.tks[s.at_]?=some (sgT "=" s.at_)/\v.On e.tks (s.at_+1)/\v.ok false/\v.sz<=140/\v.dp<=10) (h0:s.deep=0)
 (hl:s.dgs.length<999) (hk:decide (kv=.none)=!kind) (hf:FlOk fl) (hn:(nm=="constructor")=false) (hD:150<=D)
 (q:∀ x iv σ' r,PSt σ' e { s with at_:=jE3 s.at_ o+semi.toNat,ret:=r,dgs:=s.dgs++(if Builtin.bitAnd fl 4194304 != 0 then told fl at_ kind (iniAt s.at_ o) else []) }->InAt σ' (iniAt s.at_ o) iv →
  NodeAt σ' x 62 (.str nm) [kv,iv] fl at_->Px e σ σ'->k (.ref x) σ') :
 vcAt (cx 127 K D) (fBody (stAt 127)) 2 (fdM e nm fl at_ cf [("kind",kv)]) σ (kRet k):=by
 induction o with
 | none=>exact field_init (o:=none) P hte he hv h0 hl hk hf hn hD q
 | some v=>exact field_init (o:=some v) P hte he hv h0 hl hk hf hn hD q
theorem c_read_field {nm:Str} {fl at_ cf:Int} {kind semi:Bool} {o:Option T} {te:Tok} (P:PSt σ e s) (hkd:kind=true->e.tks[s.at_]?=some (sgT ":" s.at_)/\e.tks[s.at_+1]?=some (Tk.tok ⟨1,"T",0⟩ (s.at_+1) false))
 (hv:∀ v,o=some v->e.tks[s.at_+2 * kind.toNat]?=some (sgT "=" (s.at_+2 * kind.toNat))/\v.On e.tks (s.at_+2 * kind.toNat+1)/\v.ok false/\v.sz<=140/\v.dp<=10)
 (hte:e.tks[jE3 (s.at_+2 * kind.toNat) o]?=some te) (he:End te semi) (h0:s.deep=0) (hl:s.dgs.length<999) (hf:FlOk fl) (hn:(nm=="constructor")=false) (hD:150<=D)
 (q:∀ x kv iv σ' r,PSt σ' e { s with at_:=jE3 (s.at_+2 * kind.toNat) o+semi.toNat,ret:=r,dgs:=s.dgs++(if Builtin.bitAnd fl 4194304 != 0 then told fl at_ kind (iniAt (s.at_+2 * kind.toNat) o) else []) }->KdAt σ' kind kv s.at_->InAt σ' (iniAt (s.at_+2 * kind.toNat) o) iv →
  NodeAt σ' x 62 (.str nm) [kv,iv] fl at_->Px e σ σ'->k (.ref x) σ'):CallV K D (fA K 127) [.ref e.p,.str nm,.int fl,.int at_,.int cf] k σ:=by
 refine cFn 127 5 (dl hD) ?_
 induction kind with
 | false=>
  have ht:∃ t,e.tks[s.at_]?=some t/\(t.kind==5&&t.text==":")=false:=by
   induction o with
   | none=>exact ⟨te,hte,he.en.no (by decide +kernel)⟩
   | some v=>exact ⟨_,(hv v rfl).1,by show ((5:Int)==5&&("=":Str)==":")=false;decide +kernel⟩
  refine ea1_2 ht fun t ht hc=>pM 7 P (c_eat_sign P ht (dn hD) (fun h=>?_) (fun h=>by replace h:=hc▸h;injection h))
  refine truB ?_
  have H:=field_init' (K:=K) (D:=D) (kv:=.none) (kind:=false) (at_:=at_) (cf:=cf) (o:=o) (k:=k) P hte he hv h0 hl rfl hf hn hD fun x iv σ' r P' hi hN x'=>q x .none iv σ' r P' rfl hi hN x'
  conv at H=>whnf
  exact H
 | true=>
  refine ea0_2 (hkd rfl) fun h1 h2=>pM 7 P (c_eat_sign P h1 (dn hD) (fun h=>absurd h (by show ¬ ((5:Int)==5&&(":":Str)==":")=false;decide +kernel)) fun h σ1 P1 x1=>?_)
  refine truB (pM 21 P1 (c_part_type (i:=s.at_+1) P1 h2 (by show 0<=s.deep;lia) (by show s.deep<40;lia) (dn hD) fun x σ2 P2 hN x2=>?_))
  have H:=field_init' (K:=K) (D:=D) (kv:=.ref x) (kind:=true) (at_:=at_) (cf:=cf) (o:=o) (k:=k) P2 hte he hv h0 hl rfl hf hn hD fun y iv σ' r P' hi hY x'=>q y (.ref x) iv σ' r P' ⟨x,rfl,hN.ex x'⟩ hi hY ((x1.trans x2).trans x')
  conv at H=>whnf
  exact H
theorem seqOn_last {L:List Tok} {x:Tk}:∀ {xs:List Tk} {ln:Bool} {i:Nat},SeqOn L ln (xs++[x]) i->∃ ln',L[i+xs.length]?=some (x.tok (i+xs.length) ln')
 | [],ln,i,h=>⟨ln,h.1⟩
 | y::r,ln,i,h=>by
  refine ea1_1 (seqOn_last (xs:=r) h.2) fun l hl=>?_
  rw [show i+1+r.length=i+(y::r).length by refine qE List.length_cons ?_;lia] at hl
  exact ⟨l,hl⟩
theorem endsOf {l:List Str} {x:Str} {i:Nat} (h:l.any (·==x)=true):Ends l (sgT x i):=fun ξ=>h
theorem Fd.nxt {f:Fd} {L:List Tok} {ln:Bool} {i:Nat} (h:f.On L ln i) {te:Tok} (hte:L[f.j3 i]?=some te) {semi:Bool} (he:End te semi):∃ t,L[f.j1 i]?=some t/\Ends [":","=",";","}"] t:=by
 induction hk:f.kind with
 | true=>exact ⟨_,(h.kd hk).1,endsOf (by decide +kernel)⟩
 | false=>
  have e2:f.j2 i=f.j1 i:=by unfold Fd.j2;refine qE hk ?_;rfl
  induction hi:f.init with
  | none=>
   have e3:f.j3 i=f.j1 i:=by unfold Fd.j3;refine qE hi ?_;exact e2
   exact ⟨te,e3▸hte,he.en.wide (by intro x hx;simp only [List.mem_cons,List.not_mem_nil,or_false] at hx ⊢;rcases hx with rfl | rfl <;> simp)⟩
  | some v=>exact ⟨_,e2▸(h.ini v hi).1,endsOf (by decide +kernel)⟩
theorem Fd.j3_eq {f:Fd} {i:Nat}:f.j3 i=jE3 (f.j1 i+2 * f.kind.toNat) f.init:=by
 unfold Fd.j3 Fd.j2;cases f.init <;> rfl
theorem Fd.ini_eq {f:Fd} {i:Nat}:f.ini i=iniAt (f.j1 i+2 * f.kind.toNat) f.init:=by
 unfold Fd.ini Fd.j2;cases f.init <;> rfl
noncomputable def FdAt (σ:Sg) (f:Fd) (i:Nat) (x:Addr):Prop:=∃ kv iv,KdAt σ f.kind kv (f.j1 i)/\InAt σ (f.ini i) iv/\NodeAt σ x 62 (.str f.nt.text) [kv,iv] f.fl (f.at_ i)
theorem FdAt.ex {X} {f:Fd} {i:Nat} {x:Addr} (h:FdAt σ f i x) (E:Ex X σ σ'):FdAt σ' f i x:=ea2_3 h fun kv iv h1 h2 h3=>⟨kv,iv,h1.ex E,h2.ex E,h3.ex E⟩
noncomputable def Fd.tl (f:Fd) (i:Nat):List (Int×Int):=if f.amb then f.told i else []
noncomputable def FdYield (e:Pe) (s:Ps) (f:Fd) (i:Nat) (k:V->Sg->Prop) (σ:Sg):Prop:=∀ x σ' r,PSt σ' e { s with at_:=f.jE i,ret:=r,dgs:=s.dgs++f.tl i }->FdAt σ' f i x->Px e σ σ'->k (.ref x) σ'
theorem named_tail {f:Fd} {i:Nat} {ln:Bool} {te:Tok} {cf:Int} (P:PSt σ e s) (hs:s.at_=f.j1 i) (ok:f.Ok) (on:f.On e.tks ln i) (hte:e.tks[f.j3 i]?=some te) (he:End te f.semi) (h0:s.deep=0) (hl:s.dgs.length<999) (hD:151<=D)
 (q:FdYield e s f i k σ):CallV K (D-1) (fA K 127) [.ref e.p,.str f.nt.text,.int f.fl,.int (f.at_ i),.int cf] k σ:=by
 refine c_read_field (kind:=f.kind) (semi:=f.semi) (o:=f.init) (te:=te) P (fun h=>hs▸on.kd h) (fun v h=>?_) ?_ he h0 hl ?_ (ok.nm 0 false).c (by lia) fun x kv iv σ' r P' h1 h2 h3 x'=>q x σ' r ?_ ⟨kv,iv,hs▸h1,?_,h3⟩ x'
 · have h2:=on.ini v h
   have h3:=ok.v v h
   exact qE hs (⟨h2.1,h2.2,h3⟩)
 · refine qE hs (qB Fd.j3_eq ?_);exact hte
 · unfold Fd.fl;cases f.opt
   · exact ok.f0
   · exact ok.f1
 · replace P':=Fd.ini_eq.symm▸Fd.j3_eq.symm▸hs▸P'
   exact P'
 · replace h2:=Fd.ini_eq.symm▸hs▸h2;exact h2
end
section
variable {t:Tok} {a:Addr} {tx:Str} {v:T}
theorem noSig {l:List Str} (h:Ends l t) (hx:l.any (·=="(")=false) (hy:l.any (·=="<")=false):t.kind=5->(t.text=="(")=false/\(t.text=="<")=false:=fun h5=>by
 have h1:=h.no hx
 have h2:=h.no hy
 rw [h5] at h1 h2
 exact ⟨h1,h2⟩
theorem c_read_named {f:Fd} {i:Nat} {ln:Bool} {te:Tok} {cf:Int} (P:PSt σ e s) (hs:s.at_=f.j0 i) (ok:f.Ok) (on:f.On e.tks ln i) (hte:e.tks[f.j3 i]?=some te) (he:End te f.semi) (h0:s.deep=0) (hl:s.dgs.length<999) (hD:152<=D)
 (q:FdYield e s f i k σ):CallV K D (fA K 124) [.ref e.p,.int (orAll 0 f.mods),.int cf] k σ:=by
 revert te cf P hs ok on hte he h0 hl hD q;revert K D σ k e s f i ln;refine no_implicit_lambda% (al9 (n:=⟨(kc0,default)⟩) ?_);generalize et9 _ _=υ;generalize υ.1=K,υ.2.1=D,υ.2.2.1=σ,υ.2.2.2.1=k,υ.2.2.2.2.1=e,υ.2.2.2.2.2.1=s,υ.2.2.2.2.2.2.1=f,υ.2.2.2.2.2.2.2.1=i,υ.2.2.2.2.2.2.2.2=ln;clear υ;intro te cf P hs ok on hte he h0 hl hD q
 revert P hs ok on hte he h0 hl hD q;revert te cf;refine no_implicit_lambda% (al2 ?_);generalize et2 _ _=υ;generalize υ.1=te,υ.2=cf;clear υ;intro P hs ok on hte he h0 hl hD q
 refine ea1_1 (seqOn_last on.pre) fun lj ht=>?_
 revert ht;revert lj;refine al1 ?_;generalize et1 _ _=lj;intro ht
 rw [List.length_map] at ht
 have ht:e.tks[s.at_]?=some (f.nt.tok s.at_ lj):=by refine qE hs ?_;exact ht
 have nm:=ok.nm s.at_ lj
 refine ea1_2 (Fd.nxt on hte he) fun t1 ht1 hE=>?_
 revert ht1 hE;revert t1;refine al1 ?_;generalize et1 _ _=t1;intro ht1 hE
 have hat:f.at_ i=((3 * s.at_+2:Nat):Int):=by refine qE hs ?_;rfl
 refine cFn 124 3 (dl hD) (pM 1 P (c_now P ht (dn hD) fun a ha=>?_))
 revert ha;revert a;refine al1 ?_;generalize et1 _ _=a;intro ha
 refine pM 13 P (c_prop_name P ht ok.nk (dn hD) fun σ1 P1 x1=>?_)
 have ha1:=ha.ex x1
 refine eqS (qE (show ((f.nt.tok s.at_ lj).text=="constructor")=false from nm.c) (eqS (qE (show ((f.nt.tok s.at_ lj).text=="constructor")=false from nm.c) (gFn 123 (getTok ha1 (c_check_marks ok.f0.ab nm.p (dn hD) (pM 7 P1 ?_)))))))
 induction ho:f.opt with
 | true=>
  have e1:f.j1 i=s.at_+1+1:=by unfold Fd.j1;refine qE ho (qE hs ?_);rfl
  have hq:=on.o ho
  replace hq:=hs.symm▸hq
  refine c_eat_sign P1 hq (dn hD) (fun h=>absurd h (by show ¬ ((5:Int)==5&&("?":Str)=="?")=false;decide +kernel)) fun h σ2 P2 x2=>?_
  refine truB (iorI ?_)
  replace ht1:=e1▸ht1
  refine gFn 98 (pM 1 P2 (c_now P2 ht1 (dn hD) fun a2 ha2=>c_opens_sig ha2 (noSig hE (by decide +kernel) (by decide +kernel)) (dn hD) (truB (andI (truI (qE (show (Builtin.bitAnd (Builtin.bitOr (orAll 0 f.mods) 4096) 4096 != 0)=true by rw [bne,ok.o1];rfl) ?_))))))
  refine gFn 127 (getTok (ha1.ex x2) ?_)
  have H:=named_tail (K:=K) (D:=D) (cf:=cf) (k:=k) P2 e1.symm ok on hte he h0 hl (by lia) fun x σ' r P' h1 x'=>q x σ' r P' h1 ((x1.trans x2).trans x')
  have ef:f.fl=Builtin.bitOr (orAll 0 f.mods) 4096:=by unfold Fd.fl;refine qE ho ?_;rfl
  replace H:=hat▸ef▸H
  exact H
 | false=>
  have e1:f.j1 i=s.at_+1:=by unfold Fd.j1;refine qE ho (qE hs ?_);rfl
  replace ht1:=e1▸ht1
  refine c_eat_sign P1 ht1 (dn hD) (fun h=>?_) (fun h=>by rw [hE.no (by decide +kernel)] at h;injection h)
  refine truB (gFn 98 (pM 1 P1 (c_now P1 ht1 (dn hD) fun a2 ha2=>c_opens_sig ha2 (noSig hE (by decide +kernel) (by decide +kernel)) (dn hD) (truB (andI (truI (qE (bne_f ok.o0) (pM 4 P1 (c_is_sign P1 ht1 (dn hD) (qE (hE.no (by decide +kernel)) (truB (gFn 127 (getTok ha1 ?_)))))))))))))
  have H:=named_tail (K:=K) (D:=D) (cf:=cf) (k:=k) P1 e1.symm ok on hte he h0 hl (by lia) fun x σ' r P' h1 x'=>q x σ' r P' h1 (x1.trans x')
  have ef:f.fl=orAll 0 f.mods:=by unfold Fd.fl;refine qE ho ?_;rfl
  replace H:=hat▸ef▸H
  exact H
theorem c_read_member {f:Fd} {i:Nat} {ln:Bool} {te:Tok} {cf:Int} (P:PSt σ e s) (hs:s.at_=i) (ok:f.Ok) (on:f.On e.tks ln i) (hte:e.tks[f.j3 i]?=some te) (he:End te f.semi) (h0:s.deep=0) (hl:s.dgs.length<999) (hD:153<=D)
 (q:FdYield e s f i k σ):CallV K D (fA K 121) [.ref e.p,.int cf] k σ:=by
 subst hs
 refine ea1_1 (seqOn_last on.pre) fun lj ht=>?_
 rw [List.length_map] at ht
 have nm:=ok.nm (s.at_+f.mods.length) lj
 have h5:(f.nt.kind==5)=false:=by have h:f.nt.kind≠5:=nm.k5;simpa using h
 obtain ⟨u,hu⟩:∃ u,e.tks[s.at_]?=some u:=by
  have:=(List.getElem?_eq_some_iff.mp ht).1
  exact ⟨_,List.getElem?_eq_getElem (show s.at_<e.tks.length by lia)⟩
 refine cFn 121 2 (dl hD) (pM 1 P (c_now P hu (dn hD) fun a ha=>getTok ha (gFn 117 (c_read_modifiers P on.pre ok.mo ok.nk ok.n1 (dn hD) fun σ1 P1 x1=>gFn 120 (c_refuse_member P1 ht nm (dn hD) (gFn 99 (c_index_sig P1 ht (by show (f.nt.kind==5&&_)=false;refine qE h5 ?_;rfl) (dn hD) ?_)))))))
 exact truB (pM 6 P1 (c_is_name P1 ht (dn hD) (qE (nm_f fun ξ=>nm.w "get" (by decide)) (truB (pM 6 P1 (c_is_name P1 ht (dn hD) (qE (nm_f fun ξ=>nm.w "set" (by decide)) (truB (gFn 124 (c_read_named P1 rfl ok on hte he h0 hl (dn hD) fun x σ' r P' h1 x'=>q x σ' r P' h1 (x1.trans x')))))))))))
end
section
variable {t:Tok} {a:Addr} {tx:Str} {v:T}
noncomputable def FdsOn (L:List Tok):Bool->List Fd->Nat->Prop
 | ln,[],i=>L[i]?=some (Tk.tok ⟨5,"}",0⟩ i ln)
 | ln,f::r,i=>f.Ok/\f.On L ln i/\(∃ te,L[f.j3 i]?=some te/\End te f.semi)/\FdsOn L (!f.semi) r (f.jE i)
noncomputable def endOf:List Fd->Nat->Nat
 | [],i=>i
 | f::r,i=>endOf r (f.jE i)
noncomputable def FdsAt (σ:Sg):List Fd->Nat->List V->Prop
 | [],_,l=>l=[]
 | f::r,i,l=>∃ x l',l=.ref x::l'/\FdAt σ f i x/\FdsAt σ r (f.jE i) l'
theorem FdsAt.ex {X}:∀ {fs:List Fd} {i:Nat} {l:List V},FdsAt σ fs i l->Ex X σ σ'->FdsAt σ' fs i l
 | [],_,_,h,_=>h
 | _::_,_,_,h,E=>let ⟨x,l',h1,h2,h3⟩:=h;⟨x,l',h1,h2.ex E,FdsAt.ex h3 E⟩
theorem FdsAt.len:∀ {fs:List Fd} {i:Nat} {l:List V},FdsAt σ fs i l->l.length=fs.length
 | [],_,_,h=>by cases h;rfl
 | _::_,_,_,h=>by refine ea2_3 h fun x l' z1 h2 h3=>?_;clear h;subst z1;exact qE List.length_cons (qE List.length_cons (qE (FdsAt.len h3) rfl))
noncomputable def earlyOf:List Fd->Nat->List (Int×Int)
 | [],_=>[]
 | f::r,i=>f.tl i++earlyOf r (f.jE i)
theorem Fd.tl_len {f:Fd} {i:Nat}:(f.tl i).length<=1:=by
 unfold Fd.tl;split
 · exact told_len
 · exact Nat.zero_le _
theorem Fd.first {f:Fd} {i:Nat} {ln:Bool} {L:List Tok} (ok:f.Ok) (on:f.On L ln i):∃ u,L[i]?=some u/\(u.kind==5)=false:=by
 have:=on.pre
 induction hm:f.mods using List.casesOn with
 | nil=>
  replace this:=hm▸this
  refine ⟨_,this.1,?_⟩
  have:=(ok.nm i ln).k5
  simpa using this
 | cons w r=>
  replace this:=hm▸this
  exact ⟨_,this.1,rfl⟩
theorem c_read_members {fds:List Fd} {cf:Int} {i:Nat} (P:PSt σ e s) (hs:s.at_=i) (h0:e.tks[i]?=some (sgT "{" i)) (on:FdsOn e.tks false fds (i+1)) (hn:fds.length<=5) (hd:s.deep=0) (hl:s.dgs=[]) (hD:154<=D)
 (q:∀ x kids σ' r ln,e.tks[endOf fds (i+1)]?=some (Tk.tok ⟨5,"}",0⟩ (endOf fds (i+1)) ln)->PSt σ' e { s with at_:=endOf fds (i+1)+1,ret:=r,dgs:=earlyOf fds (i+1) }->FdsAt σ' fds (i+1) kids->NodeAt σ' x 71 (.str "") kids 0 ((3 * i+2:Nat):Int)->Px e σ σ'->k (.ref x) σ'):CallV K D (fA K 116) [.ref e.p,.int cf] k σ:=by
 revert P hs h0 on hn hd hl hD q;revert K D σ k e s fds cf i;refine no_implicit_lambda% (al9 (n:=⟨(kc0,default)⟩) ?_);generalize et9 _ _=υ;generalize υ.1=K,υ.2.1=D,υ.2.2.1=σ,υ.2.2.2.1=k,υ.2.2.2.2.1=e,υ.2.2.2.2.2.1=s,υ.2.2.2.2.2.2.1=fds,υ.2.2.2.2.2.2.2.1=cf,υ.2.2.2.2.2.2.2.2=i;clear υ;intro P hs h0 on hn hd hl hD q
 subst hs
 refine cFn 116 2 (dl hD) (pM 1 P (c_now P h0 (Mine.dn hD) fun a ha=>?_))
 revert ha;revert a;refine al1 ?_;generalize et1 _ _=a;intro ha
 refine getTok ha (pM 10 P (c_need_sign P h0 (by show ((5:Int)==5&&("{":Str)=="{")=true;decide +kernel) (Mine.dn hD) fun σ1 P1 x1=>?_))
 revert P1 x1;revert σ1;refine al1 ?_;generalize et1 _ _=σ1;intro P1 x1
 refine tp fun y fy=>?_
 revert fy;revert y;refine al1 ?_;generalize et1 _ _=y;intro fy
 have P2:=P1.new (c:=.list []) fy
 have x2:Px e σ (σ1.set y (.list [])):=x1.trans (.new fy)
 have nyd:=fy.neM P1.pd
 have nyr:e.rl≠y:=by refine ea1_2 P1.rl fun rr h ξ=>?_;exact fy.neM h
 have ny:¬ PX e y:=by rintro (h | h);exact nyd h.symm;exact nyr h.symm
 have ny0:σ.M y=none:=by
  induction hh:σ.M y with
  | none=>rfl
  | some c=>have:=x1.m _ _ hh ny;replace this:=fy.1▸this;injection this
 have hy2:(σ1.set y (.list [])).M y=some (.list []):=set_M
 revert hy2;revert x2;revert P2;refine gn (σ1.set y (.list [])) fun σ2 P2 x2 hy2=>?_
 revert P2 x2 hy2;revert σ2;refine al1 ?_;generalize et1 _ _=σ2;intro P2 x2 hy2
 refine whilI 40 (fun n m' σ'=>∃ (rem dn:List Fd) (i':Nat) (ln:Bool) (rows:List V) (r:Bool),n=rem.length/\m'=([("p",.ref e.p),("flags",.int cf),("at",.int ((3 * s.at_+2:Nat):Int)),("rows",.ref y)]:Loc)/\FdsOn e.tks ln rem i'/\endOf rem i'=endOf fds (s.at_+1)/\dn.length+rem.length<=5 ∧
  (∃ dg,dg++earlyOf rem i'=earlyOf fds (s.at_+1)/\dg.length<=dn.length/\PSt σ' e { s with at_:=i',ret:=r,dgs:=dg })/\σ'.M y=some (.list rows)/\rows.length=dn.length/\(∀ l',FdsAt σ' rem i' l'->FdsAt σ' fds (s.at_+1) (rows++l'))/\Px e σ σ'/\(∀ X σ'' l',Ex X σ' σ''->FdsAt σ'' rem i' l'->FdsAt σ'' fds (s.at_+1) (rows++l')))
  fds.length ⟨fds,[],s.at_+1,false,[],s.ret,rfl,rfl,on,rfl,by simpa using hn,⟨[],rfl,Nat.le_refl _,hl▸P2⟩,hy2,rfl,fun l' h=>h,x2,fun X σ'' l' E h=>h⟩ ?_
 intro I hin n m' σ3 z1;refine ea6_1 z1 fun rem dn i' ln rows r y10=>?_;refine ea0_11 y10 fun z2 z3 on3 he3 hlen3 z4 hy3 hr3 z5 x3 hF3=>?_;clear y10;clear z1;subst z2;subst z3;refine ea1_3 z4 fun dg hdg hdgl P3=>?_;clear z4;clear z5
 induction rem using List.casesOn with
 | nil=>
  have ht:e.tks[i']?=some (Tk.tok ⟨5,"}",0⟩ i' ln):=on3
  refine pM 4 P3 (c_is_sign P3 ht (Mine.dn hD) (qE (show ((Tk.tok ⟨5,"}",0⟩ i' ln).kind==5&&(Tk.tok ⟨5,"}",0⟩ i' ln).text=="}")=true by show ((5:Int)==5&&("}":Str)=="}")=true;decide +kernel) ?_))
  refine truB (pM 3 P3 (c_step P3 ht (by show (5:Int)≠0;decide) (Mine.dn hD) fun a4 σ4 ha4 P4 x4=>?_))
  have hy4:=x4.m _ _ hy3 ny
  have hf4:=hF3 _ _ [] x4 rfl
  rw [List.append_nil] at hf4
  have ei:i'=endOf fds (s.at_+1):=he3
  rw [show earlyOf [] i'=[] from rfl,List.append_nil] at hdg
  subst hdg
  refine gFn 49 (c_list_of hy4 (Mine.dn hD) fun x σ5 hx x5=>?_)
  have P5:=P4.ex x5 nyd nyr
  have x35:=(x3.trans x4)
  exact q x rows σ5 r ln (ei▸ht) (ei▸P5) (hf4.ex x5) hx ⟨fun a c h=>x5.f _ _ (x35.f _ _ h),fun a c h n=>x5.m _ _ (x35.m _ _ h n) (by rintro rfl;replace h:=ny0▸h;injection h)⟩
 | cons f rem=>
  refine ea0_4 on3 fun ok onf z1 onr=>?_;clear on3;refine ea1_2 z1 fun te hte hE=>?_;clear z1
  refine ea1_2 (Fd.first ok onf) fun u hu hu5=>pM 4 P3 (c_is_sign P3 hu (Mine.dn hD) (qE hu5 (truB (pM 7 P3 (c_eat_sign P3 hu (Mine.dn hD) (fun h=>?_) (fun h=>by replace h:=hu5▸h;injection h))))))
  refine truB (⟨_,(mAppend (hM hy3)).1,(mAppend (hM hy3)).2,?_⟩)
  replace hlen3:=List.length_cons▸hlen3
  refine gFn 121 (c_read_member P3 rfl ok onf hte hE hd (show dg.length<999 by lia) (Mine.dn hD) fun x σ4 r4 P4 h4 x4=>?_)
  have hy4:=x4.m _ _ hy3 ny
  refine cAppend hy4 (by lia) ?_
  have xy:Ex (fun a=>a=y) σ4 (σ4.set y (.list (rows++[.ref x]))):=.set rfl
  have P5:=P4.ex xy nyd nyr
  have Z:∀ X σ'' l',Ex X (σ4.set y (.list (rows++[.ref x]))) σ''->FdsAt σ'' rem (f.jE i') l'->FdsAt σ'' fds (s.at_+1) ((rows++[.ref x])++l'):=fun X σ'' l' E h=>by
   rw [List.append_assoc]
   exact hF3 (fun ξ=>True) _ _ (((x4.wide fun ξ ξ=>trivial).trans (xy.wide fun ξ ξ=>trivial)).trans (E.wide fun ξ ξ=>trivial)) ⟨x,l',rfl,(h4.ex xy).ex E,h⟩
  exact ⟨rem.length,Nat.lt_succ_self _,hin _ _ _ ⟨rem,dn++[f],f.jE i',!f.semi,rows++[.ref x],r4,rfl,rfl,onr,he3,by refine qE List.length_append (qE List.length_singleton ?_);lia,⟨dg++f.tl i',by rw [List.append_assoc];exact hdg,by have:=f.tl_len (i:=i');refine qE List.length_append (qE List.length_append (qE List.length_singleton ?_));lia,P5⟩,set_M,by refine qE List.length_append (qE List.length_append (qE hr3 ?_));rfl,
   fun l' h=>Z (fun ξ=>True) _ l' .refl h,(x3.trans x4).setN ny0,Z⟩⟩
end
section
set_option backward.match.sparseCases false
section
variable {L:Addr} {m:Loc} {fs fs':Fs} {h h':Heap}
theorem St.perm (s:St K σ L m fs h) (p:fs.Perm fs'):St K σ L m fs' h:=
 ⟨s.base,s.fz,s.cell,s.fr,fun x hx=>s.frs x (p.mem_iff.mpr hx),(p.pairwise_iff fun hab=>Ne.symm hab).mp s.nd⟩
theorem St.popBut {L' m'} (s:St K σ L' m' ((L,.loc m)::fs) h) (S:∀ b o,b≠L'->h.get? b=some o->h'.get? b=some o):St K σ L m fs h':=by
 have f:=s.fr
 have nb:∀ b,K.h0.get? b≠none->b≠L':=fun b hb e=>hb (e▸f.2.2.2)
 have x:=s.frs (L,.loc m) (List.mem_cons_self ..)
 refine ⟨fun b o e=>⟨S _ _ ?_ (s.base _ _ e).1,(s.base _ _ e).2⟩,fun b c e=>⟨(s.fz _ _ e).1.at fun o e'=>S _ _ ?_ e',(s.fz _ _ e).2⟩,fun b c e=>(s.cell _ _ e).at fun o e'=>S _ _ ?_ e',⟨FrOk.at x.1 fun o e=>S _ _ x.2.2.2.2 e,x.2.1,x.2.2.1,x.2.2.2.1⟩,fun p hp=>?_,(List.pairwise_cons.mp s.nd).2⟩
 · exact nb _ (by refine qE e ?_;simp)
 · rintro rfl;replace e:=f.2.2.1▸e;injection e
 · rintro rfl;replace e:=f.2.1▸e;injection e
 · have y:=s.frs p (List.mem_cons_of_mem _ hp)
   exact ⟨y.1.at fun o e=>S _ _ y.2.2.2.2 e,y.2.1,y.2.2.1,y.2.2.2.1,((List.pairwise_cons.mp s.nd).1 p hp).symm⟩
theorem St.adopt {a:Addr} {o:Obj} {c:Cell} (s:St K σ L m ((a,.obj o)::fs) h) (x:CellAt K h a c):Fresh σ a/\St K (σ.set a c) L m fs h:=by
 have y:=s.frs (a,.obj o) (List.mem_cons_self ..)
 have yM:σ.M a=none:=y.2.1
 have yF:σ.F a=none:=y.2.2.1
 have y0:K.h0.get? a=none:=y.2.2.2.1
 have yL:a≠L:=y.2.2.2.2
 refine ⟨⟨yM,yF⟩,fun b o e=>⟨(s.base _ _ e).1,(upd_other ?_).trans (s.base _ _ e).2.1,(s.base _ _ e).2.2⟩,fun b c e=>⟨(s.fz _ _ e).1,(upd_other ?_).trans (s.fz _ _ e).2⟩,fun b c' e=>?_,⟨s.fr.1,(upd_other yL.symm).trans s.fr.2.1,s.fr.2.2⟩,fun p hp=>?_,(List.pairwise_cons.mp s.nd).2⟩
 · rintro rfl;replace e:=y0▸e;injection e
 · rintro rfl;have e:σ.F b=some c:=e;replace e:=yF▸e;injection e
 · by_cases hb:b=a
   · subst hb;replace e:=(show (σ.set b c).M b=some c from upd_same)▸e;cases e;exact x
   · exact s.cell _ _ ((upd_other hb).symm.trans e)
 · have z:=s.frs p (List.mem_cons_of_mem _ hp)
   exact ⟨z.1,(upd_other ((List.pairwise_cons.mp s.nd).1 p hp).symm).trans z.2.1,z.2.2⟩
end
noncomputable def g0:Comprehension:=⟨e0,e0,[],0⟩
noncomputable def oneG (gs:List Comprehension):Comprehension:=match gs with | g::_=>g | []=>g0
noncomputable def gOk (gs:List Comprehension):Bool:=one1 gs&&(oneG gs).ifs.isEmpty&&(oneG gs).is_async==0&&!isSet (oneG gs).iter
noncomputable def isLC:Expr->Bool
 | .ListComp _ gs _ _=>gOk gs
 | _=>false
noncomputable def cElt:Expr->Expr | .ListComp e _ _ _=>e | _=>e0
noncomputable def cGs:Expr->List Comprehension | .ListComp _ gs _ _=>gs | _=>[]
noncomputable def cTgt (e:Expr):Expr:=(oneG (cGs e)).target
noncomputable def cIter (e:Expr):Expr:=(oneG (cGs e)).iter
noncomputable def cSc:Expr->Scope | .ListComp _ _ s _=>s | _=>prg.main.scope
noncomputable def okComp (sc:Scope):Bool:=sc.kind==.function&&sc.names.all (fun x=>x.2==.globalImplicit||(x.2==.local&&sc.names.lookup x.1==some .local))&&(sc.names.lookup ("__debug__":Str)==none)
theorem gOk.use {gs:List Comprehension} (h:gOk gs=true):gs=[⟨(oneG gs).target,(oneG gs).iter,[],0⟩]/\isSet (oneG gs).iter=false:=by
 unfold gOk at h
 induction gs using List.casesOn with
 | nil=>injection h
 | cons g r=>induction r using List.casesOn with
  | cons _ _=>injection h
  | nil=>
   obtain ⟨t,i,f,a⟩:=g
   simp only [oneG,Bool.and_eq_true,List.isEmpty_iff,beq_iff_eq,Bool.not_eq_true'] at h
   obtain ⟨⟨⟨-,rfl⟩,rfl⟩,h⟩:=h
   exact ⟨rfl,h⟩
theorem cd {b:Bool} {P:Prop} (f:b=true->P):cond b P True:=by
 induction b with
 | true=>exact f rfl
 | false=>exact trivial
theorem cdU {b:Bool} {P:Prop} (h:cond b P True) (e:b=true):P:=by
 subst e
 exact h
noncomputable def IsLC (e:Expr) (b:Bool):Prop:=cond b (∃ p,e=.ListComp (cElt e) [⟨cTgt e,cIter e,[],0⟩] (cSc e) p/\isSet (cIter e)=false) True
theorem isLC.spec (e:Expr):IsLC e (isLC e):=by
 induction e using Expr.casesOn with
 | ListComp elt gs s p=>exact cd fun h=>⟨p,congrArg (fun z=>Expr.ListComp elt z s p) (gOk.use h).1,(gOk.use h).2⟩
 | _=>exact trivial
theorem isLC.use {e:Expr} (h:isLC e=true):∃ p,e=.ListComp (cElt e) [⟨cTgt e,cIter e,[],0⟩] (cSc e) p/\isSet (cIter e)=false:=cdU (isLC.spec e) h
noncomputable def kElt2 (I:List V->List V->Sg->Prop) (l o:List V) (b:V) (σ:Sg):Prop:=I l (o++[b]) σ
noncomputable def kElt (K:Kc) (D:Nat) (e:Expr) (I:List V->List V->Sg->Prop) (l o:List V) (m:Loc) (σ:Sg):Prop:=(recE 40 ⟨K,D,cSc e,()⟩).E (cElt e) m σ (kElt2 I l o)
noncomputable def kIter (K:Kc) (D:Nat) (e:Expr) (k:V->Sg->Prop) (a:V) (σ1:Sg):Prop:=∃ (x:Addr) (items:List V) (I:List V->List V->Sg->Prop),a=.ref x/\items.length<=900/\I items [] σ1/\(∀ l o σ,I l o σ->Has K σ x (.list items)) ∧
 (∀ a l o σ,I (a::l) o σ->asg ⟨K,D,cSc e,()⟩ (cTgt e) a [] σ (kElt K D e I l o)) ∧
 (∀ o σ,I [] o σ->∀ y,Fresh σ y->k (.ref y) (σ.set y (.list o)))
noncomputable def CompX (K:Kc) (D:Nat) (sc:Scope) (e:Expr) (m:Loc) (σ:Sg) (k:V->Sg->Prop):Prop:=
 (recE 40 ⟨K,D,sc,()⟩).E (cIter e) m σ (kIter K D e k)
section
variable {L:Addr} {m:Loc} {fs:Fs} {h:Heap} {A:Around} {E:VP}
theorem append_obj {D:Addr} {vs:Array Value} {n t:Nat} {w:Value} {Q:VP} (e:h.get? D=some { cls:=.type "list",data:=.seq vs n }) (hsz:vs.size<=sizeLine)
 (q:∀ h' n',h'.get? D=some { cls:=.type "list",data:=.seq (vs.push w) n' }->(∀ b o,b≠D->h.get? b=some o->h'.get? b=some o)->Q .none ⟨h',#[],K.d,t,K.os⟩) :
 wpAny (model prg K.w) A (call (.builtin "list.append") [.ref D,w]) Q E ⟨h,#[],K.d,t,K.os⟩:=by
 have hT:(⟨h,#[],K.d,t,K.os⟩:Shared).TypeIs (.ref D) "list":=⟨_,e,rfl⟩
 refine wpAny_call_entry slot_list_append hT entry_list_append ?_ (args_list_append _ _)
 show wpAny _ _ (updateSeq D (·.push w) >>= fun ξ=>ret .none) _ _ _
 exact wpAny_bind (wpAny_updateSeq e rfl (wpAny_pure ⟨.none,rfl,q _ _ (Heap.get?_update_self _ e rfl) fun b o hb eb=>(Heap.get?_update_ne _ _ _ _ hb).trans eb⟩))
theorem comp_loop {D:Nat} {e:Expr} {p:Pos} {cenv:Env} {x it acc C:Addr} {items:List V} {I:List V->List V->Sg->Prop} {R:Result->Shared->Prop} (hr:Room A D) (fe:Fe cenv (cSc e) C) (hn:items.length<=900)
 (hsrc:∀ l o σ,I l o σ->Has K σ x (.list items))
 (hturn:∀ a l o σ,I (a::l) o σ->asg ⟨K,D,cSc e,()⟩ (cTgt e) a [] σ (kElt K D e I l o))
 (fin:∀ o oa vs n mm σ h' t',I [] o σ->AllAt o vs.toList->oa=({ cls:=.type "list",data:=.seq vs n }:Obj)->St K σ C mm ((L,.loc m)::(acc,.obj oa)::fs) h'->R (.ok .next) ⟨h',#[],K.d,t',K.os⟩)
 {oi:Obj} {h1:Heap} {t1:Nat} (hoi:oi.cls=.type "list_iterator"/\oi.data=.fields #[.ref x,.int 0 0]) (st:St K σ C [] ((L,.loc m)::(acc,.obj { cls:=.type "list",data:=.seq #[] 0 })::(it,.obj oi)::fs) h1) (hI:I items [] σ) :
 codeAny (model prg K.w) A (.compLoop (.ListComp (cElt e) [⟨cTgt e,cIter e,[],0⟩] (cSc e) p) 0 (.ref it) (.ref acc) cenv) R ⟨h1,#[],K.d,t1,K.os⟩:=by
 revert hr fe hn hsrc hturn fin t1 hoi st hI;revert K σ L m fs A D e p cenv x it acc C items I R oi h1;refine no_implicit_lambda% (al19 (n:=⟨(kc0,default,default,default,default,a0,default)⟩) ?_);generalize et19 _ _=υ;generalize υ.1=K,υ.2.1=σ,υ.2.2.1=L,υ.2.2.2.1=m,υ.2.2.2.2.1=fs,υ.2.2.2.2.2.1=A,υ.2.2.2.2.2.2.1=D,υ.2.2.2.2.2.2.2.1=e,υ.2.2.2.2.2.2.2.2.1=p,υ.2.2.2.2.2.2.2.2.2.1=cenv,υ.2.2.2.2.2.2.2.2.2.2.1=x,υ.2.2.2.2.2.2.2.2.2.2.2.1=it,υ.2.2.2.2.2.2.2.2.2.2.2.2.1=acc,υ.2.2.2.2.2.2.2.2.2.2.2.2.2.1=C,υ.2.2.2.2.2.2.2.2.2.2.2.2.2.2.1=items,υ.2.2.2.2.2.2.2.2.2.2.2.2.2.2.2.1=I,υ.2.2.2.2.2.2.2.2.2.2.2.2.2.2.2.2.1=R,υ.2.2.2.2.2.2.2.2.2.2.2.2.2.2.2.2.2.1=oi,υ.2.2.2.2.2.2.2.2.2.2.2.2.2.2.2.2.2.2=h1;clear υ;intro hr fe hn hsrc hturn fin t1 hoi st hI
 revert hr fe hn hsrc hturn fin hoi st hI;revert t1;refine no_implicit_lambda% (al1 ?_);generalize et1 _ _=t1;intro hr fe hn hsrc hturn fin hoi st hI
 have sem:=sem_list K hr.2.2 x items
 refine codeAny_loop rfl (fun n s'=>∃ i o σ' h2 t2 oi oa vs n',s'=⟨h2,#[],K.d,t2,K.os⟩/\n=items.length-i/\i<=items.length/\o.length=i/\oa=({ cls:=.type "list",data:=.seq vs n' }:Obj)/\AllAt o vs.toList/\St K σ' C [] ((L,.loc m)::(acc,.obj oa)::(it,.obj oi)::fs) h2 ∧
  (oi.cls=.type "list_iterator"/\oi.data=.fields #[.ref x,.int i 0])/\I (items.drop i) o σ') ?_ items.length ⟨0,[],σ,h1,t1,oi,_,#[],0,rfl,rfl,Nat.zero_le _,rfl,rfl,trivial,st,hoi,hI⟩
 · show ∀ n s',_->wpAny _ _ ((compTurn (.ListComp (cElt e) [⟨cTgt e,cIter e,[],0⟩] (cSc e) p) 0 (.ref it) (.ref acc) cenv).onRaise (fun x=>do noteFrame x cenv;theTreesLotGoes x)) _ _ s'
   intro n s' z1;refine ea8_1 z1 fun i o σ2 h2 t2 o2 oa vs z2=>?_;clear z1;refine ea1_1 z2 fun n' y47=>?_;refine ea0_9 y47 fun z3 z4 hi hol z5 hov st2 hP2 hI2=>?_;clear y47;clear z2;subst z3;subst z4;subst z5
   refine wpAny_noted ?_
   rw [compTurn_list1]
   have pm1:∀ (a b c:Addr×Fr) (l:Fs),(a::b::c::l).Perm (c::a::b::l):=fun a b c l=>(List.Perm.cons a (List.Perm.swap c b l)).trans (List.Perm.swap c a (b::l))
   have pm2:∀ (a b:Addr×Fr) (l:Fs),(a::b::l).Perm (b::a::l):=fun a b l=>List.Perm.swap b a l
   have st2':=st2.perm (pm1 _ _ _ _)
   have ho2:h2.get? it=some o2:=(st2'.frs (it,.obj o2) (List.mem_cons_self ..)).1
   have hok:=(Has.at (hsrc _ _ _ hI2) st2).list
   induction hx:items[i]? with
   | none=>
    refine wpAny_bind (wpAny_standAt (wpAny_bind (sem.done ho2 hP2 hok hx fun h3 S=>wpAny_pure ?_)))
    have he:items.drop i=[]:=by rw [List.getElem?_eq_none_iff] at hx;exact List.drop_eq_nil_of_le hx
    replace hI2:=he▸hI2
    exact fin _ _ _ _ _ _ _ _ hI2 hov rfl (st2'.unheld S)
   | some a=>
    have hlt:i<items.length:=by rw [List.getElem?_eq_some_iff] at hx;exact hx.1
    have hd:items.drop i=a::items.drop (i+1):=by
     refine qE (List.drop_eq_getElem_cons hlt) ?_
     replace hx:=List.getElem?_eq_getElem hlt▸hx
     exact qE (Option.some.inj hx) rfl
    replace hI2:=hd▸hI2
    refine wpAny_bind (wpAny_standAt (wpAny_bind (sem.item ho2 hP2 hok hx fun v h3 o3 t3 hav ho3 hP3 S=>?_)))
    refine ea2_3 (sem.cls _ _ hP3) fun nm fv c1 c2 c3=>wpAny_bind (go_plain ho3 c1 c2 c3 ?_)
    have st3:=(st2'.held S ho3).perm (pm1 _ _ _ _).symm
    refine wpAny_bind (asg_sound (c:=⟨K,D,cSc e,()⟩) hr fe (hturn _ _ _ _ hI2) st3 hav fun m4 σ4 h4 t4 x4 st4=>wpAny_bind (wpAny_bind ?_))
    refine (recE_ok (c:=⟨K,D,cSc e,()⟩) hr fe 40).okE x4 st4 fun b w σ5 h5 t5 bw x5 st5=>?_
    have st5':=st5.perm (pm2 _ _ _)
    have ha5:h5.get? acc=some { cls:=.type "list",data:=.seq vs n' }:=(st5'.frs (acc,.obj _) (List.mem_cons_self ..)).1
    have hsz:vs.size=o.length:=by have:=hov.len;simpa using this
    refine wpAny_bind (append_obj ha5 (by refine qE hsz (qE hol (qE sizeLine_eq ?_));lia) fun h6 n6 e6 S6=>wpAny_pure (wpAny_pure ⟨rfl,?_⟩))
    refine ⟨items.length-(i+1),by lia,i+1,o++[b],σ5,h6,t5,o3,_,vs.push w,n6,rfl,rfl,hlt,by refine qE List.length_append (qE hol ?_);rfl,rfl,?_,((st5'.held S6 e6).perm (pm2 _ _ _)).short 0,hP3,x5⟩
    exact qE Array.toList_push (hov.append (show AllAt [b] [w] from ⟨bw,trivial⟩))
end
section
variable {L:Addr} {m:Loc} {fs:Fs} {h:Heap}
theorem St.swap {C:Addr} {mm:Loc} (s:St K σ C mm ((L,.loc m)::fs) h):St K σ L m ((C,.loc mm)::fs) h:=by
 have x:=s.frs (L,.loc m) (List.mem_cons_self ..)
 have nd:=List.pairwise_cons.mp s.nd
 refine ⟨s.base,s.fz,s.cell,⟨x.1,x.2.1,x.2.2.1,x.2.2.2.1⟩,fun p hp=>?_,List.pairwise_cons.mpr ⟨fun p hp=>((s.frs p (List.mem_cons_of_mem _ hp)).2.2.2.2).symm,nd.2⟩⟩
 rcases List.mem_cons.mp hp with rfl | hp
 · exact ⟨s.fr.1,s.fr.2.1,s.fr.2.2.1,s.fr.2.2.2,x.2.2.2.2.symm⟩
 · have y:=s.frs p (List.mem_cons_of_mem _ hp)
   exact ⟨y.1,y.2.1,y.2.2.1,y.2.2.2.1,(nd.1 p hp).symm⟩
theorem okComp.use {sc:Scope} (h:okComp sc=true):(∀ x∈sc.names,x.2≠.free)/\(∀ x∈sc.names,x.2≠.cell)/\sc.kind=.function/\(∀ x∈sc.names,x.2=.local->sc.names.lookup x.1=some .local)/\sc.names.lookup ("__debug__":Str)=none:=by
 simp only [okComp,Bool.and_eq_true,beq_iff_eq] at h
 refine ea0_2 h fun z1 h3=>?_;clear h;refine ea0_2 z1 fun h1 h2=>?_;clear z1
 have key:=fun x hx=>(List.all_eq_true.mp h2 x hx)
 simp only [Bool.or_eq_true,Bool.and_eq_true,beq_iff_eq] at key
 refine ⟨fun x hx=>?_,fun x hx=>?_,h1,fun x hx hl=>?_,h3⟩
 · rcases key x hx with h | h
   · refine qE h ?_;decide
   · refine qE h.1 ?_;decide
 · rcases key x hx with h | h
   · refine qE h ?_;decide
   · refine qE h.1 ?_;decide
 · rcases key x hx with h | h
   · replace hl:=h▸hl;injection hl
   · exact h.2
theorem comp_block {A:Around} {E:VP} {D:Nat} {sc:Scope} {env:Env} {e:Expr} {p:Pos} {x:Addr} {items:List V} {I:List V->List V->Sg->Prop} {RR:Value->Env->Result->Shared->Prop} {t:Nat} (hr:Room A D) (fe:Fe env sc L) (ok:okComp (cSc e)=true) (st:St K σ L m fs h) (hn:items.length<=900)
 (hI0:I items [] σ) (hsrc:∀ l o σ,I l o σ->Has K σ x (.list items))
 (hturn:∀ a l o σ,I (a::l) o σ->asg ⟨K,D,cSc e,()⟩ (cTgt e) a [] σ (kElt K D e I l o))
 (fin:∀ acc C cenv o oa vs n mm σ h' t',cenv.locals=C->I [] o σ->AllAt o vs.toList->oa=({ cls:=.type "list",data:=.seq vs n }:Obj)->St K σ C mm ((L,.loc m)::(acc,.obj oa)::fs) h'->RR (.ref acc) cenv (.ok .next) ⟨h',#[],K.d,t',K.os⟩) :
 wpAny (model prg K.w) A (pyIter (.ref x)) (fun it s₂=>wpAny (model prg K.w) A (newList []) (fun acc s₃=>
  wpAny (model prg K.w) A (newFunctionEnv (cSc e) env.globals [] [] env.qual none .none (some env)) (fun cenv s₄=>
   codeAny (model prg K.w) A (.compStart (.ListComp (cElt e) [⟨cTgt e,cIter e,[],0⟩] (cSc e) p) 0 it acc { cenv with scope:=cSc e }) (fun r s'=>RR acc { cenv with scope:=cSc e } r s') s₄) E s₃) E s₂) E ⟨h,#[],K.d,t,K.os⟩:=by
 revert items I RR t hr fe ok st hn hI0 hsrc hturn fin
 revert K σ L m fs h A E D sc env e p x
 refine no_implicit_lambda% (al14 (n:=⟨(kc0,default,default,default,default,default,a0,default)⟩) ?_)
 generalize et14 _ _=υ
 generalize υ.1=K,υ.2.1=σ,υ.2.2.1=L,υ.2.2.2.1=m,υ.2.2.2.2.1=fs,υ.2.2.2.2.2.1=h,υ.2.2.2.2.2.2.1=A,υ.2.2.2.2.2.2.2.1=E,υ.2.2.2.2.2.2.2.2.1=D,υ.2.2.2.2.2.2.2.2.2.1=sc,υ.2.2.2.2.2.2.2.2.2.2.1=env,υ.2.2.2.2.2.2.2.2.2.2.2.1=e,υ.2.2.2.2.2.2.2.2.2.2.2.2.1=p,υ.2.2.2.2.2.2.2.2.2.2.2.2.2=x
 intro items I RR t hr fe ok st hn hI0 hsrc hturn fin
 refine ea0_5 (okComp.use ok) fun k1 k2 k3 k4 k5=>ea1_2 ((Has.at (hsrc _ _ _ hI0) st).list) fun vs hl hv=>wpAny_pyIter_list hl (wpAny_newObj_type (hd:=by size_fits) (wpAny_newFunctionEnv k2 (by intro y hy;simp at hy) (fun h₁ hns₁ hsb₁=>?_) k3))
 dsimp only at hns₁ hsb₁ ⊢
 have s1:St K σ L m ((h.objs.size,.obj { cls:=.type "list_iterator",data:=.fields #[.ref x,.int 0 0] })::fs) (h.push { cls:=.type "list_iterator",data:=.fields #[.ref x,.int 0 0] }):=
  st.hold (Heap.get?_none_of_le (Nat.le_refl _)) (fun b o e=>Heap.get?_push_of_some _ e) (Heap.get?_push_size _ rfl)
 revert s1;revert hsb₁;revert hns₁;refine gnE (h.push { cls:=.type "list_iterator",data:=.fields #[.ref x,.int 0 0] }) fun H1 hH1 hns₁ hsb₁ s1=>?_
 have s2:St K σ L m ((H1.objs.size,.obj { cls:=.type "list",data:=.seq #[] 0 })::(h.objs.size,.obj { cls:=.type "list_iterator",data:=.fields #[.ref x,.int 0 0] })::fs) (H1.push { cls:=.type "list",dict:=none,data:=.seq ([]:List Value).toArray }):=
  s1.hold (Heap.get?_none_of_le (Nat.le_refl _)) (fun b o e=>Heap.get?_push_of_some _ e) (Heap.get?_push_size _ rfl)
 revert s2;revert hsb₁;revert hns₁;refine gnE (H1.push { cls:=.type "list",dict:=none,data:=.seq ([]:List Value).toArray }) fun H2 hH2 hns₁ hsb₁ s2=>?_
 have s3:St K σ H2.objs.size [] ((L,.loc m)::(H1.objs.size,.obj { cls:=.type "list",data:=.seq #[] 0 })::(h.objs.size,.obj { cls:=.type "list_iterator",data:=.fields #[.ref x,.int 0 0] })::fs) h₁:=
  s2.push (Heap.get?_none_of_le (Nat.le_refl _)) (fun b o e=>(hsb₁.2 b (Nat.ne_of_lt (Heap.lt_size e))).trans (Heap.get?_push_of_some _ e)) ⟨_,hns₁,LocAt.none⟩
 have hit:h₁.IsListIter h.objs.size x 0:=⟨_,(s3.frs (h.objs.size,.obj _) (List.mem_cons_of_mem _ (List.mem_cons_of_mem _ (List.mem_cons_self ..)))).1,rfl,rfl⟩
 have loop:∀ tk,codeAny (model prg K.w) A (.compLoop (.ListComp (cElt e) [⟨cTgt e,cIter e,[],0⟩] (cSc e) p) 0 (.ref h.objs.size) (.ref H1.objs.size) (compEnv (cSc e) H2.objs.size env))
  (fun r s'=>RR (.ref H1.objs.size) (compEnv (cSc e) H2.objs.size env) r s') ⟨h₁,#[],K.d,tk,K.os⟩:=fun tk=>
  comp_loop (L:=L) (m:=m) (fs:=fs) (cenv:=compEnv (cSc e) H2.objs.size env) (C:=H2.objs.size) hr ⟨rfl,rfl,fe.glo,fe.bui,k3,k5⟩ hn hsrc hturn (fun o oa vs n mm σ h' t' hI hov e s=>fin _ _ _ _ _ _ _ _ _ _ _ rfl hI hov e s) ⟨rfl,rfl⟩ s3 hI0
 exact codeAny_compStart_list (loop _) (wpAny_pyIter_listiter hit (loop _))
theorem folded_plain {e:Expr} {env:Env} (h:isSet e=false) (x:Value):foldedSetIterable e env x=pure x:=by
 unfold foldedSetIterable
 cases e <;> first | rfl | injection h
theorem comp_tells {D:Nat} {sc:Scope} {e:Expr} {k:V->Sg->Prop} (hc:(isLC e&&okComp (cSc e))=true) (x:CompX K D sc e m σ k) {A:Around} {env:Env} (hr:Room A D) (fe:Fe env sc L):Tells V.At K A (eval e env) L m σ k:=by
 intro E fs h t Q st q
 rw [Bool.and_eq_true] at hc
 refine ea1_2 (isLC.use hc.1) fun p he hset=>ea0_5 (okComp.use hc.2) fun k1 k2 k3 k4 k5=>qE (show eval e env=eval (.ListComp (cElt e) [⟨cTgt e,cIter e,[],0⟩] (cSc e) p) env from congrArg (fun z=>eval z env) he) (wpAny_ListComp k1 k3 k4 ((recE_ok (c:=⟨K,D,sc,()⟩) hr fe 40).okE x st fun a v σ1 h1 t1 av x1 st1=>?_) (folded_plain hset))
 refine ea3_6 x1 fun y items I z1 hlen hI0 hsrc hturn hend=>?_;clear x1;subst z1
 cases av
 refine comp_block (RR:=fun acc cenv r s'=>∃ m,s'.heap.Ns cenv.locals m/\∀ h',Heap.SameBut cenv.locals s'.heap h'->match r with | .ok _=>Q acc { s' with heap:=h' } | .error x=>wpAny (model prg K.w) A (passOn "comprehension.variables-let-go" x cenv) Q E { s' with heap:=h' })
  hr fe hc.2 st1 hlen hI0 hsrc hturn fun acc C cenv o oa vs n mm σ' h' t' hC hI hov hoa s=>?_
 subst hC
 refine ea1_2 s.fr.1 fun mv hmv ξ=>⟨mv,hmv,fun h'' S=>?_⟩
 have s4:=s.popBut fun b o hb e=>(S.2 b hb).trans e
 have hacc:=(s4.frs (acc,.obj oa) (List.mem_cons_self ..)).1
 replace hacc:=hoa▸hacc
 have s5:=s4.adopt (c:=.list o) ⟨vs,n,hacc,hov⟩
 exact q _ _ _ _ _ (atRef _) (hend _ _ hI _ s5.1) s5.2
end
end
section
set_option backward.match.sparseCases false
noncomputable def nmOf (t:Expr):Option (Str×Pos):=match t with | .Name n p=>some (n,p) | _=>none
noncomputable def IsNmP (t:Expr):Option (Str×Pos)->Prop | some q=>t=.Name q.1 q.2 | none=>True
theorem nmOf.spec (t:Expr):IsNmP t (nmOf t):=by
 induction t using Expr.casesOn with
 | Name n p=>exact rfl
 | _=>exact trivial
noncomputable def tOk (e:Expr) (q:Option (Str×Pos)):Bool:=match q with
 | some q=>isLC e&&q.2.line==e.pos.line&&!((cSc e).names.any fun x=>x.1==q.1&&(x.2==.local||x.2==.cell))
 | none=>false
noncomputable def isAC:Stmt->Bool
 | .Assign ts e _=>one1 ts&&tOk e (nmOf (lhd ts))
 | _=>false
noncomputable def IsAC (s:Stmt) (b:Bool):Prop:=cond b (∃ p1 p2,s=.Assign [.Name (eName (sTg s)) p1] (sE s) p2/\isLC (sE s)=true/\(p1.line==(sE s).pos.line)=true/\((cSc (sE s)).names.any fun x=>x.1==eName (sTg s)&&(x.2==.local||x.2==.cell))=false) True
theorem isAC.spec (s:Stmt):IsAC s (isAC s):=by
 induction s using Stmt.casesOn with
 | Assign ts e p=>
  refine cd fun h=>?_
  have h:(one1 ts&&tOk e (nmOf (lhd ts)))=true:=h
  rw [Bool.and_eq_true] at h
  induction ts using List.casesOn with
  | nil=>exact Bool.noConfusion h.1
  | cons t r=>induction r using List.casesOn with
   | cons _ _=>exact Bool.noConfusion h.1
   | nil=>
    have h2:tOk e (nmOf t)=true:=h.2
    have h3:=nmOf.spec t
    induction hq:nmOf t with
    | none=>replace h2:=hq▸h2;exact Bool.noConfusion h2
    | some q=>
     rw [hq] at h2 h3
     have h3:t=.Name q.1 q.2:=h3
     have h2:(isLC e&&q.2.line==e.pos.line&&!((cSc e).names.any fun x=>x.1==q.1&&(x.2==.local||x.2==.cell)))=true:=h2
     subst h3
     rw [Bool.and_eq_true,Bool.and_eq_true,Bool.not_eq_true'] at h2
     exact ⟨q.2,p,rfl,h2.1.1,h2.1.2,h2.2⟩
 | _=>exact trivial
theorem isAC.use {s:Stmt} (h:isAC s=true):∃ p1 p2,s=.Assign [.Name (eName (sTg s)) p1] (sE s) p2/\isLC (sE s)=true/\(p1.line==(sE s).pos.line)=true/\((cSc (sE s)).names.any fun x=>x.1==eName (sTg s)&&(x.2==.local||x.2==.cell))=false:=cdU (isAC.spec s) h
section
variable {L:Addr} {m:Loc} {fs:Fs} {h:Heap}
theorem swaps_true {e:Expr} {n:Str} {p1:Pos} {l:Nat} {env:Env} {sc:Scope} (fe:Fe env sc L) (hn:sc.names.lookup n=some .local) (h1:isLC e=true) (h2:(p1.line==e.pos.line)=true) (h3:((cSc e).names.any fun x=>x.1==n&&(x.2==.local||x.2==.cell))=false) :
 swapsWith e (some (.Name n p1)) l env=pure true:=by
 refine ea1_2 (isLC.use h1) fun p he z1=>?_;clear z1
 have hb:(env.blockKind==.function)=true:=by unfold Env.blockKind;refine qE fe.scope (qE fe.kind ?_);rfl
 have hk:(env.kindOf n==some .local)=true:=by unfold Env.kindOf;refine qE fe.scope (qE hn ?_);rfl
 have key:∀ (elt:Expr) (gs:List Comprehension) (s:Scope) (p:Pos),(p1.line==(Expr.ListComp elt gs s p).pos.line)=true->(s.names.any fun x=>x.1==n&&(x.2==.local||x.2==.cell))=false->swapsWith (.ListComp elt gs s p) (some (.Name n p1)) l env=pure true:=by
  intro elt gs s p g1 g2
  unfold swapsWith
  show (pure (env.blockKind==.function&&env.kindOf n==some .local&&p1.line==(Expr.ListComp elt gs s p).pos.line&&!(s.names.any fun x=>x.1==n&&(x.2==.local||x.2==.cell))):Sem Bool)=pure true
  refine qE hb (qE hk (qE g1 (qE g2 ?_)));rfl
 replace h2:=he▸h2
 exact qE (show swapsWith e (some (.Name n p1)) l env=swapsWith (.ListComp (cElt e) [⟨cTgt e,cIter e,[],0⟩] (cSc e) p) (some (.Name n p1)) l env from congrArg (fun z=>swapsWith z (some (.Name n p1)) l env) he) (key _ _ _ _ h2 h3)
theorem comp_asg {D:Nat} {sc:Scope} {s:Stmt} {k:FlV->Loc->Sg->Prop} (hc:(isAC s&&okComp (cSc (sE s))&&(sc.names.lookup (eName (sTg s))==some .local))=true) (x:CompX K D sc (sE s) m σ (jN (eName (sTg s)) m k)) {A:Around} {env:Env} (hr:Room A D) (fe:Fe env sc L) :
 TellsS K A (exec s env) L m σ k:=by
 revert hc x env hr fe
 revert K σ L m D sc s k A
 refine no_implicit_lambda% (al9 (n:=⟨(kc0,default,default,default,default,default,default,default,a0)⟩) ?_)
 generalize et9 _ _=υ
 generalize υ.1=K,υ.2.1=σ,υ.2.2.1=L,υ.2.2.2.1=m,υ.2.2.2.2.1=D,υ.2.2.2.2.2.1=sc,υ.2.2.2.2.2.2.1=s,υ.2.2.2.2.2.2.2.1=k,υ.2.2.2.2.2.2.2.2=A
 intro hc x env hr fe
 intro E fs h t Q st q
 rw [Bool.and_eq_true,Bool.and_eq_true,beq_iff_eq] at hc
 refine ea2_4 (isAC.use hc.1.1) fun p1 p2 he hlc g1 g2=>ea1_2 (isLC.use hlc) fun p hee hset=>ea0_5 (okComp.use hc.1.2) fun k1 k2 k3 k4 k5=>qE (show exec s env=exec (.Assign [.Name (eName (sTg s)) p1] (sE s) p2) env from congrArg (fun z=>exec z env) he) (qE (exec_Assign_Name_used _ _ _ _ (swaps_true fe hc.2 hlc g1 g2)) (wpAny_bind (wpAny_standAt (wpAny_bind ?_))))
 refine qE (show evalThenUse (sE s) env (assign (.Name (eName (sTg s)) p1) env)=evalThenUse (.ListComp (cElt (sE s)) [⟨cTgt (sE s),cIter (sE s),[],0⟩] (cSc (sE s)) p) env (assign (.Name (eName (sTg s)) p1) env) from congrArg (fun z=>evalThenUse z env (assign (.Name (eName (sTg s)) p1) env)) hee) ?_
 show wpAny _ A (do let _ ← comprehension (.ListComp (cElt (sE s)) [⟨cTgt (sE s),cIter (sE s),[],0⟩] (cSc (sE s)) p) (cSc (sE s)) env _ (newList []) false (eval (cIter (sE s)) env) (some (assign (.Name (eName (sTg s)) p1) env))) _ _ _
 refine wpAny_bind (wpAny_mono (wpAny_comprehension_use (Q:=fun ξ s'=>Q .next s') rfl (folded_plain hset) k1 k3 k4 ((recE_ok (c:=⟨K,D,sc,()⟩) hr fe 40).okE x st fun a v σ1 h1 t1 av x1 st1=>?_))
  (fun ξ s' hq=>wpAny_pure (wpAny_pure hq)) fun ξ ξ e=>e)
 refine ea3_6 x1 fun y items I z1 hlen hI0 hsrc hturn hend=>?_;clear x1;subst z1
 cases av
 refine comp_block (RR:=fun acc cenv r s'=>match r with
  | .ok _=>wpAny (model prg K.w) A (assign (.Name (eName (sTg s)) p1) env acc) (fun ξ s''=>∃ m,s''.heap.Ns cenv.locals m/\∀ h',Heap.SameBut cenv.locals s''.heap h'->Q .next { s'' with heap:=h' }) E s'
  | .error x=>∃ m,s'.heap.Ns cenv.locals m/\∀ h',Heap.SameBut cenv.locals s'.heap h'->wpAny (model prg K.w) A (passOn "comprehension.variables-let-go" x cenv) (fun ξ s'=>Q .next s') E { s' with heap:=h' })
  hr fe hc.1.2 st1 hlen hI0 hsrc hturn fun acc C cenv o oa vs n mm σ' h' t' hC hI hov hoa s1=>?_
 subst hC
 refine wpAny_assign_Name (store_loc (c:=⟨K,D,sc,()⟩) fe hc.2 s1.swap (atRef acc) fun h2 t2 s2=>?_)
 have s3:=s2.swap
 refine ea1_2 s3.fr.1 fun mv hmv ξ=>⟨mv,hmv,fun h'' S=>?_⟩
 have s4:=s3.popBut fun b o hb e=>(S.2 b hb).trans e
 have hacc:=(s4.frs (acc,.obj oa) (List.mem_cons_self ..)).1
 replace hacc:=hoa▸hacc
 have s5:=s4.adopt (c:=.list o) ⟨vs,n,hacc,hov⟩
 exact q _ _ _ _ _ _ fNext (hend _ _ hI _ s5.1) s5.2
end
end
section
variable {t:Tok} {a:Addr} {tx:Str} {v:T}
set_option genInjectivity false in
inductive Mem where
 | fd (f:Fd) (i:Nat)
 | me (body:Bool) (fl at_:Int)
noncomputable def MemAt (σ:Sg):Mem->V->Prop
 | .fd f i,v=>∃ x,v=.ref x/\FdAt σ f i x/\f.Ok
 | .me body fl at_,v=>∃ x lst bd,v=.ref x/\NodeAt σ x 27 (.str "m") [.none,lst,.none,bd] fl at_/\decide (bd=.none)=!body
theorem MemAt.ex {X} {m:Mem} {v:V} (h:MemAt σ m v) (E:Ex X σ σ'):MemAt σ' m v:=by
 induction m with
 | fd f i=>refine ea1_3 h fun x h1 h2 h3=>?_;clear h;exact ⟨x,h1,h2.ex E,h3⟩
 | me b fl at_=>refine ea3_3 h fun x l bd h1 h2 h3=>?_;clear h;exact ⟨x,l,bd,h1,h2.ex E,h3⟩
inductive MemsAt (σ:Sg):List Mem->List V->Prop
 | nil:MemsAt σ [] []
 | cons {m v ms vs}:MemAt σ m v->MemsAt σ ms vs->MemsAt σ (m::ms) (v::vs)
theorem MemsAt.ex {X} {ms vs} (h:MemsAt σ ms vs) (E:Ex X σ σ'):MemsAt σ' ms vs:=by
 induction h with
 | nil=>exact .nil
 | cons a b ih=>exact .cons (a.ex E) ih
theorem MemsAt.len {ms vs} (h:MemsAt σ ms vs):vs.length=ms.length:=by
 induction h with
 | nil=>rfl
 | cons a b ih=>exact qE List.length_cons (qE List.length_cons (qE ih rfl))
noncomputable def Mem.late:Mem->List (Int×Int)
 | .fd f i=>if f.amb then [] else f.told i
 | .me b _ at_=>if b then [(1183,at_)] else []
noncomputable def lateAll:List Mem->List (Int×Int)
 | []=>[]
 | m::r=>m.late++lateAll r
theorem Mem.late_len {m:Mem}:m.late.length<=1:=by
 induction m with
 | fd f i=>
  unfold Mem.late;dsimp only;split
  · exact Nat.zero_le _
  · exact told_len
 | me b fl at_=>
  unfold Mem.late;dsimp only;split
  · exact Nat.le_refl _
  · exact Nat.zero_le _
theorem c_declared_members {x:Addr} {vs:List V} {ms:List Mem} {av:V} {fl at_:Int} (P:PSt σ e s) (hN:NodeAt σ x 71 av vs fl at_) (hm:MemsAt σ ms vs) (hl:s.dgs.length+ms.length<=900) (hD:5<=D)
 (q:∀ σ',PSt σ' e { s with dgs:=s.dgs++lateAll ms }->Px e σ σ'->k .none σ'):CallV K D (fA K 113) [.ref e.p,.ref x] k σ:=by
 revert P hN hm hl hD q
 revert K D σ k e s x vs ms av fl at_
 refine no_implicit_lambda% (al12 (n:=⟨(kc0,default)⟩) ?_)
 generalize et12 _ _=υ
 generalize υ.1=K,υ.2.1=D,υ.2.2.1=σ,υ.2.2.2.1=k,υ.2.2.2.2.1=e,υ.2.2.2.2.2.1=s,υ.2.2.2.2.2.2.1=x,υ.2.2.2.2.2.2.2.1=vs,υ.2.2.2.2.2.2.2.2.1=ms,υ.2.2.2.2.2.2.2.2.2.1=av,υ.2.2.2.2.2.2.2.2.2.2.1=fl,υ.2.2.2.2.2.2.2.2.2.2.2=at_
 intro P hN hm hl hD q
 refine cFn 113 2 (dl hD) ?_
 refine getNode hN fun kl hkl=>forI 2 (.list kl) (vs) (fun rem m' σ'=>m'=([("p",.ref e.p),("members",.ref x)]:Loc)/\Px e σ σ'/\∃ ms' dn,MemsAt σ' ms' rem/\dn.length+ms'.length<=s.dgs.length+ms.length/\dn++lateAll ms'=s.dgs++lateAll ms/\PSt σ' e { s with dgs:=dn })
  ⟨rfl,.refl,ms,s.dgs,hm,Nat.le_refl _,rfl,P⟩ (fun rem m' σ' h=>hF (h.2.1.f _ _ hkl)) ?_ ?_
 · intro Iv hin v rem m' σ1 z1;refine ea0_3 z1 fun z2 x1 z3=>?_;clear z1;subst z2;refine ea2_4 z3 fun ms' dn hms hlen hdn P1=>?_;clear z3
   cases hms with
   | @cons mm v mms vs2 h1 h2=>
    replace hlen:=List.length_cons▸hlen
    cases mm with
    | fd f i=>
     refine ea1_3 h1 fun y z1 z2 ok=>?_;clear h1;subst z1;refine ea2_3 z2 fun kv iv g1 g2 g3=>?_;clear z2
     have hfl:FlOk f.fl:=by
      unfold Fd.fl;cases f.opt
      · exact ok.f0
      · exact ok.f1
     refine getNode g3 fun kl3 hkl3=>eqI (getNode g3 fun kl3 hkl3=>eqI (getNode g3 fun kl3 hkl3=>andI (truI ?_)))
     induction ha:(Builtin.bitAnd f.fl 4194304 != 0) with
     | true=>
      exact hin _ _ _ ⟨rfl,x1,mms,dn,h2,by lia,by refine qB hdn ?_;show dn++_=dn++((Mem.fd f i).late++_);rw [show (Mem.fd f i).late=[] by show (if f.amb then [] else f.told i)=[];unfold Fd.amb;refine qE ha ?_;rfl];rfl,P1⟩
     | false=>
      refine gFn 114 (c_declared_field P1 (show dn.length<999 by lia) g3 g1.none g2 (Mine.dn hD) fun σ2 P2 x2=>?_)
      have hlt:(Mem.fd f i).late=f.told i:=by show (if f.amb then [] else f.told i)=f.told i;unfold Fd.amb;refine qE ha ?_;rfl
      have hd2:(dn++told f.fl (f.at_ i) f.kind (f.ini i))++lateAll mms=s.dgs++lateAll ms:=by
       rw [← hdn,List.append_assoc]
       show _=dn++((Mem.fd f i).late++_)
       refine qE hlt ?_;rfl
      exact hin _ _ _ ⟨rfl,x1.trans x2,mms,_,h2.ex x2,by have:=told_len (fl:=f.fl) (at_:=f.at_ i) (kind:=f.kind) (o:=f.ini i);refine qE List.length_append ?_;lia,hd2,P2⟩
    | me b fl2 at2=>
     refine ea3_3 h1 fun y lst bd z1 g3 g4=>?_;clear h1;subst z1
     refine getNode g3 fun kl3 hkl3=>eqI (getNode g3 fun kl3 hkl3=>⟨notPyL (hF hkl3),itemL' 3 (hF hkl3) rfl rfl (by lia) ?_⟩)
     refine isNotN ?_
     rw [g4,Bool.not_not]
     cases b with
     | false=>
      exact getNode g3 fun kl3 hkl3=>eqI (hin _ _ _ ⟨rfl,x1,mms,dn,h2,by lia,hdn,P1⟩)
     | true=>
      refine getP P1 (dgM P1 (by decide +kernel) (getNode g3 fun kl3 hkl3=>tp fun z fz=>c_put (P1.fz fz) (show dn.length<999 by lia) (Mine.dn hD) fun σ2 P2 x2=>?_))
      have x12:Px e σ1 σ2:=(Ex.fz fz).trans x2
      exact getNode (g3.ex x12) fun kl3 hkl3=>eqI (hin _ _ _ ⟨rfl,x1.trans x12,mms,dn++[(1183,at2)],h2.ex x12,by refine qE List.length_append (qE List.length_singleton ?_);lia,by rw [← hdn,List.append_assoc];rfl,P2⟩)
 · intro m' σ1 z1;refine ea0_3 z1 fun z2 x1 z3=>?_;clear z1;subst z2;refine ea2_4 z3 fun ms' dn hms hlen hdn P1=>?_;clear z3
   cases hms
   have hd2:dn=s.dgs++lateAll ms:=by refine qB hdn ?_;exact (List.append_nil _).symm
   exact q σ1 (hd2▸P1) x1
end
section
variable {i j:Int} {x y:Addr} {l:List V}
theorem mulI (hm:IntMulOk i j) (q:k (.int (i * j)) σ):BinW K D .Mult (.int i) (.int j) k σ:=⟨fun hr st av qq=>by refine ea2_3 (at2 av) fun v w z1 z2 z4=>?_;subst z1;refine ea1_1 z2 fun t z3=>?_;clear z2;subst z3;refine ea1_1 z4 fun u z5=>?_;clear z4;subst z5;exact PyProof.Rows.mul_int (qq _ _ _ _ _ (atInt _ _) q st) hm⟩
theorem fdivN {n m:Nat} (hm:0<m) (hs:m<1073741824) (q:k (.int ((n / m:Nat):Int)) σ):BinW K D .FloorDiv (.int n) (.int m) k σ:=⟨fun hr st av qq=>by
 refine ea2_3 (at2 av) fun v w z1 z2 z4=>?_;subst z1;refine ea1_1 z2 fun t z3=>?_;clear z2;subst z3;refine ea1_1 z4 fun u z5=>?_;clear z4;subst z5
 refine PyProof.Rows.floordiv_int (by lia) (qq _ _ _ _ _ ?_ q st) (.inl (PyProof.noPylong_small (by lia)))
 rw [Int.fdiv_eq_ediv_of_nonneg _ (Int.natCast_nonneg m),← Int.natCast_ediv]
 exact atInt _ _⟩
theorem modN {n m:Nat} (hm:0<m) (q:k (.int ((n % m:Nat):Int)) σ):BinW K D .Mod (.int n) (.int m) k σ:=modI (by lia) (by
 rw [Int.fmod_eq_emod_of_nonneg _ (Int.natCast_nonneg m),← Int.natCast_emod];exact q)
theorem mul3 {n:Nat} (q:k (.int ((3 * n:Nat):Int)) σ):BinW K D .Mult (.int 3) (.int n) k σ:=mulI (IntMulOk.of_left (by decide)) (by refine qE (show (3:Int) * n=((3 * n:Nat):Int) by lia) ?_;exact q)
theorem addL {l1 l2:List V} (hx:Has K σ x (.list l1)) (hy:Has K σ y (.list l2)) (hl:l1.length+l2.length<=5000) (q:∀ z,Fresh σ z->k (.ref z) (σ.set z (.list (l1++l2)))):BinW K D .Add (.ref x) (.ref y) k σ:=⟨fun {A E L m fs h t vs Q} hr st av qq=>by
 refine ea2_3 (at2 av) fun v w z1 hv hw=>?_;subst z1
 cases hv;cases hw
 refine ea2_2 (hx.at st) fun vs n e r=>ea2_2 (hy.at st) fun ws n2 e2 r2=>?_
 have h1:vs.size=l1.length:=by have:=r.len;simpa using this
 have h2:ws.size=l2.length:=by have:=r2.len;simpa using this
 refine PySem.P.add_list (show IsL h x vs n from e) (show IsL h y ws n2 from e2) ?_ (by refine qE h1 (qE h2 (qE sizeLine_eq ?_));lia)
 have ny:=Heap.get?_none_of_le (h:=h) (Nat.le_refl _)
 have fr:=st.fresh ny
 exact qq _ _ _ _ _ (atRef _) (q _ ⟨fr.1,fr.2.1⟩) (st.new ny (fun b o e=>Heap.get?_push_of_some _ e) ⟨vs++ws,0,Heap.get?_push_size _ rfl,by refine qE Array.toList_append ?_;exact r.append r2⟩)⟩
open SeqAt
inductive VSc:V->Prop
 | int (i:Int):VSc (.int i)
 | str (s:Str):VSc (.str s)
theorem VSc.eq {a:V} (h:VSc a) {v w:Value} (hv:a.At v) (hw:a.At w) (A:Around) (s:Shared):EqAt A s v w true:=by
 induction h with
 | int i=>refine ea1_1 hv fun t z1=>?_;clear hv;subst z1;refine ea1_1 hw fun u z1=>?_;clear hw;subst z1;have:=EqAt.int_int (A:=A) (s:=s) i t i u;rwa [beq_self_eq_true] at this
 | str z=>refine ea1_1 hv fun t z1=>?_;clear hv;subst z1;refine ea1_1 hw fun u z1=>?_;clear hw;subst z1;have:=EqAt.str_str (A:=A) (s:=s) z t z u;rwa [beq_self_eq_true] at this
inductive VEq (K:Kc) (σ:Sg):V->V->Prop
 | sc {a:V}:VSc a->VEq K σ a a
 | tup {x y:Addr} {l:List V}:Has K σ x (.tup l)->Has K σ y (.tup l)->(∀ a∈l,VSc a)->VEq K σ (.ref x) (.ref y)
theorem tups_eq {A:Around} {L:Addr} {m:Loc} {fs:Fs} {h:Heap} {t:Nat} (st:St K σ L m fs h) (hu:A.units<cLine) (hx:Has K σ x (.tup l)) (hy:Has K σ y (.tup l)) (hs:∀ a∈l,VSc a):RcAt A ⟨h,#[],K.d,t,K.os⟩ (.ref x) (.ref y) true:=by
 refine ea2_2 ((hx.at st).tup) fun vs n e r=>ea2_2 ((hy.at st).tup) fun ws n2 e2 r2=>?_
 have h1:vs.size=l.length:=by have:=r.len;simpa using this
 have h2:ws.size=l.length:=by have:=r2.len;simpa using this
 have:=RcAt.tuples (A:=A) (s:=⟨h,#[],K.d,t,K.os⟩) (e:=fun ξ=>true) ⟨_,e,rfl,n,rfl⟩ ⟨_,e2,rfl,n2,rfl⟩ hu fun j j1 j2=>by
  have hj:j<l.length:=by lia
  refine ea1_2 (r.get (List.getElem?_eq_getElem hj)) fun v hv va=>?_
  refine ea1_2 (r2.get (List.getElem?_eq_getElem hj)) fun w hw wa=>?_
  replace hv:=Array.getElem?_eq_getElem j1▸Array.getElem?_toList▸hv
  replace hw:=Array.getElem?_eq_getElem j2▸Array.getElem?_toList▸hw
  cases hv;cases hw
  exact (hs _ (List.getElem_mem hj)).eq va wa _ _
 rw [h1,h2,beq_self_eq_true,Bool.and_true,List.all_eq_true.mpr (fun ξ ξ=>rfl)] at this
 exact this
theorem VEq.eq {a b:V} (q:VEq K σ a b) {A:Around} {L:Addr} {m:Loc} {fs:Fs} {h:Heap} {t:Nat} (st:St K σ L m fs h) (hu:A.units<cLine) {v w:Value} (hv:a.At v) (hw:b.At w):EqAt A ⟨h,#[],K.d,t,K.os⟩ v w true:=by
 induction q with
 | sc hs=>exact hs.eq hv hw _ _
 | @tup x y l hx hy hs=>
  cases hv;cases hw
  by_cases e:x=y
  · subst e;exact EqAt.same _
  · exact EqAt.of_refs e (tups_eq st hu hx hy hs)
inductive VEqs (K:Kc) (σ:Sg):List V->List V->Prop
 | nil:VEqs K σ [] []
 | cons {a b as bs}:VEq K σ a b->VEqs K σ as bs->VEqs K σ (a::as) (b::bs)
theorem VEqs.len {as bs} (h:VEqs K σ as bs):as.length=bs.length:=by
 induction h with
 | nil=>rfl
 | cons a b ih=>exact qE List.length_cons (qE List.length_cons (qE ih rfl))
theorem VEqs.get {as bs} (h:VEqs K σ as bs):∀ {j:Nat} {a b:V},as[j]?=some a->bs[j]?=some b->VEq K σ a b:=by
 induction h with
 | nil=>intro j a b h;simp at h
 | cons x r ih=>
  intro j a b h1 h2
  induction j using Nat.casesOn with
  | zero=>simp at h1 h2;subst h1;subst h2;exact x
  | succ j=>simp at h1 h2;exact ih h1 h2
theorem Room.lt {A:Around} (h:Room A D):A.units<cLine:=by have:=h.2.1;lia
theorem eqT {l:List V} (hx:Has K σ x (.tup l)) (hy:Has K σ y (.tup l)) (hs:∀ a∈l,VSc a) (q:k (.bool true) σ):CmpW K D .Eq (.ref x) (.ref y) k σ:=⟨fun {A E L m fs h t vs Q} hr st av qq=>by
 refine ea2_3 (at2 av) fun v w z1 hv hw=>?_;subst z1
 cases hv;cases hw
 exact tups_eq st hr.lt hx hy hs prg K.w E _ (qq _ _ _ _ _ (atBool _) q st)⟩
theorem items_eq {l1 l2:List V} (he:VEqs K σ l1 l2) {A:Around} {L:Addr} {m:Loc} {fs:Fs} {h:Heap} {t:Nat} (st:St K σ L m fs h) (hu:A.units<cLine) {vs ws:Array Value} (r:AllAt l1 vs.toList) (r2:AllAt l2 ws.toList) :
 vs.size=ws.size/\∀ j (h1:j<vs.size) (h2:j<ws.size),EqAt A ⟨h,#[],K.d,t,K.os⟩ vs[j] ws[j] true:=by
 have h1:vs.size=l1.length:=by have:=r.len;simpa using this
 have h2:ws.size=l2.length:=by have:=r2.len;simpa using this
 refine ⟨by exact qE h1 (qE h2 (qE he.len rfl)),fun j j1 j2=>?_⟩
 have hj1:j<l1.length:=by lia
 have hj2:j<l2.length:=by lia
 refine ea1_2 (r.get (List.getElem?_eq_getElem hj1)) fun v hv va=>?_
 refine ea1_2 (r2.get (List.getElem?_eq_getElem hj2)) fun w hw wa=>?_
 replace hv:=Array.getElem?_eq_getElem j1▸Array.getElem?_toList▸hv
 replace hw:=Array.getElem?_eq_getElem j2▸Array.getElem?_toList▸hw
 cases hv;cases hw
 exact (he.get (List.getElem?_eq_getElem hj1) (List.getElem?_eq_getElem hj2)).eq st hu va wa
theorem in1_lt {A:Around} (h:Room A D):A.in1.units<cLine:=by have:=h.2.1;show A.units+_<cLine;lia
theorem eqL {l1 l2:List V} (hx:Has K σ x (.list l1)) (hy:Has K σ y (.list l2)) (he:VEqs K σ l1 l2) (q:k (.bool true) σ):CmpW K D .Eq (.ref x) (.ref y) k σ:=⟨fun {A E L m fs h t vs Q} hr st av qq=>by
 refine ea2_3 (at2 av) fun v w z1 hv hw=>?_;subst z1
 cases hv;cases hw
 refine ea2_2 (hx.at st) fun vs n e r=>ea2_2 (hy.at st) fun ws n2 e2 r2=>ea0_2 (items_eq (t:=t) he st (in1_lt hr) r r2) fun hsz hE=>SeqAt.eq_listAt (e:=fun ξ=>true) ⟨_,e,rfl,n,rfl⟩ ⟨_,e2,rfl,n2,rfl⟩ hsz hr.lt hE (qE (List.all_eq_true.mpr (fun ξ ξ=>rfl)) ?_)
 exact qq _ _ _ _ _ (atBool _) q st⟩
end
section
open SeqAt MeetsSeq MeetsSeq2 MeetsSeq3 SeqRoads2
theorem ne_loop (l b:Addr) (items items2:Array Value) (n n2:Nat) (hsz:items.size=items2.size) (k:Nat) :
 ∀ i:Nat,items.size-i=k->Meets (Builtin.«list.__eq__.loop» ⟨[.ref l,.ref b,rawInt i,rawInt 3],[]⟩)
  (fun A R s=>s.heap.get? l=some { cls:=.type "list",data:=.seq items n }/\s.heap.get? b=some { cls:=.type "list",data:=.seq items2 n2 } ∧
   (∀ j (h1:j<items.size) (h2:j<items2.size),EqAt A.in1 s items[j] items2[j] true)/\R (.ok (.ret (.bool false))) s):=by
 induction k with
 | zero=>
  intro i hk prog w A R s h
  obtain ⟨hp,g,d,tk,os⟩:=s;refine ea0_4 h fun hl hb he h=>?_
  wp_walk using AutoSeq1.wpAny_loadPart' hl,AutoSeq1.wpAny_loadPart' hb
  have hi1:items[((i:Nat):Int).toNat]?=none:=by simp;lia
  have hi2:items2[((i:Nat):Int).toNat]?=none:=by simp;lia
  refine qE hi1 (qE hi2 ?_)
  wp_walk using AutoSeq1.wpAny_loadPart' hl,AutoSeq1.wpAny_loadPart' hb
  show R (.ok (.ret (.bool (items.size != items2.size)))) _
  refine qE hsz ?_
  simpa using h
 | succ k ih=>
  intro i hk prog w A R s h
  obtain ⟨hp,g,d,tk,os⟩:=s;refine ea0_4 h fun hl hb he h=>?_
  wp_walk using AutoSeq1.wpAny_loadPart' hl,AutoSeq1.wpAny_loadPart' hb
  have hlt:i<items.size:=by lia
  have hlt2:i<items2.size:=by lia
  have hi1:items[((i:Nat):Int).toNat]?=some items[i]:=by simp [hlt]
  have hi2:items2[((i:Nat):Int).toNat]?=some items2[i]:=by simp [hlt2]
  have hc:((i:Int)+1)=((i+1:Nat):Int):=by push_cast;rfl
  refine qE hi1 (qE hi2 ?_)
  refine wpAny_bind (he i hlt hlt2 prog w _ _ ?_)
  wp_walk
  refine qE hc ?_
  exact ⟨plainId_quiet plain_eq_loop _,codeAny_builtin entry_eq_loop (by
   refine qE (Around.under_plainId plain_eq_loop _) ?_
   exact ih (i+1) (by lia) prog w A R _ ⟨hl,hb,he,h⟩)⟩
theorem list_ne (l b:Addr) (items items2:Array Value) (n n2:Nat) (hsz:items.size=items2.size) :
 Meets (Builtin.«list.__ne__» ⟨[.ref l,.ref b],[]⟩)
  (fun A R s=>s.heap.get? l=some { cls:=.type "list",data:=.seq items n }/\s.heap.get? b=some { cls:=.type "list",data:=.seq items2 n2 } ∧
   (∀ j (h1:j<items.size) (h2:j<items2.size),EqAt A.in1 s items[j] items2[j] true)/\R (.ok (.ret (.bool false))) s):=by
 intro prog w A R s h
 obtain ⟨hp,g,d,tk,os⟩:=s;refine ea0_4 h fun hl hb he h=>?_
 have f3:=AutoSeq1.sub_list_list
 have hne:¬ (items.size != items2.size)=true:=by simp [hsz]
 wp_walk using AutoSeq1.wpAny_loadPart' hl,AutoSeq1.wpAny_loadPart' hb
 exact ⟨plainId_quiet plain_eq_loop _,codeAny_builtin entry_eq_loop (by
  refine qE (Around.under_plainId plain_eq_loop _) ?_
  exact ne_loop l b items items2 n n2 hsz _ 0 rfl prog w A R _ ⟨hl,hb,he,h⟩)⟩
theorem tuple_ne (l b:Addr) (items items2:Array Value) (n n2:Nat) (hsz:items.size=items2.size) :
 Meets (Builtin.«tuple.__ne__» ⟨[.ref l,.ref b],[]⟩)
  (fun A R s=>s.heap.get? l=some { cls:=.type "tuple",data:=.seq items n }/\s.heap.get? b=some { cls:=.type "tuple",data:=.seq items2 n2 } ∧
   (∀ j (h1:j<items.size) (h2:j<items2.size),EqAt A.in1 s items[j] items2[j] true)/\R (.ok (.ret (.bool false))) s):=
 .of_wp fun prog w A R s h=>by
  obtain ⟨hp,g,d,tk,os⟩:=s;refine ea0_4 h fun hl hb he h=>?_
  have f2:=AutoSeq1.sub_tuple_tuple
  have hZ:(items.toList.zip items2.toList).length=min items.size items2.size:=by simp
  wp_walk using AutoSeq1.wpAny_loadPart' hl,AutoSeq1.wpAny_loadPart' hb,wpAny_forIn_list _ (fun rest b s'=>b.1=none/\s'=⟨hp,g,d,tk,os⟩/\∃ i,rest=(items.toList.zip items2.toList).drop i) _
  case turn=>
   rintro ⟨y,x⟩ rest b s' ⟨hb',rfl,i,hz⟩
   have hlt:i<(items.toList.zip items2.toList).length:=by
    rcases Nat.lt_or_ge i (items.toList.zip items2.toList).length with h' | h'
    · exact h'
    · replace hz:=List.drop_of_length_le h'▸hz;injection hz
   have hm:i<min items.size items2.size:=hZ▸hlt
   have h1:i<items.size:=Nat.lt_of_lt_of_le hm (Nat.min_le_left _ _)
   have h2:i<items2.size:=Nat.lt_of_lt_of_le hm (Nat.min_le_right _ _)
   replace hz:=List.drop_eq_getElem_cons hlt▸hz
   injection hz with hyx hrest
   have hy:y=items[i]:=by have:=congrArg Prod.fst hyx;simpa using this
   have hx:x=items2[i]:=by have:=congrArg Prod.snd hyx;simpa using this
   subst hy hx
   refine wpAny_bind (he i h1 h2 prog w _ _ ?_)
   wp_walk
   exact ⟨rfl,rfl,i+1,hrest⟩
  case fin=>
   rintro ⟨b1,b2⟩ s' ⟨hb',rfl,i,hz⟩
   simp only at hb'
   subst hb'
   wp_walk
   exact ⟨_,rfl,by simpa [Builtin.Tuple.tupleCompareSizes,hsz] using h⟩
  case h=>
   exact ⟨rfl,rfl,0,rfl⟩
variable {i j:Int} {x y:Addr} {l:List V}
theorem neL {l1 l2:List V} (hx:Has K σ x (.list l1)) (hy:Has K σ y (.list l2)) (he:VEqs K σ l1 l2) (q:k (.bool false) σ):CmpW K D .NotEq (.ref x) (.ref y) k σ:=⟨fun {A E L m fs h t vs Q} hr st av qq=>by
 refine ea2_3 (at2 av) fun v w z1 hv hw=>?_;subst z1
 cases hv;cases hw
 refine ea2_2 (hx.at st) fun vs n e r=>ea2_2 (hy.at st) fun ws n2 e2 r2=>ea0_2 (items_eq (t:=t) he st (in1_lt hr) r r2) fun hsz hE=>?_
 exact richCompare_meets_room (op:=.NotEq) (a:=.ref x) (b:=.ref y) (T:="list") ⟨_,e,rfl⟩ ⟨_,e2,rfl⟩ F.slot_list_ne F.entry_list_ne (F.args_list_ne_2 _ _) (list_ne x y vs ws n n2 hsz)
  ⟨e,e2,hE,show Value.bool false≠Value.notImplemented/\Q (.bool false) _ from ⟨(fun x=>nomatch x),qq _ _ _ _ _ (atBool _) q st⟩⟩ hr.lt⟩
theorem neT {l1 l2:List V} (hx:Has K σ x (.tup l1)) (hy:Has K σ y (.tup l2)) (he:VEqs K σ l1 l2) (q:k (.bool false) σ):CmpW K D .NotEq (.ref x) (.ref y) k σ:=⟨fun {A E L m fs h t vs Q} hr st av qq=>by
 refine ea2_3 (at2 av) fun v w z1 hv hw=>?_;subst z1
 cases hv;cases hw
 refine ea2_2 ((hx.at st).tup) fun vs n e r=>ea2_2 ((hy.at st).tup) fun ws n2 e2 r2=>ea0_2 (items_eq (t:=t) he st (in1_lt hr) r r2) fun hsz hE=>?_
 exact richCompare_meets_room (op:=.NotEq) (a:=.ref x) (b:=.ref y) (T:="tuple") ⟨_,e,rfl⟩ ⟨_,e2,rfl⟩ F.slot_tuple_ne F.entry_tuple_ne (F.args_tuple_ne_2 _ _) (tuple_ne x y vs ws n n2 hsz)
  ⟨e,e2,hE,show Value.bool false≠Value.notImplemented/\Q (.bool false) _ from ⟨(fun x=>nomatch x),qq _ _ _ _ _ (atBool _) q st⟩⟩ hr.lt⟩
theorem strs_inj:∀ (a b:List Str) (vs:List Value),AllAt (a.map V.str) vs->AllAt (b.map V.str) vs->a=b:=by
 intro a
 induction a with
 | nil=>intro b vs ha hb;induction vs using List.casesOn with
  | nil=>induction b using List.casesOn with
   | nil=>rfl
   | cons _ _=>exact hb.elim
  | cons _ _=>exact ha.elim
 | cons p a ih=>intro b vs ha hb;induction vs using List.casesOn with
  | nil=>exact ha.elim
  | cons v vs=>induction b using List.casesOn with
   | nil=>exact hb.elim
   | cons q b=>
    obtain ⟨⟨t1,e1⟩,ha⟩:=ha
    obtain ⟨⟨t2,e2⟩,hb⟩:=hb
    replace e2:=e1▸e2;cases e2
    exact qE (ih b vs ha hb) rfl
theorem strs_eq {l1 l2:List Str} {A:Around} {h:Heap} {t:Nat} {d:Drawn} {os:OsState} {vs ws:Array Value} {n n2:Nat} (hu:A.units<cLine) (e:h.get? x=some { cls:=.type "list",data:=.seq vs n }) (e2:h.get? y=some { cls:=.type "list",data:=.seq ws n2 })
 (r:AllAt (l1.map V.str) vs.toList) (r2:AllAt (l2.map V.str) ws.toList):EqAt A ⟨h,#[],d,t,os⟩ (.ref x) (.ref y) (decide (l1=l2)):=by
 have h1:vs.size=l1.length:=by have:=r.len;simpa using this
 have h2:ws.size=l2.length:=by have:=r2.len;simpa using this
 by_cases hxy:x=y
 · subst hxy
   replace e2:=e▸e2;cases e2
   have:l1=l2:=by
    exact strs_inj _ _ _ r r2
   exact qE (decide_eq_true this) (EqAt.same _)
 · refine EqAt.of_refs hxy ?_
   by_cases hsz:vs.size=ws.size
   · have hE:∀ j (j1:j<vs.size) (j2:j<ws.size),EqAt A.in1 ⟨h,#[],d,t,os⟩ vs[j] ws[j] (l1[j]?==l2[j]?):=fun j j1 j2=>by
      have hj1:j<l1.length:=by lia
      have hj2:j<l2.length:=by lia
      refine ea1_2 (r.get (i:=j) (by refine qE List.getElem?_map (qE (List.getElem?_eq_getElem hj1) ?_);rfl)) fun v hv va=>?_
      refine ea1_2 (r2.get (i:=j) (by refine qE List.getElem?_map (qE (List.getElem?_eq_getElem hj2) ?_);rfl)) fun w hw wa=>?_
      replace hv:=Array.getElem?_eq_getElem j1▸Array.getElem?_toList▸hv
      replace hw:=Array.getElem?_eq_getElem j2▸Array.getElem?_toList▸hw
      refine ea1_1 va fun t1 z1=>?_;clear va;subst z1
      refine ea1_1 wa fun t2 z1=>?_;clear wa;subst z1
      refine qE (Option.some.inj hv) (qE (Option.some.inj hw) (qE (List.getElem?_eq_getElem hj1) (qE (List.getElem?_eq_getElem hj2) ?_)))
      have:=EqAt.str_str (A:=A.in1) (s:=⟨h,#[],d,t,os⟩) l1[j] t1 l2[j] t2
      rwa [show (l1[j]==l2[j])=(some l1[j]==some l2[j]) from rfl] at this
     have:=RcAt.lists (A:=A) (e:=fun j=>l1[j]?==l2[j]?) ⟨_,e,rfl,n,rfl⟩ ⟨_,e2,rfl,n2,rfl⟩ hsz hu hE
     rw [show decide (l1=l2)=(List.range vs.size).all (fun j=>l1[j]?==l2[j]?) from ?_]
     · exact this
     · rw [Bool.eq_iff_iff,decide_eq_true_iff,List.all_eq_true]
       constructor
       · rintro rfl j ξ;simp
       · intro hj
         refine List.ext_getElem? fun j=>?_
         by_cases hlt:j<vs.size
         · exact eq_of_beq (hj j (List.mem_range.mpr hlt))
         · exact qE (List.getElem?_eq_none (by lia)) (qE (List.getElem?_eq_none (by lia)) rfl)
   · have hne:¬ l1=l2:=by rintro rfl;exact hsz (h1.trans h2.symm)
     exact qE (decide_eq_false hne) (RcAt.lists_lengths ⟨_,e,rfl,n,rfl⟩ ⟨_,e2,rfl,n2,rfl⟩ (by simpa using hsz) hu)
inductive LLs (K:Kc) (σ:Sg):List V->List (List Str)->Prop
 | nil:LLs K σ [] []
 | cons {x as l ls}:Has K σ x (.list (l.map .str))->LLs K σ as ls->LLs K σ (.ref x::as) (l::ls)
theorem inTupL {as:List V} {ls:List (List Str)} {l:List Str} (hx:Has K σ x (.list (l.map .str))) (hy:Has K σ y (.tup as)) (hs:LLs K σ as ls) (q:k (.bool (decide (l∈ls))) σ):CmpW K D .In (.ref x) (.ref y) k σ:=⟨fun {A E L m fs h t vs Q} hr st av qq=>by
 refine ea2_3 (at2 av) fun v w z1 hv hw=>?_;subst z1
 cases hv;cases hw
 refine ea2_2 (hx.at st) fun xs nx ex rx=>ea2_2 ((hy.at st).tup) fun ws n e r=>?_
 classical
 have key:∀ (ws:List Value) (as:List V) (ls:List (List Str)),AllAt as ws->LLs K σ as ls->∃ f:Value->Bool,(∀ z∈ws,EqAt A.in1 ⟨h,#[],K.d,t,K.os⟩ z (.ref x) (f z))/\ws.any f=decide (l∈ls):=by
  intro ws as ls ha hl
  refine ⟨fun z=>decide (∃ a ys n,z=.ref a/\h.get? a=some { cls:=.type "list",data:=.seq ys n }/\AllAt (l.map V.str) ys.toList),?_⟩
  have one:∀ {x2:Addr} {l2:List Str},Has K σ x2 (.list (l2.map .str))->decide (∃ a ys n,Value.ref x2=.ref a/\h.get? a=some { cls:=.type "list",data:=.seq ys n }/\AllAt (l.map V.str) ys.toList)=decide (l2=l)/\EqAt A.in1 ⟨h,#[],K.d,t,K.os⟩ (.ref x2) (.ref x) (decide (l2=l)):=by
   intro x2 l2 h1
   refine ea2_2 (h1.at st) fun ys ny ey ry=>⟨?_,strs_eq (in1_lt hr) ey ex ry rx⟩
   rw [Bool.eq_iff_iff,decide_eq_true_iff,decide_eq_true_iff]
   constructor
   · intro z1;refine ea3_3 z1 fun a ys2 n2 he e2 r2=>?_;clear z1
     cases he
     replace e2:=ey▸e2;cases e2
     exact strs_inj _ _ _ ry r2
   · rintro rfl
     exact ⟨x2,ys,ny,rfl,ey,ry⟩
  clear r e hs
  induction hl generalizing ws with
  | nil=>induction ws using List.casesOn with
   | nil=>exact ⟨fun z hz=>(nomatch hz),rfl⟩
   | cons _ _=>exact ha.elim
  | @cons x2 as l2 ls h1 h2 ih=>induction ws using List.casesOn with
   | nil=>exact ha.elim
   | cons w0 ws0=>
    have h0:w0=.ref x2:=ha.1
    subst h0
    refine ea0_2 (one h1) fun o1 o2=>ea0_2 (ih ws0 ha.2) fun i1 i2=>⟨fun z hz=>?_,?_⟩
    · rcases List.mem_cons.mp hz with rfl | hz
      · show EqAt _ _ _ _ (decide _)
        refine qE o1 ?_;exact o2
      · exact i1 z hz
    · refine qE List.any_cons (qE i2 ?_)
      show (decide _||_)=_
      rw [o1,Bool.eq_iff_iff]
      simp only [Bool.or_eq_true,decide_eq_true_eq,List.mem_cons]
      constructor
      · rintro (h | h)
        · exact .inl h.symm
        · exact .inr h
      · rintro (h | h)
        · exact .inl h.symm
        · exact .inr h
 refine ea1_2 (key ws.toList as ls r hs) fun f hf hany=>SeqAt.in_tupleAt f ⟨_,e,rfl,n,rfl⟩ (fun z hz=>hf z (by simpa using hz)) (qq _ _ _ _ _ ?_ q st)
 refine qB Array.any_toList (qE hany ?_);exact atBool _⟩
end
section
set_option backward.match.sparseCases false
noncomputable def isDD:Expr->Bool
 | .Dict ks vs _=>ks.all Option.isSome&&ks.length==vs.length&&decide (1<=ks.length)&&decide (ks.length<=15)
 | _=>false
noncomputable def dKs:Expr->List (Option Expr) | .Dict ks _ _=>ks | _=>[]
noncomputable def dVs:Expr->List Expr | .Dict _ vs _=>vs | _=>[]
noncomputable def oNil:List (Option Expr)->Bool | []=>true | _=>false
noncomputable def oHd:List (Option Expr)->Expr | some e::_=>e | _=>e0
noncomputable def oTl:List (Option Expr)->List (Option Expr) | _::r=>r | []=>[]
noncomputable def evP (r:Rec):Nat->List (Option Expr)->List Expr->Loc->Sg->(List (V×V)->Sg->Prop)->Prop
 | 0,_,_,_,_,_=>False
 | n+1,ks,vs,m,σ,k=>match oNil ks with
  | true=>k [] σ
  | false=>r.E (oHd ks) m σ fun a σ1=>r.E (lhd vs) m σ1 fun b σ2=>evP r n (oTl ks) (ltl vs) m σ2 fun ps σ3=>k ((a,b)::ps) σ3
section
variable {L:Addr} {m:Loc} {fs:Fs} {h:Heap} {A:Around} {E:VP}
noncomputable def pairsE (env:Env) (pos:Pos) (ks:List (Option Expr)) (vs:List Expr):List (Sem Value×Sem Value):=(ks.map fun k=>eval (k.getD e0) env).zip ((evalEach vs env).map fun v=>do let x ← v;standAt pos;pure x)
theorem pairsE_shape {env:Env} {pos:Pos}:∀ {ks:List (Option Expr)} {vs:List Expr},ks.all Option.isSome=true →
 (evalEachOpt ks env).zip ((evalEach vs env).map fun v=>do let x ← v;standAt pos;pure x)=(pairsE env pos ks vs).map fun p=>(some p.1,p.2)
 | [],vs,_=>rfl
 | k::ks,[],_=>rfl
 | some e::ks,v::vs,h=>by have:=pairsE_shape (env:=env) (pos:=pos) (ks:=ks) (vs:=vs) (by simpa using h);exact congrArg (List.cons (some (eval e env),(do let x ← eval v env;standAt pos;pure x:Sem Value))) this
 | none::ks,v::vs,h=>by simp at h
noncomputable def PAt:List (V×V)->List (Value×Value)->Prop
 | [],[]=>True
 | p::ps,q::qs=>p.1.At q.1/\p.2.At q.2/\PAt ps qs
 | _,_=>False
theorem evP_sound {c:Cx} {r:Rec} {env:Env} {pos:Pos} (ro:RecOk c r A env L):∀ (n:Nat) {ks:List (Option Expr)} {vs:List Expr} {σ:Sg} {fs:Fs} {h:Heap} {t:Nat} {k:List (V×V)->Sg->Prop} {Q:List (Value×Value)->Shared->Prop},ks.all Option.isSome=true->ks.length=vs.length->evP r n ks vs m σ k->St c.K σ L m fs h →
 (∀ ps qs σ' h' t',PAt ps qs->k ps σ'->St c.K σ' L m fs h'->Q qs ⟨h',#[],c.K.d,t',c.K.os⟩)->wpAny (model prg c.K.w) A (evalPairs (pairsE env pos ks vs)) Q E ⟨h,#[],c.K.d,t,c.K.os⟩
 | 0,ks,vs,σ,fs,h,t,k,Q,_,_,x,_,_=>x.elim
 | n+1,[],vs,σ,fs,h,t,k,Q,_,_,x,st,q=>by
  unfold pairsE
  exact evalPairs_nil (q [] [] _ _ _ trivial x st)
 | n+1,ko::ks,[],σ,fs,h,t,k,Q,_,e,x,st,q=>by simp at e
 | n+1,none::ks,v::vs,σ,fs,h,t,k,Q,hs,e,x,st,q=>by simp at hs
 | n+1,some ke::ks,v::vs,σ,fs,h,t,k,Q,hs,e,x,st,q=>by
  have x:r.E ke m σ fun a σ1=>r.E v m σ1 fun b σ2=>evP r n ks vs m σ2 fun ps σ3=>k ((a,b)::ps) σ3:=x
  show wpAny _ _ (evalPairs ((eval ke env,do let x ← eval v env;standAt pos;pure x)::pairsE env pos ks vs)) _ _ _
  refine evalPairs_cons (ro.okE x st fun a av σ1 h1 t1 aa x1 st1=>?_)
  refine wpAny_bind (ro.okE x1 st1 fun b bv σ2 h2 t2 bb x2 st2=>wpAny_bind (wpAny_standAt (wpAny_pure ?_)))
  exact evP_sound ro n (by simpa using hs) (by simpa using e) x2 st2 fun ps qs σ' h' t' hp x3 st3=>q ((a,b)::ps) ((av,bv)::qs) _ _ _ ⟨aa,bb,hp⟩ x3 st3
theorem kv_nodup {κ:Type} [DecidableEq κ]:∀ (l acc:List (κ×V)),(acc++l).Pairwise (fun p q=>p.1≠q.1)->l.foldl (fun acc p=>kset acc p.1 p.2) acc=acc++l
 | [],acc,_=>by simp
 | p::l,acc,h=>by
  refine qE List.foldl_cons ?_
  have hk:kset acc p.1 p.2=acc++[p]:=by
   unfold kset
   rw [if_neg]
   intro hc
   rw [List.any_eq_true] at hc
   refine ea1_2 hc fun q hq he=>?_;clear hc
   have:=(List.pairwise_append.mp h).2.2 q hq p (List.mem_cons_self ..)
   exact this (by simpa using he)
  rw [hk,kv_nodup l (acc++[p]) (by rw [List.append_assoc];exact h),List.append_assoc];rfl
theorem carries {κ:Type} [DecidableEq κ] {w:World} {knd:KeyKind prg w κ} {mk:κ->V} (hk:∀ s v,(mk s).At v->knd.is s v=true):∀ {l:List (κ×V)} {qs:List (Value×Value)} (acc:List (κ×V)) (avs:List (κ×Value)),PAt (l.map fun p=>(mk p.1,p.2)) qs->KVAt acc avs →
 ∃ kvs,Carries knd qs kvs/\KVAt (l.foldl (fun acc p=>kset acc p.1 p.2) acc) (merged avs kvs)
 | [],[],acc,avs,_,ha=>⟨[],trivial,ha⟩
 | p::l,q::qs,acc,avs,h,ha=>by
  exact ea1_2 (carries hk (l:=l) (qs:=qs) (kset acc p.1 p.2) (stored avs p.1 q.2) h.2.2 (kv_set h.2.1 ha)) fun kvs h1 h2=>⟨(p.1,q.2)::kvs,⟨hk _ _ h.1,rfl,h1⟩,h2⟩
 | [],_::_,_,_,h,_=>h.elim
 | _::_,[],_,_,h,_=>h.elim
noncomputable def IsDD (e:Expr) (b:Bool):Prop:=cond b (∃ p,e=.Dict (dKs e) (dVs e) p/\(dKs e).all Option.isSome=true/\(dKs e).length=(dVs e).length/\1<=(dKs e).length/\(dKs e).length<=15) True
theorem isDD.spec (e:Expr):IsDD e (isDD e):=by
 induction e using Expr.casesOn with
 | Dict ks vs p=>
  refine cd fun h=>?_
  have h:(ks.all Option.isSome&&ks.length==vs.length&&decide (1<=ks.length)&&decide (ks.length<=15))=true:=h
  simp only [Bool.and_eq_true,beq_iff_eq,decide_eq_true_eq] at h
  exact ⟨p,rfl,h.1.1.1,h.1.1.2,h.1.2,h.2⟩
 | _=>exact trivial
theorem isDD.use {e:Expr} (h:isDD e=true):∃ p,e=.Dict (dKs e) (dVs e) p/\(dKs e).all Option.isSome=true/\(dKs e).length=(dVs e).length/\1<=(dKs e).length/\(dKs e).length<=15:=cdU (isDD.spec e) h
theorem dict_gen {κ:Type} [DecidableEq κ] {D:Nat} {sc:Scope} {e:Expr} {k:V->Sg->Prop} {knd:KeyKind prg K.w κ} {mk:κ->V} {cell:List (κ×V)->Cell} (hc:isDD e=true) (hk:∀ s v,(mk s).At v->knd.is s v=true)
 (hcell:∀ h a m kvs,h.DictOf knd a kvs->KVAt m kvs->CellAt K h a (cell m))
 (x:evP (recE 40 ⟨K,D,sc,()⟩) 16 (dKs e) (dVs e) m σ fun ps σ1=>∃ l:List (κ×V),ps=l.map (fun p=>(mk p.1,p.2))/\l.Pairwise (fun p q=>p.1≠q.1)/\∀ y,Fresh σ1 y->k (.ref y) (σ1.set y (cell l)))
 {env:Env} (hr:Room A D) (fe:Fe env sc L):Tells V.At K A (eval e env) L m σ k:=by
 intro E fs h t Q st q
 refine ea1_5 (isDD.use hc) fun p he h1 h2 h3 h4=>qE (show eval e env=eval (.Dict (dKs e) (dVs e) p) env from congrArg (fun z=>eval z env) he) ?_
 have hlen:(pairsE env p (dKs e) (dVs e)).length=(dKs e).length:=by
  unfold pairsE
  have:∀ l:List Expr,(evalEach l env).length=l.length:=fun l=>by
   induction l with
   | nil=>rfl
   | cons a l ih=>rw [evalEach,List.length_cons,List.length_cons,ih]
  rw [List.length_zip,List.length_map,List.length_map,this];lia
 refine wpAny_Dict_pairs (knd:=knd) (pairsE_shape h1) (by intro hh;replace hlen:=hh▸hlen;simp at hlen;lia) (by lia) ?_
 have nd:=Heap.get?_none_of_le (h:=h) (Nat.le_refl _)
 have st1:St K σ L m ((h.objs.size,.obj { cls:=.type "dict",data:=.dict #[] })::fs) (h.push { cls:=.type "dict",data:=.dict #[] }):=
  st.hold nd (fun b o e=>Heap.get?_push_of_some _ e) (Heap.get?_push_size _ rfl)
 refine evP_sound (c:=⟨K,D,sc,()⟩) (recE_ok hr fe 40) 16 h1 h2 x st1 fun ps qs σ' h' t' hp x1 st2=>?_
 refine ea1_3 x1 fun l z1 hnd hq=>?_;clear x1;subst z1
 refine ea1_2 (carries hk [] [] hp trivial) fun kvs c1 c2=>?_
 have hobj:=(st2.frs (h.objs.size,.obj _) (List.mem_cons_self ..)).1
 refine ⟨kvs,c1,⟨_,#[],_,hobj,⟨rfl,rfl,rfl⟩,rfl,fun e he=>absurd he (by simp),Pairs.nil,.nil⟩,fun h2 hd S=>?_⟩
 rw [kv_nodup l [] (by simpa using hnd),List.nil_append] at c2
 refine ea3_2 (id hd) fun o2 es2 ep2 e2 ξ=>?_
 have st3:=st2.held (fun b x hb e=>(S.2 b hb).trans e) e2
 have st4:=st3.adopt (c:=cell l) (hcell _ _ _ _ hd c2)
 exact q _ _ _ _ _ (atRef _) (hq _ st4.1) st4.2
end
end
section
theorem strKey {w:World}:∀ (s:Str) (v:Value),(V.str s).At v->(PySem.strKind prg w).is s v=true:=fun s v ⟨t,h⟩=>by
 subst h;show Value.isStrOf s (.str s t)=true;simp [Value.isStrOf]
theorem intKey {w:World}:∀ (s:Int) (v:Value),(V.int s).At v->(intKind prg w).is s v=true:=fun s v ⟨t,h⟩=>by
 subst h;show Value.isInt s (.int s t)=true;simp [Value.isInt]
section
variable {sc:Scope} {e:Expr} {m:Loc}
theorem dict_str (hc:isDD e=true) (x:evP (recE 40 ⟨K,D,sc,()⟩) 16 (dKs e) (dVs e) m σ fun ps σ1=>∃ l:Loc,ps=l.map (fun p=>(V.str p.1,p.2))/\l.Pairwise (fun p q=>p.1≠q.1)/\∀ y,Fresh σ1 y->k (.ref y) (σ1.set y (.dict l)))
 {A:Around} {env:Env} {L:Addr} (hr:Room A D) (fe:Fe env sc L):Tells V.At K A (eval e env) L m σ k:=dict_gen (cell:=.dict) hc strKey (fun h a m kvs hd hk=>⟨kvs,hd,hk⟩) x hr fe
theorem dict_int (hc:isDD e=true) (x:evP (recE 40 ⟨K,D,sc,()⟩) 16 (dKs e) (dVs e) m σ fun ps σ1=>∃ l:List (Int×V),ps=l.map (fun p=>(V.int p.1,p.2))/\l.Pairwise (fun p q=>p.1≠q.1)/\∀ y,Fresh σ1 y->k (.ref y) (σ1.set y (.idict l)))
 {A:Around} {env:Env} {L:Addr} (hr:Room A D) (fe:Fe env sc L):Tells V.At K A (eval e env) L m σ k:=dict_gen (cell:=.idict) hc intKey (fun h a m kvs hd hk=>⟨kvs,hd,hk⟩) x hr fe
theorem mGetDI {x:Addr} {m:List (Int×V)} (hx:Has K σ x (.idict m)):MethIs K σ (.ref x) "get" (.builtin "dict.get")/\FV K (.builtin "dict.get"):=by
 refine ⟨fun {A E L mm fs h t v pl Q} st av q=>?_,.inr (.inr (.inl ⟨_,rfl⟩))⟩
 cases av
 refine ea1_2 (hx.at st) fun kvs z1 hk=>?_;refine ea3_3 z1 fun o es ep e hc r=>?_;clear z1
 exact getMethod_dict e hc PySem.F.slot_dict_get.lookup PySem.F.type_dict_get (q t)
theorem cGetDI {x:Addr} {m:List (Int×V)} {s:Int} {dflt:V} (hx:Has K σ x (.idict m)) (ho:Own K σ x) (q:k ((kget m s).getD dflt) σ):CallV K D (.builtin "dict.get") [.ref x,.int s,dflt] k σ:=⟨fun {A E L mm fs h t vs Q} hr st av qq=>by
 refine ea3_4 (at3 av) fun v w u z1 hv z2 hu=>?_;subst z1;refine ea1_1 z2 fun t' z3=>?_;clear z2;subst z3
 cases hv
 refine ea1_2 (hx.at st) fun kvs hd hk=>?_
 have hg:=kv_get hk s
 refine call_meetsIn PySem.F.slot_dict_get hd.typeIs PySem.F.entry_dict_get (PySem.F.args_dict_get_3 _ _ _) (meets_dict_get_default (intKind prg K.w) x (k:=s) (intKey s _ ⟨t',rfl⟩) (ne_sys st ho) u) ⟨_,hd.mapOf,?_⟩
 refine qq _ _ _ _ _ ?_ q st
 induction e1:kget m s with
 | none=>induction e2:valueAt kvs s with
  | none=>exact hu
  | some v=>rw [e1,e2] at hg;exact hg.elim
 | some b=>induction e2:valueAt kvs s with
  | none=>replace hg:=e2▸e1▸hg;exact hg.elim
  | some v=>rw [e1,e2] at hg;exact hg⟩
theorem ob_init:lookupAlong [.type "object"] "__init__"=pure (some (.builtin "object.__init__")):=by kernel_rfl
theorem init_sub (i j:Nat) (h:(clsOk i&&clsOk j&&lnil (fBs (stAt j))&&tabC.any (fun p=>p.1==fName (stAt i)&&p.2==fName (stAt j))&&freeB i "__init__"&&freeB j "__init__")=true):CLk K (fName (stAt i)) "__init__" (some (.builtin "object.__init__")):=by
 simp only [Bool.and_eq_true] at h
 have ht:(fName (stAt i),fName (stAt j))∈tabC:=by
  refine ea1_2 (List.any_eq_true.mp h.1.1.2) fun p hp he=>?_
  rw [Bool.and_eq_true,beq_iff_eq,beq_iff_eq] at he
  refine qB he.1 (qB he.2 ?_);exact hp
 refine ea0_3 (cl_sub (K:=K) i j h.1.1.1.1.1 h.1.1.1.1.2 h.1.1.1.2 ht) fun c1 c2 z1=>?_;clear z1
 exact c2 _ _ (freeB.use h.1.2).1 (freeB.use h.2).1 (freeB.use h.1.2).2.1 (freeB.use h.1.2).2.2 ob_init
theorem new0 {C:Addr} {cls:Str} (hg:K.mg cls=some (.ref C)) (X:ClsN K.h0 C) (hi:LkT K K.h0 C "__init__" (some (.builtin "object.__init__")))
 (x:∀ x d,Fresh σ x->Fresh σ d->d≠x->k (.ref x) ((σ.set d (.ns [])).fz x (.inst cls d))):CallV K D (.ref C) [] k σ:=by
 refine ⟨fun {A E L m fs h t vs Q} hr st av q=>?_⟩
 induction vs using List.casesOn with
 | cons _ _=>exact av.elim
 | nil=>
  have kh:Kp K.h0 h:=st.h0
  have XN:ClsN h C:=by
   obtain ⟨⟨sl,cd,pre,a1,a2,a3,a4⟩,⟨sl',cd',b1,b2⟩⟩:=X
   exact ⟨⟨sl,cd,pre,kh _ _ a1,a2,a3,a4⟩,⟨sl',cd',kh _ _ b1,b2⟩⟩
  refine wpAny_call (make_core XN.makes (hi.keeps kh) (fun self=>Looks.of_pure (oi_bind self)) (.inr ⟨rfl,rfl⟩) ?_)
  have hx:((h.push emptyDict).push (instObj C h.objs.size)).get? (h.objs.size+1)=some (instObj C h.objs.size):=by heap_get
  have nd:=Heap.get?_none_of_le (h:=h) (Nat.le_refl _)
  have nx:=Heap.get?_none_of_le (h:=h) (Nat.le_succ h.objs.size)
  have ndx:h.objs.size≠h.objs.size+1:=Nat.ne_of_lt (Nat.lt_succ_self _)
  have hfr:=st.fresh nd
  have hfrx:=st.fresh nx
  have st1:St K (σ.set h.objs.size (.ns [])) L m fs (h.push emptyDict):=st.new nd (fun b o e=>Heap.get?_push_of_some _ e) ⟨_,Heap.Ns1.of_empty ⟨_,#[],_,Heap.get?_push_size _ rfl,rfl,fun e he=>absurd he (by simp),fun ξ=>rfl⟩,fun ξ=>trivial⟩
  have nx1:(h.push emptyDict).get? (h.objs.size+1)=none:=Heap.get?_none_of_le (Nat.le_of_eq (Heap.size_push ..))
  have st2:St K ((σ.set h.objs.size (.ns [])).fz (h.objs.size+1) (.inst cls h.objs.size)) L m fs ((h.push emptyDict).push (instObj C h.objs.size)):=st1.newF nx1 (fun b o e=>Heap.get?_push_of_some _ e) ⟨C,hg,hx⟩
  have t1:Looks (model prg K.w) ((h.push emptyDict).push (instObj C h.objs.size)) (typeOf (.ref (h.objs.size+1))) (.ref C):=(Looks.ld hx).andThen .now
  have t2:Looks (model prg K.w) ((h.push emptyDict).push (instObj C h.objs.size)) (isInstance (.ref (h.objs.size+1)) (.type "object")) true:=t1.andThen (XN.makes.top.keeps fun b o e=>Heap.get?_push_of_some _ (Heap.get?_push_of_some _ e))
  refine codeAny_call_builtin oi_plain entry_oi (@check_slot (model prg K.w) _ _ _ "object.__init__" "object" "__init__" (.ref (h.objs.size+1)) [] [] _ oi_kind oi_split t2 (oi_args (.ref (h.objs.size+1))) ?_)
  rw [oi_run]
  exact wpAny_pure (And.intro rfl (q _ _ _ _ _ (atRef _) (x _ _ ⟨hfrx.1,hfrx.2.1⟩ ⟨hfr.1,hfr.2.1⟩ ndx) st2))
theorem rule0 (i j:Nat) {attrs:List Str} (ct:CT K (fName (stAt i)) attrs) (h:(clsOk i&&clsOk j&&lnil (fBs (stAt j))&&tabC.any (fun p=>p.1==fName (stAt i)&&p.2==fName (stAt j))&&freeB i "__init__"&&freeB j "__init__")=true)
 (q:∀ x σ',Rule σ' x (fName (stAt i)) []->E0 σ σ'->Fresh σ x->k (.ref x) σ'):CallV K D (fA K i) [] k σ:=by
 refine ea1_5 (cls_gv ct.is) fun C h1 h2 h3 h4 h5=>qE h2 (Wp.post (new0 h1 h3 (init_sub i j h C h1) fun x d fx fd n=>?_))
 have hm:((σ.set d (.ns [])).fz x (.inst (fName (stAt i)) d)).M d=some (.ns []):=set_M
 refine ⟨_,Gh.ice hm,q x _ ⟨d,(upd_other n.symm).trans fz_F,ice_F⟩ ⟨fun a c e=>(upd_other (fd.neF e)).trans ((upd_other (fx.neF e)).trans e),fun a c e ξ=>(drop_other (fd.neM e)).trans ((upd_other (fd.neM e)).trans e)⟩ fx⟩
end
end
section
noncomputable def dfltOf (p:Arguments):Option Str:=match p.defaults with | [e]=>exStr e | _=>none
noncomputable def fOkD (params:Arguments) (sc:Scope) (s:Str):Bool:=okParams params&&(dfltOf params==some s)&&okFn sc (params.args.map (·.arg))&&nodupS (params.args.map (·.arg))&&(params.args.length==2)
noncomputable def BD (params:Arguments):Prop:=∀ {name qual:Str} {body:List Stmt} {sc:Scope} {pm code doc:Value} {s:Shared} {T:Addr} {o:Obj} {v x:Value} {n:Nat},s.heap.get? T=some o->o.data=.seq #[v] n->BindsTo s (defFd name qual params body sc mainGlobals (.ref T) .none none pm code doc) ⟨[x],[]⟩ ((params.args.map (·.arg)).zip [x,v])
theorem bd70:BD (mt 70 0).params:=fun ho hs=>BindsTo.of_defaults rfl ho hs rfl (by kernel_rfl)
theorem dflt_vals {p:Arguments} {d:Str} {dvs:List Value} (g:dfltOf p=some d) (c:ConstVals p.defaults dvs):∃ tw,dvs=[.str d tw]:=by
 unfold dfltOf at g
 induction hdl:p.defaults using List.casesOn with
 | nil=>rw [hdl] at g;injection g
 | cons e r=>induction r using List.casesOn with
  | cons _ _=>rw [hdl] at g;injection g
  | nil=>
   rw [hdl] at g c
   refine ea2_1 (exStr.use g) fun j q z=>?_;subst z
   induction dvs using List.casesOn with
   | nil=>exact c.elim
   | cons w ws=>induction ws using List.casesOn with
    | cons _ _=>exact c.2.elim
    | nil=>exact ea1_1 c.1 fun tk hw=>⟨tk,by rw [hw]⟩
section
variable {L:Addr} {m:Loc} {fs:Fs} {h:Heap} {t:Nat} {A:Around} {E:VP}
set_option tactic.hygienic true in
theorem code_fnD (st:St K σ L m fs h) {lo f name qual params body sc} {d:Str} (Fn:FnAt K.h0 lo f name qual params body sc) (hroom:A.depth<recursionLimit) {a:V} {v:Value} (hv:a.At v) (hok:fOkD params sc d=true) (hb:BD params) {R:Result->Shared->Prop}
 (q:∀ L' h' t' env,Fe env sc L'->St K σ L' ((params.args.map (·.arg)).zip [a,.str d]) ((L,.loc m)::fs) h' →
  wpAny (model prg K.w) (A.deeper env) (execs body env) (fun fl s'=>R (.ok (.ret (match fl with | .ret v=>v | _=>.none))) s') (fun ξ ξ=>False) ⟨h',#[],K.d,t',K.os⟩) :
 codeAny (model prg K.w) A (.call (.ref f) ⟨[v],[]⟩) R ⟨h,#[],K.d,t,K.os⟩:=by
 revert st Fn hroom hv hok hb q
 revert K σ L m fs h t A lo f name qual params body sc d a v R
 refine no_implicit_lambda% (al19 (n:=⟨(kc0,default,default,default,default,default,default,a0,default)⟩) ?_)
 generalize et19 _ _=υ
 generalize υ.1=K,υ.2.1=σ,υ.2.2.1=L,υ.2.2.2.1=m,υ.2.2.2.2.1=fs,υ.2.2.2.2.2.1=h,υ.2.2.2.2.2.2.1=t,υ.2.2.2.2.2.2.2.1=A,υ.2.2.2.2.2.2.2.2.1=lo,υ.2.2.2.2.2.2.2.2.2.1=f,υ.2.2.2.2.2.2.2.2.2.2.1=name,υ.2.2.2.2.2.2.2.2.2.2.2.1=qual,υ.2.2.2.2.2.2.2.2.2.2.2.2.1=params,υ.2.2.2.2.2.2.2.2.2.2.2.2.2.1=body,υ.2.2.2.2.2.2.2.2.2.2.2.2.2.2.1=sc,υ.2.2.2.2.2.2.2.2.2.2.2.2.2.2.2.1=d,υ.2.2.2.2.2.2.2.2.2.2.2.2.2.2.2.2.1=a,υ.2.2.2.2.2.2.2.2.2.2.2.2.2.2.2.2.2.1=v,υ.2.2.2.2.2.2.2.2.2.2.2.2.2.2.2.2.2.2=R
 intro st Fn hroom hv hok hb q
 refine ea0_2 ((Fn.ks st.h0).ex) fun lf z1=>?_;refine ea6_1 z1 fun dV dvs pm code doc P' y16=>?_;refine ea0_8 y16 fun lc lP e c D R' I T=>?_;clear y16;clear z1
 simp only [fOkD,Bool.and_eq_true,beq_iff_eq] at hok
 refine ea0_2 hok fun z1 g5=>?_;clear hok;refine ea0_2 z1 fun z2 g4=>?_;clear z1;refine ea0_2 z2 fun z3 g3=>?_;clear z2;refine ea0_2 z3 fun g1 g2=>?_;clear z3
 simp only [okFn,Bool.and_eq_true,Bool.not_eq_true',beq_iff_eq] at g3
 refine ea0_2 g3 fun z1 h6=>?_;clear g3;refine ea0_2 z1 fun z2 h5=>?_;clear z1;refine ea0_2 z2 fun z3 h4=>?_;clear z2;refine ea0_2 z3 fun z4 h3=>?_;clear z3;refine ea0_2 z4 fun h1 h2=>?_;clear z4
 refine ea1_1 (dflt_vals g2 c) fun tw z=>?_;subst z
 rcases D with ⟨d0,_⟩ | ⟨_,TT,rfl,hTT,hget⟩
 · injection d0
 have hlen:(params.args.map (·.arg)).length=[v,Value.str d tw].length:=by rw [List.length_map,g5];rfl
 refine codeAny_call_def (o:=_) hroom e rfl st.gl.noLimit R' rfl (hb hget rfl) (fun x hx=>?_) (fun x hx=>?_) (fun h0 hns k=>?_) h2 h3 h4
 · have:=List.all_eq_true.mp h1 x hx
   simpa using this
 · have:=List.all_eq_true.mp h5 x.1 (List.of_mem_zip (a:=x.1) (b:=x.2) hx).1
   show sc.names.lookup x.1=some .local
   simpa using this
 · refine wpAny_mono (q h.objs.size h0 _ _ ⟨rfl,rfl,rfl,rfl,h4,h6⟩ (st.push (Heap.get?_none_of_le (Nat.le_refl _)) k ⟨_,hns,.of fun x=>?_⟩)) (fun fl s' z=>?_) (fun ξ ξ z=>z.elim)
   · rw [lookup_reverse (zip_keys_nodup g4)]
     exact zip_get g4 (show AllAt [a,.str d] [v,.str d tw] from ⟨hv,atStr _ _,trivial⟩) hlen x
   · cases fl <;> exact z
theorem new_d {C:Addr} {D:Nat} {f lo:Addr} {cls fname qual:Str} {params:Arguments} {body:List Stmt} {sc:Scope} {dd:Str} {k:V->Sg->Prop} (hg:K.mg cls=some (.ref C)) (X:ClsN K.h0 C) (hi:LkT K K.h0 C "__init__" (some (.ref f)))
 (Fn:FnAt K.h0 lo f fname qual params body sc) (hf:fOkD params sc dd=true) (hb:BD params)
 (x:∀ x d,Fresh σ x->Fresh σ d->d≠x->vc ⟨K,D,sc,()⟩ body ((params.args.map (·.arg)).zip [.ref x,.str dd]) ((σ.set d (.ns [])).fz x (.inst cls d)) fun f m' σ'=>retV f=.none/\k (.ref x) σ'):CallV K (D+2) (.ref C) [] k σ:=by
 refine ⟨fun {A E L m fs h t vs Q} hr st av q=>?_⟩
 induction vs using List.casesOn with
 | cons _ _=>exact av.elim
 | nil=>
  have kh:Kp K.h0 h:=st.h0
  refine ea0_2 ((Fn.ks kh).ex) fun lf z1=>?_;refine ea6_4 z1 fun dV dvs pm code doc P' lc lP e ξ=>?_;clear z1
  have XN:ClsN h C:=by
   obtain ⟨⟨sl,cd,pre,a1,a2,a3,a4⟩,⟨sl',cd',b1,b2⟩⟩:=X
   exact ⟨⟨sl,cd,pre,kh _ _ a1,a2,a3,a4⟩,⟨sl',cd',kh _ _ b1,b2⟩⟩
  refine wpAny_call (make_core XN.makes (hi.keeps kh) (fun self=>bind_function self e rfl) (.inl rfl) ?_)
  have hx:((h.push emptyDict).push (instObj C h.objs.size)).get? (h.objs.size+1)=some (instObj C h.objs.size):=by heap_get
  have nd:=Heap.get?_none_of_le (h:=h) (Nat.le_refl _)
  have nx:=Heap.get?_none_of_le (h:=h) (Nat.le_succ h.objs.size)
  have ndx:h.objs.size≠h.objs.size+1:=Nat.ne_of_lt (Nat.lt_succ_self _)
  have hfr:=st.fresh nd
  have hfrx:=st.fresh nx
  have st1:St K (σ.set h.objs.size (.ns [])) L m fs (h.push emptyDict):=st.new nd (fun b o e=>Heap.get?_push_of_some _ e) ⟨_,Heap.Ns1.of_empty ⟨_,#[],_,Heap.get?_push_size _ rfl,rfl,fun e he=>absurd he (by simp),fun ξ=>rfl⟩,fun ξ=>trivial⟩
  have nx1:(h.push emptyDict).get? (h.objs.size+1)=none:=Heap.get?_none_of_le (Nat.le_of_eq (Heap.size_push ..))
  have st2:St K ((σ.set h.objs.size (.ns [])).fz (h.objs.size+1) (.inst cls h.objs.size)) L m fs ((h.push emptyDict).push (instObj C h.objs.size)):=st1.newF nx1 (fun b o e=>Heap.get?_push_of_some _ e) ⟨C,hg,hx⟩
  have V:=x (h.objs.size+1) h.objs.size ⟨hfrx.1,hfrx.2.1⟩ ⟨hfr.1,hfr.2.1⟩ ndx
  refine code_fnD st2 Fn (by have:=hr.1;show A.depth+1<recursionLimit;lia) (atRef _) hf hb fun L' h' t' env fe st'=>?_
  refine (recS_ok (c:=⟨K,D,sc,()⟩) (Room.deeper (Room.under hr)) fe 60).okSS V st' fun fl u m2 σ2 h2 t2 fu x2 st3=>?_
  have s3:=st3.pop
  have fin:∀ v:Value,v=.none->InitBack (h.objs.size+1) (fun r s'=>match r with | .ok (.ret v)=>Q v s' | .ok _=>False | .error e=>E e s') (.ok (.ret v)) ⟨h2,#[],K.d,t2,K.os⟩:=fun v hv=>⟨hv,q _ _ _ _ _ (atRef _) x2.2 s3⟩
  induction fl with
  | ret a=>
   refine ea1_2 fu fun v z1 av=>?_;clear fu;subst z1
   have ha:a=.none:=x2.1
   subst ha
   exact fin v av
  | next=>cases fu;exact fin _ rfl
  | brk=>cases fu;exact fin _ rfl
  | cont=>cases fu;exact fin _ rfl
theorem new_diags {D:Nat} {k:V->Sg->Prop} (hD:2<=D) (q:∀ x d r σ',σ'.F x=some (.inst "Diags" d)->σ'.F d=some (.ns [("rows",.ref r),("file",.str "")])->σ'.M r=some (.list [])->Fresh σ x->Fresh σ d->Fresh σ r->E0 σ σ'->k (.ref x) σ'):CallV K D (fA K 70) [] k σ:=by
 obtain ⟨D,rfl⟩:∃ D',D=D'+2:=⟨D-2,by lia⟩
 have ct:CT K (fName (stAt 70)) diagsAt:=ct_Diags
 refine ea1_5 (cls_gv ct.is) fun C h1 h2 h3 h4 h5=>?_
 have hm:(mOk 70 0&&(mt 70 0).name=="__init__"&&fOkD (mt 70 0).params (mt 70 0).sc "")=true:=by decide +kernel
 rw [Bool.and_eq_true,Bool.and_eq_true,beq_iff_eq] at hm
 have M:=m_at (K:=K) hm.1.1
 have h6:=M.1 C h1
 replace h6:=hm.1.2▸h6
 refine qE h2 (Wp.post (new_d h1 h3 h6 M.2 hm.2 bd70 fun x d fx fd n=>?_))
 have F0:=Fill.start (cls:=fName (stAt 70)) fx fd n
 refine tp fun r fr=>?_
 have fr':Fresh σ r/\r≠d/\r≠x:=⟨fr.fz.1.set.1,fr.fz.1.set.2,fr.fz.2⟩
 have F1:Fill (σ.set r (.list [])) ((((σ.set d (.ns [])).fz x (.inst (fName (stAt 70)) d))).set r (.list [])) x d (fName (stAt 70)) []:=by
  refine ⟨F0.fx,(upd_other fr'.2.1.symm).trans F0.md,F0.f,fun a c e=>?_,F0.nf,⟨(upd_other fr'.2.1.symm).trans F0.old.1,F0.old.2⟩⟩
  by_cases ha:a=r
  · subst ha
    rw [set_M] at e ⊢;exact e
  · exact (upd_other ha).trans (F0.m _ _ ((upd_other ha).symm.trans e))
 refine setF ct_Diags F1 fun σ1 F2=>setF ct_Diags F2 fun σ2 F3=>⟨rfl,?_⟩
 refine ea1_4 F3.done fun σ3 g g1 g2 g3=>?_
 have x0:E0 σ (σ.set r (.list [])):=.new fr'.1
 exact ⟨σ3,g,q x d r σ3 g1 g2 ((g3 fun ξ=>False).m _ _ set_M id) fx fd fr'.1 (x0.trans (g3 _))⟩
end
end
end
section
variable {e:Ge} {s:Gs}
set_option genInjectivity false in
structure Ge where
 g:Addr
 nu:Addr
 tk:Addr
 ea:Addr
 la:Addr
 ns:List Int
deriving Inhabited
set_option genInjectivity false in
structure Gs where
 toks:List (Tk×Bool)
 ln:Bool
 early:List (Int×Int)
 late:List (Int×Int)
deriving Inhabited
noncomputable def gns (e:Ge) (nx:Nat) (ln:Bool):Loc:=[("nums",.ref e.nu),("next",.int nx),("toks",.ref e.tk),("line",.bool ln),("early",.ref e.ea),("late",.ref e.la)]
noncomputable def TkAt (σ:Sg) (v:V) (p:Tk×Bool) (i:Nat):Prop:=∃ a,v=.ref a/\σ.F a=some (.tup [.int p.1.kind,.str p.1.text,.int p.1.num,.int ((3 * i+2:Nat):Int),.bool p.2])
inductive TksAt (σ:Sg):Nat->List V->List (Tk×Bool)->Prop
 | nil {i}:TksAt σ i [] []
 | cons {i v p vs ps}:TkAt σ v p i->TksAt σ (i+1) vs ps->TksAt σ i (v::vs) (p::ps)
theorem TksAt.ex {X} {i vs ps} (h:TksAt σ i vs ps) (E:Ex X σ σ'):TksAt σ' i vs ps:=by
 induction h with
 | nil=>exact .nil
 | cons a b ih=>refine ea1_2 a fun x h1 h2=>?_;clear a;exact .cons ⟨x,h1,E.f _ _ h2⟩ ih
theorem TksAt.len {i vs ps} (h:TksAt σ i vs ps):vs.length=ps.length:=by
 induction h with
 | nil=>rfl
 | cons a b ih=>exact qE List.length_cons (qE List.length_cons (qE ih rfl))
theorem TksAt.snoc {i vs ps v p} (h:TksAt σ i vs ps) (a:TkAt σ v p (i+ps.length)):TksAt σ i (vs++[v]) (ps++[p]):=by
 induction h with
 | nil=>exact .cons a .nil
 | @cons i v0 p0 vs ps b c ih=>exact .cons b (ih (by replace a:=List.length_cons▸a;refine qE (show i+1+ps.length=i+(ps.length+1) by lia) ?_;exact a))
theorem TksAt.get {i vs ps} (h:TksAt σ i vs ps):∀ {j:Nat} {p:Tk×Bool},ps[j]?=some p->∃ v,vs[j]?=some v/\TkAt σ v p (i+j):=by
 induction h with
 | nil=>intro j p h;simp at h
 | @cons i v0 p0 vs ps b c ih=>
  intro j p h
  induction j using Nat.casesOn with
  | zero=>simp at h;subst h;exact ⟨v0,rfl,b⟩
  | succ j=>simp at h;refine ea1_2 (ih h) fun v h1 h2=>?_;exact ⟨v,by simpa using h1,by refine qE (show i+(j+1)=i+1+j by lia) ?_;exact h2⟩
noncomputable def PrAt (σ:Sg) (v:V) (p:Int×Int):Prop:=∃ a,v=.ref a/\σ.F a=some (.tup [.int p.1,.int p.2])
inductive PrsAt (σ:Sg):List V->List (Int×Int)->Prop
 | nil:PrsAt σ [] []
 | cons {v p vs ps}:PrAt σ v p->PrsAt σ vs ps->PrsAt σ (v::vs) (p::ps)
theorem PrsAt.ex {X} {vs ps} (h:PrsAt σ vs ps) (E:Ex X σ σ'):PrsAt σ' vs ps:=by
 induction h with
 | nil=>exact .nil
 | cons a b ih=>refine ea1_2 a fun x h1 h2=>?_;clear a;exact .cons ⟨x,h1,E.f _ _ h2⟩ ih
theorem PrsAt.len {vs ps} (h:PrsAt σ vs ps):vs.length=ps.length:=by
 induction h with
 | nil=>rfl
 | cons a b ih=>exact qE List.length_cons (qE List.length_cons (qE ih rfl))
theorem PrsAt.snoc {vs ps v p} (h:PrsAt σ vs ps) (a:PrAt σ v p):PrsAt σ (vs++[v]) (ps++[p]):=by
 induction h with
 | nil=>exact .cons a .nil
 | cons b c ih=>exact .cons b ih
structure GSt (σ:Sg) (e:Ge) (s:Gs):Prop where
 g:∃ nx,σ.M e.g=some (.dict (gns e nx s.ln))
 nu:σ.M e.nu=some (.list (e.ns.map .int))
 nl:e.ns.length<=63
 tk:∃ rows,σ.M e.tk=some (.list rows)/\TksAt σ 0 rows s.toks
 ea:∃ rows,σ.M e.ea=some (.list rows)/\PrsAt σ rows s.early
 la:∃ rows,σ.M e.la=some (.list rows)/\PrsAt σ rows s.late
 nd:[e.g,e.nu,e.tk,e.ea,e.la].Nodup
noncomputable def GX (e:Ge):Addr->Prop:=fun a=>a=e.g\/a=e.tk\/a=e.ea\/a=e.la
noncomputable abbrev Gx (e:Ge):=Ex (GX e)
theorem GSt.ex (G:GSt σ e s) {X} (x:Ex X σ σ') (h:∀ a∈[e.g,e.nu,e.tk,e.ea,e.la],¬ X a):GSt σ' e s:=by
 exact ea1_1 G.g fun nx hg=>ea1_2 G.tk fun r1 h1 h2=>ea1_2 G.ea fun r3 h3 h4=>ea1_2 G.la fun r5 h5 h6=>⟨⟨nx,x.m _ _ hg (h _ (by simp))⟩,x.m _ _ G.nu (h _ (by simp)),G.nl,⟨r1,x.m _ _ h1 (h _ (by simp)),h2.ex x⟩,⟨r3,x.m _ _ h3 (h _ (by simp)),h4.ex x⟩,⟨r5,x.m _ _ h5 (h _ (by simp)),h6.ex x⟩,G.nd⟩
theorem GSt.e0 (G:GSt σ e s) (x:E0 σ σ'):GSt σ' e s:=G.ex x fun ξ ξ=>id
theorem GSt.ne (G:GSt σ e s):e.g≠e.nu/\e.g≠e.tk/\e.g≠e.ea/\e.g≠e.la/\e.nu≠e.tk/\e.nu≠e.ea/\e.nu≠e.la/\e.tk≠e.ea/\e.tk≠e.la/\e.ea≠e.la:=by
 have:=G.nd
 simp only [List.nodup_cons,List.mem_cons,List.not_mem_nil,or_false,not_or] at this
 refine ea0_5 this fun z1 z2 z3 d1 z4=>?_;clear this;refine ea0_4 z1 fun a1 a2 a3 a4=>?_;clear z1;refine ea0_3 z2 fun b1 b2 b3=>?_;clear z2;refine ea0_2 z3 fun c1 c2=>?_;clear z3;clear z4
 exact ⟨a1,a2,a3,a4,b1,b2,b3,c1,c2,d1⟩
theorem GSt.setG (G:GSt σ e s) (nx:Nat) (ln:Bool):GSt (σ.set e.g (.dict (gns e nx ln))) e { s with ln:=ln }/\Gx e σ (σ.set e.g (.dict (gns e nx ln))):=by
 have x:Ex (fun a=>a=e.g) σ (σ.set e.g (.dict (gns e nx ln))):=.set rfl
 refine ea0_5 G.ne fun n1 n2 n3 n4 z1=>?_;clear z1
 exact ea1_2 G.tk fun r1 h1 h2=>ea1_2 G.ea fun r3 h3 h4=>ea1_2 G.la fun r5 h5 h6=>⟨⟨⟨nx,set_M⟩,x.m _ _ G.nu n1.symm,G.nl,⟨r1,x.m _ _ h1 n2.symm,h2.ex x⟩,⟨r3,x.m _ _ h3 n3.symm,h4.ex x⟩,⟨r5,x.m _ _ h5 n4.symm,h6.ex x⟩,G.nd⟩,.set (.inl rfl)⟩
theorem gget {e:Ge} {nx:Nat} {ln:Bool}:kget (gns e nx ln) "nums"=some (.ref e.nu)/\kget (gns e nx ln) "next"=some (.int nx)/\kget (gns e nx ln) "toks"=some (.ref e.tk)/\kget (gns e nx ln) "line"=some (.bool ln)/\kget (gns e nx ln) "early"=some (.ref e.ea)/\kget (gns e nx ln) "late"=some (.ref e.la):=⟨by kernel_rfl,by kernel_rfl,by kernel_rfl,by kernel_rfl,by kernel_rfl,by kernel_rfl⟩
theorem gset1 {e:Ge} {nx n2:Nat} {ln:Bool}:kset (gns e nx ln) "next" (.int n2)=gns e n2 ln:=by kernel_rfl
theorem gset2 {e:Ge} {nx:Nat} {ln l2:Bool}:kset (gns e nx ln) "line" (.bool l2)=gns e nx l2:=by kernel_rfl
noncomputable def more35:List Int:=[1,3,0,8,0,14,0,0,5,0,0,40,0,9,7,1,3,1,0,0,0,1,0,0,8,0,8,1,6,0,2,0,24,5,2]
theorem fmod_nat {z:Int} {m:Nat} (hm:0<m):∃ q:Nat,q<m/\z.fmod m=q:=by
 refine qE (Int.fmod_eq_emod_of_nonneg _ (Int.natCast_nonneg m)) ?_
 have h1:=Int.emod_nonneg z (b:=(m:Int)) (by lia)
 have h2:=Int.emod_lt_of_pos z (b:=(m:Int)) (by lia)
 exact ⟨(z % m).toNat,by lia,by lia⟩
theorem gItem (G:GSt σ e s) {key:Str} {w:V} (h:∀ nx,kget (gns e nx s.ln) key=some w) (q:k w σ):NotPy K σ (.ref e.g)/\ItemW K D (.ref e.g) (.str key) k σ:=by
 exact ea1_1 G.g fun nx hg=>⟨notPyD (hM hg),itemD (hM hg) (h nx) q⟩
theorem more_get {n:Nat}:∃ z:Int,(more35.map V.int)[n % 35]?=some (.int z):=by
 have h:n % 35<more35.length:=Nat.mod_lt _ (by decide)
 exact ⟨more35[n % 35],by refine qE List.getElem?_map (qE (List.getElem?_eq_getElem h) ?_);rfl⟩
theorem g_pull {m:Nat} (G:GSt σ e s) (hm:0<m) (hD:1<=D) (q:∀ q':Nat,q'<m->∀ σ',GSt σ' e s->Gx e σ σ'->k (.int q') σ'):CallV K D (fA K 165) [.ref e.g,.int m] k σ:=by
 refine ea1_1 G.g fun nx hg=>cFn 165 2 hD (tp fun y fy=>fz1 fy fun σ1 x1 (hy1:σ1.F y=some (.tup (more35.map .int)))=>?_)
 have G1:=G.e0 x1
 have hg1:=x1.m _ _ hg id
 refine ⟨notPyD (hM hg1),itemD (hM hg1) gget.2.1 ?_⟩
 refine addI (setD hg1 (nb rfl) ?_)
 have G2:=G1.setG (nx+1) s.ln
 have hy2:=G2.2.f _ _ hy1
 have x2:=x1.px.trans G2.2
 replace G2:=G2.1
 refine qE (show ((nx:Int)+1)=((nx+1:Nat):Int) by lia) (qE gset1 ?_)
 have hcs:∀ z:Int,∃ q':Nat,q'<m/\z.fmod m=q':=fun z=>fmod_nat hm
 refine ⟨_,g_len.1,g_len.2,?_⟩
 refine gItem G2 (fun nx=>gget.1) (lenL (hM G2.nu) (by rw [List.length_map];have:=G2.nl;lia) ?_)
 refine ltI ?_
 induction hb:decide ((nx:Int)<((e.ns.map V.int).length:Int)) with
 | true=>
  rw [decide_eq_true_iff,List.length_map] at hb
  have hlt:nx<e.ns.length:=by lia
  refine gItem G2 (fun nx=>gget.1) (⟨notPyL (hM G2.nu),itemL (i:=nx) (hM G2.nu) (by refine qE List.getElem?_map (qE (List.getElem?_eq_getElem hlt) ?_);rfl) (by have:=G2.nl;lia) ?_⟩)
  exact ea1_2 (hcs e.ns[nx]) fun q' h1 h2=>modI (by lia) (qE h2 (q q' h1 _ G2 x2))
 | false=>
  refine ea1_1 (more_get (n:=nx)) fun z hz=>ea1_2 (hcs z) fun q' h1 h2=>modN (n:=nx) (m:=35) (by decide) (⟨notPyT (hF hy2),itemT (i:=nx % 35) (hF hy2) hz (by have:nx % 35<35:=Nat.mod_lt _ (by decide);lia) ?_⟩)
  exact modI (by lia) (qE h2 (q q' h1 _ G2 x2))
noncomputable def Gs.app (s:Gs) (l:List (Tk×Bool)):Gs:={ s with toks:=s.toks++l,ln:=false }
theorem g_put {kd:Int} {tx:Str} {num:Int} (G:GSt σ e s) (hl:s.toks.length<=1000) (hD:1<=D) (q:∀ σ',GSt σ' e (s.app [(⟨kd,tx,num⟩,s.ln)])->Gx e σ σ'->k (.int ((3 * s.toks.length+2:Nat):Int)) σ'):CallV K D (fA K 166) [.ref e.g,.int kd,.str tx,.int num] k σ:=by
 revert G hl hD q
 revert K D σ k e s kd tx num
 refine no_implicit_lambda% (al9 (n:=⟨(kc0,default)⟩) ?_)
 generalize et9 _ _=υ
 generalize υ.1=K,υ.2.1=D,υ.2.2.1=σ,υ.2.2.2.1=k,υ.2.2.2.2.1=e,υ.2.2.2.2.2.1=s,υ.2.2.2.2.2.2.1=kd,υ.2.2.2.2.2.2.2.1=tx,υ.2.2.2.2.2.2.2.2=num
 intro G hl hD q
 refine ea1_2 G.tk fun rows hr ht=>?_
 have hlen:=ht.len
 refine cFn 166 4 hD (⟨_,g_len.1,g_len.2,?_⟩)
 refine gItem G (fun nx=>gget.2.2.1) (lenL (hM hr) (by lia) (qE hlen (mul3 (addI (qE (show (((3 * s.toks.length:Nat):Int)+2)=((3 * s.toks.length+2:Nat):Int) by lia) (gItem G (fun nx=>gget.2.2.1) (⟨_,(mAppend (hM hr)).1,(mAppend (hM hr)).2,?_⟩)))))))
 refine gItem G (fun nx=>gget.2.2.2.1) (tp fun y fy=>?_)
 have x1:E0 σ (σ.fz y (.tup [.int kd,.str tx,.int num,.int ((3 * s.toks.length+2:Nat):Int),.bool s.ln])):=.fz fy
 have G1:=G.e0 x1
 have hr1:=x1.m _ _ hr id
 have ht1:=ht.ex x1
 have hy1:TkAt (σ.fz y (.tup [.int kd,.str tx,.int num,.int ((3 * s.toks.length+2:Nat):Int),.bool s.ln])) (.ref y) (⟨kd,tx,num⟩,s.ln) s.toks.length:=⟨y,rfl,fz_F⟩
 refine cAppend hr1 (by lia) (ea0_10 G1.ne fun n1 n2 n3 n4 n5 n6 n7 n8 n9 n10=>?_)
 have x2:Ex (fun a=>a=e.tk) (σ.fz y (.tup [.int kd,.str tx,.int num,.int ((3 * s.toks.length+2:Nat):Int),.bool s.ln])) ((σ.fz y (.tup [.int kd,.str tx,.int num,.int ((3 * s.toks.length+2:Nat):Int),.bool s.ln])).set e.tk (.list (rows++[.ref y]))):=.set rfl
 have G2:GSt ((σ.fz y (.tup [.int kd,.str tx,.int num,.int ((3 * s.toks.length+2:Nat):Int),.bool s.ln])).set e.tk (.list (rows++[.ref y]))) e { s with toks:=s.toks++[(⟨kd,tx,num⟩,s.ln)] }:=by
  exact ea1_1 G1.g fun nx hg=>ea1_2 G1.ea fun r3 h3 h4=>ea1_2 G1.la fun r5 h5 h6=>⟨⟨nx,x2.m _ _ hg n2⟩,x2.m _ _ G1.nu n5,G1.nl,⟨_,set_M,(ht1.ex x2).snoc (by rw [Nat.zero_add];refine ea1_2 hy1 fun a h1 h2=>?_;clear hy1;exact ⟨a,h1,x2.f _ _ h2⟩)⟩,⟨r3,x2.m _ _ h3 n8.symm,h4.ex x2⟩,⟨r5,x2.m _ _ h5 n9.symm,h6.ex x2⟩,G1.nd⟩
 have x12:Gx e σ _:=x1.px.trans (x2.wide fun a h=>.inr (.inl h))
 revert x12;revert G2;refine gn ((σ.fz y (.tup [.int kd,.str tx,.int num,.int ((3 * s.toks.length+2:Nat):Int),.bool s.ln])).set e.tk (.list (rows++[.ref y]))) fun σ2 G2 x12=>?_
 refine ea1_1 G2.g fun nx hg=>setD hg (nb rfl) ?_
 have G3:=G2.setG nx false
 exact qE gset2 (q _ G3.1 (x12.trans G3.2))
noncomputable abbrev fl0 (l:List Tk):List (Tk×Bool):=l.map fun x=>(x,false)
noncomputable def T.tks:T->List Tk
 | .leaf l=>[l.tk]
 | .sg w c=>sgTk w::c.tks
 | .tp1 h=>⟨7,"h",0⟩::(h.tks++[⟨9,"t",0⟩])
 | .tp2 a b=>⟨7,"h",0⟩::(a.tks++(⟨8,"m",0⟩::(b.tks++[⟨9,"t",0⟩])))
 | .par v=>⟨5,"(",0⟩::(v.tks++[⟨5,")",0⟩])
 | .sum w l r=>l.tks++(⟨5,w,0⟩::r.tks)
theorem T.tks_len:∀ t:T,t.tks.length=t.sz
 | .leaf l=>rfl
 | .sg w c=>congrArg (·+1) (T.tks_len c)
 | .tp1 h=>congrArg (·+1) (List.length_append.trans (congrArg (·+1) (T.tks_len h)))
 | .tp2 a b=>(congrArg (·+1) (List.length_append.trans (congr (congrArg _ (T.tks_len a)) (congrArg (·+1) (List.length_append.trans (congrArg (·+1) (T.tks_len b))))))).trans (by show a.sz+(b.sz+1+1)+1=a.sz+b.sz+3;lia)
 | .par v=>congrArg (·+1) (List.length_append.trans (congrArg (·+1) (T.tks_len v)))
 | .sum w l r=>by show (l.tks++_::r.tks).length=l.sz+r.sz+1;have:=T.tks_len l;have:=T.tks_len r;rw [List.length_append,List.length_cons];lia
theorem Gs.app_app {s:Gs} {a b:List (Tk×Bool)}:(s.app a).app b=s.app (a++b):=by
 unfold Gs.app;simp only [List.append_assoc]
theorem Gs.app_len {s:Gs} {a:List (Tk×Bool)}:(s.app a).toks.length=s.toks.length+a.length:=List.length_append
theorem GSt.notin (G:GSt σ e s) {z:Addr} (fz:Fresh σ z):∀ a∈[e.g,e.nu,e.tk,e.ea,e.la],a≠z:=by
 refine ea1_1 G.g fun nx hg=>ea1_2 G.tk fun r1 h1 h2=>ea1_2 G.ea fun r3 h3 h4=>ea1_2 G.la fun r5 h5 h6=>?_
 intro a ha
 simp only [List.mem_cons,List.not_mem_nil,or_false] at ha
 rcases ha with rfl | rfl | rfl | rfl | rfl
 · exact fz.neM hg
 · exact fz.neM G.nu
 · exact fz.neM h1
 · exact fz.neM h3
 · exact fz.neM h5
theorem GSt.nGX (G:GSt σ e s) {z:Addr} (fz:Fresh σ z):¬ GX e z:=by
 have:=G.notin fz
 rintro (h | h | h | h)
 · exact this _ (by simp) h.symm
 · exact this _ (by simp) h.symm
 · exact this _ (by simp) h.symm
 · exact this _ (by simp) h.symm
theorem GSt.new (G:GSt σ e s) {z:Addr} {c:Cell} (fz:Fresh σ z):GSt (σ.set z c) e s:=G.e0 (.new fz)
theorem Ex.around {X} {z:Addr} {c:Cell} (fz:Fresh σ z) (x1:Ex X (σ.set z c) σ1) (x2:Ex (fun a=>a=z) σ1 σ2):Ex X σ σ2:=
 ⟨fun a d h=>x2.f _ _ (x1.f _ _ h),fun a d h n=>x2.m _ _ (x1.m _ _ ((upd_other (fz.neM h)).trans h) n) (fz.neM h)⟩
theorem node_fin {t:T} {z:Addr} {av:V} {kids:List V} {toks:List (Tk×Bool)} (G:GSt σ e s) (fz:Fresh σ z) (G1:GSt σ1 e (s.app toks)) (x1:Gx e (σ.set z (.list kids)) σ1) (hz:σ1.M z=some (.list kids)) (hav:t.av.At σ1 av) (hks:FoAt σ1 (t.ks s.toks.length) kids) (hD:2<=D)
 (qq:∀ x σ',GSt σ' e (s.app toks)->FoAt σ' (t.fo s.toks.length .nil) [.ref x]->Gx e σ σ'->k (.ref x) σ'):CallV K D (fA K 45) [.int t.kd,av,.ref z,.int 0,.int ((3 * s.toks.length+2:Nat):Int)] k σ1:=
 nodeNew hz hD fun x σ' hx x2=>qq x σ' (G1.ex x2 (G.notin fz)) (FoAt.mk (hav.ex x2) hx (hks.ex x2) rfl) (Ex.around fz x1 x2)
theorem GSt.keepZ (G:GSt σ e s) {z:Addr} {c:Cell} (fz:Fresh σ z) (x1:Gx e (σ.set z c) σ1):σ1.M z=some c:=x1.m _ _ set_M (G.nGX fz)
theorem itemT' {x:Addr} {l:List V} {a:V} {j:Int} (i:Nat) (hx:Has K σ x (.tup l)) (hj:j=i) (hi:l[i]?=some a) (hl:i<5000) (q:k a σ):ItemW K D (.ref x) (.int j) k σ:=by subst hj;exact itemT hx hi hl q
theorem g_leaf {q:Nat} (G:GSt σ e s) (hq:q<=8) (h0:s.ln=false) (hl:s.toks.length<=900) (hD:4<=D) (qq:∀ l:Lf,(q=0->l.kd=1)->∀ x σ',GSt σ' e (s.app (fl0 [l.tk]))->FoAt σ' ((T.leaf l).fo s.toks.length .nil) [.ref x]->Gx e σ σ'->k (.ref x) σ'):CallV K D (fA K 167) [.ref e.g,.int q] k σ:=by
 revert G hq h0 hl hD qq;revert K D σ k e s q;refine no_implicit_lambda% (al7 (n:=⟨(kc0,default)⟩) ?_);generalize et7 _ _=υ;generalize υ.1=K,υ.2.1=D,υ.2.2.1=σ,υ.2.2.2.1=k,υ.2.2.2.2.1=e,υ.2.2.2.2.2.1=s,υ.2.2.2.2.2.2=q;clear υ;intro G hq h0 hl hD qq
 refine cFn 167 2 (dl hD) ?_
 by_cases q0:q=0
 · subst q0
   refine eqI (gFn 165 (g_pull (m:=50) G (by decide) (dn hD) fun n hn σ1 G1 x1=>?_))
   revert hn G1 x1;revert n σ1;refine al2 ?_;generalize et2 _ _=υ;generalize υ.1=n,υ.2=σ1;clear υ;intro hn G1 x1
   refine gCls 45 ct_Node (tp fun z fz=>?_)
   revert fz;revert z;refine al1 ?_;generalize et1 _ _=z;intro fz
   refine gFn 166 (⟨_,g_str.1,g_str.2,?_⟩)
   refine strW (by lia) (by lia) (g_put (G1.new fz) (by lia) (dn hD) fun σ2 G2 x2=>?_)
   revert G2 x2;revert σ2;refine al1 ?_;generalize et1 _ _=σ2;intro G2 x2
   replace G2:=h0▸G2
   refine node_fin (t:=.leaf (.num n)) (kids:=[]) G1 fz G2 x2 (G1.keepZ fz x2) rfl rfl (dn hD) fun x σ' G' h' x'=>?_
   revert G' h' x';revert x σ';refine al2 ?_;generalize et2 _ _=υ;generalize υ.1=x,υ.2=σ';clear υ;intro G' h' x'
   exact qq (.num n) (fun ξ=>rfl) x σ' G' h' (x1.trans x')
 · have hq0:((q:Int)==0)=false:=by rw [beq_eq_false_iff_ne];lia
   refine eqI (qE hq0 (eqI ?_))
   by_cases q7:q=7
   · subst q7
     refine gCls 45 ct_Node (tp fun y fy=>?_)
     revert fy;revert y;refine al1 ?_;generalize et1 _ _=y;intro fy
     have x1:E0 σ (σ.fz y (.tup [.str "w"])):=.fz fy
     have hy:(σ.fz y (.tup [.str "w"])).F y=some (.tup [.str "w"]):=fz_F
     have G1:=G.e0 x1
     refine tp fun z fz=>?_
     revert fz;revert z;refine al1 ?_;generalize et1 _ _=z;intro fz
     refine gFn 166 (g_put (G1.new fz) (by lia) (dn hD) fun σ2 G2 x2=>?_)
     revert G2 x2;revert σ2;refine al1 ?_;generalize et1 _ _=σ2;intro G2 x2
     replace G2:=h0▸G2
     refine node_fin (t:=.leaf .tpl) (kids:=[]) G1 fz G2 x2 (G1.keepZ fz x2) ⟨y,rfl,x2.f _ _ hy⟩ rfl (dn hD) fun x σ' G' h' x'=>?_
     revert G' h' x';revert x σ';refine al2 ?_;generalize et2 _ _=υ;generalize υ.1=x,υ.2=σ';clear υ;intro G' h' x'
     exact qq .tpl (fun h=>absurd h q0) x σ' G' h' (x1.px.trans x')
   · have hq7:((q:Int)==7)=false:=by rw [beq_eq_false_iff_ne];lia
     refine qE hq7 (tp fun y1 fy1=>tp fun y2 fy2=>tp fun y3 fy3=>tp fun y4 fy4=>tp fun y5 fy5=>tp fun y6 fy6=>tp fun y7 fy7=>tp fun y8 fy8=>tp fun y9 fy9=>fzG [(y1,.tup [.int 2,.str "s",.int 4,.str "s"]),(y2,.tup [.int 4,.str "true",.int 2,.str ""]),(y3,.tup [.int 5,.str "false",.int 2,.str ""]),(y4,.tup [.int 6,.str "null",.int 2,.str ""]),(y5,.tup [.int 7,.str "undefined",.int 1,.str ""]),(y6,.tup [.int 8,.str "v",.int 1,.str "v"]),(y7,.tup [.int 8,.str "v",.int 1,.str "v"]),(y8,.tup [.int 9,.str "this",.int 2,.str ""]),(y9,.tup [.ref y1,.ref y2,.ref y3,.ref y4,.ref y5,.ref y6,.ref y7,.ref y8])] ⟨fy1,fy2,fy3,fy4,fy5,fy6,fy7,fy8,fy9,trivial⟩ fun σ9 xs hs=>?_)
     have G1:=G.e0 xs
     have f9:=hs 8 (nb rfl)
     refine subI ?_
     obtain ⟨i,yy,l,kd,tx,a,hi,hl',hF',e1,e2,e3⟩:∃ (i:Nat) (yy:Addr) (l:Lf) (kd:Int) (tx a:Str),(q:Int)-1=i/\([.ref y1,.ref y2,.ref y3,.ref y4,.ref y5,.ref y6,.ref y7,.ref y8]:List V)[i]?=some (.ref yy)/\σ9.F yy=some (.tup [.int l.kd,.str tx,.int kd,.str a])/\l.tk=⟨kd,tx,0⟩/\l.av=.str a/\i<8:=by
      have hq':q=1\/q=2\/q=3\/q=4\/q=5\/q=6\/q=8:=by lia
      rcases hq' with rfl | rfl | rfl | rfl | rfl | rfl | rfl
      · exact ⟨0,_,.str,_,_,_,rfl,rfl,hs 0 (nb rfl),rfl,rfl,nb rfl⟩
      · exact ⟨1,_,.tt,_,_,_,rfl,rfl,hs 1 (nb rfl),rfl,rfl,nb rfl⟩
      · exact ⟨2,_,.ff,_,_,_,rfl,rfl,hs 2 (nb rfl),rfl,rfl,nb rfl⟩
      · exact ⟨3,_,.nul,_,_,_,rfl,rfl,hs 3 (nb rfl),rfl,rfl,nb rfl⟩
      · exact ⟨4,_,.und,_,_,_,rfl,rfl,hs 4 (nb rfl),rfl,rfl,nb rfl⟩
      · exact ⟨5,_,.nam,_,_,_,rfl,rfl,hs 5 (nb rfl),rfl,rfl,nb rfl⟩
      · exact ⟨7,_,.ths,_,_,_,rfl,rfl,hs 7 (nb rfl),rfl,rfl,nb rfl⟩
     refine ⟨notPyT (hF f9),itemT' i (hF f9) hi hl' (by lia) ?_⟩
     refine ⟨rfl,unpT (hF hF') rfl ?_⟩
     refine ⟨rfl,?_⟩
     refine gCls 45 ct_Node (tp fun z fz=>gFn 166 (g_put (G1.new fz) (by lia) (dn hD) fun σ2 G2 x2=>?_))
     replace G2:=e1.symm▸h0▸G2
     exact node_fin (t:=.leaf l) (kids:=[]) G1 fz G2 x2 (G1.keepZ fz x2) (show Av.At _ l.av _ from qE e2 rfl) rfl (dn hD) fun x σ' G' h' x'=>qq l (fun h=>absurd h q0) x σ' G' h' (xs.px.trans x')
section
variable {s1:Gs}
noncomputable def GYield (e:Ge) (s:Gs) (v:T) (k:V->Sg->Prop) (σ:Sg):Prop:=∀ x σ',GSt σ' e (s.app (fl0 v.tks))->FoAt σ' (v.fo s.toks.length .nil) [.ref x]->Gx e σ σ'->k (.ref x) σ'
noncomputable def bo:Nat->Nat
 | 0=>2
 | d+1=>2 * bo d+3
noncomputable def GO (K:Kc) (e:Ge) (d:Nat):Prop:=∀ {D σ} {s:Gs} {k:V->Sg->Prop},GSt σ e s->s.ln=false->s.toks.length+bo d<=900->10 * d+20<=D->(∀ v:T,v.ok true->v.sz<=bo d->v.dp<=d+1->GYield e s v k σ)->CallV K D (fA K 169) [.ref e.g,.int d] k σ
noncomputable def GVal (K:Kc) (e:Ge) (d:Nat):Prop:=∀ {D σ} {s:Gs} {k:V->Sg->Prop},GSt σ e s->s.ln=false->s.toks.length+(2 * bo d+1)<=900->10 * d+25<=D->(∀ v:T,v.ok false->v.sz<=2 * bo d+1->v.dp<=d+1->GYield e s v k σ)->CallV K D (fA K 170) [.ref e.g,.int d] k σ
theorem node_end {t:T} {z:Addr} {av:V} {kids:List V} {c0:Cell} {toks:List (Tk×Bool)} (G0:GSt σa e s1) (fz:Fresh σa z) (x0:Gx e σ σa) (x1:Ex (fun a=>GX e a\/a=z) (σa.set z c0) σ1) (G1:GSt σ1 e (s.app toks)) (hz:σ1.M z=some (.list kids)) (hav:t.av.At σ1 av) (hks:FoAt σ1 (t.ks s.toks.length) kids) (hD:2<=D)
 (qq:∀ x σ',GSt σ' e (s.app toks)->FoAt σ' (t.fo s.toks.length .nil) [.ref x]->Gx e σ σ'->k (.ref x) σ'):CallV K D (fA K 45) [.int t.kd,av,.ref z,.int 0,.int ((3 * s.toks.length+2:Nat):Int)] k σ1:=
 nodeNew hz hD fun x σ' hx x2=>qq x σ' (G1.ex x2 (G0.notin fz)) (FoAt.mk (hav.ex x2) hx (hks.ex x2) rfl)
  ⟨fun a d h=>x2.f _ _ (x1.f _ _ (x0.f _ _ h)),fun a d h n=>by
   have ha:=x0.m _ _ h n
   have hne:=fz.neM ha
   exact x2.m _ _ (x1.m _ _ ((upd_other hne).trans ha) (by rintro (h | h);exact n h;exact hne h)) hne⟩
theorem sg_sort {w:Str} (h:w∈signs6):((["typeof","void"]:List Str).any (·==w))=(w=="typeof"||w=="void"):=by
 simp only [signs6,List.mem_cons,List.not_mem_nil,or_false] at h
 rcases h with rfl | rfl | rfl | rfl | rfl | rfl <;> decide +kernel
theorem g_signed {w:Str} {q d:Nat} {dv:V} (hw:w∈signs6) (G:GSt σ e s) (h0:s.ln=false) (hl:s.toks.length+2<=900) (hD:10<=D) (hc:q≠9->GO K e d/\dv=.int d/\s.toks.length+1+bo d<=900/\10 * d+21<=D)
 (qq:∀ c:T,c.ok true->(q=9/\c.sz=1/\c.dp=0\/q≠9/\c.sz<=bo d/\c.dp<=d+1)->GYield e s (.sg w c) k σ):CallV K D (fA K 168) [.ref e.g,.str w,.int q,dv] k σ:=by
 revert hw G h0 hl hD hc qq;revert K D σ k e s w q d dv;refine no_implicit_lambda% (al10 (n:=⟨(kc0,default)⟩) ?_);generalize et10 _ _=υ;generalize υ.1=K,υ.2.1=D,υ.2.2.1=σ,υ.2.2.2.1=k,υ.2.2.2.2.1=e,υ.2.2.2.2.2.1=s,υ.2.2.2.2.2.2.1=w,υ.2.2.2.2.2.2.2.1=q,υ.2.2.2.2.2.2.2.2.1=d,υ.2.2.2.2.2.2.2.2.2=dv;clear υ;intro hw G h0 hl hD hc qq
 refine cFn 168 4 (dl hD) (tp fun y fy=>fz1 fy fun σ1 x1 (hy:σ1.F y=some (.tup ((["typeof","void"]:List Str).map .str)))=>?_)
 have G1:=G.e0 x1
 refine inTupS (hF hy) (qE (sg_sort hw) ?_)
 have fin:∀ so:Int,so=(sgTk w).kind->∀ σ2,GSt σ2 e (s.app [(⟨so,w,0⟩,s.ln)])->Gx e σ1 σ2->GSt σ2 e (s.app (fl0 [sgTk w])):=fun so hso σ2 G2 x2=>by
  subst hso;replace G2:=h0▸G2;exact G2
 have done:∀ (c:T) (σ2:Sg),GSt σ2 e (s.app (fl0 [sgTk w]))->Gx e σ1 σ2->c.ok true->(q=9/\c.sz=1/\c.dp=0\/q≠9/\c.sz<=bo d/\c.dp<=d+1)->∀ x σ3,GSt σ3 e ((s.app (fl0 [sgTk w])).app (fl0 c.tks))->FoAt σ3 (c.fo (s.toks.length+1) .nil) [.ref x]->Gx e σ2 σ3->∀ z,Fresh σ3 z->CallV K (D-1) (fA K 45) [.int 21,.str w,.ref z,.int 0,.int ((3 * s.toks.length+2:Nat):Int)] k (σ3.set z (.list [.ref x])):=by
  intro c σ2 G2 x2 hok hb x σ3 G3 h3 x3 z fz
  have x03:Gx e σ σ3:=(x1.px.trans x2).trans x3
  have e1:(s.app (fl0 [sgTk w])).app (fl0 c.tks)=s.app (fl0 (T.sg w c).tks):=by refine qE Gs.app_app ?_;rfl
  exact node_end (t:=.sg w c) (c0:=.list [.ref x]) G3 fz x03 .refl (e1▸G3.new fz) set_M rfl (h3.ex (Ex.new (X:=fun ξ=>False) fz)) (dn hD) fun x' σ' G' h' xx=>qq c hok hb x' σ' G' h' xx
 induction hs:(w=="typeof"||w=="void") with
 | true=>
  have hk:(2:Int)=(sgTk w).kind:=by unfold sgTk;refine qE hs ?_;rfl
  refine gFn 166 (g_put G1 (by lia) (dn hD) fun σ2 G2 x2=>?_)
  have G2':=fin 2 hk σ2 G2 x2
  refine eqI ?_
  by_cases h9:q=9
  · subst h9
    refine gFn 167 (g_leaf (q:=0) G2' (by lia) rfl (by show (s.toks++_).length<=900;refine qE List.length_append ?_;show s.toks.length+1<=900;lia) (dn hD) fun l hl' x σ3 G3 h3 x3=>?_)
    exact gCls 45 ct_Node (tp fun z fz=>done (.leaf l) σ2 G2' x2 trivial (.inl ⟨rfl,rfl,rfl⟩) x σ3 G3 (by replace h3:=Gs.app_len▸h3;exact h3) x3 z fz)
  · have hq9:((q:Int)==9)=false:=by rw [beq_eq_false_iff_ne];lia
    refine qE hq9 (ea0_4 (hc h9) fun ho hdv hlen hDD=>?_)
    subst hdv
    refine gFn 169 (ho G2' rfl (by refine qE Gs.app_len ?_;show s.toks.length+1+bo d<=900;lia) (show 10 * d+20<=D-1 by lia) fun c hok hsz hdp x σ3 G3 h3 x3=>?_)
    exact gCls 45 ct_Node (tp fun z fz=>done c σ2 G2' x2 hok (.inr ⟨h9,hsz,hdp⟩) x σ3 G3 (by replace h3:=Gs.app_len▸h3;exact h3) x3 z fz)
 | false=>
  have hk:(5:Int)=(sgTk w).kind:=by unfold sgTk;refine qE hs ?_;rfl
  refine gFn 166 (g_put G1 (by lia) (dn hD) fun σ2 G2 x2=>?_)
  have G2':=fin 5 hk σ2 G2 x2
  refine eqI ?_
  by_cases h9:q=9
  · subst h9
    refine gFn 167 (g_leaf (q:=0) G2' (by lia) rfl (by show (s.toks++_).length<=900;refine qE List.length_append ?_;show s.toks.length+1<=900;lia) (dn hD) fun l hl' x σ3 G3 h3 x3=>?_)
    exact gCls 45 ct_Node (tp fun z fz=>done (.leaf l) σ2 G2' x2 trivial (.inl ⟨rfl,rfl,rfl⟩) x σ3 G3 (by replace h3:=Gs.app_len▸h3;exact h3) x3 z fz)
  · have hq9:((q:Int)==9)=false:=by rw [beq_eq_false_iff_ne];lia
    refine qE hq9 (ea0_4 (hc h9) fun ho hdv hlen hDD=>?_)
    subst hdv
    refine gFn 169 (ho G2' rfl (by refine qE Gs.app_len ?_;show s.toks.length+1+bo d<=900;lia) (show 10 * d+20<=D-1 by lia) fun c hok hsz hdp x σ3 G3 h3 x3=>?_)
    exact gCls 45 ct_Node (tp fun z fz=>done c σ2 G2' x2 hok (.inr ⟨h9,hsz,hdp⟩) x σ3 G3 (by replace h3:=Gs.app_len▸h3;exact h3) x3 z fz)
end
section
variable {s1:Gs}
theorem g_value {d:Nat} (ho:GO K e d):GVal K e d:=by
 revert ho;revert K e d;refine no_implicit_lambda% (al3 (n:=⟨(kc0,default)⟩) ?_);generalize et3 _ _=υ;generalize υ.1=K,υ.2.1=e,υ.2.2=d;clear υ;intro ho
 intro D σ s k G h0 hl hD qq
 revert G h0 hl hD qq;revert D σ s k;refine no_implicit_lambda% (al4 ?_);generalize et4 _ _=υ;generalize υ.1=D,υ.2.1=σ,υ.2.2.1=s,υ.2.2.2=k;clear υ;intro G h0 hl hD qq
 refine cFn 170 2 (dl hD) (gFn 165 (g_pull (m:=6) G (by decide) (dn hD) fun q6 hq6 σ1 G1 x1=>?_))
 revert hq6 G1 x1;revert q6 σ1;refine al2 ?_;generalize et2 _ _=υ;generalize υ.1=q6,υ.2=σ1;clear υ;intro hq6 G1 x1
 refine eqI (gFn 169 (ho G1 h0 (by lia) (show 10 * d+20<=D-1 by lia) fun l hlok hlsz hldp xl σ2 G2 hl2 x2=>?_))
 revert hlok hlsz hldp G2 hl2 x2;revert l xl σ2;refine al3 ?_;generalize et3 _ _=υ;generalize υ.1=l,υ.2.1=xl,υ.2.2=σ2;clear υ;intro hlok hlsz hldp G2 hl2 x2
 induction hs:((q6:Int)==5) with
 | false=>
  exact truB (qq l hlok.val (by lia) hldp xl σ2 G2 hl2 (x1.trans x2))
 | true=>
  refine truB (tp fun y fy=>fz1 fy fun σ3 x3 (hy3:σ3.F y=some (.tup (signs4.map .str)))=>?_)
  have G3:=G2.e0 x3
  have hl3:=hl2.ex x3
  refine gFn 165 (g_pull (m:=4) G3 (by decide) (dn hD) fun q4 hq4 σ4 G4 x4=>?_)
  obtain ⟨w,hw,hget⟩:∃ w,w∈signs4/\(signs4.map V.str)[q4]?=some (.str w):=by
   have hlt:q4<signs4.length:=hq4
   exact ⟨signs4[q4],List.getElem_mem hlt,by refine qE List.getElem?_map (qE (List.getElem?_eq_getElem hlt) ?_);rfl⟩
  refine ⟨notPyT (hF (x4.f _ _ hy3)),itemT (i:=q4) (hF (x4.f _ _ hy3)) hget (by lia) ?_⟩
  refine gFn 166 ?_
  have hn2:(s.app (fl0 l.tks)).toks.length=s.toks.length+l.sz:=by rw [Gs.app_len,List.length_map,T.tks_len]
  refine g_put G4 (by refine qE hn2 ?_;lia) (dn hD) fun σ5 G5 x5=>?_
  have hn5:((s.app (fl0 l.tks)).app [(⟨5,w,0⟩,(s.app (fl0 l.tks)).ln)]).toks.length=s.toks.length+1+l.sz:=by refine qE Gs.app_len (qE hn2 ?_);show s.toks.length+l.sz+1=_;lia
  refine gFn 169 (ho G5 rfl (by refine qE hn5 ?_;lia) (show 10 * d+20<=D-1 by lia) fun r hrok hrsz hrdp xr σ6 G6 hr6 x6=>?_)
  replace hr6:=hn5▸hr6
  have hl6:=((hl3.ex x4).ex x5).ex x6
  have x06:Gx e σ σ6:=((((x1.trans x2).trans x3.px).trans x4).trans x5).trans x6
  have e1:((s.app (fl0 l.tks)).app [(⟨5,w,0⟩,(s.app (fl0 l.tks)).ln)]).app (fl0 r.tks)=s.app (fl0 (T.sum w l r).tks):=by
   refine qE Gs.app_app (qE Gs.app_app ?_)
   congr 1
   simp only [T.tks,fl0,List.map_append,List.map_cons,List.append_assoc,List.cons_append,List.nil_append]
   rfl
  replace G6:=e1▸G6
  refine gCls 45 ct_Node ?_
  have done:∀ z,Fresh σ6 z->CallV K (D-1) (fA K 45) [.int (if w=="||" then 24 else 23),.str w,.ref z,.int 0,.int ((3 * s.toks.length+2:Nat):Int)] k (σ6.set z (.list [.ref xl,.ref xr])):=by
   intro z fz
   have z0:E0 σ6 (σ6.set z (.list [.ref xl,.ref xr])):=.new fz
   exact node_end (t:=.sum w l r) (c0:=.list [.ref xl,.ref xr]) G6 fz x06 .refl (G6.new fz) set_M rfl ((hl6.ex z0).cat (hr6.ex z0)) (dn hD) fun x' σ' G' h' xx=>qq (.sum w l r) ⟨hw,hlok,hrok⟩ (by show l.sz+r.sz+1<=_;lia) (by show max l.dp r.dp<=d+1;lia) x' σ' G' h' xx
  refine ea3_4 hl6.one fun xl' avl ksl el hl7 hl8 hl9=>?_
  cases el
  refine eqS ?_
  induction hw2:(w=="||") with
  | true=>
   replace done:=hw2▸done
   exact tp fun z fz=>getNode (hl8.ex (Ex.new (X:=fun ξ=>False) fz)) fun kl hkl=>done z fz
  | false=>
   replace done:=hw2▸done
   exact tp fun z fz=>getNode (hl8.ex (Ex.new (X:=fun ξ=>False) fz)) fun kl hkl=>done z fz
theorem g_operand0:GO K e 0:=by
 intro D σ s k G h0 hl hD qq
 have hl:s.toks.length+2<=900:=hl
 have leaf:∀ {σ1:Sg} {q:Nat},GSt σ1 e s->Gx e σ σ1->q<=8->CallV K (D-1) (fA K 167) [.ref e.g,.int q] k σ1:=fun {σ1 q} G1 x1 hq=>
  g_leaf G1 hq h0 (by lia) (by lia) fun l ξ x σ' G' h' x'=>qq (.leaf l) trivial (by show 1<=2;lia) (by show 0<=1;lia) x σ' G' h' (x1.trans x')
 have sg9:∀ {σ1:Sg} {dv:V},GSt σ1 e s->Gx e σ σ1->CallV K (D-1) (fA K 168) [.ref e.g,.str "-",.int (9:Nat),dv] k σ1:=fun {σ1 dv} G1 x1=>
  g_signed (d:=0) (by simp [signs6]) G1 h0 hl (by lia) (fun h=>absurd rfl h) fun c hok hb x σ' G' h' x'=>by
   rcases hb with ⟨_,h1,h2⟩ | ⟨h,_⟩
   · exact qq (.sg "-" c) ⟨by simp [signs6],hok⟩ (by show c.sz+1<=2;lia) (by show c.dp+1<=1;lia) x σ' G' h' (x1.trans x')
   · exact absurd rfl h
 refine cFn 169 2 (dl hD) (gFn 165 (g_pull (m:=16) G (by decide) (dn hD) fun q hq σ1 G1 x1=>?_))
 have n (j:Nat) (h:q≠j):((q:Int)==(j:Int))=false:=by rw [beq_eq_false_iff_ne];lia
 refine eqI ?_
 by_cases h9:q=9
 · subst h9
   exact gFn 168 (sg9 G1 x1)
 refine qE (show ((q:Int)==9)=false from n 9 h9) (eqI ?_)
 by_cases h10:q=10
 · subst h10
   exact eqI (gFn 168 (sg9 G1 x1))
 refine qE (show ((q:Int)==10)=false from n 10 h10) (ltI ?_)
 by_cases h8:q<8
 · exact qE (show decide ((q:Int)<8)=true from decide_eq_true (by lia)) (gFn 167 (leaf G1 x1 (by lia)))
 refine qE (show decide ((q:Int)<8)=false from decide_eq_false (by lia)) (eqI ?_)
 by_cases h15:q=15
 · subst h15
   exact gFn 167 (eqI (leaf (q:=8) G1 x1 (by lia)))
 refine qE (show ((q:Int)==15)=false from n 15 h15) (eqI (gFn 167 (eqI (qE (show ((q:Int)==15)=false from n 15 h15) (eqI ?_)))))
 by_cases h8':q=8
 · subst h8'
   exact leaf (q:=7) G1 x1 (by lia)
 exact qE (show ((q:Int)==8)=false from n 8 h8') (leaf (q:=0) G1 x1 (by lia))
end
section
variable {s1:Gs}
theorem g_operandS {d:Nat} (ho:GO K e d):GO K e (d+1):=by
 revert ho;revert K e d;refine no_implicit_lambda% (al3 (n:=⟨(kc0,default)⟩) ?_);generalize et3 _ _=υ;generalize υ.1=K,υ.2.1=e,υ.2.2=d;clear υ;intro ho
 have hv:GVal K e d:=g_value ho
 intro D σ s k G h0 hl hD qq
 revert G h0 hl hD qq;revert D σ s k;refine no_implicit_lambda% (al4 ?_);generalize et4 _ _=υ;generalize υ.1=D,υ.2.1=σ,υ.2.2.1=s,υ.2.2.2=k;clear υ;intro G h0 hl hD qq
 have hb:bo (d+1)=2 * bo d+3:=rfl
 have hb2:2<=bo d:=by induction d using Nat.casesOn with
  | zero=>exact Nat.le_refl _
  | succ d=>show 2<=2 * bo d+3;lia
 rw [hb] at hl qq
 have hd1:(((d+1:Nat):Int)==0)=false:=by rw [beq_eq_false_iff_ne];lia
 have hdm:(((d+1:Nat):Int)-1)=(d:Int):=by lia
 have leaf:∀ {σ1:Sg} {q:Nat},GSt σ1 e s->Gx e σ σ1->q<=8->CallV K (D-1) (fA K 167) [.ref e.g,.int q] k σ1:=fun {σ1 q} G1 x1 hq=>
  g_leaf G1 hq h0 (by lia) (by lia) fun l ξ x σ' G' h' x'=>qq (.leaf l) trivial (by show 1<=2 * bo d+3;lia) (by show 0<=d+1+1;lia) x σ' G' h' (x1.trans x')
 have sgn:∀ {σ1:Sg} {w:Str} {q:Nat},w∈signs6->GSt σ1 e s->Gx e σ σ1->CallV K (D-1) (fA K 168) [.ref e.g,.str w,.int q,.int d] k σ1:=fun {σ1 w q} hw G1 x1=>
  g_signed hw G1 h0 (by lia) (by lia) (fun h=>⟨ho,rfl,by lia,by lia⟩) fun c hok hb x σ' G' h' x'=>by
   have hsz:c.sz<=bo d/\c.dp<=d+1:=by
    rcases hb with ⟨_,h1,h2⟩ | ⟨_,h1,h2⟩
    · lia
    · exact ⟨h1,h2⟩
   exact qq (.sg w c) ⟨hw,hok⟩ (by show c.sz+1<=2 * bo d+3;lia) (by show c.dp+1<=d+1+1;lia) x σ' G' h' (x1.trans x')
 have sgn9:∀ {σ1:Sg} {dv:V},GSt σ1 e s->Gx e σ σ1->CallV K (D-1) (fA K 168) [.ref e.g,.str "-",.int (9:Nat),dv] k σ1:=fun {σ1 dv} G1 x1=>
  g_signed (d:=0) (by simp [signs6]) G1 h0 (by lia) (by lia) (fun h=>absurd rfl h) fun c hok hb x σ' G' h' x'=>by
   rcases hb with ⟨_,h1,h2⟩ | ⟨h,_⟩
   · exact qq (.sg "-" c) ⟨by simp [signs6],hok⟩ (by show c.sz+1<=2 * bo d+3;lia) (by show c.dp+1<=d+1+1;lia) x σ' G' h' (x1.trans x')
   · exact absurd rfl h
 refine cFn 169 2 (dl hD) (gFn 165 (g_pull (m:=16) G (by decide) (dn hD) fun q hq σ1 G1 x1=>?_))
 revert hq G1 x1;revert q σ1;refine al2 ?_;generalize et2 _ _=υ;generalize υ.1=q,υ.2=σ1;clear υ;intro hq G1 x1
 have n (j:Nat) (h:q≠j):((q:Int)==(j:Int))=false:=by rw [beq_eq_false_iff_ne];lia
 refine eqI ?_
 by_cases h9:q=9
 · subst h9
   exact gFn 168 (sgn9 G1 x1)
 refine qE (show ((q:Int)==9)=false from n 9 h9) (eqI ?_)
 by_cases h10:q=10
 · subst h10
   exact eqI (qE hd1 (ltI (eqI (eqI (qE hd1 (ltI (neI (gFn 168 (subI (qE hdm (sgn (q:=10) (by simp [signs6]) G1 x1)))))))))))
 refine qE (show ((q:Int)==10)=false from n 10 h10) (ltI ?_)
 by_cases h8:q<8
 · exact qE (show decide ((q:Int)<8)=true from decide_eq_true (by lia)) (gFn 167 (leaf G1 x1 (by lia)))
 refine qE (show decide ((q:Int)<8)=false from decide_eq_false (by lia)) (eqI ?_)
 by_cases h15:q=15
 · subst h15
   exact gFn 167 (eqI (leaf (q:=8) G1 x1 (by lia)))
 refine qE (show ((q:Int)==15)=false from n 15 h15) (eqI (qE hd1 (ltI ?_)))
 by_cases h8':q=8
 · subst h8'
   refine neI (eqI (gFn 166 (g_put G1 (by lia) (dn hD) fun σ2 G2 x2=>?_)))
   revert G2 x2;revert σ2;refine al1 ?_;generalize et1 _ _=σ2;intro G2 x2
   replace G2:=h0▸G2
   have hn2:(s.app [(⟨7,"h",0⟩,false)]).toks.length=s.toks.length+1:=Gs.app_len
   refine gFn 169 (subI (qE hdm (ho G2 rfl (by refine qE hn2 ?_;lia) (show 10 * d+20<=D-1 by lia) fun a haok hasz hadp xa σ3 G3 ha3 x3=>?_)))
   revert haok hasz hadp G3 ha3 x3;revert a xa σ3;refine al3 ?_;generalize et3 _ _=υ;generalize υ.1=a,υ.2.1=xa,υ.2.2=σ3;clear υ;intro haok hasz hadp G3 ha3 x3
   replace ha3:=hn2▸ha3
   have hn3:((s.app [(⟨7,"h",0⟩,false)]).app (fl0 a.tks)).toks.length=s.toks.length+1+a.sz:=by rw [Gs.app_len,hn2,List.length_map,T.tks_len]
   refine tp fun z fz=>?_
   revert fz;revert z;refine al1 ?_;generalize et1 _ _=z;intro fz
   have x03:Gx e σ σ3:=(x1.trans x2).trans x3
   have G4:=G3.new (c:=.list [.ref xa]) fz
   have ha4:=ha3.ex (Ex.new (X:=fun ξ=>False) (c:=.list [.ref xa]) fz)
   have hz4:(σ3.set z (.list [.ref xa])).M z=some (.list [.ref xa]):=set_M
   have nz:=G3.nGX fz
   refine tp fun y fy=>?_
   revert fy;revert y;refine al1 ?_;generalize et1 _ _=y;intro fy
   refine fz1 fy fun σ5 x5 hy5=>?_
   have G5:=G4.e0 x5
   have ha5:=ha4.ex x5
   have hz5:=x5.m _ _ hz4 id
   refine gFn 165 (g_pull (m:=2) G5 (by decide) (dn hD) fun q2 hq2 σ6 G6 x6=>?_)
   have x46:Gx e (σ3.set z (.list [.ref xa])) σ6:=x5.px.trans x6
   have ha6:=ha5.ex x6
   have hz6:=x6.m _ _ hz5 nz
   have hy6:=x6.f _ _ hy5
   refine eqI ?_
   induction h1:((q2:Int)==1) with
   | false=>
    refine gFn 166 (g_put G6 (by refine qE hn3 ?_;lia) (dn hD) fun σ7 G7 x7=>?_)
    refine gCls 45 ct_Node ?_
    have e1:((s.app [(⟨7,"h",0⟩,false)]).app (fl0 a.tks)).app [(⟨9,"t",0⟩,((s.app [(⟨7,"h",0⟩,false)]).app (fl0 a.tks)).ln)]=s.app (fl0 (T.tp1 a).tks):=by
     refine qE Gs.app_app (qE Gs.app_app ?_)
     congr 1
     simp only [T.tks,fl0,List.map_append,List.map_cons,List.map_nil,List.append_assoc,List.cons_append,List.nil_append]
     rfl
    replace G7:=e1▸G7
    exact node_end (t:=.tp1 a) (c0:=.list [.ref xa]) G3 fz x03 ((x46.trans x7).wide fun ξ h=>.inl h) G7 (x7.m _ _ hz6 nz) ⟨y,rfl,x7.f _ _ hy6⟩ (ha6.ex x7) (dn hD) fun x' σ' G' h' xx=>qq (.tp1 a) haok (by show a.sz+2<=_;lia) (by show a.dp+1<=_;lia) x' σ' G' h' xx
   | true=>
    refine gFn 166 (g_put G6 (by refine qE hn3 ?_;lia) (dn hD) fun σ7 G7 x7=>?_)
    have hn7:(((s.app [(⟨7,"h",0⟩,false)]).app (fl0 a.tks)).app [(⟨8,"m",0⟩,((s.app [(⟨7,"h",0⟩,false)]).app (fl0 a.tks)).ln)]).toks.length=s.toks.length+2+a.sz:=by refine qE Gs.app_len (qE hn3 ?_);show s.toks.length+1+a.sz+1=_;lia
    have hz7:=x7.m _ _ hz6 nz
    refine ⟨_,(mAppend (hM hz7)).1,(mAppend (hM hz7)).2,?_⟩
    refine gFn 169 (subI (qE hdm (ho G7 rfl (by refine qE hn7 ?_;lia) (show 10 * d+20<=D-1 by lia) fun b hbok hbsz hbdp xb σ8 G8 hb8 x8=>?_)))
    replace hb8:=hn7▸hb8
    have hz8:=x8.m _ _ hz7 nz
    refine cAppend hz8 (nb rfl) ?_
    have x9:Ex (fun a=>a=z) σ8 (σ8.set z (.list ([.ref xa]++[.ref xb]))):=.set rfl
    have hz9:(σ8.set z (.list ([.ref xa]++[.ref xb]))).M z=some (.list [.ref xa,.ref xb]):=set_M
    have G9:=G8.ex x9 (G3.notin fz)
    have ha9:=((ha6.ex x7).ex x8).ex x9
    have hb9:=hb8.ex x9
    have hn8:((((s.app [(⟨7,"h",0⟩,false)]).app (fl0 a.tks)).app [(⟨8,"m",0⟩,((s.app [(⟨7,"h",0⟩,false)]).app (fl0 a.tks)).ln)]).app (fl0 b.tks)).toks.length=s.toks.length+2+a.sz+b.sz:=by rw [Gs.app_len,hn7,List.length_map,T.tks_len]
    have x49:Ex (fun a=>GX e a\/a=z) (σ3.set z (.list [.ref xa])) (σ8.set z (.list ([.ref xa]++[.ref xb]))):=(((x46.trans x7).trans x8).wide fun ξ h=>.inl h).trans (x9.wide fun ξ h=>.inr h)
    refine tp fun y2 fy2=>fz1 fy2 fun σA xA hyA=>gFn 166 (g_put (G9.e0 xA) (by refine qE hn8 ?_;lia) (dn hD) fun σB GB xB=>?_)
    refine gCls 45 ct_Node ?_
    have e1:((((s.app [(⟨7,"h",0⟩,false)]).app (fl0 a.tks)).app [(⟨8,"m",0⟩,((s.app [(⟨7,"h",0⟩,false)]).app (fl0 a.tks)).ln)]).app (fl0 b.tks)).app [(⟨9,"t",0⟩,((((s.app [(⟨7,"h",0⟩,false)]).app (fl0 a.tks)).app [(⟨8,"m",0⟩,((s.app [(⟨7,"h",0⟩,false)]).app (fl0 a.tks)).ln)]).app (fl0 b.tks)).ln)]=s.app (fl0 (T.tp2 a b).tks):=by
     refine qE Gs.app_app (qE Gs.app_app (qE Gs.app_app (qE Gs.app_app ?_)))
     congr 1
     simp only [T.tks,fl0,List.map_append,List.map_cons,List.map_nil,List.append_assoc,List.cons_append,List.nil_append]
     rfl
    replace GB:=e1▸GB
    exact node_end (t:=.tp2 a b) (c0:=.list [.ref xa]) G3 fz x03 (x49.trans ((xA.px.trans xB).wide fun ξ h=>.inl h)) GB (xB.m _ _ (xA.m _ _ hz9 id) nz) ⟨y2,rfl,xB.f _ _ hyA⟩ (((ha9.ex xA).ex xB).cat ((hb9.ex xA).ex xB)) (dn hD) fun x' σ' G' h' xx=>qq (.tp2 a b) ⟨haok,hbok⟩ (by show a.sz+b.sz+3<=_;lia) (by show max a.dp b.dp+1<=_;lia) x' σ' G' h' xx
 have hlt11:decide ((q:Int)<11)=false:=decide_eq_false (by lia)
 refine qE hlt11 (eqI (qE (show ((q:Int)==8)=false from n 8 h8') (eqI ?_)))
 by_cases h14:q=14
 · subst h14
   refine gFn 166 (g_put G1 (by lia) (dn hD) fun σ2 G2 x2=>?_)
   replace G2:=h0▸G2
   have hn2:(s.app [(⟨5,"(",0⟩,false)]).toks.length=s.toks.length+1:=Gs.app_len
   refine gFn 170 (subI (qE hdm (hv G2 rfl (by refine qE hn2 ?_;lia) (show 10 * d+25<=D-1 by lia) fun v hvok hvsz hvdp xv σ3 G3 hv3 x3=>?_)))
   replace hv3:=hn2▸hv3
   have hn3:((s.app [(⟨5,"(",0⟩,false)]).app (fl0 v.tks)).toks.length=s.toks.length+1+v.sz:=by rw [Gs.app_len,hn2,List.length_map,T.tks_len]
   refine gFn 166 (g_put G3 (by refine qE hn3 ?_;lia) (dn hD) fun σ4 G4 x4=>?_)
   refine gCls 45 ct_Node (tp fun z fz=>?_)
   have e1:((s.app [(⟨5,"(",0⟩,false)]).app (fl0 v.tks)).app [(⟨5,")",0⟩,((s.app [(⟨5,"(",0⟩,false)]).app (fl0 v.tks)).ln)]=s.app (fl0 (T.par v).tks):=by
    refine qE Gs.app_app (qE Gs.app_app ?_)
    congr 1
    simp only [T.tks,fl0,List.map_append,List.map_cons,List.map_nil,List.append_assoc,List.cons_append,List.nil_append]
    rfl
   replace G4:=e1▸G4
   exact node_end (t:=.par v) (c0:=.list [.ref xv]) G4 fz (((x1.trans x2).trans x3).trans x4) .refl (G4.new fz) set_M rfl ((hv3.ex x4).ex (Ex.new (X:=fun ξ=>False) fz)) (dn hD) fun x' σ' G' h' xx=>qq (.par v) hvok (by show v.sz+2<=_;lia) (by show v.dp+1<=_;lia) x' σ' G' h' xx
 refine qE (show ((q:Int)==14)=false from n 14 h14) (tp fun y fy=>fz1 fy fun σ2 x2 (hy2:σ2.F y=some (.tup ((["!","~","typeof","void","+","-"]:List Str).map .str)))=>?_)
 have G2:=G1.e0 x2
 refine gFn 165 (g_pull (m:=6) G2 (by decide) (dn hD) fun q6 hq6 σ3 G3 x3=>?_)
 obtain ⟨w6,hw6,hget⟩:∃ w,w∈signs6/\((["!","~","typeof","void","+","-"]:List Str).map V.str)[q6]?=some (.str w):=by
  have hlt:q6<(["!","~","typeof","void","+","-"]:List Str).length:=hq6
  refine ⟨(["!","~","typeof","void","+","-"]:List Str)[q6],?_,by refine qE List.getElem?_map (qE (List.getElem?_eq_getElem hlt) ?_);rfl⟩
  have:=List.getElem_mem hlt
  simp only [signs6,List.mem_cons,List.not_mem_nil,or_false] at this ⊢
  rcases this with h | h | h | h | h | h <;> simp [h]
 refine ⟨notPyT (hF (x3.f _ _ hy2)),itemT (i:=q6) (hF (x3.f _ _ hy2)) hget (by lia) ?_⟩
 refine tp fun y2 fy2=>fz1 fy2 fun σ4 x4 hy4=>?_
 have G4:=G3.e0 x4
 have x04:Gx e σ σ4:=((x1.trans x2.px).trans x3).trans x4.px
 refine subI ?_
 have hq':q=11\/q=12\/q=13:=by lia
 rcases hq' with rfl | rfl | rfl
 · refine ⟨notPyT (hF hy4),itemT' 0 (hF hy4) (by lia) rfl (by lia) ?_⟩
   exact gFn 168 (subI (qE hdm (sgn (q:=11) (by simp [signs6]) G4 x04)))
 · refine ⟨notPyT (hF hy4),itemT' 1 (hF hy4) (by lia) rfl (by lia) ?_⟩
   exact gFn 168 (subI (qE hdm (sgn (q:=12) (by simp [signs6]) G4 x04)))
 · refine ⟨notPyT (hF hy4),itemT' 2 (hF hy4) (by lia) rfl (by lia) ?_⟩
   exact gFn 168 (subI (qE hdm (sgn (q:=13) hw6 G4 x04)))
theorem g_operand:∀ d,GO K e d
 | 0=>g_operand0
 | d+1=>g_operandS (g_operand d)
theorem g_val2:GVal K e 2:=g_value (g_operand 2)
end
section
variable {s1:Gs}
noncomputable def rowOf (t:Tk):Str:=if t.kind=3 then "num" else if t.kind=4 then "text" else if t.kind=6 then "whole" else t.text
noncomputable def plainRows:List (List Str):=[["num"],["text"],["true"],["false"],["whole"],["-","num"]]
theorem T.sz_pos:∀ v:T,1<=v.sz
 | .leaf _=>Nat.le_refl _
 | .sg _ c=>by simp only [T.sz];lia
 | .tp1 _=>by simp only [T.sz];lia
 | .tp2 _ _=>by simp only [T.sz];lia
 | .par _=>by simp only [T.sz];lia
 | .sum _ l _=>by simp only [T.sz];lia
theorem rows_short {l:List Str} (h:l∈plainRows):l.length<=2:=by
 simp only [plainRows,List.mem_cons,List.not_mem_nil,or_false] at h
 rcases h with rfl | rfl | rfl | rfl | rfl | rfl <;> simp
theorem row_num (c:T):(c.tks.map rowOf=(["num"]:List Str)) ↔ c.kd=1:=by
 induction c with
 | leaf l=>
  induction l with
  | num n=>exact ⟨fun ξ=>rfl,fun ξ=>rfl⟩
  | _=>exact ⟨fun h=>absurd h (by decide +kernel),fun h=>absurd h (by decide +kernel)⟩
 | sum w l r=>
  refine ⟨fun h=>?_,fun h=>?_⟩
  · have:=congrArg List.length h
    rw [List.length_map,T.tks_len] at this
    have h1:=T.sz_pos l
    simp only [T.sz,List.length_cons,List.length_nil] at this
    lia
  · have h:(if w=="||" then (24:Int) else 23)=1:=h
    split at h <;> lia
 | sg w c=>exact ⟨fun h=>by
  have:=congrArg List.length h
  rw [List.length_map,T.tks_len] at this
  have h1:=T.sz_pos c
  simp only [T.sz,List.length_cons,List.length_nil] at this
  lia,fun h=>absurd h (by show ¬ (21:Int)=1;lia)⟩
 | tp1 c=>exact ⟨fun h=>by
  have:=congrArg List.length h
  rw [List.length_map,T.tks_len] at this
  simp only [T.sz,List.length_cons,List.length_nil] at this
  lia,fun h=>absurd h (by show ¬ (3:Int)=1;lia)⟩
 | tp2 a b=>exact ⟨fun h=>by
  have:=congrArg List.length h
  rw [List.length_map,T.tks_len] at this
  simp only [T.sz,List.length_cons,List.length_nil] at this
  lia,fun h=>absurd h (by show ¬ (3:Int)=1;lia)⟩
 | par c=>exact ⟨fun h=>by
  have:=congrArg List.length h
  rw [List.length_map,T.tks_len] at this
  simp only [T.sz,List.length_cons,List.length_nil] at this
  lia,fun h=>absurd h (by show ¬ (33:Int)=1;lia)⟩
theorem rowOf_sg {w:Str}:rowOf (sgTk w)=w:=by
 unfold rowOf sgTk
 cases (w=="typeof"||w=="void") <;> simp
theorem plain_iff (v:T):decide (v.tks.map rowOf∈plainRows)=v.plain:=by
 have long:3<=v.sz->decide (v.tks.map rowOf∈plainRows)=false:=fun h=>decide_eq_false fun hm=>by
  have:=rows_short hm
  rw [List.length_map,T.tks_len] at this
  lia
 induction v with
 | leaf l=>
  induction l with
  | num n=>refine qE (show (T.leaf (.num n)).tks.map rowOf=(["num"]:List Str) from rfl) ?_;show decide _=true;decide +kernel
  | _=>decide +kernel
 | sg w c=>
  show _=(w=="-"&&c.kd==1)
  have hr:(T.sg w c).tks.map rowOf=w::c.tks.map rowOf:=by rw [T.tks,List.map_cons,rowOf_sg]
  rw [hr,Bool.eq_iff_iff,decide_eq_true_iff,Bool.and_eq_true,beq_iff_eq,beq_iff_eq,← row_num]
  have hp:1<=(c.tks.map rowOf).length:=by rw [List.length_map,T.tks_len];exact T.sz_pos c
  constructor
  · intro h
    simp only [plainRows,List.mem_cons,List.not_mem_nil,or_false,List.cons.injEq] at h
    rcases h with h | h | h | h | h | h
    all_goals first
     | exact h
     | (replace hp:=h.2▸hp;simp at hp)
  · intro z1;refine ea0_2 z1 fun z2 h=>?_;clear z1;subst z2
    refine qE h ?_;simp [plainRows]
 | tp1 c=>exact long (by have:=T.sz_pos c;simp only [T.sz];lia)
 | tp2 a b=>exact long (by simp only [T.sz];lia)
 | par c=>exact long (by have:=T.sz_pos c;simp only [T.sz];lia)
 | sum w l r=>exact long (by have:=T.sz_pos l;have:=T.sz_pos r;simp only [T.sz];lia)
theorem row_get (t:Tk):(kget ([(3,.str "num"),(4,.str "text"),(6,.str "whole")]:List (Int×V)) t.kind).getD (.str t.text)=.str (rowOf t):=by
 unfold kget rowOf
 by_cases h3:t.kind=3
 · refine qE h3 ?_;rfl
 by_cases h4:t.kind=4
 · refine qE h4 ?_;rfl
 by_cases h6:t.kind=6
 · refine qE h6 ?_;rfl
 simp [h3,h4,h6,Ne.symm h3,Ne.symm h4,Ne.symm h6]
theorem g_plain {v:T} {x:Addr} {vs:List V} {i:Nat} (hx:σ.M x=some (.list vs)) (ht:TksAt σ i vs (fl0 v.tks)) (hs:v.sz<=800) (hD:2<=D) (q:∀ σ',E0 σ σ'->k (.bool v.plain) σ'):CallV K D (fA K 171) [.ref x] k σ:=by
 revert hx ht hs hD q;revert K D σ k v x vs i;refine no_implicit_lambda% (al8 (n:=⟨(kc0,default)⟩) ?_);generalize et8 _ _=υ;generalize υ.1=K,υ.2.1=D,υ.2.2.1=σ,υ.2.2.2.1=k,υ.2.2.2.2.1=v,υ.2.2.2.2.2.1=x,υ.2.2.2.2.2.2.1=vs,υ.2.2.2.2.2.2.2=i;clear υ;intro hx ht hs hD q
 refine cFn 171 1 (dl hD) (tp fun y fy=>?_)
 revert fy;revert y;refine al1 ?_;generalize et1 _ _=y;intro fy
 have x1:E0 σ (σ.set y (.list [])):=.new fy
 have hy1:(σ.set y (.list [])).M y=some (.list []):=set_M
 have ny:σ.M y=none:=fy.1
 have nxy:x≠y:=fy.neM hx
 have ht1:=ht.ex x1
 have hx1:=x1.m _ _ hx id
 have hvl:vs.length=v.sz:=by rw [ht.len,List.length_map,T.tks_len]
 refine ⟨2,.list x,vs,fun rem m' σ'=>m'=([("toks",.ref x),("row",.ref y)]:Loc)/\E0 σ σ'/\∃ (i':Nat) (dn:List Str) (ps:List Tk),TksAt σ' i' rem (fl0 ps)/\σ'.M y=some (.list (dn.map .str))/\dn++ps.map rowOf=v.tks.map rowOf,rfl,
  ⟨rfl,x1,i,[],v.tks,ht1,hy1,rfl⟩,fun rem m' σ' h=>hM (h.2.1.m _ _ hx id),?_,?_⟩
 · intro w rem m' σ2 z1;refine ea0_3 z1 fun z2 x2 z3=>?_;clear z1;subst z2;refine ea3_3 z3 fun i' dn ps ht2 hy2 hdn=>?_;clear z3
   cases ps with
   | nil=>cases ht2
   | cons p ps=>
    cases ht2 with
    | cons h1 h2=>
     refine ea1_2 h1 fun a z1 ha=>?_;clear h1;subst z1
     have hdl:dn.length<=800:=by
      have:=congrArg List.length hdn
      rw [List.length_append,List.length_map,List.length_map,T.tks_len] at this
      lia
     refine ⟨_,(mAppend (hM hy2)).1,(mAppend (hM hy2)).2,?_⟩
     intro A env L hr fe
     refine dict_int (by decide +kernel) ?_ hr fe
     refine ⟨[(3,.str "num"),(4,.str "text"),(6,.str "whole")],rfl,by simp,fun d fd=>?_⟩
     have x3:E0 σ2 (σ2.set d (.idict [(3,.str "num"),(4,.str "text"),(6,.str "whole")])):=.new fd
     have ha3:=x3.f _ _ ha
     have hm3:(σ2.set d (.idict [(3,.str "num"),(4,.str "text"),(6,.str "whole")])).M d=some (.idict [(3,.str "num"),(4,.str "text"),(6,.str "whole")]):=set_M
     refine ⟨_,(mGetDI (hM hm3)).1,(mGetDI (hM hm3)).2,?_⟩
     refine ⟨notPyT (hF ha3),itemT (i:=0) (hF ha3) rfl (by lia) ?_⟩
     refine ⟨notPyT (hF ha3),itemT (i:=1) (hF ha3) rfl (by lia) ?_⟩
     refine cGetDI (hM hm3) (oM hm3) ?_
     rw [row_get]
     refine cAppend (x3.m _ _ hy2 id) (by rw [List.length_map];lia) ?_
     refine ⟨rfl,(x2.trans x3).setN ny,i'+1,dn++[rowOf p],ps,?_,?_,?_⟩
     · exact (h2.ex x3).ex (X:=fun a=>a=y) (.set rfl)
     · refine qE List.map_append ?_;exact set_M
     · rw [List.append_assoc];exact hdn
 · intro m' σ2 z1;refine ea0_3 z1 fun z2 x2 z3=>?_;clear z1;subst z2;refine ea3_3 z3 fun i' dn ps ht2 hy2 hdn=>?_;clear z3
   cases ps with
   | cons p ps=>cases ht2
   | nil=>
    rw [List.map_nil,List.append_nil] at hdn
    subst hdn
    refine tp fun z1 f1=>tp fun z2 f2=>tp fun z3 f3=>tp fun z4 f4=>tp fun z5 f5=>tp fun z6 f6=>tp fun z7 f7=>?_
    have E6:=Ex.new (X:=fun ξ=>False) (c:=.list [.str "-",.str "num"]) f6
    have E5:=(Ex.new (X:=fun ξ=>False) (c:=.list [.str "whole"]) f5).trans E6
    have E4:=(Ex.new (X:=fun ξ=>False) (c:=.list [.str "false"]) f4).trans E5
    have E3:=(Ex.new (X:=fun ξ=>False) (c:=.list [.str "true"]) f3).trans E4
    have E2:=(Ex.new (X:=fun ξ=>False) (c:=.list [.str "text"]) f2).trans E3
    have E1:=(Ex.new (X:=fun ξ=>False) (c:=.list [.str "num"]) f1).trans E2
    have g1:=E2.m _ _ (set_M (σ:=σ2) (y:=z1) (c:=.list [.str "num"])) id
    have g2:=E3.m _ _ set_M id
    have g3:=E4.m _ _ set_M id
    have g4:=E5.m _ _ set_M id
    have g5:=E6.m _ _ set_M id
    have E7:=E1.trans (Ex.fz (c:=.tup [.ref z1,.ref z2,.ref z3,.ref z4,.ref z5,.ref z6]) f7)
    refine inTupL (l:=v.tks.map rowOf) (ls:=plainRows) (hM (E7.m _ _ hy2 id)) (hF fz_F) (.cons (l:=["num"]) (hM g1) (.cons (l:=["text"]) (hM g2) (.cons (l:=["true"]) (hM g3) (.cons (l:=["false"]) (hM g4) (.cons (l:=["whole"]) (hM g5) (.cons (l:=["-","num"]) (hM set_M) .nil)))))) ?_
    rw [plain_iff]
    exact q _ (x2.trans E7)
end
section
variable {s1:Gs}
noncomputable abbrev fFr (e:Ge) (q:Nat) (fl:Int) (so:V) (nm:Str) (at_:Int) (r:Loc):Loc:=([("st",.ref e.g),("q",.int q),("flags",.int fl),("sort",so),("name",.str nm),("at",.int at_)]:Loc)++r
noncomputable def Gs.tell (s:Gs) (amb:Bool) (l:List (Int×Int)):Gs:=if amb then { s with early:=s.early++l } else { s with late:=s.late++l }
noncomputable def Ge.tl (e:Ge) (amb:Bool):Addr:=if amb then e.ea else e.la
theorem g_tell {amb:Bool} {y:Addr} {p:Int×Int} (G:GSt σ e s) (hy:σ.F y=some (.tup [.int p.1,.int p.2])) (h1:s.early.length<=100) (h2:s.late.length<=100) (q:∀ σ',GSt σ' e (s.tell amb [p])->Gx e σ σ'->k .none σ') :
 (∃ rows,σ.M (e.tl amb)=some (.list rows))/\CallV K D (.builtin "list.append") [.ref (e.tl amb),.ref y] k σ:=by
 refine ea1_1 G.g fun nx hg=>ea1_2 G.tk fun r1 t1 t2=>ea1_2 G.ea fun r3 h3 h4=>ea1_2 G.la fun r5 h5 h6=>ea0_10 G.ne fun n1 n2 n3 n4 n5 n6 n7 n8 n9 n10=>?_
 induction amb with
 | true=>
  refine ⟨⟨r3,h3⟩,cAppend h3 (by have:=h4.len;lia) ?_⟩
  have x:Ex (fun a=>a=e.ea) σ (σ.set e.ea (.list (r3++[.ref y]))):=.set rfl
  exact q _ ⟨⟨nx,x.m _ _ hg n3⟩,x.m _ _ G.nu n6,G.nl,⟨r1,x.m _ _ t1 n8,t2.ex x⟩,⟨_,set_M,(h4.ex x).snoc ⟨y,rfl,x.f _ _ hy⟩⟩,⟨r5,x.m _ _ h5 n10.symm,h6.ex x⟩,G.nd⟩ (x.wide fun a h=>.inr (.inr (.inl h)))
 | false=>
  refine ⟨⟨r5,h5⟩,cAppend h5 (by have:=h6.len;lia) ?_⟩
  have x:Ex (fun a=>a=e.la) σ (σ.set e.la (.list (r5++[.ref y]))):=.set rfl
  exact q _ ⟨⟨nx,x.m _ _ hg n4⟩,x.m _ _ G.nu n7,G.nl,⟨r1,x.m _ _ t1 n9,t2.ex x⟩,⟨r3,x.m _ _ h3 n10,h4.ex x⟩,⟨_,set_M,(h6.ex x).snoc ⟨y,rfl,x.f _ _ hy⟩⟩,G.nd⟩ (x.wide fun a h=>.inr (.inr (.inr h)))
theorem field_tail {q:Nat} {so kv iv:V} {nm:Str} {fl at_:Int} {r:Loc} {kind:Bool} {j:Nat} {o:Option (T×Nat)} (G:GSt σ e s) (h0:s.ln=false) (hl:s.toks.length<=900) (hk:KdAt σ kind kv j) (hi:InAt σ o iv) (hD:4<=D)
 (qq:∀ (semi:Bool) x σ',GSt σ' e (if semi then s.app [(⟨5,";",0⟩,false)] else { s with ln:=true })->KdAt σ' kind kv j->InAt σ' o iv->NodeAt σ' x 62 (.str nm) [kv,iv] fl at_->Gx e σ σ'->k (.ref x) σ') :
 vcAt (cx 172 K D) (fBody (stAt 172)) 10 (fFr e q fl so nm at_ (("kind",kv)::("init",iv)::r)) σ (kRet k):=by
 refine gFn 165 (g_pull (m:=2) G (by decide) (dn hD) fun q2 hq2 σ1 G1 x1=>?_)
 have fin:∀ (semi:Bool) (σ2:Sg),GSt σ2 e (if semi then s.app [(⟨5,";",0⟩,false)] else { s with ln:=true })->Gx e σ1 σ2->∀ z,Fresh σ2 z->CallV K (D-1) (fA K 45) [.int 62,.str nm,.ref z,.int fl,.int at_] k (σ2.set z (.list [kv,iv])):=by
  intro semi σ2 G2 x2 z fz
  have z0:E0 σ2 (σ2.set z (.list [kv,iv])):=.new fz
  have x02:=x1.trans x2
  refine nodeNew set_M (dn hD) fun x σ' hx x3=>?_
  have x23:E0 σ2 σ':=E0.of fz x3
  exact qq semi x σ' (G2.e0 x23) (((hk.ex x02)).ex x23) ((hi.ex x02).ex x23) hx (x02.trans x23.px)
 refine eqI ?_
 induction hb:((q2:Int)==0) with
 | true=>
  refine gFn 166 (g_put G1 (by lia) (dn hD) fun σ2 G2 x2=>?_)
  replace G2:=h0▸G2
  exact gCls 45 ct_Node (tp fun z fz=>fin true σ2 G2 x2 z fz)
 | false=>
  refine ea1_1 G1.g fun nx hg=>setD hg (nb rfl) ?_
  have G2:=G1.setG nx true
  exact qE gset2 (gCls 45 ct_Node (tp fun z fz=>fin false _ G2.1 G2.2 z fz))
end
section
variable {s1:Gs}
theorem TksAt.drop:∀ {n i:Nat} {vs:List V} {ps:List (Tk×Bool)},TksAt σ i vs ps->TksAt σ (i+n) (vs.drop n) (ps.drop n)
 | 0,_,_,_,h=>h
 | n+1,_,_,_,.nil=>.nil
 | n+1,i,_,_,.cons _ h=>by
  have:=TksAt.drop (n:=n) h
  rw [List.drop_succ_cons,List.drop_succ_cons,show i+(n+1)=i+1+n by lia]
  exact this
noncomputable def iniTk:Option T->List Tk
 | none=>[]
 | some v=>⟨5,"=",0⟩::v.tks
noncomputable def told' (fl:Int) (at_:Int) (kind:Bool) (j:Nat) (o:Option T):List (Int×Int):=told fl at_ kind (iniAt j o)
@[elab_as_elim] theorem tlc {F:Bool->Prop} {P:Prop} (b:Bool) (m:P) (f:b=false->P->F false) (t:b=true->P->F true):F b:=by
 induction b with
 | true=>exact t rfl m
 | false=>exact f rfl m
theorem field_ini {q:Nat} {so kv:V} {nm:Str} {fl at_:Int} {kind:Bool} {j:Nat} (G:GSt σ e s) (h0:s.ln=false) (hl:s.toks.length<=800) (he1:s.early.length<=100) (he2:s.late.length<=100) (hk:KdAt σ kind kv j) (hD:60<=D)
 (hr:(((q / 8 % 2:Nat):Int)==0)=(Builtin.bitAnd fl 131072==0))
 (qq:∀ (o:Option T) (semi:Bool) x iv σ' s',(∀ v,o=some v->v.ok false/\v.sz<=140/\v.dp<=10)->s'=(s.app (fl0 (iniTk o))).tell (((q / 16 % 2:Nat):Int)==1) (told' fl at_ kind s.toks.length o) →
  GSt σ' e (if semi then s'.app [(⟨5,";",0⟩,false)] else { s' with ln:=true })->KdAt σ' kind kv j->InAt σ' (iniAt s.toks.length o) iv->NodeAt σ' x 62 (.str nm) [kv,iv] fl at_->Gx e σ σ'->k (.ref x) σ') :
 vcAt (cx 172 K D) (fBody (stAt 172)) 9 (fFr e q fl so nm at_ [("kind",kv),("init",.none)]) σ (kRet k):=by
 revert nm fl at_ kind j G h0 hl he1 he2 hk hD hr qq;revert K D σ k e s q so kv;refine no_implicit_lambda% (al9 (n:=⟨(kc0,default)⟩) ?_);generalize et9 _ _=υ;generalize υ.1=K,υ.2.1=D,υ.2.2.1=σ,υ.2.2.2.1=k,υ.2.2.2.2.1=e,υ.2.2.2.2.2.1=s,υ.2.2.2.2.2.2.1=q,υ.2.2.2.2.2.2.2.1=so,υ.2.2.2.2.2.2.2.2=kv;clear υ;intro nm fl at_ kind j G h0 hl he1 he2 hk hD hr qq
 revert G h0 hl he1 he2 hk hD hr qq;revert nm fl at_ kind j;refine no_implicit_lambda% (al5 ?_);generalize et5 _ _=υ;generalize υ.1=nm,υ.2.1=fl,υ.2.2.1=at_,υ.2.2.2.1=kind,υ.2.2.2.2=j;clear υ;intro G h0 hl he1 he2 hk hD hr qq
 have nil:∀ b (t:Gs),t.tell b []=t:=fun b t=>by cases b <;> (unfold Gs.tell;simp)
 refine fdivN (n:=q) (m:=1152) (by decide) (by decide) (modN (n:=q / 1152) (m:=5) (by decide) (neI ?_))
 induction hb:(((q / 1152 % 5:Nat):Int) != 4) with
 | false=>
  have H:=field_tail (K:=K) (D:=D) (q:=q) (so:=so) (nm:=nm) (fl:=fl) (at_:=at_) (r:=[]) (k:=k) (iv:=.none) (o:=none) G h0 (by lia) hk rfl (by lia) fun semi x σ' G' h1 h2 h3 x'=>by
   refine qq none semi x .none σ' s (fun v h=>by injection h) ?_ G' h1 h2 h3 x'
   show s=(s.app []).tell _ []
   rw [nil];unfold Gs.app;rw [List.append_nil,← h0]
  conv at H=>whnf
  exact H
 | true=>
  refine gFn 166 (g_put G (by lia) (dn hD) fun σ1 G1 x1=>?_)
  revert G1 x1;revert σ1;refine al1 ?_;generalize et1 _ _=σ1;intro G1 x1
  replace G1:=h0▸G1
  have hn1:(s.app [(⟨5,"=",0⟩,false)]).toks.length=s.toks.length+1:=Gs.app_len
  refine ea1_2 G1.tk fun rows hr1 ht1=>?_
  revert hr1 ht1;revert rows;refine al1 ?_;generalize et1 _ _=rows;intro hr1 ht1
  have hlen:=ht1.len
  refine ⟨_,g_len.1,g_len.2,?_⟩
  refine gItem G1 (fun nx=>gget.2.2.1) (lenL (hM hr1) (by lia) (qE hlen (qE hn1 ?_)))
  refine gFn 170 (g_val2 G1 rfl (by refine qE hn1 ?_;show s.toks.length+1+(2 * 17+1)<=900;lia) (show 10 * 2+25<=D-1 by lia) fun v hvok hvsz hvdp xv σ2 G2 hv2 x2=>?_)
  revert hvok hvsz hvdp G2 hv2 x2;revert v xv σ2;refine al3 ?_;generalize et3 _ _=υ;generalize υ.1=v,υ.2.1=xv,υ.2.2=σ2;clear υ;intro hvok hvsz hvdp G2 hv2 x2
  replace hv2:=hn1▸hv2
  have e1:(s.app [(⟨5,"=",0⟩,false)]).app (fl0 v.tks)=s.app (fl0 (iniTk (some v))):=by refine qE Gs.app_app ?_;rfl
  replace G2:=e1▸G2
  have hsz:v.sz<=35:=hvsz
  have hn2:(s.app (fl0 (iniTk (some v)))).toks.length<=900:=by rw [Gs.app_len,List.length_map];show s.toks.length+(v.tks.length+1)<=900;rw [T.tks_len];lia
  have x02:=x1.trans x2
  have hi2:InAt σ2 (some (v,s.toks.length+1)) (.ref xv):=⟨xv,rfl,hv2⟩
  have hk2:=hk.ex x02
  have fin:∀ (amb:Bool) (l:List (Int×Int)) (σ3:Sg),amb=(((q / 16 % 2:Nat):Int)==1)->l=told' fl at_ kind s.toks.length (some v)->GSt σ3 e ((s.app (fl0 (iniTk (some v)))).tell amb l)->Gx e σ2 σ3->∀ tl,vcAt (cx 172 K D) (fBody (stAt 172)) 10 (fFr e q fl so nm at_ (("kind",kv)::("init",.ref xv)::[("first",.int ((s.toks.length+1:Nat):Int)),("told",tl)])) σ3 (kRet k):=by
   intro amb l σ3 hamb hl3 G3 x3 tl
   revert hamb hl3 G3 x3;revert amb l σ3 tl;refine no_implicit_lambda% (al4 ?_);generalize et4 _ _=υ;generalize υ.1=amb,υ.2.1=l,υ.2.2.1=σ3,υ.2.2.2=tl;clear υ;intro hamb hl3 G3 x3
   subst hamb;subst hl3
   have hn3:∀ b l,((s.app (fl0 (iniTk (some v)))).tell b l).toks=(s.app (fl0 (iniTk (some v)))).toks/\((s.app (fl0 (iniTk (some v)))).tell b l).ln=false:=fun b l=>by cases b <;> exact ⟨rfl,rfl⟩
   exact field_tail (o:=some (v,s.toks.length+1)) G3 (hn3 _ _).2 (by refine qE ((hn3 _ _).1) ?_;exact hn2) (hk2.ex x3) (hi2.ex x3) (by lia) fun semi x σ' G' h1 h2 h3 x'=>
    qq (some v) semi x (.ref xv) σ' _ (fun v' h=>by cases h;exact ⟨hvok,by lia,by lia⟩) rfl G' h1 h2 h3 ((x02.trans x3).trans x')
  have t1:(kind||Builtin.bitAnd fl 131072==0)=true->[(1039,at_)]=told' fl at_ kind s.toks.length (some v):=fun h=>by
   unfold told' told
   exact (if_pos h).symm
  have t2:(kind||Builtin.bitAnd fl 131072==0)=false->(if v.plain then [] else [((1254:Int),((3 * (s.toks.length+1)+2:Nat):Int))])=told' fl at_ kind s.toks.length (some v):=fun h=>by
   unfold told' told
   exact (if_neg (by refine qE h ?_;exact Bool.false_ne_true)).symm
  have ell:(s.app (fl0 (iniTk (some v)))).early.length<=100/\(s.app (fl0 (iniTk (some v)))).late.length<=100:=⟨he1,he2⟩
  refine ea1_2 G2.tk fun rws hrw htw=>?_
  revert hrw htw;revert rws;refine al1 ?_;generalize et1 _ _=rws;intro hrw htw
  have hdrop:(s.app (fl0 (iniTk (some v)))).toks.drop (s.toks.length+1)=fl0 v.tks:=by
   show (s.toks++fl0 (iniTk (some v))).drop (s.toks.length+1)=_
   refine qE List.drop_append (qE (List.drop_eq_nil_of_le (by lia)) (qE (show s.toks.length+1-s.toks.length=1 by lia) ?_))
   rfl
  have hlen2:=htw.len
  refine fdivN (n:=q) (m:=16) (by decide) (by decide) (modN (n:=q / 16) (m:=2) (by decide) (eqI ?_))
  revert fin;refine gnE (((q / 16 % 2:Nat):Int)==1) fun amb hX fin=>?_
  revert hX fin;revert amb;refine al1 ?_;generalize et1 _ _=amb;intro hX fin
  obtain ⟨ro,hro⟩:∃ rows,σ2.M (e.tl amb)=some (.list rows):=by
   induction amb with
   | true=>exact ea1_2 G2.ea fun r3 h3 h4=>⟨r3,h3⟩
   | false=>exact ea1_2 G2.la fun r3 h3 h4=>⟨r3,h3⟩
  have hap:∀ {σx:Sg},σx.M (e.tl amb)=some (.list ro)->MethIs K σx (.ref (e.tl amb)) "append" (.builtin "list.append")/\FV K (.builtin "list.append"):=fun h=>mAppend (hM h)
  refine tlc amb ?_ (fun hb z=>gItem (w:=.ref (e.tl amb)) G2 (fun nx=>by rw [hb];exact gget.2.2.2.2.2) (isNotN z)) fun hb z=>gItem (w:=.ref (e.tl amb)) G2 (fun nx=>by rw [hb];exact gget.2.2.2.2.1) (isNotN z)
  rw [hk.none,Bool.not_not]
  have say1:(kind||Builtin.bitAnd fl 131072==0)=true->∀ y,Fresh σ2 y->CallV K (D-1) (.builtin "list.append") [.ref (e.tl amb),.ref y] (fun ξ σ3=>vcAt (cx 172 K D) (fBody (stAt 172)) 10 (fFr e q fl so nm at_ (("kind",kv)::("init",.ref xv)::[("first",.int ((s.toks.length+1:Nat):Int)),("told",.ref (e.tl amb))])) σ3 (kRet k)) (σ2.fz y (.tup [.int 1039,.int at_])):=fun h y fy=>
   (g_tell (amb:=amb) (p:=(1039,at_)) (G2.e0 (Ex.fz fy)) fz_F ell.1 ell.2 fun σ3 G3 x3=>fin _ _ σ3 rfl (t1 h) G3 ((Ex.fz fy).trans x3) _).2
  induction hkk:kind with
  | true=>
   replace say1:=hkk▸say1
   refine ⟨_,(hap hro).1,(hap hro).2,?_⟩
   refine tp fun y fy=>(say1 rfl y fy).mono fun a σ3 H=>?_
   conv at H=>whnf
   exact H
  | false=>
   rw [hkk] at say1 t2
   refine fdivN (n:=q) (m:=8) (by decide) (by decide) (modN (n:=q / 8) (m:=2) (by decide) (eqI (qE hr ?_)))
   induction hro2:(Builtin.bitAnd fl 131072==0) with
   | true=>
    replace say1:=hro2▸say1
    refine ⟨_,(hap hro).1,(hap hro).2,?_⟩
    refine tp fun y fy=>(say1 rfl y fy).mono fun a σ3 H=>?_
    conv at H=>whnf
    exact H
   | false=>
    replace t2:=hro2▸t2
    replace t2:=t2 rfl
    refine gFn 171 (gItem G2 (fun nx=>gget.2.2.1) (⟨_,rws,rws.drop (s.toks.length+1),rfl,.inl (hM hrw),by lia,.inr (.inl ⟨s.toks.length+1,rfl,rfl,rfl⟩),fun y fy=>?_⟩))
    have htd:=(htw.drop (n:=s.toks.length+1)).ex (Ex.new (X:=fun ξ=>False) (c:=.list (rws.drop (s.toks.length+1))) fy)
    replace htd:=hdrop▸htd
    refine g_plain (v:=v) set_M htd (by lia) (dn hD) fun σ3 x3=>?_
    have x23:E0 σ2 σ3:=(Ex.new fy).trans x3
    have G3:=G2.e0 x23
    refine truB ?_
    induction hp:v.plain with
    | true=>
     replace t2:=hp▸t2
     have H:=fin amb [] σ3 rfl (hkk▸t2) (by rw [nil];exact G3) x23.px (.ref (e.tl amb))
     conv at H=>whnf
     exact H
    | false=>
     replace t2:=hp▸t2
     have hro3:=x23.m _ _ hro id
     have hrw3:=x23.m _ _ hrw id
     have hget:(s.app (fl0 (iniTk (some v)))).toks[s.toks.length+1]?=(fl0 v.tks)[0]?:=by exact qB hdrop (qE List.getElem?_drop rfl)
     obtain ⟨p0,hp0⟩:∃ p,(fl0 v.tks)[0]?=some p:=⟨_,List.getElem?_eq_getElem (by rw [List.length_map,T.tks_len];exact T.sz_pos v)⟩
     refine ea1_2 ((htw.ex x23).get (hget.trans hp0)) fun tv htv z1=>?_;refine ea1_2 z1 fun ta z2 hta=>?_;clear z1;subst z2
     refine ⟨_,(hap hro3).1,(hap hro3).2,?_⟩
     refine gItem G3 (fun nx=>gget.2.2.1) (⟨notPyL (hM hrw3),itemL (i:=s.toks.length+1) (hM hrw3) htv (by lia) ?_⟩)
     refine ⟨notPyT (hF hta),itemT (i:=3) (hF hta) rfl (by lia) ?_⟩
     refine tp fun y2 fy2=>?_
     have say2:CallV K (D-1) (.builtin "list.append") [.ref (e.tl amb),.ref y2] (fun ξ σ3=>vcAt (cx 172 K D) (fBody (stAt 172)) 10 (fFr e q fl so nm at_ (("kind",kv)::("init",.ref xv)::[("first",.int ((s.toks.length+1:Nat):Int)),("told",.ref (e.tl amb))])) σ3 (kRet k)) (σ3.fz y2 (.tup [.int 1254,.int ((3 * (0+(s.toks.length+1))+2:Nat):Int)])):=
      (g_tell (amb:=amb) (p:=(1254,((3 * (0+(s.toks.length+1))+2:Nat):Int))) (G3.e0 (Ex.fz fy2)) fz_F ell.1 ell.2 fun σ4 G4 x4=>fin _ _ σ4 rfl (by rw [hkk,← t2,Nat.zero_add];simp only [Bool.false_eq_true,if_false]) G4 (x23.px.trans ((Ex.fz fy2).trans x4)) _).2
     refine say2.mono fun a σ4 H=>?_
     conv at H=>whnf
     exact H
end
section
variable {s1:Gs}
noncomputable def kdTk (kind:Bool):List Tk:=if kind then [⟨5,":",0⟩,⟨1,"T",0⟩] else []
noncomputable def optTk (opt:Bool):List Tk:=if opt then [⟨5,"?",0⟩] else []
noncomputable def FEnd (e:Ge) (σ:Sg) (k:V->Sg->Prop) (q:Nat) (nm:Str) (fl at_:Int) (s:Gs) (tks:List Tk) (n:Nat):Prop:=
 ∀ (kind:Bool) (o:Option T) (semi:Bool) x kv iv σ' s',(∀ v,o=some v->v.ok false/\v.sz<=140/\v.dp<=10)->s'=(s.app (fl0 (tks++(kdTk kind++iniTk o)))).tell (((q / 16 % 2:Nat):Int)==1) (told' fl at_ kind (n+2 * kind.toNat) o) →
  GSt σ' e (if semi then s'.app [(⟨5,";",0⟩,false)] else { s' with ln:=true })->KdAt σ' kind kv n->InAt σ' (iniAt (n+2 * kind.toNat) o) iv->NodeAt σ' x 62 (.str nm) [kv,iv] fl at_->Gx e σ σ'->k (.ref x) σ'
theorem fl0_app {a b:List Tk}:fl0 (a++b)=fl0 a++fl0 b:=List.map_append
theorem field_kind {q:Nat} {so:V} {nm:Str} {fl at_:Int} (G:GSt σ e s) (h0:s.ln=false) (hl:s.toks.length<=790) (he1:s.early.length<=100) (he2:s.late.length<=100) (hD:60<=D)
 (hr:(((q / 8 % 2:Nat):Int)==0)=(Builtin.bitAnd fl 131072==0)) (qq:FEnd e σ k q nm fl at_ s [] s.toks.length) :
 vcAt (cx 172 K D) (fBody (stAt 172)) 6 (fFr e q fl so nm at_ []) σ (kRet k):=by
 refine fdivN (n:=q) (m:=384) (by decide) (by decide) (modN (n:=q / 384) (m:=3) (by decide) (eqI ?_))
 induction hb:(((q / 384 % 3:Nat):Int)==2) with
 | false=>
  have H:=field_ini (K:=K) (D:=D) (q:=q) (so:=so) (nm:=nm) (fl:=fl) (at_:=at_) (k:=k) (kv:=.none) (kind:=false) (j:=s.toks.length) G h0 (by lia) he1 he2 rfl hD hr fun o semi x iv σ' s' ho hs' G' h1 h2 h3 x'=>
   qq false o semi x .none iv σ' s' ho hs' G' h1 h2 h3 x'
  conv at H=>whnf
  exact H
 | true=>
  refine gFn 166 (g_put G (by lia) (dn hD) fun σ1 G1 x1=>?_)
  replace G1:=h0▸G1
  refine gCls 45 ct_Node (tp fun z fz=>gFn 166 ?_)
  have hn1:(s.app [(⟨5,":",0⟩,false)]).toks.length=s.toks.length+1:=Gs.app_len
  refine g_put (G1.new fz) (by refine qE hn1 ?_;lia) (dn hD) fun σ2 G2 x2=>?_
  refine qE hn1 (nodeNew (G1.keepZ fz x2) (dn hD) fun y σ3 hy x3=>?_)
  have x13:Gx e σ1 σ3:=Ex.around fz x2 x3
  have x03:=x1.trans x13
  have G3:=G2.ex x3 (G1.notin fz)
  have e1:(s.app [(⟨5,":",0⟩,false)]).app [(⟨1,"T",0⟩,(s.app [(⟨5,":",0⟩,false)]).ln)]=s.app (fl0 (kdTk true)):=by refine qE Gs.app_app ?_;rfl
  replace G3:=e1▸G3
  have hn3:(s.app (fl0 (kdTk true))).toks.length=s.toks.length+2:=Gs.app_len
  have H:=field_ini (K:=K) (D:=D) (q:=q) (so:=so) (nm:=nm) (fl:=fl) (at_:=at_) (k:=k) (kv:=.ref y) (kind:=true) (j:=s.toks.length) G3 rfl (by refine qE hn3 ?_;lia) he1 he2 ⟨y,rfl,hy⟩ hD hr fun o semi x iv σ' s' ho hs' G' h1 h2 h3 x'=>by
   rw [hn3] at hs' h2
   replace hs':=fl0_app.symm▸Gs.app_app▸hs'
   exact qq true o semi x (.ref y) iv σ' s' ho hs' G' h1 h2 h3 (x03.trans x')
  conv at H=>whnf
  exact H
theorem field_opt {q:Nat} {so:V} {nm:Str} {fl at_:Int} (G:GSt σ e s) (h0:s.ln=false) (hl:s.toks.length<=780) (he1:s.early.length<=100) (he2:s.late.length<=100) (hD:60<=D)
 (hr:(((q / 8 % 2:Nat):Int)==0)=(Builtin.bitAnd fl 131072==0)) (hr2:(((q / 8 % 2:Nat):Int)==0)=(Builtin.bitAnd (fl+4096) 131072==0))
 (qq:∀ opt:Bool,FEnd e σ k q nm (if opt then fl+4096 else fl) at_ s (optTk opt) (s.toks.length+opt.toNat)) :
 vcAt (cx 172 K D) (fBody (stAt 172)) 5 (fFr e q fl so nm at_ []) σ (kRet k):=by
 refine fdivN (n:=q) (m:=96) (by decide) (by decide) (modN (n:=q / 96) (m:=4) (by decide) (eqI ?_))
 induction hb:(((q / 96 % 4:Nat):Int)==3) with
 | false=>
  have H:=field_kind (K:=K) (D:=D) (q:=q) (so:=so) (nm:=nm) (fl:=fl) (at_:=at_) (k:=k) G h0 (by lia) he1 he2 hD hr (qq false)
  conv at H=>whnf
  exact H
 | true=>
  refine gFn 166 (g_put G (by lia) (dn hD) fun σ1 G1 x1=>?_)
  replace G1:=h0▸G1
  have hn1:(s.app [(⟨5,"?",0⟩,false)]).toks.length=s.toks.length+1:=Gs.app_len
  refine iaddI ?_
  have H:=field_kind (K:=K) (D:=D) (q:=q) (so:=so) (nm:=nm) (fl:=fl+4096) (at_:=at_) (k:=k) G1 rfl (by refine qE hn1 ?_;lia) he1 he2 hD hr2 fun kind o semi x kv iv σ' s' ho hs' G' h1 h2 h3 x'=>by
   rw [hn1] at hs' h1 h2
   rw [Gs.app_app,List.nil_append] at hs'
   exact qq true kind o semi x kv iv σ' s' ho hs' G' h1 h2 h3 (x1.trans x')
  conv at H=>whnf
  exact H
end
section
variable {s1:Gs}
noncomputable def flg (ln:Bool):List Tk->List (Tk×Bool)
 | []=>[]
 | x::r=>(x,ln)::fl0 r
noncomputable def Gs.add (s:Gs) (l:List Tk):Gs:=match l with
 | []=>s
 | _=>s.app (flg s.ln l)
theorem Gs.add_snoc {s:Gs} {l:List Tk} {x:Tk}:(s.add l).app [(x,(s.add l).ln)]=s.add (l++[x]):=by
 induction l using List.casesOn with
 | nil=>rfl
 | cons y r=>
  show (s.app (flg s.ln (y::r))).app [(x,false)]=s.app (flg s.ln (y::(r++[x])))
  refine qE Gs.app_app ?_
  show s.app ((y,s.ln)::(fl0 r++[(x,false)]))=s.app ((y,s.ln)::fl0 (r++[x]))
  refine qE fl0_app ?_;rfl
theorem Gs.add_len {s:Gs} {l:List Tk}:(s.add l).toks.length=s.toks.length+l.length:=by
 induction l using List.casesOn with
 | nil=>rfl
 | cons y r=>
  show (s.toks++flg s.ln (y::r)).length=_
  refine qE List.length_append ?_;unfold flg fl0;rw [List.length_cons,List.length_map];rfl
theorem Gs.add_ln {s:Gs} {l:List Tk} {x:Tk}:(s.add (l++[x])).ln=false:=by cases l <;> rfl
theorem Gs.add_el {s:Gs} {l:List Tk}:(s.add l).early=s.early/\(s.add l).late=s.late:=by cases l <;> exact ⟨rfl,rfl⟩
noncomputable abbrev Wf:=Str×Int×Bool
noncomputable def wtk (l:List Wf):List Tk:=(l.filter (·.2.2)).map fun p=>nmTk p.1
noncomputable def sumF (l:List Wf):Int:=l.foldl (fun acc p=>if p.2.2 then acc+p.2.1 else acc) 0
theorem wtk_snoc {l:List Wf} {p:Wf}:wtk (l++[p])=if p.2.2 then wtk l++[nmTk p.1] else wtk l:=by
 unfold wtk
 rw [List.filter_append,List.map_append]
 cases h:p.2.2 <;> simp [h]
theorem sumF_snoc {l:List Wf} {p:Wf}:sumF (l++[p])=if p.2.2 then sumF l+p.2.1 else sumF l:=by
 unfold sumF;refine qE List.foldl_append ?_;rfl
noncomputable def Bq (b1:Bool) (a:Nat) (b5 b6:Bool):List Wf:=[("declare",4194304,b1),("public",65536,(a:Int)==1),("private",16384,(a:Int)==2),("protected",32768,(a:Int)==3),("static",262144,b5),("readonly",131072,b6)]
inductive BAt (σ:Sg):List V->List Wf->Prop
 | nil:BAt σ [] []
 | cons {a w f b vs ps}:σ.F a=some (.tup [.str w,.int f,.bool b])->BAt σ vs ps->BAt σ (.ref a::vs) ((w,f,b)::ps)
theorem BAt.ex {X} {vs ps} (h:BAt σ vs ps) (E:Ex X σ σ'):BAt σ' vs ps:=by
 induction h with
 | nil=>exact .nil
 | cons a b ih=>exact .cons (E.f _ _ a) ih
theorem words_loop {q:Nat} (G:GSt σ e s) (hl:s.toks.length<=700) (hD:60<=D)
 (qq:∀ σ',GSt σ' e (s.add (wtk (Bq (((q / 16 % 2:Nat):Int)==1) (q % 4) (((q / 4 % 2:Nat):Int)==1) (((q / 8 % 2:Nat):Int)==1))))->Gx e σ σ' →
  vcAt (cx 172 K D) (fBody (stAt 172)) 3 [("st",.ref e.g),("q",.int q),("flags",.int (sumF (Bq (((q / 16 % 2:Nat):Int)==1) (q % 4) (((q / 4 % 2:Nat):Int)==1) (((q / 8 % 2:Nat):Int)==1))))] σ' (kRet k)) :
 vcAt (cx 172 K D) (fBody (stAt 172)) 2 [("st",.ref e.g),("q",.int q),("flags",.int 0)] σ (kRet k):=by
 revert G hl hD qq
 revert K D σ k e s q
 refine no_implicit_lambda% (al7 (n:=⟨(kc0,default)⟩) ?_)
 generalize et7 _ _=υ
 generalize υ.1=K,υ.2.1=D,υ.2.2.1=σ,υ.2.2.2.1=k,υ.2.2.2.2.1=e,υ.2.2.2.2.2.1=s,υ.2.2.2.2.2.2=q
 intro G hl hD qq
 revert qq;refine gnE (((q / 16 % 2:Nat):Int)==1) fun b1 hb1 qq=>?_
 revert qq;refine gnE (((q / 4 % 2:Nat):Int)==1) fun b5 hb5 qq=>?_
 revert qq;refine gnE (((q / 8 % 2:Nat):Int)==1) fun b6 hb6 qq=>?_
 refine fdivN (n:=q) (m:=16) (by decide) (by decide) (modN (n:=q / 16) (m:=2) (by decide) (eqI (qE hb1 (tp fun y1 f1=>modN (n:=q) (m:=4) (by decide) (eqI (tp fun y2 f2=>modN (n:=q) (m:=4) (by decide) (eqI (tp fun y3 f3=>modN (n:=q) (m:=4) (by decide) (eqI (tp fun y4 f4=>fdivN (n:=q) (m:=4) (by decide) (by decide) (modN (n:=q / 4) (m:=2) (by decide) (eqI (qE hb5 (tp fun y5 f5=>fdivN (n:=q) (m:=8) (by decide) (by decide) (modN (n:=q / 8) (m:=2) (by decide) (eqI (qE hb6 (tp fun y6 f6=>tp fun y7 f7=>fzG [(y1,.tup [.str "declare",.int 4194304,.bool b1]),(y2,.tup [.str "public",.int 65536,.bool (((q % 4:Nat):Int)==1)]),(y3,.tup [.str "private",.int 16384,.bool (((q % 4:Nat):Int)==2)]),(y4,.tup [.str "protected",.int 32768,.bool (((q % 4:Nat):Int)==3)]),(y5,.tup [.str "static",.int 262144,.bool b5]),(y6,.tup [.str "readonly",.int 131072,.bool b6]),(y7,.tup [.ref y1,.ref y2,.ref y3,.ref y4,.ref y5,.ref y6])] ⟨f1,f2,f3,f4,f5,f6,f7,trivial⟩ fun σ1 E1 hs=>?_))))))))))))))))))
 have hB:BAt σ1 [.ref y1,.ref y2,.ref y3,.ref y4,.ref y5,.ref y6] (Bq b1 (q % 4) b5 b6):=
  .cons (hs 0 (nb rfl)) (.cons (hs 1 (nb rfl)) (.cons (hs 2 (nb rfl)) (.cons (hs 3 (nb rfl)) (.cons (hs 4 (nb rfl)) (.cons (hs 5 (nb rfl)) .nil)))))
 have hY:=hs 6 (nb rfl)
 have G1:=G.e0 E1
 refine ⟨3,.tup y7,[.ref y1,.ref y2,.ref y3,.ref y4,.ref y5,.ref y6],fun rem m' σ'=>∃ (dn remB:List Wf),dn++remB=Bq b1 (q % 4) b5 b6/\BAt σ' rem remB/\GSt σ' e (s.add (wtk dn))/\Gx e σ1 σ' ∧
  m'=([("st",.ref e.g),("q",.int q),("flags",.int (sumF dn))]:Loc),rfl,
  ⟨[],_,rfl,hB,G1,.refl,rfl⟩,fun rem m' σ' h=>by refine ea2_5 h fun ξ ξ ξ ξ ξ h ξ=>?_;exact hF (h.f _ _ hY),?_,?_⟩
 · intro v rem m' σ2 z1;refine ea2_5 z1 fun dn remB hdn hb G2 x2 z2=>?_;clear z1;subst z2
   cases hb with
   | @cons a w f b vs ps ha hb=>
    have hdl:dn.length<=6:=by have:=congrArg List.length hdn;replace this:=List.length_append▸this;have h6:(Bq b1 (q % 4) b5 b6).length=6:=rfl;lia
    have hwl:(wtk dn).length<=6:=by
     unfold wtk;rw [List.length_map];exact Nat.le_trans (List.length_filter_le _ _) hdl
    refine ⟨rfl,unpT (hF ha) rfl ?_⟩
    refine ⟨rfl,?_⟩
    refine truB ?_
    cases b with
    | false=>
     refine ⟨dn++[(w,f,false)],ps,by rw [List.append_assoc];exact hdn,hb,by refine qE wtk_snoc ?_;exact G2,x2,?_⟩
     refine qE sumF_snoc ?_;rfl
    | true=>
     refine gFn 166 (g_put G2 (by refine qE Gs.add_len ?_;lia) (Mine.dn hD) fun σ3 G3 x3=>?_)
     replace G3:=Gs.add_snoc▸G3
     refine iaddI (⟨dn++[(w,f,true)],ps,by rw [List.append_assoc];exact hdn,hb.ex x3,by refine qE wtk_snoc ?_;exact G3,x2.trans x3,?_⟩)
     refine qE sumF_snoc ?_;rfl
 · intro m' σ2 z1;refine ea2_5 z1 fun dn remB hdn hb G2 x2 z2=>?_;clear z1;subst z2
   cases hb
   rw [List.append_nil] at hdn
   subst hdn
   exact qq σ2 G2 (E1.px.trans x2)
end
section
variable {s1:Gs}
noncomputable def wordsOf (l:List Wf):List Str:=(l.filter (·.2.2)).map (·.1)
noncomputable def flB (fl:Int):Bool:=(Builtin.bitAnd fl 524288==0)&&(Builtin.bitAnd fl 2097152==0)&&(Builtin.bitAnd fl 1048576==0)
theorem flB.use {fl:Int} (h:flB fl=true):FlOk fl:=by
 simp only [flB,Bool.and_eq_true] at h;exact ⟨h.1.1,h.1.2,h.2⟩
noncomputable def okB (b1:Bool) (a:Nat) (b5 b6:Bool):Bool:=
 let B:=Bq b1 a b5 b6
 let M:=wordsOf B
 let fl:=sumF B
 modsOk 0 M&&(fl==orAll 0 M)&&(Builtin.bitAnd fl 4096==0)&&((Builtin.bitAnd (Builtin.bitOr fl 4096) 4096==0)==false)&&flB fl&&flB (Builtin.bitOr fl 4096)&&(fl+4096==Builtin.bitOr fl 4096) &&
  ((Builtin.bitAnd fl 4194304 != 0)==b1)&&((Builtin.bitAnd (fl+4096) 4194304 != 0)==b1)&&((Builtin.bitAnd fl 131072==0)==!b6)&&((Builtin.bitAnd (fl+4096) 131072==0)==!b6)&&decide (M.length<=6)&&M.all (fun w=>decide (w.length<=100))
theorem okB_all:∀ b1 b5 b6:Bool,∀ a,a<4->okB b1 a b5 b6=true:=by decide +kernel
structure WOk (b1 b6:Bool) (M:List Str) (fl:Int):Prop where
 mo:modsOk 0 M=true
 fe:fl=orAll 0 M
 o0:(Builtin.bitAnd fl 4096==0)=true
 o1:(Builtin.bitAnd (Builtin.bitOr fl 4096) 4096==0)=false
 f0:FlOk fl
 f1:FlOk (Builtin.bitOr fl 4096)
 add:fl+4096=Builtin.bitOr fl 4096
 a0:(Builtin.bitAnd fl 4194304 != 0)=b1
 a1:(Builtin.bitAnd (fl+4096) 4194304 != 0)=b1
 r0:(Builtin.bitAnd fl 131072==0)=!b6
 r1:(Builtin.bitAnd (fl+4096) 131072==0)=!b6
 len:M.length<=6
 short:∀ w∈M,w.length<=100
theorem wOk (b1 b5 b6:Bool) (a:Nat) (ha:a<4):WOk b1 b6 (wordsOf (Bq b1 a b5 b6)) (sumF (Bq b1 a b5 b6)):=by
 have h:=okB_all b1 b5 b6 a ha
 simp only [okB,Bool.and_eq_true,beq_iff_eq,decide_eq_true_eq] at h
 refine ea0_2 h fun z1 h13=>?_;clear h;refine ea0_2 z1 fun z2 h12=>?_;clear z1;refine ea0_2 z2 fun z3 h11=>?_;clear z2;refine ea0_2 z3 fun z4 h10=>?_;clear z3;refine ea0_2 z4 fun z5 h9=>?_;clear z4;refine ea0_2 z5 fun z6 h8=>?_;clear z5;refine ea0_2 z6 fun z7 h7=>?_;clear z6;refine ea0_2 z7 fun z8 h6=>?_;clear z7;refine ea0_2 z8 fun z9 h5=>?_;clear z8;refine ea0_2 z9 fun z10 h4=>?_;clear z9;refine ea0_2 z10 fun z11 h3=>?_;clear z10;refine ea0_2 z11 fun h1 h2=>?_;clear z11
 exact ⟨h1,h2,by refine qE h3 ?_;rfl,h4,flB.use h5,flB.use h6,h7,h8,h9,h10,h11,h12,fun w hw=>of_decide_eq_true (List.all_eq_true.mp h13 w hw)⟩
theorem wtk_words {l:List Wf}:wtk l=(wordsOf l).map nmTk:=by unfold wtk wordsOf;refine qE List.map_map ?_;rfl
theorem bit_flip {n:Nat} (h:n<2):((n:Int)==0)=!((n:Int)==1):=by
 have:n=0\/n=1:=by lia
 rcases this with rfl | rfl <;> rfl
namespace Fd
noncomputable def tks (f:Fd):List Tk:=f.mods.map nmTk++(f.nt::(optTk f.opt++(kdTk f.kind++(iniTk f.init++(if f.semi then [⟨5,";",0⟩] else [])))))
end Fd
noncomputable def FdFst (f:Fd):Prop:=∃ x r,f.tks=x::r/\[1,4,3].any (·==x.kind)=true/\x.text.length<=100/\f.tks.length<=160
noncomputable def Gs.fin (s:Gs) (f:Fd):Gs:=⟨s.toks++flg s.ln f.tks,!f.semi,s.early++f.tl s.toks.length,s.late++(if f.amb then [] else f.told s.toks.length)⟩
noncomputable def names3:List Tk:=[⟨1,"a",7⟩,⟨4,"x y",7⟩,⟨3,"7",7⟩]
theorem names3_ok {nt:Tk} (h:nt∈names3):[1,2,4,3].any (·==nt.kind)=true/\(nt.kind=1->(memberW.lookup nt.text).isSome=false)/\∀ i ln,NmOk (nt.tok i ln):=by
 have key:∀ nt:Tk,([1,2,4,3].any (·==nt.kind)&&!(nt.kind==5)&&((["static","async","accessor","get","set"]:List Str).all fun x=>(nt.text==x)==false)&&((nt.text=="constructor")==false)&&((nt.text=="prototype")==false)&&((memberW.lookup nt.text).isSome==false))=true →
  [1,2,4,3].any (·==nt.kind)=true/\(nt.kind=1->(memberW.lookup nt.text).isSome=false)/\∀ i ln,NmOk (nt.tok i ln):=by
  intro nt h
  simp only [Bool.and_eq_true,Bool.not_eq_true',beq_iff_eq,beq_eq_false_iff_ne] at h
  refine ea0_2 h fun z1 h6=>?_;clear h;refine ea0_2 z1 fun z2 h5=>?_;clear z1;refine ea0_2 z2 fun z3 h4=>?_;clear z2;refine ea0_2 z3 fun z4 h3=>?_;clear z3;refine ea0_2 z4 fun h1 h2=>?_;clear z4
  exact ⟨h1,fun ξ=>h6,fun i ln=>⟨h1,h2,fun x hx=>beq_iff_eq.mp (List.all_eq_true.mp h3 x hx),beq_eq_false_iff_ne.mpr h4,beq_eq_false_iff_ne.mpr h5⟩⟩
 simp only [names3,List.mem_cons,List.not_mem_nil,or_false] at h
 rcases h with rfl | rfl | rfl <;> exact key _ (by decide +kernel)
theorem Gs.add_app {s:Gs} {l:List Tk} {x:Tk} {r:List Tk}:(s.add (l++[x])).app (fl0 r)=s.app (flg s.ln (l++(x::r))):=by
 induction l using List.casesOn with
 | nil=>
  show (s.app [(x,s.ln)]).app (fl0 r)=s.app ((x,s.ln)::fl0 r)
  refine qE Gs.app_app ?_;rfl
 | cons y l=>
  show (s.app ((y,s.ln)::fl0 (l++[x]))).app (fl0 r)=s.app ((y,s.ln)::fl0 (l++(x::r)))
  refine qE Gs.app_app (qE fl0_app (qE fl0_app ?_))
  congr 1
  simp only [List.cons_append,List.append_assoc]
  rfl
@[elab_as_elim] theorem bc {F:Bool->Prop} (b:Bool) (f:F false) (t:F true):F b:=by cases b <;> assumption
theorem fin_eq {s s':Gs} {M:List Str} {nt:Tk} {opt kind:Bool} {o:Option T} {semi:Bool} (hs':s'=(s.app (flg s.ln (M.map nmTk++nt::(optTk opt++(kdTk kind++iniTk o))))).tell (Fd.amb ⟨M,nt,opt,kind,o,semi⟩) (Fd.told ⟨M,nt,opt,kind,o,semi⟩ s.toks.length)) :
 (if semi then s'.app [(⟨5,";",0⟩,false)] else { s' with ln:=true })=s.fin ⟨M,nt,opt,kind,o,semi⟩:=by
 have key:∀ (r:List Tk) (x:Tk),flg s.ln (M.map nmTk++nt::r)++[(x,false)]=flg s.ln (M.map nmTk++nt::(r++[x])):=by
  intro r x
  induction M using List.casesOn with
  | nil=>show (nt,s.ln)::fl0 r++_=(nt,s.ln)::fl0 (r++[x]);refine qE fl0_app ?_;rfl
  | cons w M=>
   show (nmTk w,s.ln)::fl0 (M.map nmTk++nt::r)++_=(nmTk w,s.ln)::fl0 (M.map nmTk++nt::(r++[x]))
   refine qE fl0_app (qE fl0_app ?_)
   simp only [List.cons_append,List.append_assoc,List.map_cons,List.map_append,List.map_nil]
 subst hs'
 unfold Gs.fin Fd.tl Fd.tks
 induction semi with
 | true=>
  induction ha:Fd.amb ⟨M,nt,opt,kind,o,true⟩ with
  | true=>
   show (⟨(s.toks++flg s.ln (M.map nmTk++nt::(optTk opt++(kdTk kind++iniTk o))))++[(⟨5,";",0⟩,false)],false,s.early++_,s.late⟩:Gs)=⟨s.toks++flg s.ln (M.map nmTk++nt::(optTk opt++(kdTk kind++(iniTk o++[⟨5,";",0⟩])))),false,s.early++_,s.late++[]⟩
   rw [List.append_assoc,key,List.append_nil]
   simp only [List.append_assoc]
   rfl
  | false=>
   show (⟨(s.toks++flg s.ln (M.map nmTk++nt::(optTk opt++(kdTk kind++iniTk o))))++[(⟨5,";",0⟩,false)],false,s.early,s.late++_⟩:Gs)=⟨s.toks++flg s.ln (M.map nmTk++nt::(optTk opt++(kdTk kind++(iniTk o++[⟨5,";",0⟩])))),false,s.early++[],s.late++_⟩
   rw [List.append_assoc,key,List.append_nil]
   simp only [List.append_assoc]
   rfl
 | false=>
  induction ha:Fd.amb ⟨M,nt,opt,kind,o,false⟩ with
  | true=>
   show (⟨s.toks++flg s.ln (M.map nmTk++nt::(optTk opt++(kdTk kind++iniTk o))),true,s.early++_,s.late⟩:Gs)=⟨s.toks++flg s.ln (M.map nmTk++nt::(optTk opt++(kdTk kind++(iniTk o++[])))),true,s.early++_,s.late++[]⟩
   rw [List.append_nil,List.append_nil]
   rfl
  | false=>
   show (⟨s.toks++flg s.ln (M.map nmTk++nt::(optTk opt++(kdTk kind++iniTk o))),true,s.early,s.late++_⟩:Gs)=⟨s.toks++flg s.ln (M.map nmTk++nt::(optTk opt++(kdTk kind++(iniTk o++[])))),true,s.early++[],s.late++_⟩
   rw [List.append_nil,List.append_nil]
   rfl
theorem fd_len {M:List Str} {nt:Tk} {opt kind:Bool} {o:Option T} {semi:Bool} (hM:M.length<=6) (ho:∀ v,o=some v->v.ok false/\v.sz<=140/\v.dp<=10):(Fd.tks ⟨M,nt,opt,kind,o,semi⟩).length<=160:=by
 unfold Fd.tks
 simp only [List.length_append,List.length_cons,List.length_map]
 have h1:(optTk opt).length<=1:=by cases opt <;> decide
 have h2:(kdTk kind).length<=2:=by cases kind <;> decide
 have h3:(if semi=true then [(⟨5,";",0⟩:Tk)] else []).length<=1:=by cases semi <;> decide
 have h4:(iniTk o).length<=141:=by
  induction o with
  | none=>exact Nat.zero_le _
  | some v=>have:=(ho v rfl).2.1;simp only [iniTk,List.length_cons,T.tks_len];lia
 lia
theorem fd_fst {M:List Str} {nt:Tk} {opt kind:Bool} {o:Option T} {semi:Bool} (htl:(Fd.tks ⟨M,nt,opt,kind,o,semi⟩).length<=160) (hnt:nt∈names3) (sh:∀ w∈M,w.length<=100):FdFst ⟨M,nt,opt,kind,o,semi⟩:=by
 induction M using List.casesOn with
 | nil=>
  refine ⟨nt,_,rfl,?_⟩
  simp only [names3,List.mem_cons,List.not_mem_nil,or_false] at hnt
  rcases hnt with rfl | rfl | rfl <;> exact ⟨by decide,by decide +kernel,htl⟩
 | cons w M=>exact ⟨nmTk w,_,rfl,by show [1,4,3].any (·==(1:Int))=true;decide,sh w (List.mem_cons_self ..),htl⟩
theorem g_field (G:GSt σ e s) (hl:s.toks.length<=700) (he1:s.early.length<=100) (he2:s.late.length<=100) (hD:61<=D)
 (qq:∀ f:Fd,f.Ok->FdFst f->∀ x σ',GSt σ' e (s.fin f)->FdAt σ' f s.toks.length x->Gx e σ σ'->k (.ref x) σ'):CallV K D (fA K 172) [.ref e.g] k σ:=by
 revert G hl he1 he2 hD qq;revert K D σ k e s;refine no_implicit_lambda% (al6 (n:=⟨(kc0,default)⟩) ?_);generalize et6 _ _=υ;generalize υ.1=K,υ.2.1=D,υ.2.2.1=σ,υ.2.2.2.1=k,υ.2.2.2.2.1=e,υ.2.2.2.2.2=s;clear υ;intro G hl he1 he2 hD qq
 refine cFn 172 1 (dl hD) (gFn 165 (g_pull (m:=5760) G (by decide) (dn hD) fun q hq σ1 G1 x1=>?_))
 revert hq G1 x1;revert q σ1;refine al2 ?_;generalize et2 _ _=υ;generalize υ.1=q,υ.2=σ1;clear υ;intro hq G1 x1
 have H:=words_loop (K:=K) (D:=D) (q:=q) (k:=k) G1 (by lia) (by lia) fun σ2 G2 x2=>?_
 · conv at H=>whnf
   exact H
 have ok:=wOk (((q / 16 % 2:Nat):Int)==1) (((q / 4 % 2:Nat):Int)==1) (((q / 8 % 2:Nat):Int)==1) (q % 4) (Nat.mod_lt _ (by decide))
 replace G2:=wtk_words▸G2
 have hr8:(((q / 8 % 2:Nat):Int)==0)=!(((q / 8 % 2:Nat):Int)==1):=bit_flip (Nat.mod_lt _ (by decide))
 revert G2;revert ok;refine gnE (wordsOf (Bq (((q / 16 % 2:Nat):Int)==1) (q % 4) (((q / 4 % 2:Nat):Int)==1) (((q / 8 % 2:Nat):Int)==1))) fun M hM ok G2=>?_
 revert ok;refine gnE (sumF (Bq (((q / 16 % 2:Nat):Int)==1) (q % 4) (((q / 4 % 2:Nat):Int)==1) (((q / 8 % 2:Nat):Int)==1))) fun fl hF ok=>?_
 refine tp fun y1 f1=>tp fun y2 f2=>tp fun y3 f3=>tp fun y4 f4=>fzG [(y1,.tup [.int 1,.str "a"]),(y2,.tup [.int 4,.str "x y"]),(y3,.tup [.int 3,.str "7"]),(y4,.tup [.ref y1,.ref y2,.ref y3])] ⟨f1,f2,f3,f4,trivial⟩ fun σ3 E1 hs=>?_
 have g4:=hs 3 (nb rfl)
 have G3:=G2.e0 E1
 refine fdivN (n:=q) (m:=32) (by decide) (by decide) (modN (n:=q / 32) (m:=3) (by decide) ?_)
 have hn3:q / 32 % 3=0\/q / 32 % 3=1\/q / 32 % 3=2:=by have:=Nat.mod_lt (q / 32) (show 0<3 by decide);lia
 obtain ⟨yy,nt,hyy,hnt,hF4⟩:∃ yy nt,([.ref y1,.ref y2,.ref y3]:List V)[q / 32 % 3]?=some (.ref yy)/\nt∈names3/\σ3.F yy=some (.tup [.int nt.kind,.str nt.text])/\nt.num=7:=by
  rcases hn3 with h | h | h
  · exact ⟨y1,⟨1,"a",7⟩,by refine qE h ?_;rfl,by simp [names3],hs 0 (nb rfl),rfl⟩
  · exact ⟨y2,⟨4,"x y",7⟩,by refine qE h ?_;rfl,by simp [names3],hs 1 (nb rfl),rfl⟩
  · exact ⟨y3,⟨3,"7",7⟩,by refine qE h ?_;rfl,by simp [names3],hs 2 (nb rfl),rfl⟩
 refine ⟨notPyT (Mine.hF g4),itemT (i:=q / 32 % 3) (Mine.hF g4) hyy (by lia) ?_⟩
 refine ⟨rfl,unpT (Mine.hF hF4.1) rfl ?_⟩
 refine ⟨rfl,?_⟩
 refine gFn 166 ?_
 have hML:(M.map nmTk).length=M.length:=List.length_map ..
 have hMl:=ok.len
 refine g_put G3 (by refine qE Gs.add_len ?_;lia) (dn hD) fun σ4 G4 x4=>?_
 have hnt7:(⟨nt.kind,nt.text,7⟩:Tk)=nt:=by exact qB hF4.2 rfl
 replace G4:=Gs.add_snoc▸hnt7▸G4
 have x04:Gx e σ σ4:=((x1.trans x2).trans E1.px).trans x4
 have hlen4:(s.add (M.map nmTk++[nt])).toks.length=s.toks.length+M.length+1:=by refine qE Gs.add_len (qE List.length_append (qE hML ?_));rfl
 refine qE Gs.add_len (qE hML ?_)
 have hr0:=hr8.trans ok.r0.symm
 have hr1:=hr8.trans ok.r1.symm
 have H:=field_opt (K:=K) (D:=D) (q:=q) (so:=.int nt.kind) (nm:=nt.text) (fl:=fl) (at_:=((3 * (s.toks.length+M.length)+2:Nat):Int)) (k:=k) G4 Gs.add_ln (by refine qE hlen4 ?_;lia) (by refine qE Gs.add_el.1 ?_;exact he1) (by refine qE Gs.add_el.2 ?_;exact he2) (by lia) hr0 hr1 ?_
 · conv at H=>whnf
   exact H
 intro opt kind o semi x kv iv σ' s' ho hs' G' h1 h2 h3 x'
 refine ea0_3 (names3_ok hnt) fun n1 n2 n3=>?_
 have flr:(if opt then fl+4096 else fl)=(if opt then Builtin.bitOr (orAll 0 M) 4096 else orAll 0 M):=by
  exact qE ok.add (qE ok.fe rfl)
 have fok:Fd.Ok ⟨M,nt,opt,kind,o,semi⟩:=
  ⟨ok.mo,n1,n2,n3,by refine qB ok.fe ?_;exact ok.o0,by refine qB ok.fe ?_;exact ok.o1,by refine qB ok.fe ?_;exact ok.f0,by refine qB ok.fe ?_;exact ok.f1,ho⟩
 have hj1:(s.add (M.map nmTk++[nt])).toks.length+opt.toNat=Fd.j1 ⟨M,nt,opt,kind,o,semi⟩ s.toks.length:=by refine qE hlen4 ?_;rfl
 have hat:((3 * (s.toks.length+M.length)+2:Nat):Int)=Fd.at_ ⟨M,nt,opt,kind,o,semi⟩ s.toks.length:=rfl
 have hfl:(if opt then fl+4096 else fl)=Fd.fl ⟨M,nt,opt,kind,o,semi⟩:=flr
 have hini:iniAt (Fd.j1 ⟨M,nt,opt,kind,o,semi⟩ s.toks.length+2 * kind.toNat) o=Fd.ini ⟨M,nt,opt,kind,o,semi⟩ s.toks.length:=(Fd.ini_eq (f:=⟨M,nt,opt,kind,o,semi⟩)).symm
 rw [hj1] at hs' h1 h2
 replace h2:=hini▸h2
 replace h3:=hfl▸hat▸h3
 have htold:told' (if opt then fl+4096 else fl) ((3 * (s.toks.length+M.length)+2:Nat):Int) kind (Fd.j1 ⟨M,nt,opt,kind,o,semi⟩ s.toks.length+2 * kind.toNat) o=Fd.told ⟨M,nt,opt,kind,o,semi⟩ s.toks.length:=by
  unfold told' Fd.told
  exact qE hini (qE hat (qE hfl rfl))
 have hamb:Fd.amb ⟨M,nt,opt,kind,o,semi⟩=(((q / 16 % 2:Nat):Int)==1):=by
  unfold Fd.amb
  exact qB hfl (bc opt ok.a0 ok.a1)
 replace hs':=Gs.add_app▸hamb.symm▸htold▸hs'
 refine qq ⟨M,nt,opt,kind,o,semi⟩ fok (fd_fst (fd_len hMl ho) hnt ok.short) x σ' ?_ ⟨kv,iv,h1,h2,h3⟩ (x04.trans x')
 replace G':=fin_eq hs'▸G'
 exact G'
end
section
variable {s1:Gs}
noncomputable def meT (b:Bool) (at_:Int):List (Int×Int):=if b then [(1183,at_)] else []
theorem g_method {at_:Int} (G:GSt σ e s) (he1:s.early.length<=100) (he2:s.late.length<=100) (hD:5<=D)
 (qq:∀ (b:Bool) (fl:Int) x σ',GSt σ' e (s.tell false (meT b at_))->MemAt σ' (.me b fl at_) (.ref x)->Gx e σ σ'->k (.ref x) σ'):CallV K D (fA K 173) [.ref e.g,.int at_] k σ:=by
 refine cFn 173 2 (dl hD) (gFn 165 (g_pull (m:=8) G (by decide) (Mine.dn hD) fun q hq σ1 G1 x1=>?_))
 obtain ⟨fl,hfl⟩:∃ fl:Int,([.int 32,.int 64,.int (32+262144),.int (32+4194304)]:List V)[q / 2]?=some (.int fl):=by
  have:q / 2=0\/q / 2=1\/q / 2=2\/q / 2=3:=by lia
  rcases this with h | h | h | h <;> refine qE h ?_ <;> exact ⟨_,rfl⟩
 have fin:∀ (b:Bool) (bd:V) (σ2:Sg),decide (bd=.none)=!b->GSt σ2 e (s.tell false (meT b at_))->Gx e σ1 σ2->∀ (z1:Addr),Fresh σ2 z1->∀ (lst:Addr) (σ3:Sg),Ex (fun a=>a=z1) (σ2.set z1 (.list [])) σ3->∀ z2,Fresh σ3 z2->CallV K (D-1) (fA K 45) [.int 27,.str "m",.ref z2,.int fl,.int at_] k (σ3.set z2 (.list [.none,.ref lst,.none,bd])):=by
  intro b bd σ2 hbd G2 x2 z1 f1 lst σ3 x3 z2 f2
  refine nodeNew set_M (Mine.dn hD) fun x σ4 hx x4=>?_
  have E23:E0 σ2 σ3:=E0.of f1 x3
  have E34:E0 σ3 σ4:=E0.of f2 x4
  have E24:=E23.trans E34
  exact qq b fl x σ4 (G2.e0 E24) ⟨x,.ref lst,bd,rfl,hx,hbd⟩ ((x1.trans x2).trans E24.px)
 refine modN (n:=q) (m:=2) (by decide) (eqI ?_)
 induction hb:(((q % 2:Nat):Int)==1) with
 | true=>
  refine gCls 45 ct_Node (tp fun z0 f0=>nodeNew set_M (Mine.dn hD) fun bd σ2 hbd x2=>?_)
  have E12:E0 σ1 σ2:=E0.of f0 x2
  have G2:=G1.e0 E12
  refine isNotN (ea1_2 G2.la fun rl hl ξ=>gItem G2 (fun nx=>gget.2.2.2.2.2) (⟨_,(mAppend (hM hl)).1,(mAppend (hM hl)).2,?_⟩))
  refine tp fun y fy=>(g_tell (amb:=false) (p:=(1183,at_)) (G2.e0 (Ex.fz fy)) fz_F he1 he2 fun σ3 G3 x3=>?_).2
  have x13:Gx e σ1 σ3:=(E12.px.trans (Ex.fz fy)).trans x3
  refine addI (addI (tp fun t ft=>fdivN (n:=q) (m:=2) (by decide) (by decide) (⟨notPyT (hF fz_F),itemT (i:=q / 2) (hF fz_F) hfl (by lia) ?_⟩)))
  have G4:=G3.e0 (Ex.fz (c:=.tup [.int 32,.int 64,.int (32+262144),.int (32+4194304)]) ft)
  exact gCls 45 ct_Node (gCls 45 ct_Node (tp fun z1 f1=>nodeNew set_M (Mine.dn hD) fun lst σ5 hlst x5=>tp fun z2 f2=>fin true (.ref bd) _ rfl G4 (x13.trans (Ex.fz ft)) z1 f1 lst σ5 x5 z2 f2))
 | false=>
  refine isNotN (addI (addI (tp fun t ft=>fdivN (n:=q) (m:=2) (by decide) (by decide) (⟨notPyT (hF fz_F),itemT (i:=q / 2) (hF fz_F) hfl (by lia) ?_⟩))))
  have G4:=G1.e0 (Ex.fz (c:=.tup [.int 32,.int 64,.int (32+262144),.int (32+4194304)]) ft)
  refine gCls 45 ct_Node (gCls 45 ct_Node (tp fun z1 f1=>nodeNew set_M (Mine.dn hD) fun lst σ5 hlst x5=>tp fun z2 f2=>?_))
  have e0:s.tell false (meT false at_)=s:=by show (⟨s.toks,s.ln,s.early,s.late++[]⟩:Gs)=s;rw [List.append_nil]
  exact fin false .none _ rfl (e0.symm▸G4) (Ex.fz ft) z1 f1 lst σ5 x5 z2 f2
noncomputable def Fo.pl:Fo->List Int
 | .nil=>[]
 | .non r=>r.pl
 | .nd _ _ _ t ks r=>t::(ks.pl++r.pl)
noncomputable def Fo.full:Fo->Bool
 | .nil=>true
 | .non _=>false
 | .nd _ _ _ _ ks r=>ks.full&&r.full
theorem Fo.pl_len:∀ f:Fo,f.pl.length<=f.size
 | .nil=>Nat.le_refl _
 | .non r=>by have:=Fo.pl_len r;simp only [Fo.pl,Fo.size];lia
 | .nd _ _ _ _ ks r=>by have:=Fo.pl_len r;have:=Fo.pl_len ks;simp only [Fo.pl,Fo.size,List.length_cons,List.length_append];lia
theorem g_places:∀ (n:Nat) {D:Nat} {σ:Sg} {k:V->Sg->Prop} {x:Addr} {kind fl at_:Int} {a:Av} {ks:Fo},ks.size<n->n<=900->ks.full=true->FoAt σ (.nd kind a fl at_ ks .nil) [.ref x]->n+1<=D →
 (∀ y σ',σ'.M y=some (.list ((at_::ks.pl).map .int))->E0 σ σ'->k (.ref y) σ')->CallV K D (fA K 174) [.ref x] k σ
 | 0,_,_,_,_,_,_,_,_,_,h,_,_,_,_,_=>absurd h (Nat.not_lt_zero _)
 | n+1,D,σ,k,x,kind,fl,at_,a,ks,hn,hn9,hfu,hf,hD,q=>by
  refine ea4_5 hf fun x' l' av kl e1 h2 h3 h4 h5=>?_;clear hf
  cases e1
  refine cFn 174 1 (dl hD) (getNode h3 fun kx hkx=>tp fun z fz=>?_)
  have E1:E0 σ (σ.set z (.list [.int at_])):=.new fz
  refine getNode (h3.ex E1) fun kx hkx=>forI 2 (.list kx) (kl) (fun rem m' σ'=>∃ (fr:Fo) (dn:List Int) (z:Addr),FoAt σ' fr rem/\fr.full=true/\m'=([("node",.ref x),("out",.ref z)]:Loc)/\σ'.M z=some (.list ((at_::dn).map .int))/\dn++fr.pl=ks.pl/\fr.size+dn.length<=ks.size/\E0 σ σ')
   ⟨ks,[],z,h4.ex E1,hfu,rfl,set_M,rfl,by simp,E1⟩ (fun rem m' σ' h=>by refine ea3_1 h fun ξ ξ ξ y5=>?_;refine ea0_7 y5 fun ξ ξ ξ ξ ξ ξ h=>?_;clear y5;exact hF (h.f _ _ hkx)) ?_ ?_
  · intro Iv hin v rem m' σ2 z1;refine ea3_1 z1 fun fr dn z2 y6=>?_;refine ea0_7 y6 fun g1 g2 z2 hz hpl hsz E2=>?_;clear y6;clear z1;subst z2
    induction fr with
    | nil=>injection g1
    | non r=>injection g2
    | nd k3 a3 f3 t3 ks3 r=>
     rw [Fo.full,Bool.and_eq_true] at g2
     refine ea4_5 g1 fun x3 l3 av3 kl3 e3 c2 c3 c4 c5=>?_;clear g1
     cases e3
     simp only [Fo.size] at hsz
     have hp3:=ks3.pl_len
     have hpr:=r.pl_len
     refine gFn 174 (g_places n (ks:=ks3) (by lia) (by lia) g2.1 ⟨x3,[],av3,kl3,rfl,c2,c3,c4,rfl⟩ (show n+1<=D-1 by lia) fun y σ3 hy E3=>addL (hM (E3.m _ _ hz id)) (hM hy) (by simp only [List.length_map,List.length_cons];lia) fun z4 f4=>?_)
     have E4:=E3.trans (Ex.new (c:=.list ((at_::dn).map V.int++(t3::ks3.pl).map V.int)) f4)
     refine hin _ _ _ ⟨r,dn++(t3::ks3.pl),z4,c5.ex E4,g2.2,rfl,?_,?_,?_,E2.trans E4⟩
     · refine qE (show (at_::(dn++(t3::ks3.pl))).map V.int=(at_::dn).map V.int++(t3::ks3.pl).map V.int by simp) ?_;exact set_M
     · rw [← hpl,Fo.pl];simp
     · refine qE List.length_append (qE List.length_cons ?_);lia
  · intro m' σ2 z1;refine ea3_1 z1 fun fr dn z2 y7=>?_;refine ea0_7 y7 fun g1 g2 z2 hz hpl hsz E2=>?_;clear y7;clear z1;subst z2
    have hfr:fr.pl=[]:=by
     induction fr with
     | nil=>rfl
     | non r=>injection g2
     | nd k3 a3 f3 t3 ks3 r=>refine ea4_1 g1 fun x3 l3 av3 kl3 y8=>?_;refine ea0_2 y8 fun e3 ξ=>?_;clear y8;clear g1;injection e3
    rw [hfr,List.append_nil] at hpl
    subst hpl
    exact q z2 σ2 hz E2
theorem T.full:∀ (t:T) (i:Nat) (r:Fo),r.full=true->(t.fo i r).full=true
 | .leaf l,i,r,h=>h
 | .sg w c,i,r,h=>by show (_&&_)=true;exact qE (T.full c (i+1) .nil rfl) h
 | .tp1 c,i,r,h=>by show (_&&_)=true;exact qE (T.full c (i+1) .nil rfl) h
 | .tp2 a b,i,r,h=>by show (_&&_)=true;exact qE (T.full a (i+1) _ (T.full b (i+2+a.sz) .nil rfl)) h
 | .par c,i,r,h=>by show (_&&_)=true;exact qE (T.full c (i+1) .nil rfl) h
 | .sum w a b,i,r,h=>by show (_&&_)=true;exact qE (T.full a i _ (T.full b (i+1+a.sz) .nil rfl)) h
noncomputable def T.pl (t:T) (i:Nat):List Int:=(t.fo i .nil).pl
theorem g_placesT {t:T} {i:Nat} {x:Addr} (hf:FoAt σ (t.fo i .nil) [.ref x]) (hs:t.sz<=200) (hD:210<=D) (q:∀ y σ',σ'.M y=some (.list ((t.pl i).map .int))->E0 σ σ'->k (.ref y) σ'):CallV K D (fA K 174) [.ref x] k σ:=by
 have h1:=T.size_le t i .nil
 have h2:=T.full t i .nil rfl
 have h3:t.pl i=((3 * i+2:Nat):Int)::(t.ks i).pl:=by unfold T.pl;rw [T.fo_eq,Fo.pl,Fo.pl,List.append_nil]
 rw [T.fo_eq] at hf h1 h2
 rw [Fo.full,Bool.and_eq_true] at h2
 simp only [Fo.size] at h1
 exact g_places ((t.ks i).size+1) (Nat.lt_succ_self _) (by lia) h2.1 hf (by lia) fun y σ' hy E=>q y σ' (by refine qE h3 ?_;exact hy) E
end
noncomputable def Fo.sim:Fo->Fo->Prop
 | .nil,.nil=>True
 | .non r,.non r'=>r.sim r'
 | .nd k a f _ ks r,.nd k' a' f' _ ks' r'=>k=k'/\a=a'/\f=f'/\ks.sim ks'/\r.sim r'
 | _,_=>False
theorem Fo.sim_refl:∀ f:Fo,f.sim f
 | .nil=>trivial
 | .non r=>Fo.sim_refl r
 | .nd _ _ _ _ ks r=>⟨rfl,rfl,rfl,Fo.sim_refl ks,Fo.sim_refl r⟩
theorem Fo.sim_len:∀ {f g:Fo},f.sim g->f.len=g.len/\f.size=g.size
 | .nil,.nil,_=>⟨rfl,rfl⟩
 | .non r,.non r',h=>by have:=Fo.sim_len (f:=r) (g:=r') h;simp only [Fo.len,Fo.size];lia
 | .nd _ _ _ _ ks r,.nd _ _ _ _ ks' r',h=>by have h1:=Fo.sim_len h.2.2.2.1;have h2:=Fo.sim_len h.2.2.2.2;simp only [Fo.len,Fo.size];lia
 | .nil,.non _,h=>h.elim
 | .nil,.nd ..,h=>h.elim
 | .non _,.nil,h=>h.elim
 | .non _,.nd ..,h=>h.elim
 | .nd ..,.nil,h=>h.elim
 | .nd ..,.non _,h=>h.elim
theorem av_eq {x y:Av} {v w:V} {kk:V->Sg->Prop} (hx:x.At σ v) (hy:x.At σ w) (q:kk (.bool true) σ):CmpW K D .Eq v w kk σ:=by
 induction x with
 | int i=>cases hx;cases hy;exact eqI (by rw [beq_self_eq_true];exact q)
 | str s=>cases hx;cases hy;exact eqS (by rw [beq_self_eq_true];exact q)
 | tup l=>
  refine ea1_2 hx fun a z1 h1=>?_;clear hx;subst z1
  refine ea1_2 hy fun b z1 h2=>?_;clear hy;subst z1
  exact eqT (hF h1) (hF h2) (fun a ha=>by refine ea1_2 (List.mem_map.mp ha) fun s ξ z1=>?_;subst z1;exact .str s) q
theorem c_same_head {x y:Addr} {kind fl t1 t2:Int} {a:Av} {av aw:V} {ks ls:List V} (hx:NodeAt σ x kind av ks fl t1) (hy:NodeAt σ y kind aw ls fl t2) (ha:a.At σ av) (hb:a.At σ aw) (hl:ks.length=ls.length) (hk:ks.length<=900) (hD:1<=D) (q:k (.bool true) σ):CallV K D (fA K 50) [.ref x,.ref y] k σ:=by
 refine cFn 50 2 hD (getNode hx fun k1 h1=>getNode hy fun k2 h2=>neI ?_)
 rw [bne_self_eq_false]
 refine getNode hx fun k1 h1=>getNode hy fun k2 h2=>neI ?_
 rw [bne_self_eq_false]
 refine getNode hx fun k1 h1=>getNode hy fun k2 h2=>av_eq (x:=a) (y:=a) ha hb (truB (⟨_,g_len.1,g_len.2,?_⟩))
 refine getNode hx fun k1 h1=>lenL (hF h1) (by lia) (⟨_,g_len.1,g_len.2,?_⟩)
 refine getNode hy fun k2 h2=>lenL (hF h2) (by lia) (eqI ?_)
 rw [hl,beq_self_eq_true]
 exact q
inductive PStk (σ:Sg):Nat->List V->Prop
 | nil:PStk σ 0 []
 | snoc {n l y v w f g}:PStk σ n l->σ.F y=some (.tup [v,w])->FoAt σ f [v]->FoAt σ g [w]->f.sim g->PStk σ (n+f.size) (l++[.ref y])
theorem PStk.ex {X} {n l} (h:PStk σ n l) (x:Ex X σ σ'):PStk σ' n l:=by
 induction h with
 | nil=>exact .nil
 | snoc h h1 h2 h3 h4 ih=>exact .snoc ih (x.f _ _ h1) (h2.ex x) (h3.ex x) h4
theorem PStk.len {n l} (h:PStk σ n l):l.length<=n:=by
 induction h with
 | nil=>exact Nat.le_refl _
 | @snoc n l y v w f g h h1 h2 h3 h4 ih=>
  have:=Fo.size_pos h2
  refine qE List.length_append (qE List.length_singleton ?_);lia
theorem PStk.last {n:Nat} {l:List V} (h:PStk σ n l) (hl:l≠[]):∃ n' l' y v w f g,l=l'++[.ref y]/\n=n'+f.size/\PStk σ n' l'/\σ.F y=some (.tup [v,w])/\FoAt σ f [v]/\FoAt σ g [w]/\f.sim g:=by
 induction h with
 | nil=>exact absurd rfl hl
 | snoc h1 h2 h3 h4 h5=>exact ⟨_,_,_,_,_,_,_,rfl,rfl,h1,h2,h3,h4,h5⟩
noncomputable def Fo.szFrom:Fo->Nat->Nat
 | f,0=>f.size
 | .nil,_+1=>0
 | .non r,n+1=>r.szFrom n
 | .nd _ _ _ _ _ r,n+1=>r.szFrom n
theorem FoAt.nth':∀ {f g:Fo} {l l':List V},FoAt σ f l->FoAt σ g l'->f.sim g->∀ {i:Nat} {v:V},l[i]?=some v->∃ w a b,l'[i]?=some w/\FoAt σ a [v]/\FoAt σ b [w]/\a.sim b/\f.szFrom i=a.size+f.szFrom (i+1)
 | .nil,.nil,l,l',h,h',_,i,v,e=>by cases h;simp at e
 | .non r,.non r',l,l',h,h',s,i,v,e=>by
  refine ea1_2 h fun l1 z1 h1=>?_;clear h;subst z1
  refine ea1_2 h' fun l2 z1 h2=>?_;clear h';subst z1
  induction i using Nat.casesOn with
  | zero=>
   simp at e;subst e
   have:(Fo.non r).szFrom 1=r.size:=by cases r <;> rfl
   exact ⟨.none,.non .nil,.non .nil,rfl,⟨[],rfl,rfl⟩,⟨[],rfl,rfl⟩,trivial,by refine qE this ?_;simp only [Fo.szFrom,Fo.size];lia⟩
  | succ i=>simp at e;refine ea3_5 (FoAt.nth' h1 h2 s e) fun w a b c1 c2 c3 c4 c5=>?_;exact ⟨w,a,b,by simpa using c1,c2,c3,c4,c5⟩
 | .nd k a f t ks r,.nd k' a' f' t' ks' r',l,l',h,h',s,i,v,e=>by
  refine ea4_5 h fun x l1 av kl z1 h1 h2 h3 h4=>?_;clear h;subst z1
  refine ea4_5 h' fun x' l2 av' kl' z1 g1 g2 g3 g4=>?_;clear h';subst z1
  induction i using Nat.casesOn with
  | zero=>
   simp at e;subst e
   have:(Fo.nd k a f t ks r).szFrom 1=r.size:=by cases r <;> rfl
   exact ⟨.ref x',.nd k a f t ks .nil,.nd k' a' f' t' ks' .nil,rfl,⟨x,[],av,kl,rfl,h1,h2,h3,rfl⟩,⟨x',[],av',kl',rfl,g1,g2,g3,rfl⟩,⟨s.1,s.2.1,s.2.2.1,s.2.2.2.1,trivial⟩,by refine qE this ?_;simp only [Fo.szFrom,Fo.size];lia⟩
  | succ i=>simp at e;refine ea3_5 (FoAt.nth' h4 g4 s.2.2.2.2 e) fun w a b c1 c2 c3 c4 c5=>?_;exact ⟨w,a,b,by simpa using c1,c2,c3,c4,c5⟩
 | .nil,.non _,_,_,_,_,h,_,_,_=>h.elim
 | .nil,.nd ..,_,_,_,_,h,_,_,_=>h.elim
 | .non _,.nil,_,_,_,_,h,_,_,_=>h.elim
 | .non _,.nd ..,_,_,_,_,h,_,_,_=>h.elim
 | .nd ..,.nil,_,_,_,_,h,_,_,_=>h.elim
 | .nd ..,.non _,_,_,_,_,h,_,_,_=>h.elim
theorem Fo.szEnd:∀ {f:Fo} {l:List V},FoAt σ f l->f.szFrom l.length=0
 | .nil,l,h=>by cases h;rfl
 | .non r,l,h=>by refine ea1_2 h fun l1 z1 h1=>?_;clear h;subst z1;show r.szFrom l1.length=0;exact Fo.szEnd h1
 | .nd _ _ _ _ _ r,l,h=>by refine ea4_5 h fun x l1 av kl z1 h1 h2 h3 h4=>?_;clear h;subst z1;show r.szFrom l1.length=0;exact Fo.szEnd h4
theorem Fo.len_le:∀ f:Fo,f.len<=f.size
 | .nil=>Nat.le_refl _
 | .non r=>by have:=Fo.len_le r;simp only [Fo.len,Fo.size];lia
 | .nd _ _ _ _ ks r=>by have:=Fo.len_le r;simp only [Fo.len,Fo.size];lia
theorem Fo.szZero (f:Fo):f.szFrom 0=f.size:=by cases f <;> rfl
theorem c_same_tree {v w:V} {f g:Fo} (hf:FoAt σ f [v]) (hg:FoAt σ g [w]) (hs:f.sim g) (h8:f.size<=800) (hD:2<=D) (q:∀ σ',E0 σ σ'->k (.bool true) σ'):CallV K D (fA K 51) [v,w] k σ:=by
 revert hf hg hs h8 hD q;revert K D σ k v w f g;refine no_implicit_lambda% (al8 (n:=⟨(kc0,default)⟩) ?_);generalize et8 _ _=υ;generalize υ.1=K,υ.2.1=D,υ.2.2.1=σ,υ.2.2.2.1=k,υ.2.2.2.2.1=v,υ.2.2.2.2.2.1=w,υ.2.2.2.2.2.2.1=f,υ.2.2.2.2.2.2.2=g;clear υ;intro hf hg hs h8 hD q
 refine cFn 51 2 (dl hD) (tp fun y fy=>?_)
 revert fy;revert y;refine al1 ?_;generalize et1 _ _=y;intro fy
 refine tp fun z fz=>?_
 revert fz;revert z;refine al1 ?_;generalize et1 _ _=z;intro fz
 have x1:E0 σ ((σ.fz y (.tup [v,w])).set z (.list [.ref y])):=(Ex.fz fy).trans (.new fz)
 have hz:σ.M z=none:=fz.fz.1.1
 have st0:PStk ((σ.fz y (.tup [v,w])).set z (.list [.ref y])) (0+f.size) ([]++[.ref y]):=.snoc .nil (show (σ.fz y (.tup [v,w])).F y=_ from fz_F) (hf.ex x1) (hg.ex x1) hs
 refine whilI 3 (fun n m' σ'=>m'=([("x",v),("y",w),("stack",.ref z)]:Loc)/\∃ l,σ'.M z=some (.list l)/\E0 σ σ'/\PStk σ' n l/\n<=800) f.size ⟨rfl,_,set_M,x1,by simpa using st0,h8⟩ ?_
 intro I hin n m' σ1 z1;refine ea0_2 z1 fun z2 z3=>?_;clear z1;subst z2;refine ea1_4 z3 fun l hz1 x1 hst hn=>?_;clear z3
 have hl:=hst.len
 refine truL (hM hz1) (by lia) ?_
 induction hl0:l using List.casesOn with
 | nil=>exact q _ x1
 | cons v0 l0=>
  refine ea6_1 (hst.last (by refine qE hl0 ?_;simp)) fun n' l' y' v' w' f' y11=>?_;refine ea1_1 y11 fun g' y12=>?_;clear y11;refine ea0_7 y12 fun e1 e2 hst' hy hf' hg' hs'=>?_;clear y12
  refine qB hl0 (qE e1 (qE (show (!(l'++[V.ref y']).isEmpty)=true from by simp) ?_))
  rw [e1] at hz1 hl
  replace hl:=List.length_append▸hl
  have hgp:=Fo.size_pos hf'
  have hl':=hst'.len
  refine ⟨_,(mPop (hM hz1)).1,(mPop (hM hz1)).2,?_⟩
  refine cPop hz1 (by lia) ?_
  have x2:E0 σ (σ1.set z (.list l')):=x1.setN hz
  have x12:Ex (fun a=>a=z) σ1 (σ1.set z (.list l')):=.set rfl
  refine ⟨rfl,unpT (hF (x12.f _ _ hy)) rfl ?_⟩
  refine ⟨rfl,?_⟩
  have hst2:=hst'.ex x12
  have hf2:=hf'.ex x12
  have hg2:=hg'.ex x12
  refine isN ?_
  rcases hf2.cases1 with ⟨rfl,rfl⟩ | ⟨x,kind,av,flags,at_,kids,av',ks,rfl,rfl,h2,h3,h4⟩
  · rcases hg2.cases1 with ⟨rfl,rfl⟩ | ⟨x,kind,av,flags,at_,kids,av',ks,rfl,rfl,h2,h3,h4⟩
    · refine isN (⟨n',by simp only [Fo.size] at e2;lia,hin _ _ _ ⟨rfl,l',set_M,x2,hst2,by lia⟩⟩)
    · exact hs'.elim
  · rcases hg2.cases1 with ⟨rfl,rfl⟩ | ⟨xg,kindg,avg,flagsg,atg,kidsg,avg',ksg,rfl,rfl,g2,g3,g4⟩
    · exact hs'.elim
    · refine ea0_5 hs' fun z1 z2 z3 hsk z4=>?_;clear hs';subst z1;subst z2;subst z3;clear z4
      have hks:ks.length=ksg.length:=by refine qE h4.len (qE g4.len ?_);exact (Fo.sim_len hsk).1
      have hkb:ks.length<=800/\kids.size+1+n'=n:=by
       have:=h4.len
       have h5:=kids.len_le
       simp only [Fo.size] at e2
       lia
      refine isN (isN (gFn 50 (c_same_head h3 g3 h2 g2 hks (by lia) (dn hD) (truB (⟨_,g_range.1,g_range.2,?_⟩)))))
      refine ⟨_,g_len.1,g_len.2,?_⟩
      refine getNode h3 fun kl hkl=>lenL (hF hkl) (by lia) (rangeW fun yr fr=>?_)
      have xr:E0 (σ1.set z (.list l')) ((σ1.set z (.list l')).fz yr (.range ks.length)):=.fz fr
      refine forI 5 (.range yr) ((List.range ks.length).map fun (j:Nat)=>V.int (j:Int)) (fun rem m2 σ3=>∃ i,rem=((List.range ks.length).map fun (j:Nat)=>V.int (j:Int)).drop i/\i<=ks.length/\m2=([("x",v),("y",w),("stack",.ref z),("p",.ref x),("q",.ref xg)]:Loc)/\E0 σ σ3/\Ex (fun a=>a=z) ((σ1.set z (.list l')).fz yr (.range ks.length)) σ3 ∧
       ∃ l3 n3,σ3.M z=some (.list l3)/\PStk σ3 n3 l3/\n3+kids.szFrom i=n'+kids.size)
       ⟨0,rfl,Nat.zero_le _,rfl,x2.trans xr,.refl,l',n',xr.m _ _ set_M id,hst2.ex xr,by rw [Fo.szZero]⟩ (fun rem m2 σ3 h=>⟨by refine ea1_1 h fun ξ y13=>?_;refine ea0_6 y13 fun ξ ξ ξ ξ h ξ=>?_;clear y13;rw [List.length_map,List.length_range];exact hF (h.f _ _ fz_F),by rw [List.length_map,List.length_range];lia,fun i hi=>by
        rw [List.length_map,List.length_range] at hi
        refine qE List.getElem?_map (qE (List.getElem?_range hi) ?_);rfl⟩) ?_ ?_
      · intro I2 hin2 v3 rem m2 σ3 z1;refine ea1_1 z1 fun i y14=>?_;refine ea0_6 y14 fun hrem hi z2 x3 xz z3=>?_;clear y14;clear z1;subst z2;refine ea2_3 z3 fun l3 n3 hz3 hst3 hn3=>?_;clear z3
        have hilt:i<ks.length:=by
         rcases Nat.lt_or_ge i ks.length with h | h
         · exact h
         · rw [List.drop_eq_nil_of_le (by rw [List.length_map,List.length_range];exact h)] at hrem;injection hrem
        rw [List.drop_eq_getElem_cons (by rw [List.length_map,List.length_range];exact hilt)] at hrem
        simp only [List.getElem_map,List.getElem_range,List.cons.injEq] at hrem
        refine ea0_2 hrem fun z1 z2=>?_;clear hrem;subst z1;subst z2
        have h3':=(h3.ex xr).ex xz
        have g3':=(g3.ex xr).ex xz
        have h4':=(h4.ex xr).ex xz
        have g4':=(g4.ex xr).ex xz
        refine ea3_5 (h4'.nth' g4' hsk (List.getElem?_eq_getElem hilt)) fun wv fa fb c1 c2 c3 c4 c5=>?_
        have hl3:=hst3.len
        have hsz:n3<=800:=by lia
        refine ⟨_,(mAppend (hM hz3)).1,(mAppend (hM hz3)).2,?_⟩
        refine getNode h3' fun kl1 hk1=>⟨notPyL (hF hk1),itemL (i:=i) (hF hk1) (List.getElem?_eq_getElem hilt) (by lia) ?_⟩
        refine getNode g3' fun kl2 hk2=>⟨notPyL (hF hk2),itemL (i:=i) (hF hk2) c1 (by lia) ?_⟩
        refine tp fun y4 fy4=>cAppend (show (σ3.fz y4 _).M z=some (.list l3) from hz3) (by lia) ?_
        have x34:Ex (fun a=>a=z) σ3 ((σ3.fz y4 (.tup [ks[i],wv])).set z (.list (l3++[.ref y4]))):=(Ex.fz fy4).trans (.set rfl)
        have x4:E0 σ ((σ3.fz y4 (.tup [ks[i],wv])).set z (.list (l3++[.ref y4]))):=(x3.trans (Ex.fz fy4)).setN hz
        exact hin2 _ _ _ ⟨i+1,rfl,hilt,rfl,x4,xz.trans x34,_,n3+fa.size,set_M,.snoc (hst3.ex x34) (show (σ3.fz y4 _).F y4=_ from fz_F) (c2.ex x34) (c3.ex x34) c4,by lia⟩
      · intro m2 σ3 z1;refine ea1_1 z1 fun i y15=>?_;refine ea0_6 y15 fun hrem hi z2 x3 xz z3=>?_;clear y15;clear z1;subst z2;refine ea2_3 z3 fun l3 n3 hz3 hst3 hn3=>?_;clear z3
        have hige:ks.length<=i:=by
         rcases Nat.lt_or_ge i ks.length with h | h
         · rw [List.drop_eq_getElem_cons (by rw [List.length_map,List.length_range];exact h)] at hrem;injection hrem
         · exact h
        have hie:i=ks.length:=Nat.le_antisymm hi hige
        subst hie
        replace hn3:=Fo.szEnd h4▸hn3
        exact ⟨n3,by lia,hin _ _ _ ⟨rfl,l3,hz3,x3,hst3,by lia⟩⟩
section
variable {e:Pe} {s:Ps}
theorem DgsAt.drop:∀ {n:Nat} {vs:List V} {rs:List (Int×Int)},DgsAt σ vs rs->DgsAt σ (vs.drop n) (rs.drop n)
 | 0,_,_,h=>h
 | n+1,_,_,.nil=>.nil
 | n+1,_,_,.cons _ h=>by rw [List.drop_succ_cons,List.drop_succ_cons];exact DgsAt.drop (n:=n) h
theorem c_told {n:Nat} (P:PSt σ e s) (hs:s.dgs.length<=800) (hD:2<=D) (q:∀ y vs σ',σ'.M y=some (.list vs)->PrsAt σ' vs (s.dgs.drop n)->E0 σ σ'->k (.ref y) σ'):CallV K D (fA K 176) [.ref e.dg,.int n] k σ:=by
 revert P hs hD q;revert K D σ k e s n;refine no_implicit_lambda% (al7 (n:=⟨(kc0,default)⟩) ?_);generalize et7 _ _=υ;generalize υ.1=K,υ.2.1=D,υ.2.2.1=σ,υ.2.2.2.1=k,υ.2.2.2.2.1=e,υ.2.2.2.2.2.1=s,υ.2.2.2.2.2.2=n;clear υ;intro P hs hD q
 refine ea1_2 P.rl fun rows hr hd=>?_
 revert hr hd;revert rows;refine al1 ?_;generalize et1 _ _=rows;intro hr hd
 have hlen:=hd.len
 refine cFn 176 2 (dl hD) ?_
 intro A env L hrr fe
 revert hrr fe;revert A env L;refine no_implicit_lambda% (al3 (n:=⟨(a0,default)⟩) ?_);generalize et3 _ _=υ;generalize υ.1=A,υ.2.1=env,υ.2.2=L;clear υ;intro hrr fe
 refine comp_tells (by decide +kernel) ?_ hrr fe
 refine getW ct_Diags (hF P.pf.dg) (hF P.pf.dd) (⟨_,rows,rows.drop n,rfl,.inl (hM hr),by lia,.inr (.inl ⟨n,rfl,rfl,rfl⟩),fun y fy=>?_⟩)
 revert fy;revert y;refine al1 ?_;generalize et1 _ _=y;intro fy
 refine set1 fy fun σ1 E1 hy=>?_
 revert E1 hy;revert σ1;refine al1 ?_;generalize et1 _ _=σ1;intro E1 hy
 have hd1:=(hd.drop (n:=n)).ex E1
 refine ⟨y,rows.drop n,fun l o σ'=>∃ ds dn,DgsAt σ' l ds/\PrsAt σ' o dn/\dn++ds=s.dgs.drop n/\E0 σ1 σ',rfl,by refine qE List.length_drop ?_;lia,⟨_,[],hd1,.nil,rfl,.refl⟩,fun l o σ' h=>by refine ea2_4 h fun ξ ξ ξ ξ ξ h=>?_;exact hM (h.m _ _ hy id),?_,?_⟩
 · intro v l o σ2 z1;refine ea2_4 z1 fun ds dn g1 g2 g3 E2=>?_;clear z1
   cases g1 with
   | @cons v r vs rs h1 h2=>
    refine ea4_1 h1 fun a d w f y30=>?_;refine ea0_3 y30 fun z1 h3 h4=>?_;clear y30;clear h1;subst z1
    refine getW ct_Diag (hF h3) (hF h4) (getW ct_Diag (hF h3) (hF h4) (tp fun z fz=>?_))
    have E3:=Ex.fz (X:=fun ξ=>False) (c:=.tup [.int r.1,.int r.2]) fz
    exact ⟨rs,dn++[r],h2.ex E3,(g2.ex E3).snoc ⟨z,rfl,fz_F⟩,by rw [List.append_assoc];exact g3,E2.trans E3⟩
 · intro o σ2 z1;refine ea2_4 z1 fun ds dn g1 g2 g3 E2=>?_;clear z1;intro z fz
   cases g1
   rw [List.append_nil] at g3
   subst g3
   have E3:=Ex.new (X:=fun ξ=>False) (c:=.list o) fz
   exact q z o _ set_M (g2.ex E3) ((E1.trans E2).trans E3)
theorem c_token {t:Tok} (hD:2<=D) (q:∀ x σ',TokAt σ' x t->E0 σ σ'->k (.ref x) σ'):CallV K D (fA K 63) [.int t.kind,.str t.text,.int t.num,.int t.at_,.int t.end_,.bool t.line] k σ:=by
 refine Wp.post (newV 63 6 ct_Token hD (by decide +kernel) rfl fun x d fx fd n=>?_)
 have h:=Fill.start (cls:=fName (stAt 63)) fx fd n
 refine setF ct_Token h fun σ1 h=>setF ct_Token h fun σ1 h=>setF ct_Token h fun σ1 h=>setF ct_Token h fun σ1 h=>setF ct_Token h fun σ1 h=>setF ct_Token h fun σ1 h=>⟨rfl,?_⟩
 exact ea1_4 h.done fun σ2 g g1 g2 g3=>⟨σ2,g,q x σ2 ⟨d,g1,g2⟩ (g3 _)⟩
theorem c_word {n:Int} (hD:2<=D) (q:∀ x σ',Rule σ' x "WordFirst" [("kind",.int n)]->E0 σ σ'->Fresh σ x->k (.ref x) σ'):CallV K D (fA K 162) [.int n] k σ:=by
 refine Wp.post (newV2 162 136 1 ct_WordFirst hD (by decide +kernel) rfl fun x d fx fd nn=>?_)
 have h:=Fill.start (cls:=fName (stAt 162)) fx fd nn
 refine setF ct_WordFirst h fun σ1 h=>⟨rfl,?_⟩
 exact ea1_4 h.done fun σ2 g g1 g2 g3=>⟨σ2,g,q x σ2 ⟨d,g1,g2⟩ (g3 _) fx⟩
end
section
theorem Fill.low {x d y:Addr} {cls:Str} {m:Loc} (h:Fill σ σ' x d cls m) (f:Fresh σ' y):Fresh σ y/\y≠x/\y≠d:=by
 refine ⟨⟨?_,?_⟩,?_,?_⟩
 · induction e:σ.M y with
   | none=>rfl
   | some c=>have:=h.m _ _ e;replace this:=f.1▸this;injection this
 · induction e:σ.F y with
   | none=>rfl
   | some c=>have:=h.f _ _ e;replace this:=f.2▸this;injection this
 · rintro rfl;have:=h.fx;replace this:=f.2▸this;injection this
 · rintro rfl;have:=h.md;replace this:=f.1▸this;injection this
theorem Fill.alloc {x d y:Addr} {cls:Str} {m:Loc} {c:Cell} (h:Fill σ σ' x d cls m) (f:Fresh σ' y):Fill (σ.set y c) (σ'.set y c) x d cls m/\E0 σ (σ.set y c):=by
 refine ea0_3 (h.low f) fun f0 nx nd=>⟨⟨h.fx,(upd_other nd.symm).trans h.md,h.f,fun a c' e=>?_,h.nf,(upd_other nd.symm).trans h.old.1,h.old.2⟩,.new f0⟩
 by_cases ha:a=y
 · subst ha;rw [set_M] at e ⊢;exact e
 · exact (upd_other ha).trans (h.m _ _ ((upd_other ha).symm.trans e))
theorem Fill.allocF {x d y:Addr} {cls:Str} {m:Loc} {c:Cell} (h:Fill σ σ' x d cls m) (f:Fresh σ' y):Fill (σ.fz y c) (σ'.fz y c) x d cls m/\E0 σ (σ.fz y c):=by
 refine ea0_3 (h.low f) fun f0 nx nd=>⟨⟨(upd_other nx.symm).trans h.fx,h.md,fun a c' e=>?_,h.m,(upd_other nd.symm).trans h.nf,h.old.1,(upd_other nd.symm).trans h.old.2⟩,.fz f0⟩
 by_cases ha:a=y
 · subst ha;rw [fz_F] at e ⊢;exact e
 · exact (upd_other ha).trans (h.f _ _ ((upd_other ha).symm.trans e))
theorem Ex.low {y:Addr} (x:E0 σ σ') (f:Fresh σ' y):Fresh σ y:=by
 refine ⟨?_,?_⟩
 · induction e:σ.M y with
   | none=>rfl
   | some c=>have:=x.m _ _ e id;replace this:=f.1▸this;injection this
 · induction e:σ.F y with
   | none=>rfl
   | some c=>have:=x.f _ _ e;replace this:=f.2▸this;injection this
set_option genInjectivity false in
structure Pa where
 p:Addr
 d:Addr
 tl:Addr
 dg:Addr
 pt:Addr
 ft:Addr
 tt:Addr
 ty:Addr
 pend:Addr
 lab:Addr
 cov:Addr
 com:Addr
 nar:Addr
 spl:Addr
 sav:Addr
deriving Inhabited
noncomputable def pns0 (e:Pa):Loc:=[("tokens",.ref e.tl),("at",.int 0),("diags",.ref e.dg),("parts",.ref e.pt),("firsts",.ref e.ft),("tails",.ref e.tt),("types",.ref e.ty),("deep",.int 0),("pending",.ref e.pend),("allow_in",.bool true),
 ("in_func",.int 0),("in_loop",.int 0),("in_switch",.int 0),("labels",.ref e.lab),("no_cond",.bool false),("ret_bar",.bool false),("in_literal",.int 0),("covers",.ref e.cov),("commas",.ref e.com),("not_arrow",.ref e.nar),("splits",.ref e.spl),("saved",.ref e.sav)]
structure RS (σ:Sg) (e:Pa) (l:List V) (ptl:List (Int×V)) (ftl:Loc):Prop where
 pi:σ.F e.p=some (.inst "Parser" e.d)
 pd:σ.M e.d=some (.ns (pns0 e))
 tl:σ.M e.tl=some (.list l)
 pt:σ.M e.pt=some (.idict ptl)
 ft:σ.M e.ft=some (.dict ftl)
 tt:σ.M e.tt=some (.dict [])
 cov:σ.M e.cov=some (.list [])
 pend:σ.F e.pend=some (.tup [.str "",.int 0,.int 0])
theorem RS.e0 {e:Pa} {l ptl ftl} (h:RS σ e l ptl ftl) (x:E0 σ σ'):RS σ' e l ptl ftl:=
 ⟨x.f _ _ h.pi,x.m _ _ h.pd id,x.m _ _ h.tl id,x.m _ _ h.pt id,x.m _ _ h.ft id,x.m _ _ h.tt id,x.m _ _ h.cov id,x.f _ _ h.pend⟩
theorem Loc.put_len (m:Loc) (x:Str) (a:V):(m.put x a).length<=m.length+1:=by
 induction m with
 | nil=>exact Nat.le_refl _
 | cons p r ih=>
  obtain ⟨y,b⟩:=p
  unfold Loc.put
  split
  · exact Nat.le_succ _
  · simp only [List.length_cons];lia
structure CQ (σ c:Sg) (x d:Addr) (cls:Str) (m:Loc) (n:Nat) (L G:List (Addr×Cell)):Prop where
 ex:∃ b,Fill b c x d cls m/\E0 σ b/\(∀ (i:Nat) (h:i<L.length),b.M L[i].1=some L[i].2/\Fresh σ L[i].1)/\∀ (i:Nat) (h:i<G.length),b.F G[i].1=some G[i].2
 nd:L.Pairwise fun p q=>p.1≠q.1
 len:m.length<=n
variable {x d y:Addr} {cls:Str} {m:Loc} {n:Nat} {L G:List (Addr×Cell)} {c:Sg} {o:Cell}
theorem CQ.put {attrs:List Str} {attr:Str} {v:V} {ku:Sg->Prop} (ct:CT K cls attrs) (h:CQ σ c x d cls m n L G) (q:∀ c',CQ σ c' x d cls (m.put attr v) (n+1) L G->ku c') (hc:autoParam (attrs.contains attr=true) tcK) (hn:autoParam (Nat.ble n 900=true) tcR):SetW K D (.ref x) attr v ku c:=
 ea1_2 h.ex fun b h1 h2=>setF ct h1 (fun c' f=>q c' ⟨⟨b,f,h2⟩,h.nd,Nat.le_trans (Loc.put_len ..) (Nat.succ_le_succ h.len)⟩) hc (Nat.ble_eq_true_of_le (Nat.le_trans h.len (nb hn)))
theorem CQ.new {P:Sg->Prop} (h:CQ σ c x d cls m n L G) (f:Fresh c y) (q:∀ c',CQ σ c' x d cls m n ((y,o)::L) G->P c'):P (c.set y o):=
 ea1_4 h.ex fun b h1 h2 h3 h4=>ea0_2 (h1.alloc (c:=o) f) fun a1 a2=>q _ ⟨⟨_,a1,h2.trans a2,fun i hi=>match i with
  | 0=>⟨set_M,h2.low (h1.low f).1⟩
  | i+1=>⟨a2.m _ _ (h3 i (Nat.lt_of_succ_lt_succ hi)).1 id,(h3 i (Nat.lt_of_succ_lt_succ hi)).2⟩,fun i hi=>a2.f _ _ (h4 i hi)⟩,
  List.pairwise_cons.mpr ⟨fun p hp=>ea1_1 (List.mem_iff_getElem.mp hp) fun i z=>ea1_1 z fun hi e=>(e▸(h1.low f).1.neM (h3 i hi).1).symm,h.nd⟩,h.len⟩
theorem CQ.newF {P:Sg->Prop} (h:CQ σ c x d cls m n L G) (f:Fresh c y) (q:∀ c',CQ σ c' x d cls m n L ((y,o)::G)->P c'):P (c.fz y o):=
 ea1_4 h.ex fun b h1 h2 h3 h4=>ea0_2 (h1.allocF (c:=o) f) fun a1 a2=>q _ ⟨⟨_,a1,h2.trans a2,fun i hi=>⟨a2.m _ _ (h3 i hi).1 id,(h3 i hi).2⟩,fun i hi=>match i with
  | 0=>fz_F
  | i+1=>a2.f _ _ (h4 i (Nat.lt_of_succ_lt_succ hi))⟩,h.nd,h.len⟩
theorem c_parser {l:List V} {rw_ dg:Addr} (hr:σ.M rw_=some (.list l)) (hl:l.length<=5000) (hD:2<=D)
 (q:∀ (e:Pa) σ',RS σ' e l [] []->e.dg=dg->Fresh σ e.d->Fresh σ e.tl->Fresh σ e.pt->Fresh σ e.ft->Fresh σ e.tt->Fresh σ e.cov->e.ft≠e.tt->e.tl≠e.cov->E0 σ σ'->k (.ref e.p) σ'):CallV K D (fA K 84) [.ref rw_,.ref dg] k σ:=by
 revert hr hl hD q;revert K D σ k l rw_ dg;refine no_implicit_lambda% (al7 (n:=⟨(kc0,default)⟩) ?_);generalize et7 _ _=υ;generalize υ.1=K,υ.2.1=D,υ.2.2.1=σ,υ.2.2.2.1=k,υ.2.2.2.2.1=l,υ.2.2.2.2.2.1=rw_,υ.2.2.2.2.2.2=dg;clear υ;intro hr hl hD q
 refine newV 84 2 ct_Parser hD (by decide +kernel) rfl fun x d fx fd n=>?_
 revert fx fd n;revert x d;refine al2 ?_;generalize et2 _ _=υ;generalize υ.1=x,υ.2=d;clear υ;intro fx fd n
 have h:CQ σ _ x d (fName (stAt 84)) [] 0 [] []:=⟨⟨σ,Fill.start fx fd n,.refl,fun i h=>absurd h (Nat.not_lt_zero i),fun i h=>absurd h (Nat.not_lt_zero i)⟩,.nil,Nat.le_refl _⟩
 refine ⟨_,l,l,rfl,.inl (hM ((upd_other (fd.neM hr)).trans hr)),hl,.inl ⟨rfl,rfl,rfl⟩,fun tl f=>?_⟩
 revert f;revert tl;refine al1 ?_;generalize et1 _ _=tl;intro f
 refine h.new f fun c h=>?_
 revert h;revert c;refine al1 ?_;generalize et1 _ _=c;intro h
 refine h.put ct_Parser fun c h=>?_
 revert h;revert c;refine al1 ?_;generalize et1 _ _=c;intro h
 refine h.put ct_Parser fun c h=>?_
 revert h;revert c;refine al1 ?_;generalize et1 _ _=c;intro h
 refine h.put ct_Parser fun c h=>?_
 revert h;revert c;refine al1 ?_;generalize et1 _ _=c;intro h
 refine ⟨.idict [],.inr rfl,fun pt f=>?_⟩
 revert f;revert pt;refine al1 ?_;generalize et1 _ _=pt;intro f
 refine h.new f fun c h=>?_
 revert h;revert c;refine al1 ?_;generalize et1 _ _=c;intro h
 refine h.put ct_Parser fun c h=>?_
 revert h;revert c;refine al1 ?_;generalize et1 _ _=c;intro h
 refine ⟨.dict [],.inl rfl,fun ft f=>?_⟩
 revert f;revert ft;refine al1 ?_;generalize et1 _ _=ft;intro f
 refine h.new f fun c h=>?_
 revert h;revert c;refine al1 ?_;generalize et1 _ _=c;intro h
 refine h.put ct_Parser fun c h=>?_
 revert h;revert c;refine al1 ?_;generalize et1 _ _=c;intro h
 refine ⟨.dict [],.inl rfl,fun tt f=>?_⟩
 revert f;revert tt;refine al1 ?_;generalize et1 _ _=tt;intro f
 refine h.new f fun c h=>?_
 revert h;revert c;refine al1 ?_;generalize et1 _ _=c;intro h
 refine h.put ct_Parser fun c h=>?_
 revert h;revert c;refine al1 ?_;generalize et1 _ _=c;intro h
 refine ⟨.dict [],.inl rfl,fun ty f=>?_⟩
 revert f;revert ty;refine al1 ?_;generalize et1 _ _=ty;intro f
 refine h.new f fun c h=>?_
 revert h;revert c;refine al1 ?_;generalize et1 _ _=c;intro h
 refine h.put ct_Parser fun c h=>?_
 revert h;revert c;refine al1 ?_;generalize et1 _ _=c;intro h
 refine h.put ct_Parser fun c h=>?_
 revert h;revert c;refine al1 ?_;generalize et1 _ _=c;intro h
 refine tp fun pend f=>?_
 revert f;revert pend;refine al1 ?_;generalize et1 _ _=pend;intro f
 refine h.newF f fun c h=>?_
 revert h;revert c;refine al1 ?_;generalize et1 _ _=c;intro h
 refine h.put ct_Parser fun c h=>?_
 revert h;revert c;refine al1 ?_;generalize et1 _ _=c;intro h
 refine h.put ct_Parser fun c h=>?_
 revert h;revert c;refine al1 ?_;generalize et1 _ _=c;intro h
 refine h.put ct_Parser fun c h=>?_
 revert h;revert c;refine al1 ?_;generalize et1 _ _=c;intro h
 refine h.put ct_Parser fun c h=>?_
 revert h;revert c;refine al1 ?_;generalize et1 _ _=c;intro h
 refine h.put ct_Parser fun c h=>?_
 revert h;revert c;refine al1 ?_;generalize et1 _ _=c;intro h
 refine tp fun lab f=>?_
 revert f;revert lab;refine al1 ?_;generalize et1 _ _=lab;intro f
 refine h.new f fun c h=>?_
 revert h;revert c;refine al1 ?_;generalize et1 _ _=c;intro h
 refine h.put ct_Parser fun c h=>?_
 revert h;revert c;refine al1 ?_;generalize et1 _ _=c;intro h
 refine h.put ct_Parser fun c h=>?_
 revert h;revert c;refine al1 ?_;generalize et1 _ _=c;intro h
 refine h.put ct_Parser fun c h=>?_
 revert h;revert c;refine al1 ?_;generalize et1 _ _=c;intro h
 refine h.put ct_Parser fun c h=>?_
 revert h;revert c;refine al1 ?_;generalize et1 _ _=c;intro h
 refine tp fun cov f=>?_
 revert f;revert cov;refine al1 ?_;generalize et1 _ _=cov;intro f
 refine h.new f fun c h=>?_
 revert h;revert c;refine al1 ?_;generalize et1 _ _=c;intro h
 refine h.put ct_Parser fun c h=>?_
 revert h;revert c;refine al1 ?_;generalize et1 _ _=c;intro h
 refine ⟨.dict [],.inl rfl,fun com f=>?_⟩
 revert f;revert com;refine al1 ?_;generalize et1 _ _=com;intro f
 refine h.new f fun c h=>?_
 revert h;revert c;refine al1 ?_;generalize et1 _ _=c;intro h
 refine h.put ct_Parser fun c h=>?_
 revert h;revert c;refine al1 ?_;generalize et1 _ _=c;intro h
 refine ⟨.dict [],.inl rfl,fun nar f=>?_⟩
 revert f;revert nar;refine al1 ?_;generalize et1 _ _=nar;intro f
 refine h.new f fun c h=>?_
 revert h;revert c;refine al1 ?_;generalize et1 _ _=c;intro h
 refine h.put ct_Parser fun c h=>?_
 revert h;revert c;refine al1 ?_;generalize et1 _ _=c;intro h
 refine tp fun spl f=>?_
 revert f;revert spl;refine al1 ?_;generalize et1 _ _=spl;intro f
 refine h.new f fun c h=>?_
 revert h;revert c;refine al1 ?_;generalize et1 _ _=c;intro h
 refine h.put ct_Parser fun c h=>?_
 revert h;revert c;refine al1 ?_;generalize et1 _ _=c;intro h
 refine tp fun sav f=>?_
 revert f;revert sav;refine al1 ?_;generalize et1 _ _=sav;intro f
 refine h.new f fun c h=>?_
 revert h;revert c;refine al1 ?_;generalize et1 _ _=c;intro h
 refine h.put ct_Parser fun c h=>?_
 revert h;revert c;refine al1 ?_;generalize et1 _ _=c;intro h
 refine ⟨rfl,?_⟩
 refine ea1_4 h.ex fun b f E M F=>?_
 revert f E M F;revert b;refine al1 ?_;generalize et1 _ _=b;intro f E M F
 have nd:=List.pairwise_iff_getElem.mp h.nd
 exact q ⟨x,d,tl,dg,pt,ft,tt,ty,pend,lab,cov,com,nar,spl,sav⟩ c ⟨f.fx,by refine qE f.md ?_;kernel_rfl,f.m _ _ (M 10 (nb rfl)).1,f.m _ _ (M 9 (nb rfl)).1,f.m _ _ (M 8 (nb rfl)).1,f.m _ _ (M 7 (nb rfl)).1,f.m _ _ (M 4 (nb rfl)).1,f.f _ _ (F 0 (nb rfl))⟩ rfl fd (M 10 (nb rfl)).2 (M 9 (nb rfl)).2 (M 8 (nb rfl)).2 (M 7 (nb rfl)).2 (M 4 (nb rfl)).2
  (nd 7 8 (nb rfl) (nb rfl) (nb rfl)).symm (nd 4 10 (nb rfl) (nb rfl) (nb rfl)).symm (E.trans ⟨f.f,fun a c e ξ=>f.m _ _ e⟩)
end
noncomputable def Disj (σ:Sg):Prop:=∀ a c,σ.F a=some c->σ.M a=none
theorem Wp.post' {α β:Type} {R:β->α->Prop} {K:Kc} {D:Nat} {x:List Value->Sem α} {as:List V} {k:β->Sg->Prop} {σ:Sg} (w:Wp R K D x as (fun c σ1=>Disj σ1->∃ σ2,Gh σ1 σ2/\k c σ2) σ):Wp R K D x as k σ:=
 ⟨fun hr st av q=>w.ok hr st av fun c u σ' h' t' r x s=>by refine ea1_2 (x (fun a c e=>(s.fz a c e).2)) fun σ2 g kx=>?_;exact q _ _ _ _ _ r kx (g _ _ _ _ _ s)⟩
theorem ice1 {y:Addr} {c:Cell} (dj:Disj σ) (h:σ.M y=some c):Disj (σ.ice y c)/\Gh σ (σ.ice y c)/\Ex (fun a=>a=y) σ (σ.ice y c)/\(σ.ice y c).F y=some c:=by
 refine ⟨fun a c' e=>?_,Gh.ice h,⟨fun a c' e=>(upd_other ?_).trans e,fun a c' e n=>(drop_other n).trans e⟩,ice_F⟩
 · by_cases ha:a=y
   · subst ha;exact drop_same
   · exact (drop_other ha).trans (dj a c' ((upd_other ha).symm.trans e))
 · rintro rfl;have:=dj _ _ e;replace this:=h▸this;injection this
noncomputable def Pa.cells (e:Pa):List Addr:=[e.tl,e.pt,e.ft,e.tt,e.cov]
theorem RS.ne {e:Pa} {l ptl ftl} (h:RS σ e l ptl ftl) (n1:e.ft≠e.tt) (n2:e.tl≠e.cov):(e.d::e.cells).Nodup:=by
 have ne:∀ {a b:Addr} {c c':Cell},σ.M a=some c->σ.M b=some c'->c≠c'->a≠b:=fun ha hb hc e=>by subst e;replace hb:=ha▸hb;cases hb;exact hc rfl
 simp only [Pa.cells,List.nodup_cons,List.mem_cons,List.not_mem_nil,or_false,not_or]
 refine ⟨⟨ne h.pd h.tl (by simp),ne h.pd h.pt (by simp),ne h.pd h.ft (by simp),ne h.pd h.tt (by simp),ne h.pd h.cov (by simp)⟩,⟨ne h.tl h.pt (by simp),ne h.tl h.ft (by simp),ne h.tl h.tt (by simp),n2⟩,
  ⟨ne h.pt h.ft (by simp),ne h.pt h.tt (by simp),ne h.pt h.cov (by simp)⟩,⟨n1,ne h.ft h.cov (by simp)⟩,ne h.tt h.cov (by simp),fun h=>h,.nil⟩
theorem RS.ice {e:Pa} {l ptl ftl} (dj:Disj σ) (h:RS σ e l ptl ftl) (nd:(e.d::e.cells).Nodup):∃ σ2,Gh σ σ2/\Ex (fun a=>a∈e.cells) σ σ2/\σ2.F e.tl=some (.list l)/\σ2.F e.pt=some (.idict ptl)/\σ2.F e.ft=some (.dict ftl)/\σ2.F e.tt=some (.dict [])/\σ2.F e.cov=some (.list []):=by
 revert ftl dj h nd
 revert σ e l ptl
 refine no_implicit_lambda% (al4 ?_)
 generalize et4 _ _=υ
 generalize υ.1=σ,υ.2.1=e,υ.2.2.1=l,υ.2.2.2=ptl
 intro ftl dj h nd
 simp only [Pa.cells,List.nodup_cons,List.mem_cons,List.not_mem_nil,or_false,not_or] at nd
 refine ea0_6 nd fun z1 z2 z3 z4 d1 z5=>?_;clear nd;clear z1;refine ea0_4 z2 fun a1 a2 a3 a4=>?_;clear z2;refine ea0_3 z3 fun b1 b2 b3=>?_;clear z3;refine ea0_2 z4 fun c1 c2=>?_;clear z4;clear z5
 refine ea0_4 (ice1 dj h.tl) fun j1 g1 x1 f1=>ea0_4 (ice1 j1 (x1.m _ _ h.pt (Ne.symm a1))) fun j2 g2 x2 f2=>ea0_4 (ice1 j2 (x2.m _ _ (x1.m _ _ h.ft (Ne.symm a2)) (Ne.symm b1))) fun j3 g3 x3 f3=>ea0_4 (ice1 j3 (x3.m _ _ (x2.m _ _ (x1.m _ _ h.tt (Ne.symm a3)) (Ne.symm b2)) (Ne.symm c1))) fun j4 g4 x4 f4=>ea0_4 (ice1 j4 (x4.m _ _ (x3.m _ _ (x2.m _ _ (x1.m _ _ h.cov (Ne.symm a4)) (Ne.symm b3)) (Ne.symm c2)) (Ne.symm d1))) fun j5 g5 x5 f5=>?_
 have w:∀ {y:Addr} {σ σ':Sg},y∈e.cells->Ex (fun a=>a=y) σ σ'->Ex (fun a=>a∈e.cells) σ σ':=fun hy x=>x.wide fun a h=>h▸hy
 refine ⟨_,(((g1.trans g2).trans g3).trans g4).trans g5,((((w (by simp [Pa.cells]) x1).trans (w (by simp [Pa.cells]) x2)).trans (w (by simp [Pa.cells]) x3)).trans (w (by simp [Pa.cells]) x4)).trans (w (by simp [Pa.cells]) x5),x5.f _ _ (x4.f _ _ (x3.f _ _ (x2.f _ _ f1))),x5.f _ _ (x4.f _ _ (x3.f _ _ f2)),x5.f _ _ (x4.f _ _ f3),x5.f _ _ f4,f5⟩
theorem RS.setPt {e:Pa} {l ptl ftl} (h:RS σ e l ptl ftl) (nd:(e.d::e.cells).Nodup) (ptl':List (Int×V)):RS (σ.set e.pt (.idict ptl')) e l ptl' ftl/\Ex (fun a=>a∈e.cells) σ (σ.set e.pt (.idict ptl')):=by
 simp only [Pa.cells,List.nodup_cons,List.mem_cons,List.not_mem_nil,or_false,not_or] at nd
 refine ea0_6 nd fun z1 z2 z3 z4 d1 z5=>?_;clear nd;refine ea0_5 z1 fun e1 e2 e3 e4 e5=>?_;clear z1;refine ea0_4 z2 fun a1 a2 a3 a4=>?_;clear z2;refine ea0_3 z3 fun b1 b2 b3=>?_;clear z3;refine ea0_2 z4 fun c1 c2=>?_;clear z4;clear z5
 have x:Ex (fun a=>a=e.pt) σ (σ.set e.pt (.idict ptl')):=.set rfl
 exact ⟨⟨x.f _ _ h.pi,x.m _ _ h.pd e2,x.m _ _ h.tl a1,set_M,x.m _ _ h.ft (Ne.symm b1),x.m _ _ h.tt (Ne.symm b2),x.m _ _ h.cov (Ne.symm b3),x.f _ _ h.pend⟩,x.wide fun a h=>h▸(by simp [Pa.cells])⟩
theorem RS.setFt {e:Pa} {l ptl ftl} (h:RS σ e l ptl ftl) (nd:(e.d::e.cells).Nodup) (ftl':Loc):RS (σ.set e.ft (.dict ftl')) e l ptl ftl'/\Ex (fun a=>a∈e.cells) σ (σ.set e.ft (.dict ftl')):=by
 simp only [Pa.cells,List.nodup_cons,List.mem_cons,List.not_mem_nil,or_false,not_or] at nd
 refine ea0_6 nd fun z1 z2 z3 z4 d1 z5=>?_;clear nd;refine ea0_5 z1 fun e1 e2 e3 e4 e5=>?_;clear z1;refine ea0_4 z2 fun a1 a2 a3 a4=>?_;clear z2;refine ea0_3 z3 fun b1 b2 b3=>?_;clear z3;refine ea0_2 z4 fun c1 c2=>?_;clear z4;clear z5
 have x:Ex (fun a=>a=e.ft) σ (σ.set e.ft (.dict ftl')):=.set rfl
 exact ⟨⟨x.f _ _ h.pi,x.m _ _ h.pd e3,x.m _ _ h.tl a2,x.m _ _ h.pt b1,set_M,x.m _ _ h.tt (Ne.symm c1),x.m _ _ h.cov (Ne.symm c2),x.f _ _ h.pend⟩,x.wide fun a h=>h▸(by simp [Pa.cells])⟩
noncomputable def mkT:Nat->List (Tk×Bool)->List Tok
 | _,[]=>[]
 | i,p::r=>p.1.tok i p.2::mkT (i+1) r
theorem mkT_len:∀ (i:Nat) (l:List (Tk×Bool)),(mkT i l).length=l.length
 | _,[]=>rfl
 | i,p::r=>by rw [mkT,List.length_cons,List.length_cons,mkT_len]
inductive ToksAt (σ:Sg):List V->List Tok->Prop
 | nil:ToksAt σ [] []
 | cons {a t vs ts}:TokAt σ a t->ToksAt σ vs ts->ToksAt σ (.ref a::vs) (t::ts)
theorem ToksAt.ex {X} {vs ts} (h:ToksAt σ vs ts) (x:Ex X σ σ'):ToksAt σ' vs ts:=by
 induction h with
 | nil=>exact .nil
 | cons a b ih=>exact .cons (a.ex x) ih
theorem ToksAt.snoc {vs ts a t} (h:ToksAt σ vs ts) (b:TokAt σ a t):ToksAt σ (vs++[.ref a]) (ts++[t]):=by
 induction h with
 | nil=>exact .cons b .nil
 | cons c d ih=>exact .cons c ih
theorem ToksAt.len {vs ts} (h:ToksAt σ vs ts):vs.length=ts.length:=by
 induction h with
 | nil=>rfl
 | cons a b ih=>exact qE List.length_cons (qE List.length_cons (qE ih rfl))
theorem ToksAt.adr {vs ts} (h:ToksAt σ vs ts):∃ as:List Addr,vs=as.map .ref/\as.length=ts.length/\∀ (i:Nat) (t:Tok),ts[i]?=some t->∃ a,as[i]?=some a/\TokAt σ a t:=by
 induction h with
 | nil=>exact ⟨[],rfl,rfl,fun i t h=>by simp at h⟩
 | @cons a t vs ts b c ih=>
  refine ea1_3 ih fun as h1 h2 h3=>?_;clear ih
  refine ⟨a::as,by exact qE List.map_cons (qE h1 rfl),by exact qE List.length_cons (qE List.length_cons (qE h2 rfl)),fun i t' h=>?_⟩
  induction i using Nat.casesOn with
  | zero=>simp at h;subst h;exact ⟨a,rfl,b⟩
  | succ i=>simp at h;refine ea1_2 (h3 i t' h) fun a' g1 g2=>?_;exact ⟨a',by simpa using g1,g2⟩
section
theorem ex_new {l:List Addr} (hf:∀ a∈l,Fresh σ a) (h:E0 σ σ1) (x:Ex (fun a=>a∈l) σ1 σ2):E0 σ σ2:=
 ⟨fun a c e=>x.f _ _ (h.f _ _ e),fun a c e n=>x.m _ _ (h.m _ _ e id) fun hm=>by have:=(hf a hm).1;replace e:=this▸e;injection e⟩
structure RB (σ σa σi:Sg) (pa:Pa) (l:List V) (ptl:List (Int×V)) (ftl:Loc) (L:List (Addr×Str×Loc)):Prop where
 rs:RS σi pa l ptl ftl
 ex:E0 σ σi
 xx:Ex (fun a=>a∈pa.cells) σa σi
 nd:(pa.d::pa.cells).Nodup
 fc:∀ a∈pa.cells,Fresh σ a
 rl:∀ (i:Nat) (h:i<L.length),Rule σi L[i].1 L[i].2.1 L[i].2.2
section
variable {pa:Pa} {l:List V} {ptl:List (Int×V)} {ftl:Loc} {L:List (Addr×Str×Loc)}
theorem RB.e0 (h:RB σ σa σ1 pa l ptl ftl L) (x:E0 σ1 σ2):RB σ σa σ2 pa l ptl ftl L:=⟨h.rs.e0 x,h.ex.trans x,h.xx.trans x.px,h.nd,h.fc,fun i hi=>(h.rl i hi).ex x⟩
theorem RB.add {r:Addr} {c:Str} {m:Loc} (h:RB σ σa σ1 pa l ptl ftl L) (x:E0 σ1 σ2) (hr:Rule σ2 r c m):RB σ σa σ2 pa l ptl ftl ((r,c,m)::L):=ea0_6 (show _/\_/\_/\_/\_/\_ from ⟨(h.e0 x).rs,(h.e0 x).ex,(h.e0 x).xx,h.nd,h.fc,(h.e0 x).rl⟩) fun a b c d e f=>⟨a,b,c,d,e,fun i hi=>match i with
 | 0=>hr
 | i+1=>f i (Nat.lt_of_succ_lt_succ hi)⟩
theorem RB.up (h:RB σ σa σ1 pa l ptl ftl L) {ptl' ftl'} (x:RS σ2 pa l ptl' ftl'/\Ex (fun a=>a∈pa.cells) σ1 σ2):RB σ σa σ2 pa l ptl' ftl' L:=⟨x.1,ex_new h.fc h.ex x.2,h.xx.trans x.2,h.nd,h.fc,fun i hi=>(h.rl i hi).ex x.2⟩
theorem RB.pt {P:Sg->Prop} {ptl'} (h:RB σ σa σ1 pa l ptl ftl L) (q:∀ σ2,RB σ σa σ2 pa l ptl' ftl L->P σ2):P (σ1.set pa.pt (.idict ptl')):=q _ (h.up (h.rs.setPt h.nd _))
theorem RB.ft {P:Sg->Prop} {ftl'} (h:RB σ σa σ1 pa l ptl ftl L) (q:∀ σ2,RB σ σa σ2 pa l ptl ftl' L->P σ2):P (σ1.set pa.ft (.dict ftl')):=q _ (h.up (h.rs.setFt h.nd _))
end
theorem kset_new {κ:Type} [DecidableEq κ] {m:List (κ×V)} {s:κ} {a:V} (h:(m.map (·.1)).any (fun x=>decide (x=s))=false):kset m s a=m++[(s,a)]:=by
 unfold kset
 rw [if_neg]
 intro hc
 replace h:=List.any_map▸h
 have:(m.any fun kv=>decide (kv.1=s))=true:=hc
 replace this:=h▸(show (m.any fun kv=>decide (kv.1=s))=m.any ((fun x=>decide (x=s)) ∘ fun x=>x.1) from rfl)▸this
 injection this
noncomputable def words4:List (Str×Int):=[("true",4),("false",5),("null",6),("this",9)]
noncomputable abbrev ft5 (r1 r2 r3 r4 r5:Addr):Loc:=[("#name",.ref r1),("#num",.ref r2),("#str",.ref r3),("#tpl",.ref r4),("(",.ref r5)]
noncomputable def K5:List Str:=["#name","#num","#str","#tpl","("]
theorem zip_fst_take {α β:Type}:∀ (l:List α) (ws:List β),(l.zip ws).map (·.1)=l.take ws.length
 | [],ws=>by simp
 | a::l,[]=>by simp
 | a::l,w::ws=>by exact qE List.zip_cons_cons (qE List.map_cons (qE (zip_fst_take l ws) (qE List.length_cons (qE List.take_succ_cons rfl))))
theorem zip_snoc {α β:Type}:∀ (l:List α) (ws:List β) (x:β) (p:α),l[ws.length]?=some p->l.zip (ws++[x])=l.zip ws++[(p,x)]
 | [],ws,x,p,h=>by simp at h
 | a::l,[],x,p,h=>by simp at h;subst h;simp
 | a::l,w::ws,x,p,h=>by
  replace h:=List.getElem?_cons_succ▸List.length_cons▸h
  refine qE List.cons_append (qE List.zip_cons_cons (qE List.zip_cons_cons (qE (zip_snoc l ws x p h) ?_)));rfl
theorem words_new {n:Nat} {w:Str} {i:Int} (h:words4[n]?=some (w,i)):((K5++(words4.take n).map (·.1)).any fun x=>decide (x=w))=false:=by
 have key:((List.range 4).all fun n=>match words4[n]? with | some p=>!((K5++(words4.take n).map (·.1)).any fun x=>decide (x=p.1)) | none=>true)=true:=by decide +kernel
 have hn:n<4:=(List.getElem?_eq_some_iff.mp h).1
 have:=List.all_eq_true.mp key n (List.mem_range.mpr hn)
 replace this:=h▸this
 simpa using this
noncomputable def fts (r1 r2 r3 r4 r5:Addr) (ws:List Addr):Loc:=ft5 r1 r2 r3 r4 r5++(words4.zip ws).map fun p=>((p.1.1,V.ref p.2):Str×V)
theorem fts_keys {r1 r2 r3 r4 r5:Addr} {ws:List Addr}:(fts r1 r2 r3 r4 r5 ws).map (·.1)=K5++(words4.take ws.length).map (·.1):=by
 unfold fts
 rw [List.map_append,List.map_map,← zip_fst_take,List.map_map]
 rfl
theorem fts_set {r1 r2 r3 r4 r5 x:Addr} {ws:List Addr} {w:Str} {i:Int} (h:words4[ws.length]?=some (w,i)):kset (fts r1 r2 r3 r4 r5 ws) w (.ref x)=fts r1 r2 r3 r4 r5 (ws++[x]):=by
 rw [kset_new (by refine qE fts_keys ?_;exact words_new h)]
 unfold fts
 rw [zip_snoc _ _ _ _ h,List.map_append,List.append_assoc];rfl
theorem fts_len {r1 r2 r3 r4 r5:Addr} {ws:List Addr}:(fts r1 r2 r3 r4 r5 ws).length<=9:=by
 unfold fts
 rw [List.length_append,List.length_map,List.length_zip]
 have:words4.length=4:=rfl
 simp only [List.length_cons,List.length_nil]
 lia
noncomputable def endTok (n:Nat):Tok:=⟨0,"",0,((3 * n+2:Nat):Int),((3 * n+2:Nat):Int),false⟩
theorem c_reader {dg dd rl:Addr} (G:GSt σ e s) (hs:s.toks.length<=900) (hdg:σ.F dg=some (.inst "Diags" dd)) (hdd:σ.F dd=some (.ns [("rows",.ref rl),("file",.str "")])) (hrl:σ.M rl=some (.list [])) (hD:4<=D)
 (q:∀ (P:Pe) σ',P.tks=mkT 0 s.toks++[endTok s.toks.length]->P.dg=dg->PSt σ' P ⟨0,0,true,false,[]⟩->σ'.F P.pend=some (.tup [.str "",.int 0,.int 0])->E0 σ σ'->P.rl=rl->Fresh σ P.d->k (.ref P.p) σ'):CallV K D (fA K 175) [.ref e.g,.ref dg] k σ:=by
 revert G hs hdg hdd hrl hD q;revert K D σ k e s dg dd rl;refine no_implicit_lambda% (al9 (n:=⟨(kc0,default)⟩) ?_);generalize et9 _ _=υ;generalize υ.1=K,υ.2.1=D,υ.2.2.1=σ,υ.2.2.2.1=k,υ.2.2.2.2.1=e,υ.2.2.2.2.2.1=s,υ.2.2.2.2.2.2.1=dg,υ.2.2.2.2.2.2.2.1=dd,υ.2.2.2.2.2.2.2.2=rl;clear υ;intro G hs hdg hdd hrl hD q
 refine ea1_2 G.tk fun rows hr ht=>?_
 have hlen:=ht.len
 refine Wp.post' (cFn 175 2 (dl hD) ?_)
 intro A env L hrr fe
 refine comp_asg (sc:=fSc (stAt 175)) (by decide +kernel) ?_ hrr fe
 refine gItem G (fun nx=>gget.2.2.1) (⟨e.tk,rows,fun l o σ'=>∃ i ps dn,TksAt σ' i l ps/\ToksAt σ' o dn/\dn++mkT i ps=mkT 0 s.toks/\E0 σ σ',rfl,by lia,⟨0,s.toks,[],ht,.nil,rfl,.refl⟩,fun l o σ' h=>by refine ea3_4 h fun ξ ξ ξ ξ ξ ξ h=>?_;exact hM (h.m _ _ hr id),?_,?_⟩)
 · intro v l o σ2 z1;refine ea3_4 z1 fun i ps dn g1 g2 g3 E2=>?_;clear z1
   cases g1 with
   | @cons i v p vs ps h1 h2=>
    refine ea1_2 h1 fun a z1 ha=>?_;clear h1;subst z1
    refine ⟨rfl,unpT (hF ha) rfl ?_⟩
    refine ⟨rfl,?_⟩
    exact gCls 63 ct_Token (addI (c_token (t:=p.1.tok i p.2) (Mine.dn hD) fun x σ3 hx E3=>⟨i+1,ps,dn++[p.1.tok i p.2],h2.ex E3,(g2.ex E3).snoc hx,by rw [List.append_assoc];exact g3,E2.trans E3⟩))
 · intro o σ2 z1;refine ea3_4 z1 fun i ps dn g1 g2 g3 E2=>?_;clear z1;intro y fy
   cases g1
   rw [show mkT i []=[] from rfl,List.append_nil] at g3
   subst g3
   refine set1 fy fun σ3 E3 hy3=>?_
   have g4:=g2.ex E3
   have hol:o.length=s.toks.length:=by rw [g2.len,mkT_len]
   have ny:σ.M y=none:=(E2.low fy).1
   have E03:=E2.trans E3
   refine ⟨_,g_len.1,g_len.2,?_⟩
   refine lenL (hM hy3) (by lia) (qE hol (mul3 (addI (qE (show (((3 * s.toks.length:Nat):Int)+2)=((3 * s.toks.length+2:Nat):Int) by lia) (⟨_,(mAppend (hM hy3)).1,(mAppend (hM hy3)).2,?_⟩)))))
   refine gCls 63 ct_Token (c_token (t:=endTok s.toks.length) (Mine.dn hD) fun xe σ4 hxe E4=>?_)
   have hy4:=E4.m _ _ hy3 id
   refine cAppend hy4 (by lia) ?_
   have E5:Ex (fun a=>a=y) σ4 (σ4.set y (.list (o++[.ref xe]))):=.set rfl
   have hy5:(σ4.set y (.list (o++[.ref xe]))).M y=some (.list (o++[.ref xe])):=set_M
   have g5:=((g4.ex E4).snoc hxe).ex E5
   have E05:E0 σ (σ4.set y (.list (o++[.ref xe]))):=(E03.trans E4).setN ny
   revert E05;revert g5;revert hy5;revert E5;refine gn (σ4.set y (.list (o++[.ref xe]))) fun σ5 E5 hy5 g5 E05=>?_
   refine gCls 84 ct_Parser (c_parser hy5 (by refine qE List.length_append (qE List.length_singleton ?_);lia) (Mine.dn hD) fun pa σ6 R6 hpd f1 f2 f3 f4 f5 f6 n1 n2 E6=>?_)
   have nd:=R6.ne n1 n2
   have g6:=g5.ex E6
   have fc:∀ a∈pa.cells,Fresh σ a:=fun a ha=>by
    simp only [Pa.cells,List.mem_cons,List.not_mem_nil,or_false] at ha
    rcases ha with rfl | rfl | rfl | rfl | rfl
    · exact E05.low f2
    · exact E05.low f3
    · exact E05.low f4
    · exact E05.low f5
    · exact E05.low f6
   have fd:=E05.low f1
   have h:RB σ σ6 σ6 pa (o++[.ref xe]) [] [] []:=⟨R6,E05.trans E6,.refl,nd,fc,fun i h=>absurd h (Nat.not_lt_zero i)⟩
   refine gCls 137 ct_ExprPart (rule0 137 83 ct_ExprPart (by decide +kernel) (fun xp σb hr E ξ=>?_))
   replace h:=h.add E hr
   refine getW ct_Parser (hF h.rs.pi) (hM h.rs.pd) (setDI h.rs.pt (nb (by kernel_rfl)) (h.pt fun σb h=>gCls 106 ct_NamePart (rule0 106 83 ct_NamePart (by decide +kernel) (fun np σb hr E ξ=>?_))))
   replace h:=h.add E hr
   refine getW ct_Parser (hF h.rs.pi) (hM h.rs.pd) (setDI h.rs.pt (nb (by kernel_rfl)) (h.pt fun σb h=>gCls 161 ct_NameRule (rule0 161 136 ct_NameRule (by decide +kernel) (fun r1 σb hr E ξ=>?_))))
   replace h:=h.add E hr
   refine getW ct_Parser (hF h.rs.pi) (hM h.rs.pd) (setD h.rs.ft (nb (by kernel_rfl)) (h.ft fun σb h=>gCls 158 ct_NumRule (rule0 158 136 ct_NumRule (by decide +kernel) (fun r2 σb hr E ξ=>?_))))
   replace h:=h.add E hr
   refine getW ct_Parser (hF h.rs.pi) (hM h.rs.pd) (setD h.rs.ft (nb (by kernel_rfl)) (h.ft fun σb h=>gCls 159 ct_StrRule (rule0 159 136 ct_StrRule (by decide +kernel) (fun r3 σb hr E ξ=>?_))))
   replace h:=h.add E hr
   refine getW ct_Parser (hF h.rs.pi) (hM h.rs.pd) (setD h.rs.ft (nb (by kernel_rfl)) (h.ft fun σb h=>gCls 160 ct_TplFirst (rule0 160 136 ct_TplFirst (by decide +kernel) (fun r4 σb hr E ξ=>?_))))
   replace h:=h.add E hr
   refine getW ct_Parser (hF h.rs.pi) (hM h.rs.pd) (setD h.rs.ft (nb (by kernel_rfl)) (h.ft fun σb h=>gCls 163 ct_ParenRule (rule0 163 136 ct_ParenRule (by decide +kernel) (fun r5 σb hr E ξ=>?_))))
   replace h:=h.add E hr
   refine getW ct_Parser (hF h.rs.pi) (hM h.rs.pd) (setD h.rs.ft (nb (by kernel_rfl)) (h.ft fun σb h=>?_))
   replace h:RB σ σ6 σb pa (o++[.ref xe]) [(2,.ref xp),(1,.ref np)] (fts r1 r2 r3 r4 r5 []) _:=(show kset (kset ([]:List (Int×V)) 2 (V.ref xp)) 1 (.ref np)=([(2,.ref xp),(1,.ref np)]:List (Int×V)) from by kernel_rfl)▸(show kset (kset (kset (kset (kset ([]:Loc) "#name" (.ref r1)) "#num" (.ref r2)) "#str" (.ref r3)) "#tpl" (.ref r4)) "(" (.ref r5)=fts r1 r2 r3 r4 r5 [] from by kernel_rfl)▸h
   refine tp fun t1 ft1=>tp fun t2 ft2=>tp fun t3 ft3=>tp fun t4 ft4=>tp fun t5 ft5=>fzG [(t1,.tup [.str "true",.int 4]),(t2,.tup [.str "false",.int 5]),(t3,.tup [.str "null",.int 6]),(t4,.tup [.str "this",.int 9]),(t5,.tup [.ref t1,.ref t2,.ref t3,.ref t4])] ⟨ft1,ft2,ft3,ft4,ft5,trivial⟩ fun σ21 E1 kt=>?_
   replace h:=h.e0 E1
   have k5:=kt 4 (nb rfl)
   have item:∀ (n:Nat) (v:V),([.ref t1,.ref t2,.ref t3,.ref t4]:List V)[n]?=some v->∃ (t:Addr) (w:Str) (i:Int),v=V.ref t/\σ21.F t=some (.tup [.str w,.int i])/\words4[n]?=some (w,i):=by
    intro n v h
    match n with
    | 0=>cases h;exact ⟨t1,_,_,rfl,kt 0 (nb rfl),rfl⟩
    | 1=>cases h;exact ⟨t2,_,_,rfl,kt 1 (nb rfl),rfl⟩
    | 2=>cases h;exact ⟨t3,_,_,rfl,kt 2 (nb rfl),rfl⟩
    | 3=>cases h;exact ⟨t4,_,_,rfl,kt 3 (nb rfl),rfl⟩
    | n+4=>simp at h
   refine forI 5 (.tup t5) ([.ref t1,.ref t2,.ref t3,.ref t4]) (fun rem m' σ'=>∃ ws:List Addr,rem=([.ref t1,.ref t2,.ref t3,.ref t4]:List V).drop ws.length/\RS σ' pa (o++[.ref xe]) [(2,.ref xp),(1,.ref np)] (fts r1 r2 r3 r4 r5 ws)/\(∀ p∈words4.zip ws,Rule σ' p.2 "WordFirst" [("kind",.int p.1.2)])/\Ex (fun a=>a∈pa.cells) σ21 σ'/\E0 σ σ' ∧
    m'=([("st",.ref e.g),("diags",.ref dg),("rows",.ref y),("at",.int ((3 * s.toks.length+2:Nat):Int)),("p",.ref pa.p)]:Loc))
    ⟨[],rfl,h.rs,fun p hp=>by simp at hp,.refl,h.ex,rfl⟩ (fun rem m' σ' h=>by refine ea1_5 h fun ξ ξ ξ ξ h ξ=>?_;exact hF (h.f _ _ k5)) ?_ ?_
   · intro Iv hin v rem m' σa z1;refine ea1_1 z1 fun ws y26=>?_;refine ea0_6 y26 fun hrem R hw X E0a z2=>?_;clear y26;clear z1;subst z2
     have hg:([.ref t1,.ref t2,.ref t3,.ref t4]:List V)[ws.length]?=some v:=by
      have:=congrArg (fun l=>l[0]?) hrem
      simpa using this.symm
     refine ea3_3 (item _ _ hg) fun t w i z1 ht hwi=>?_;subst z1
     have hrem2:rem=([.ref t1,.ref t2,.ref t3,.ref t4]:List V).drop (ws.length+1):=by
      have:=congrArg List.tail hrem
      simpa using this
     refine ⟨rfl,unpT (hF (X.f _ _ ht)) rfl ?_⟩
     refine ⟨rfl,?_⟩
     refine gCls 162 ct_WordFirst (c_word (Mine.dn hD) fun x σb hx Eb fx=>?_)
     have Rb:=R.e0 Eb
     refine getW ct_Parser (hF Rb.pi) (hM Rb.pd) (setD Rb.ft (Nat.le_trans fts_len (by decide)) (qE (fts_set hwi) ?_))
     have Sb:=Rb.setFt nd (fts r1 r2 r3 r4 r5 (ws++[x]))
     refine hin _ _ _ ⟨ws++[x],by refine qE List.length_append (qE List.length_singleton ?_);exact hrem2,Sb.1,fun p hp=>?_,(X.trans Eb.px).trans Sb.2,ex_new fc (E0a.trans Eb) Sb.2,rfl⟩
     rw [zip_snoc _ _ _ _ hwi,List.mem_append,List.mem_singleton] at hp
     rcases hp with hp | rfl
     · exact ((hw p hp).ex Eb).ex Sb.2
     · exact hx.ex Sb.2
   · intro m' σa z1;refine ea1_1 z1 fun ws y27=>?_;refine ea0_6 y27 fun hrem R hw X E0a z2=>?_;clear y27;clear z1;subst z2
     have hwl:4<=ws.length:=by
      have:=congrArg List.length hrem
      replace this:=List.length_drop▸this
      simp only [List.length_nil,List.length_cons] at this
      lia
     obtain ⟨w1,w2,w3,w4,wr,rfl⟩:∃ w1 w2 w3 w4 wr,ws=w1::w2::w3::w4::wr:=by
      match ws,hwl with
      | w1::w2::w3::w4::wr,_=>exact ⟨w1,w2,w3,w4,wr,rfl⟩
      | [],h=>exact absurd h (by decide)
      | [_],h=>exact absurd h (by simp)
      | [_,_],h=>exact absurd h (by simp)
      | [_,_,_],h=>exact absurd h (by simp)
     have hz:words4.zip (w1::w2::w3::w4::wr)=([(("true",4),w1),(("false",5),w2),(("null",6),w3),(("this",9),w4)]:List ((Str×Int)×Addr)):=rfl
     replace hw:=hz▸hw
     have hft:fts r1 r2 r3 r4 r5 (w1::w2::w3::w4::wr)=([("#name",.ref r1),("#num",.ref r2),("#str",.ref r3),("#tpl",.ref r4),("(",.ref r5),("true",.ref w1),("false",.ref w2),("null",.ref w3),("this",.ref w4)]:Loc):=rfl
     replace R:=hft▸R
     refine ea1_3 (((g6.ex h.xx).ex X).adr) fun as has hal hat=>?_
     have fin:Disj σa->∃ σ2,Gh σa σ2/\k (.ref pa.p) σ2:=fun dj=>by
      refine ea1_1 (R.ice dj nd) fun σz y28=>?_;refine ea0_7 y28 fun gz xz z1 z2 z3 z4 z5=>?_;clear y28
      subst hpd
      have Xz:=X.trans xz
      have nrl:pa.d≠rl:=fun h=>by have:=fd.1;replace this:=hrl▸h▸this;injection this
      have E0z:=ex_new fc E0a xz
      have nd1:pa.d ∉ pa.cells:=(List.nodup_cons.mp nd).1
      refine ⟨σz,gz,q ⟨pa.p,pa.d,pa.tl,as,mkT 0 s.toks++[endTok s.toks.length],pa.dg,dd,rl,pa.pt,xp,0,np,0,pa.ft,r1,r2,r3,r4,r5,w1,w2,w3,w4,pa.tt,pa.ty,pa.pend,pa.lab,pa.cov,pa.com,pa.nar,pa.spl,pa.sav⟩ σz rfl rfl ?_ (xz.f _ _ R.pend) E0z rfl fd⟩
      have m1:((("true",4),w1):(Str×Int)×Addr)∈([(("true",4),w1),(("false",5),w2),(("null",6),w3),(("this",9),w4)]:List ((Str×Int)×Addr)):=by simp
      have m2:((("false",5),w2):(Str×Int)×Addr)∈([(("true",4),w1),(("false",5),w2),(("null",6),w3),(("this",9),w4)]:List ((Str×Int)×Addr)):=by simp
      have m3:((("null",6),w3):(Str×Int)×Addr)∈([(("true",4),w1),(("false",5),w2),(("null",6),w3),(("this",9),w4)]:List ((Str×Int)×Addr)):=by simp
      have m4:((("this",9),w4):(Str×Int)×Addr)∈([(("true",4),w1),(("false",5),w2),(("null",6),w3),(("this",9),w4)]:List ((Str×Int)×Addr)):=by simp
      exact ⟨⟨xz.f _ _ R.pi,by exact qE z1 (qE has rfl),fun i t ht=>by refine ea1_2 (hat i t ht) fun a h1 h2=>?_;exact ⟨a,h1,h2.ex xz⟩,hal,by rw [List.length_append,mkT_len,List.length_singleton];lia,E0z.f _ _ hdg,E0z.f _ _ hdd,z2,(h.rl 6 (nb rfl)).ex Xz,(h.rl 5 (nb rfl)).ex Xz,z3,(h.rl 4 (nb rfl)).ex Xz,(h.rl 3 (nb rfl)).ex Xz,(h.rl 2 (nb rfl)).ex Xz,(h.rl 1 (nb rfl)).ex Xz,(h.rl 0 (nb rfl)).ex Xz,
       (hw _ m1).ex xz,(hw _ m2).ex xz,(hw _ m3).ex xz,(hw _ m4).ex xz,z4,z5,nrl⟩,xz.m _ _ R.pd nd1,⟨[],E0z.m _ _ hrl id,.nil⟩,Nat.zero_le _⟩
     exact fin
end
noncomputable def Blk (L:List Tok) (i:Nat) (l:List (Tk×Bool)):Prop:=∀ j p,l[j]?=some p->L[i+j]?=some (p.1.tok (i+j) p.2)
theorem Blk.app {L:List Tok} {i:Nat} {a b:List (Tk×Bool)} (h:Blk L i (a++b)):Blk L i a/\Blk L (i+a.length) b:=by
 refine ⟨fun j p hp=>h j p ?_,fun j p hp=>?_⟩
 · refine qE (List.getElem?_append_left (List.getElem?_eq_some_iff.mp hp).1) ?_;exact hp
 · have:=h (a.length+j) p (by rw [List.getElem?_append_right (Nat.le_add_right _ _),Nat.add_sub_cancel_left];exact hp)
   rw [← Nat.add_assoc] at this;exact this
theorem Blk.hd {L:List Tok} {i:Nat} {p:Tk×Bool} {b:List (Tk×Bool)} (h:Blk L i (p::b)):L[i]?=some (p.1.tok i p.2)/\Blk L (i+1) b:=
 ⟨h 0 p rfl,fun j q hq=>by have:=h (j+1) q (by simpa using hq);replace this:=(show i+(j+1)=i+1+j by lia)▸this;exact this⟩
theorem blk_on {L:List Tok}:∀ (v:T) (i:Nat),Blk L i (fl0 v.tks)->v.On L i
 | .leaf l,i,h=>(Blk.hd h).1
 | .sg w c,i,h=>⟨(Blk.hd h).1,blk_on c (i+1) (Blk.hd h).2⟩
 | .tp1 c,i,h=>by
  have h1:=Blk.hd h
  have h2:=Blk.app (a:=fl0 c.tks) (b:=fl0 [⟨9,"t",0⟩]) (by refine qB fl0_app ?_;exact h1.2)
  rw [List.length_map,T.tks_len] at h2
  exact ⟨h1.1,blk_on c _ h2.1,(Blk.hd h2.2).1⟩
 | .tp2 a b,i,h=>by
  have h1:=Blk.hd h
  have h2:=Blk.app (a:=fl0 a.tks) (b:=fl0 (⟨8,"m",0⟩::(b.tks++[⟨9,"t",0⟩]))) (by refine qB fl0_app ?_;exact h1.2)
  rw [List.length_map,T.tks_len] at h2
  have h3:=Blk.hd h2.2
  have h4:=Blk.app (a:=fl0 b.tks) (b:=fl0 [⟨9,"t",0⟩]) (by refine qB fl0_app ?_;exact h3.2)
  rw [List.length_map,T.tks_len,show i+1+a.sz+1=i+2+a.sz by lia] at h4
  exact ⟨h1.1,blk_on a _ h2.1,h3.1,blk_on b _ h4.1,(Blk.hd h4.2).1⟩
 | .par c,i,h=>by
  have h1:=Blk.hd h
  have h2:=Blk.app (a:=fl0 c.tks) (b:=fl0 [⟨5,")",0⟩]) (by refine qB fl0_app ?_;exact h1.2)
  rw [List.length_map,T.tks_len] at h2
  exact ⟨h1.1,blk_on c _ h2.1,(Blk.hd h2.2).1⟩
 | .sum w l r,i,h=>by
  have h2:=Blk.app (a:=fl0 l.tks) (b:=fl0 (⟨5,w,0⟩::r.tks)) (by refine qB fl0_app ?_;exact h)
  rw [List.length_map,T.tks_len] at h2
  have h3:=Blk.hd h2.2
  replace h3:=(show i+l.sz+1=i+1+l.sz by lia)▸h3
  exact ⟨blk_on l _ h2.1,h3.1,blk_on r _ h3.2⟩
theorem blk_seq {L:List Tok}:∀ (xs:List Tk) (ln:Bool) (i:Nat),Blk L i (flg ln xs)->SeqOn L ln xs i
 | [],_,_,_=>trivial
 | x::r,ln,i,h=>by
  refine ⟨(Blk.hd h).1,blk_seq r false (i+1) ?_⟩
  have:=(Blk.hd h).2
  induction r using List.casesOn with
  | nil=>exact fun j p hp=>by simp [flg] at hp
  | cons y r=>exact this
theorem flg_cut {ln:Bool} {a:List Tk} {x:Tk} {b:List Tk}:flg ln (a++(x::b))=flg ln (a++[x])++fl0 b:=by
 induction a using List.casesOn with
 | nil=>rfl
 | cons y a=>
  show (y,ln)::fl0 (a++x::b)=((y,ln)::fl0 (a++[x]))++fl0 b
  rw [List.cons_append,← fl0_app,List.append_assoc];rfl
theorem flg_len {ln:Bool} {a:List Tk}:(flg ln a).length=a.length:=by
 induction a using List.casesOn with
 | nil=>rfl
 | cons y a=>show ((y,ln)::fl0 a).length=_;rw [List.length_cons,List.length_map];rfl
namespace Fd
noncomputable def rest (f:Fd):List Tk:=optTk f.opt++(kdTk f.kind++(iniTk f.init++(if f.semi then [⟨5,";",0⟩] else [])))
theorem tks_eq (f:Fd):f.tks=f.mods.map nmTk++(f.nt::f.rest):=rfl
theorem jE_eq (f:Fd) (i:Nat):f.jE i=i+f.tks.length:=by
 obtain ⟨M,nt,opt,kind,o,semi⟩:=f
 unfold jE j3 j2 j1 j0 tks
 simp only [List.length_append,List.length_cons,List.length_map]
 have h1:(optTk opt).length=opt.toNat:=by cases opt <;> rfl
 have h2:(kdTk kind).length=2 * kind.toNat:=by cases kind <;> rfl
 have h3:(if semi=true then [(⟨5,";",0⟩:Tk)] else []).length=semi.toNat:=by cases semi <;> rfl
 refine qE h1 (qE h2 (qE h3 ?_))
 induction o with
 | none=>simp only [iniTk,List.length_nil];lia
 | some v=>simp only [iniTk,List.length_cons,T.tks_len];lia
end Fd
theorem fj3 {M:List Str} {nt:Tk} {opt kind:Bool} {o:Option T} {semi:Bool} {i:Nat}:i+M.length+1+opt.toNat+2 * kind.toNat+(iniTk o).length=Fd.j3 ⟨M,nt,opt,kind,o,semi⟩ i:=by
 unfold Fd.j3 Fd.j2 Fd.j1 Fd.j0
 induction o with
 | none=>rfl
 | some v=>simp only [iniTk,List.length_cons,T.tks_len];lia
theorem optTk_len (b:Bool):(optTk b).length=b.toNat:=by cases b <;> rfl
theorem kdTk_len (b:Bool):(kdTk b).length=2 * b.toNat:=by cases b <;> rfl
theorem fd_on {L:List Tok} {f:Fd} {ln:Bool} {i:Nat} (h:Blk L i (flg ln f.tks)):f.On L ln i:=by
 obtain ⟨M,nt,opt,kind,o,semi⟩:=f
 rw [Fd.tks_eq,flg_cut] at h
 have h1:=Blk.app h
 rw [flg_len,List.length_append,List.length_map] at h1
 have e0:i+(M.length+[nt].length)=i+M.length+1:=by simp only [List.length_cons,List.length_nil];lia
 have h1:Blk L i (flg ln (M.map nmTk++[nt]))/\Blk L (i+M.length+1) (fl0 (optTk opt++(kdTk kind++(iniTk o++(if semi then [⟨5,";",0⟩] else []))))):=⟨h1.1,e0▸h1.2⟩
 refine ea0_2 h1 fun a1 a2=>?_;clear h1
 replace a2:=fl0_app▸a2
 have b:=Blk.app a2
 rw [List.length_map,show (optTk opt).length=opt.toNat from optTk_len opt] at b
 refine ea0_2 b fun b1 b2=>?_;clear b
 replace b2:=fl0_app▸b2
 have c:=Blk.app b2
 rw [List.length_map,show (kdTk kind).length=2 * kind.toNat from kdTk_len kind] at c
 refine ea0_2 c fun c1 c2=>?_;clear c
 replace c2:=fl0_app▸c2
 have d:=Blk.app c2
 rw [List.length_map] at d
 refine ea0_2 d fun d1 d2=>?_;clear d
 refine ⟨blk_seq _ _ _ a1,fun ho=>?_,fun hk=>?_,fun v hv=>?_,fun hs=>?_⟩
 · have ho:opt=true:=ho
   replace b1:=ho▸b1
   exact (Blk.hd b1).1
 · have hk:kind=true:=hk
   replace c1:=hk▸c1
   exact ⟨(Blk.hd c1).1,(Blk.hd (Blk.hd c1).2).1⟩
 · have hv:o=some v:=hv
   replace d1:=hv▸d1
   exact ⟨(Blk.hd d1).1,blk_on v _ (Blk.hd d1).2⟩
 · have hs:semi=true:=hs
   replace d2:=hs▸d2
   have:=(Blk.hd d2).1
   replace this:=(fj3 (nt:=nt) (semi:=semi))▸this
   exact this
noncomputable def FT:Bool->List Fd->List (Tk×Bool)
 | _,[]=>[]
 | ln,f::r=>flg ln f.tks++FT (!f.semi) r
noncomputable def lnOf:Bool->List Fd->Bool
 | ln,[]=>ln
 | _,f::r=>lnOf (!f.semi) r
theorem FT_snoc {f:Fd}:∀ {fds:List Fd} {ln:Bool},FT ln (fds++[f])=FT ln fds++flg (lnOf ln fds) f.tks
 | [],ln=>by show flg ln f.tks++[]=[]++_;rw [List.append_nil,List.nil_append];rfl
 | g::r,ln=>by rw [List.cons_append,FT,FT,FT_snoc,List.append_assoc];rfl
theorem lnOf_snoc {f:Fd}:∀ {fds:List Fd} {ln:Bool},lnOf ln (fds++[f])=!f.semi
 | [],ln=>rfl
 | g::r,ln=>by rw [List.cons_append,lnOf,lnOf_snoc]
theorem earlyOf_snoc {f:Fd}:∀ {fds:List Fd} {i:Nat},earlyOf (fds++[f]) i=earlyOf fds i++f.tl (endOf fds i)
 | [],i=>by show f.tl i++[]=[]++f.tl i;rw [List.append_nil,List.nil_append]
 | g::r,i=>by rw [List.cons_append,earlyOf,earlyOf_snoc,earlyOf,List.append_assoc];rfl
theorem lateAll_snoc {m:Mem}:∀ {ms:List Mem},lateAll (ms++[m])=lateAll ms++m.late
 | []=>by show m.late++[]=[]++m.late;rw [List.append_nil,List.nil_append]
 | g::r=>by rw [List.cons_append,lateAll,lateAll_snoc,lateAll,List.append_assoc]
theorem FT_len:∀ {fds:List Fd} {ln:Bool} {i:Nat},endOf fds i=i+(FT ln fds).length
 | [],_,_=>rfl
 | f::r,ln,i=>by rw [endOf,FT,List.length_append,flg_len,FT_len (fds:=r) (ln:=!f.semi),Fd.jE_eq];lia
theorem fds_on {L:List Tok}:∀ (fds:List Fd) (ln:Bool) (i:Nat),(∀ f∈fds,f.Ok/\FdFst f)->Blk L i (FT ln fds++[(⟨5,"}",0⟩,lnOf ln fds)])->FdsOn L ln fds i
 | [],ln,i,_,h=>(Blk.hd h).1
 | f::r,ln,i,hok,h=>by
  refine ea0_2 (hok f (List.mem_cons_self ..)) fun ok z1=>?_;clear z1
  rw [FT,List.append_assoc] at h
  have h1:=Blk.app h
  rw [flg_len,← Fd.jE_eq] at h1
  have on:=fd_on h1.1
  refine ⟨ok,on,?_,fds_on r _ _ (fun g hg=>hok g (List.mem_cons_of_mem _ hg)) h1.2⟩
  induction hs:f.semi with
  | true=>exact ⟨_,on.semi hs,endSemi _⟩
  | false=>
   have hj:f.j3 i=f.jE i:=by unfold Fd.jE;refine qE hs ?_;rfl
   refine qE hj ?_
   have h2:=h1.2
   replace h2:=hs▸h2
   induction r using List.casesOn with
   | nil=>
    refine ⟨_,(Blk.hd h2).1,endNx ⟨by show (!f.semi)=true;refine qE hs ?_;rfl,.inr ⟨rfl,rfl⟩,fun h=>?_⟩⟩
    exact absurd h (by show ¬ (5:Int)=1;decide)
   | cons g r=>
    refine ea0_2 (hok g (List.mem_cons_of_mem _ (List.mem_cons_self ..))) fun z1 z2=>?_;clear z1;refine ea2_3 z2 fun x rr e h3 h4=>?_;clear z2
    rw [FT,e] at h2
    exact ⟨_,(Blk.hd h2).1,endNx ⟨rfl,.inl h3,fun ξ=>h4.1⟩⟩
theorem mkT_blk:∀ (l:List (Tk×Bool)) (i:Nat) (R:List Tok) (pre:List Tok),pre.length=i->Blk (pre++(mkT i l++R)) i l
 | [],i,R,pre,h=>fun j p hp=>by simp at hp
 | q::r,i,R,pre,h=>fun j p hp=>by
  induction j using Nat.casesOn with
  | zero=>
   simp only [List.getElem?_cons_zero,Option.some.injEq] at hp
   subst hp
   rw [Nat.add_zero,List.getElem?_append_right (by lia),h,Nat.sub_self];rfl
  | succ j=>
   have:=mkT_blk r (i+1) R (pre++[q.1.tok i q.2]) (by refine qE List.length_append (qE h ?_);rfl) j p (by simpa using hp)
   rw [List.append_assoc] at this
   exact qE (show i+(j+1)=i+1+j by lia) this
noncomputable abbrev Lap:=Option (Bool×Int×Int)
noncomputable def mkM:List Lap->List Fd->Nat->List Mem
 | [],_,_=>[]
 | some (b,fl,t)::r,fds,i=>.me b fl t::mkM r fds i
 | none::r,f::fds,i=>.fd f i::mkM r fds (f.jE i)
 | none::_,[],_=>[]
noncomputable def cntF:List Lap->Nat
 | []=>0
 | some _::r=>cntF r
 | none::r=>cntF r+1
theorem mkM_me {x:Bool×Int×Int}:∀ {l:List Lap} {fds:List Fd} {i:Nat},cntF l=fds.length->mkM (l++[some x]) fds i=mkM l fds i++[.me x.1 x.2.1 x.2.2]
 | [],fds,i,_=>rfl
 | some (a,b,c)::r,fds,i,h=>congrArg (List.cons (Mem.me a b c)) (mkM_me (x:=x) (l:=r) (fds:=fds) (i:=i) h)
 | none::r,f::fds,i,h=>congrArg (List.cons (Mem.fd f i)) (mkM_me (x:=x) (l:=r) (fds:=fds) (i:=f.jE i) (Nat.succ.inj h))
 | none::r,[],i,h=>nomatch h
theorem mkM_fd {f:Fd}:∀ {l:List Lap} {fds:List Fd} {i:Nat},cntF l=fds.length->mkM (l++[none]) (fds++[f]) i=mkM l fds i++[.fd f (endOf fds i)]
 | [],[],i,_=>rfl
 | [],_::_,i,h=>nomatch h
 | some (a,b,c)::r,fds,i,h=>congrArg (List.cons (Mem.me a b c)) (mkM_fd (f:=f) (l:=r) (fds:=fds) (i:=i) h)
 | none::r,g::fds,i,h=>congrArg (List.cons (Mem.fd g i)) (mkM_fd (f:=f) (l:=r) (fds:=fds) (i:=g.jE i) (Nat.succ.inj h))
 | none::r,[],i,h=>nomatch h
theorem cntF_snoc {x:Lap}:∀ {l:List Lap},cntF (l++[x])=cntF l+(match x with | none=>1 | some _=>0)
 | []=>by cases x <;> rfl
 | some y::r=>cntF_snoc (l:=r)
 | none::r=>(congrArg (·+1) (cntF_snoc (l:=r))).trans (Nat.add_right_comm ..)
theorem mkM_len:∀ {l:List Lap} {fds:List Fd} {i:Nat},(mkM l fds i).length<=l.length
 | [],_,_=>Nat.zero_le _
 | some (_,_,_)::r,fds,i=>Nat.succ_le_succ (mkM_len (l:=r) (fds:=fds) (i:=i))
 | none::r,f::fds,i=>Nat.succ_le_succ (mkM_len (l:=r) (fds:=fds) (i:=f.jE i))
 | none::_,[],_=>Nat.zero_le _
theorem lateAll_len:∀ {ms:List Mem},(lateAll ms).length<=ms.length
 | []=>Nat.zero_le _
 | m::r=>by rw [lateAll,List.length_append,List.length_cons];have:=m.late_len;have:=lateAll_len (ms:=r);lia
theorem earlyOf_len:∀ {fds:List Fd} {i:Nat},(earlyOf fds i).length<=fds.length
 | [],_=>Nat.zero_le _
 | f::r,i=>by rw [earlyOf,List.length_append,List.length_cons];have:=f.tl_len (i:=i);have:=earlyOf_len (fds:=r) (i:=f.jE i);lia
noncomputable def LapAt (σ:Sg):Lap->V->Prop
 | none,v=>v=.none
 | some (b,fl,t),v=>MemAt σ (.me b fl t) v
inductive LapsAt (σ:Sg):List Lap->List V->Prop
 | nil:LapsAt σ [] []
 | cons {l v ls vs}:LapAt σ l v->LapsAt σ ls vs->LapsAt σ (l::ls) (v::vs)
theorem LapAt.ex {X} {l v} (h:LapAt σ l v) (x:Ex X σ σ'):LapAt σ' l v:=by
 induction l with
 | none=>exact h
 | some p=>exact MemAt.ex (m:=.me p.1 p.2.1 p.2.2) h x
theorem LapsAt.ex {X} {ls vs} (h:LapsAt σ ls vs) (x:Ex X σ σ'):LapsAt σ' ls vs:=by
 induction h with
 | nil=>exact .nil
 | cons a b ih=>exact .cons (a.ex x) ih
theorem LapsAt.snoc {ls vs l v} (h:LapsAt σ ls vs) (a:LapAt σ l v):LapsAt σ (ls++[l]) (vs++[v]):=by
 induction h with
 | nil=>exact .cons a .nil
 | cons b c ih=>exact .cons b ih
theorem LapsAt.len {ls vs} (h:LapsAt σ ls vs):vs.length=ls.length:=by
 induction h with
 | nil=>rfl
 | cons a b ih=>exact qE List.length_cons (qE List.length_cons (qE ih rfl))
theorem FdsAt.snoc {f:Fd} {x:Addr}:∀ {fds:List Fd} {i:Nat} {vs:List V},FdsAt σ fds i vs->FdAt σ f (endOf fds i) x->FdsAt σ (fds++[f]) i (vs++[.ref x])
 | [],i,vs,h,a=>by cases h;exact ⟨x,[],rfl,a,rfl⟩
 | g::r,i,vs,h,a=>by refine ea2_3 h fun y l' z1 h2 h3=>?_;clear h;subst z1;exact ⟨y,l'++[.ref x],rfl,h2,FdsAt.snoc h3 a⟩
theorem prs_eq {ps:List (Int×Int)}:∀ {vs ws:List V},PrsAt σ vs ps->PrsAt σ ws ps->VEqs K σ vs ws:=by
 induction ps with
 | nil=>intro vs ws h h';cases h;cases h';exact .nil
 | cons p ps ih=>
  intro vs ws h h'
  cases h with
  | cons a b=>
   cases h' with
   | cons a' b'=>
    refine ea1_2 a fun x z1 hx=>?_;clear a;subst z1
    refine ea1_2 a' fun y z1 hy=>?_;clear a';subst z1
    refine .cons (.tup (hF hx) (hF hy) fun v hv=>?_) (ih b b')
    simp only [List.mem_cons,List.not_mem_nil,or_false] at hv
    rcases hv with rfl | rfl
    · exact .int _
    · exact .int _
theorem ints_eq:∀ l:List Int,VEqs K σ (l.map .int) (l.map .int)
 | []=>.nil
 | i::r=>.cons (.sc (.int i)) (ints_eq r)
noncomputable def kdFo (kind:Bool) (j:Nat) (r:Fo):Fo:=if kind then .nd 8 (.str "T") 0 ((3 * (j+1)+2:Nat):Int) .nil r else .non r
noncomputable def inFo:Option (T×Nat)->Fo
 | none=>.non .nil
 | some (t,i)=>t.fo i .nil
noncomputable def fdsFo:List Fd->Nat->Fo
 | [],_=>.nil
 | f::r,i=>.nd 62 (.str f.nt.text) f.fl (f.at_ i) (kdFo f.kind (f.j1 i) (inFo (f.ini i))) (fdsFo r (f.jE i))
theorem inFo_at {o:Option (T×Nat)} {v:V} (h:InAt σ o v):FoAt σ (inFo o) [v]:=by
 induction o with
 | none=>cases h;exact ⟨[],rfl,rfl⟩
 | some p=>obtain ⟨t,i⟩:=p;refine ea1_2 h fun x z1 h2=>?_;clear h;subst z1;exact h2
theorem fds_fo:∀ {fds:List Fd} {i:Nat} {vs:List V},FdsAt σ fds i vs->FoAt σ (fdsFo fds i) vs
 | [],i,vs,h=>h
 | f::r,i,vs,h=>by
  refine ea2_3 h fun x l' z1 z2 h4=>?_;clear h;subst z1;refine ea2_3 z2 fun kv iv h1 h2 h3=>?_;clear z2
  refine ⟨x,l',.str f.nt.text,[kv,iv],rfl,rfl,h3,?_,fds_fo h4⟩
  unfold kdFo
  induction hk:f.kind with
  | false=>
   replace h1:=hk▸h1
   cases h1
   exact ⟨[iv],rfl,inFo_at h2⟩
  | true=>
   replace h1:=hk▸h1
   refine ea1_2 h1 fun y z1 h5=>?_;clear h1;subst z1
   exact ⟨y,[iv],.str "T",[],rfl,rfl,h5,rfl,inFo_at h2⟩
theorem fds_size:∀ {fds:List Fd} {i:Nat},(∀ f∈fds,f.Ok)->(fdsFo fds i).size<=143 * fds.length
 | [],_,_=>Nat.le_refl _
 | f::r,i,h=>by
  have ih:=fds_size (fds:=r) (i:=f.jE i) fun g hg=>h g (List.mem_cons_of_mem _ hg)
  have hk:∀ q:Fo,(kdFo f.kind (f.j1 i) q).size=q.size+1:=fun q=>by unfold kdFo;cases f.kind <;> simp [Fo.size]
  have hi:(inFo (f.ini i)).size<=140:=by
   unfold Fd.ini
   induction hv:f.init with
   | none=>show (1:Nat)<=140;decide
   | some v=>
    have h1:=T.size_le v (f.j2 i+1) .nil
    have h2:=((h f (List.mem_cons_self ..)).v v hv).2.1
    simp only [Fo.size] at h1
    show (v.fo (f.j2 i+1) .nil).size<=140
    lia
  rw [fdsFo]
  simp only [Fo.size,hk,List.length_cons]
  lia
theorem nodeNewF {kind flags at_:Int} {v:V} {kl:Addr} {kids:List V} (hk:σ.M kl=some (.list kids)) (hD:2<=D) (q:∀ x σ',NodeAt σ' x kind v kids flags at_->σ'.F kl=some (.list kids)->Ex (fun a=>a=kl) σ σ'->k (.ref x) σ'):CallV K D (fA K 45) [.int kind,v,.ref kl,.int flags,.int at_] k σ:=by
 refine Wp.disj fun dj=>Wp.post (newV 45 5 ct_Node hD (by decide +kernel) rfl fun x d fx fd n=>?_)
 have h:=Fill.start (cls:=fName (stAt 45)) fx fd n
 refine setF ct_Node h fun σ1 h=>setF ct_Node h fun σ1 h=>setF ct_Node h fun σ1 h=>setF ct_Node h fun σ1 h=>setF ct_Node h fun σ1 h=>setF ct_Node h fun σ1 h=>⟨rfl,?_⟩
 refine ea1_4 h.done fun σ2 g g1 g2 g3=>?_
 have hk2:=(g3 fun ξ=>False).m _ _ hk id
 have hf:σ.F kl=none:=by
  induction e:σ.F kl with
  | none=>rfl
  | some c=>have:=dj _ _ e;replace this:=hk▸this;injection this
 refine ⟨σ2.ice kl (.list kids),g.trans (Gh.ice hk2),q x _ ⟨d,kl,(upd_other ?_).trans g1,(upd_other ?_).trans g2,ice_F⟩ ice_F ⟨fun a c e=>(upd_other ?_).trans ((g3 fun ξ=>False).f _ _ e),fun a c e n=>(drop_other n).trans ((g3 fun ξ=>False).m _ _ e id)⟩⟩
 · rintro rfl;replace hk:=fx.1▸hk;injection hk
 · rintro rfl;replace hk:=fd.1▸hk;injection hk
 · rintro rfl;replace e:=hf▸e;injection e
noncomputable def Ge.ads (e:Ge):List Addr:=[e.g,e.nu,e.tk,e.ea,e.la]
noncomputable def gsOf (laps:List Lap) (fds:List Fd):Gs:=⟨(⟨5,"{",0⟩,false)::FT false fds,lnOf false fds,earlyOf fds 1,lateAll (mkM laps fds 1)⟩
structure LS (σ:Sg) (e:Ge) (fa ma:Addr) (laps:List Lap) (fds:List Fd) (fv mv:List V):Prop where
 cn:cntF laps=fds.length
 le:fds.length<=laps.length
 ok:∀ f∈fds,f.Ok/\FdFst f
 g:GSt σ e (gsOf laps fds)
 hfa:σ.M fa=some (.list fv)
 hfv:FdsAt σ fds 1 fv
 hma:σ.M ma=some (.list mv)
 hmv:LapsAt σ laps mv
 nf:fa ∉ e.ads
 nm:ma ∉ e.ads
 fm:fa≠ma
theorem gx_ads {a:Addr} (h:a ∉ e.ads):¬ GX e a:=by
 simp only [Ge.ads,List.mem_cons,List.not_mem_nil,or_false,not_or] at h
 rintro (r | r | r | r)
 · exact h.1 r
 · exact h.2.2.1 r
 · exact h.2.2.2.1 r
 · exact h.2.2.2.2 r
theorem FT_bound:∀ {fds:List Fd} {ln:Bool},(∀ f∈fds,f.Ok/\FdFst f)->(FT ln fds).length<=160 * fds.length
 | [],_,_=>Nat.le_refl _
 | f::r,ln,h=>by
  have ih:=FT_bound (fds:=r) (ln:=!f.semi) fun g hg=>h g (List.mem_cons_of_mem _ hg)
  refine ea0_2 (h f (List.mem_cons_self ..)) fun ξ z1=>?_;refine ea2_4 z1 fun x rr ξ ξ ξ h4=>?_;clear z1
  rw [FT,List.length_append,flg_len,List.length_cons];lia
theorem gs_len {laps:List Lap} {fds:List Fd}:(gsOf laps fds).toks.length=endOf fds 1:=by
 refine qE (FT_len (ln:=false)) ?_
 show (_::FT false fds).length=_
 refine qE List.length_cons ?_;lia
theorem gs_fd {laps:List Lap} {fds:List Fd} {f:Fd} (h:cntF laps=fds.length):(gsOf laps fds).fin f=gsOf (laps++[none]) (fds++[f]):=by
 unfold Gs.fin
 refine qE gs_len ?_
 unfold gsOf
 refine qE FT_snoc (qE lnOf_snoc (qE earlyOf_snoc (qE (mkM_fd h) (qE lateAll_snoc ?_))));rfl
theorem gs_me {laps:List Lap} {fds:List Fd} {b:Bool} {fl t:Int} (h:cntF laps=fds.length):(gsOf laps fds).tell false (meT b t)=gsOf (laps++[some (b,fl,t)]) fds:=by
 unfold gsOf
 refine qE (mkM_me h) (qE lateAll_snoc ?_);rfl
noncomputable abbrev lwFr (e:Ge) (sl:Addr) (fl:Int) (fa ma:Addr) (r:Loc):Loc:=([("script",.ref sl),("st",.ref e.g),("flags",.int fl),("fields",.ref fa),("members",.ref ma)]:Loc)++r
theorem law_loop {sl fa ma:Addr} {fl:Int} (h:LS σ e fa ma [] [] [] []) (hD:70<=D)
 (q:∀ laps fds fv mv σ',laps.length<=5->LS σ' e fa ma laps fds fv mv->Ex (fun a=>GX e a\/a=fa\/a=ma) σ σ'->vcAt (cx 177 K D) (fBody (stAt 177)) 7 (lwFr e sl fl fa ma []) σ' (kRet k)) :
 vcAt (cx 177 K D) (fBody (stAt 177)) 6 (lwFr e sl fl fa ma []) σ (kRet k):=by
 revert h hD q;revert K D σ k e sl fa ma fl;refine no_implicit_lambda% (al9 (n:=⟨(kc0,default)⟩) ?_);generalize et9 _ _=υ;generalize υ.1=K,υ.2.1=D,υ.2.2.1=σ,υ.2.2.2.1=k,υ.2.2.2.2.1=e,υ.2.2.2.2.2.1=sl,υ.2.2.2.2.2.2.1=fa,υ.2.2.2.2.2.2.2.1=ma,υ.2.2.2.2.2.2.2.2=fl;clear υ;intro h hD q
 refine ⟨_,g_range.1,g_range.2,?_⟩
 refine gFn 165 (g_pull (m:=5) h.g (by decide) (dn hD) fun q5 hq5 σ1 G1 x1=>?_)
 revert hq5 G1 x1;revert q5 σ1;refine al2 ?_;generalize et2 _ _=υ;generalize υ.1=q5,υ.2=σ1;clear υ;intro hq5 G1 x1
 refine addI (qE (show ((1:Int)+(q5:Int))=((q5+1:Nat):Int) by lia) (rangeW fun yr fr=>?_))
 revert fr;revert yr;refine al1 ?_;generalize et1 _ _=yr;intro fr
 refine fz1 fr fun σ2 xr hy=>?_
 revert xr hy;revert σ2;refine al1 ?_;generalize et1 _ _=σ2;intro xr hy
 have x0:Gx e σ σ2:=x1.trans xr.px
 have h1:LS σ2 e fa ma [] [] [] []:=
  ⟨h.cn,h.le,h.ok,G1.e0 xr,x0.m _ _ h.hfa (gx_ads h.nf),rfl,x0.m _ _ h.hma (gx_ads h.nm),.nil,h.nf,h.nm,h.fm⟩
 refine forI 5 (.range yr) ((List.range (q5+1)).map fun (j:Nat)=>V.int (j:Int)) (fun rem m' σ'=>∃ laps fds fv mv,rem=((List.range (q5+1)).map fun (j:Nat)=>V.int (j:Int)).drop laps.length/\laps.length<=q5+1/\LS σ' e fa ma laps fds fv mv/\Ex (fun a=>GX e a\/a=fa\/a=ma) σ2 σ' ∧
  m'=lwFr e sl fl fa ma [])
  ⟨[],[],[],[],rfl,Nat.zero_le _,h1,.refl,rfl⟩ (fun rem m' σ' hh=>⟨by refine ea4_5 hh fun ξ ξ ξ ξ ξ ξ ξ h ξ=>?_;clear hh;rw [List.length_map,List.length_range];exact hF (h.f _ _ hy),by rw [List.length_map,List.length_range];lia,fun i hi=>by
   rw [List.length_map,List.length_range] at hi
   refine qE List.getElem?_map (qE (List.getElem?_range hi) ?_);rfl⟩) ?_ ?_
 · intro Iv hin v rem m' σ3 z1;refine ea4_5 z1 fun laps fds fv mv hrem hi L X z2=>?_;clear z1;subst z2
   have hilt:laps.length<q5+1:=by
    rcases Nat.lt_or_ge laps.length (q5+1) with h | h
    · exact h
    · rw [List.drop_eq_nil_of_le (by rw [List.length_map,List.length_range];exact h)] at hrem;injection hrem
   rw [List.drop_eq_getElem_cons (by rw [List.length_map,List.length_range];exact hilt)] at hrem
   simp only [List.getElem_map,List.getElem_range,List.cons.injEq] at hrem
   refine ea0_2 hrem fun z1 z2=>?_;clear hrem;subst z1;subst z2
   have hfl:=L.le
   have hb:=FT_bound (ln:=false) L.ok
   have htl:(gsOf laps fds).toks.length<=700:=by show (_::FT false fds).length<=700;refine qE List.length_cons ?_;lia
   have he1:(gsOf laps fds).early.length<=100:=by have:=earlyOf_len (fds:=fds) (i:=1);show (earlyOf fds 1).length<=100;lia
   have he2:(gsOf laps fds).late.length<=100:=by have:=lateAll_len (ms:=mkM laps fds 1);have:=mkM_len (l:=laps) (fds:=fds) (i:=1);show (lateAll (mkM laps fds 1)).length<=100;lia
   have hfvl:=L.hfv.len
   have hmvl:=L.hmv.len
   refine gFn 165 (g_pull (m:=4) L.g (by decide) (dn hD) fun q4 hq4 σ4 G4 x4=>?_)
   have hfa4:=x4.m _ _ L.hfa (gx_ads L.nf)
   have hma4:=x4.m _ _ L.hma (gx_ads L.nm)
   refine eqI ?_
   induction h4:((q4:Int)==3) with
   | true=>
    refine ⟨_,(mAppend (hM hma4)).1,(mAppend (hM hma4)).2,?_⟩
    refine gFn 173 (addI (g_method G4 he1 he2 (dn hD) fun b fl2 x σ5 G5 hx x5=>?_))
    replace G5:=gs_me (fl:=fl2) L.cn▸G5
    have hma5:=x5.m _ _ hma4 (gx_ads L.nm)
    have hfa5:=x5.m _ _ hfa4 (gx_ads L.nf)
    refine cAppend hma5 (by lia) ?_
    have x6:Ex (fun a=>a=ma) σ5 (σ5.set ma (.list (mv++[.ref x]))):=.set rfl
    have xa:=((x4.trans x5).wide (Y:=fun a=>GX e a\/a=fa\/a=ma) fun a h=>.inl h).trans (x6.wide fun a h=>.inr (.inr h))
    exact hin _ _ _ ⟨laps++[some (b,fl2,1000+(laps.length:Int))],fds,fv,mv++[.ref x],by refine qE List.length_append ?_;rfl,by refine qE List.length_append ?_;exact hilt,
     ⟨by refine qE cntF_snoc ?_;exact L.cn,by refine qE List.length_append ?_;exact Nat.le_succ_of_le L.le,L.ok,G5.ex x6 (fun a ha h=>L.nm (h▸ha)),x6.m _ _ hfa5 L.fm,((L.hfv.ex x4).ex x5).ex x6,set_M,((L.hmv.ex x4).ex x5).ex x6 |>.snoc (LapAt.ex (l:=some (b,fl2,1000+(laps.length:Int))) hx x6),L.nf,L.nm,L.fm⟩,X.trans xa,rfl⟩
   | false=>
    refine ⟨_,(mAppend (hM hfa4)).1,(mAppend (hM hfa4)).2,?_⟩
    refine gFn 172 (g_field G4 htl he1 he2 (dn hD) fun f fok ffst x σ5 G5 hx x5=>?_)
    replace G5:=gs_fd L.cn▸G5
    replace hx:=gs_len▸hx
    have hma5:=x5.m _ _ hma4 (gx_ads L.nm)
    have hfa5:=x5.m _ _ hfa4 (gx_ads L.nf)
    refine cAppend hfa5 (by lia) ?_
    have x6:Ex (fun a=>a=fa) σ5 (σ5.set fa (.list (fv++[.ref x]))):=.set rfl
    have hma6:=x6.m _ _ hma5 L.fm.symm
    have hfa6:(σ5.set fa (.list (fv++[.ref x]))).M fa=some (.list (fv++[.ref x])):=set_M
    refine ⟨_,(mAppend (hM hma6)).1,(mAppend (hM hma6)).2,?_⟩
    refine cAppend hma6 (by lia) ?_
    have x7:Ex (fun a=>a=ma) (σ5.set fa (.list (fv++[.ref x]))) ((σ5.set fa (.list (fv++[.ref x]))).set ma (.list (mv++[.none]))):=.set rfl
    have xa:=(((x4.trans x5).wide (Y:=fun a=>GX e a\/a=fa\/a=ma) fun a h=>.inl h).trans (x6.wide fun a h=>.inr (.inl h))).trans (x7.wide fun a h=>.inr (.inr h))
    exact hin _ _ _ ⟨laps++[none],fds++[f],fv++[.ref x],mv++[.none],by refine qE List.length_append ?_;rfl,by refine qE List.length_append ?_;exact hilt,
     ⟨by refine qE cntF_snoc (qE List.length_append (qE L.cn ?_));rfl,by refine qE List.length_append (qE List.length_append ?_);exact Nat.succ_le_succ L.le,fun g hg=>by
      rcases List.mem_append.mp hg with hg | hg
      · exact L.ok g hg
      · rw [List.mem_singleton] at hg;subst hg;exact ⟨fok,ffst⟩,
      (G5.ex x6 (fun a ha h=>L.nf (h▸ha))).ex x7 (fun a ha h=>L.nm (h▸ha)),x7.m _ _ hfa6 L.fm,(((L.hfv.ex x4).ex x5).snoc hx |>.ex x6).ex x7,set_M,((((L.hmv.ex x4).ex x5).ex x6).ex x7).snoc (l:=none) (v:=.none) (rfl:V.none=V.none),L.nf,L.nm,L.fm⟩,X.trans xa,rfl⟩
 · intro m' σ3 z1;refine ea4_5 z1 fun laps fds fv mv hrem hi L X z2=>?_;clear z1;subst z2
   have hige:q5+1<=laps.length:=by
    rcases Nat.lt_or_ge laps.length (q5+1) with h | h
    · rw [List.drop_eq_getElem_cons (by rw [List.length_map,List.length_range];exact h)] at hrem;injection hrem
    · exact h
   exact q laps fds fv mv σ3 (by lia) L ((x0.wide fun a h=>.inl h).trans X)
section
variable {gs:Gs} {P:Pe} {ps ps':Ps}
structure QS (σ:Sg) (e:Ge) (P:Pe) (ps:Ps) (gs:Gs):Prop where
 p:PSt σ P ps
 g:GSt σ e gs
 nd:P.d ∉ e.ads
 nr:P.rl ∉ e.ads
theorem QS.e0 (h:QS σ e P ps gs) (x:E0 σ σ'):QS σ' e P ps gs:=⟨h.p.e0 x,h.g.e0 x,h.nd,h.nr⟩
theorem QS.px (h:QS σ e P ps gs) (x:Px P σ σ') (p:PSt σ' P ps'):QS σ' e P ps' gs:=
 ⟨p,h.g.ex x fun a ha hx=>by
  rcases hx with rfl | rfl
  · exact h.nd ha
  · exact h.nr ha,h.nd,h.nr⟩
theorem QS.fresh (h:QS σ e P ps gs) {z:Addr} (f:Fresh σ z):z ∉ e.ads/\¬ PX P z:=by
 refine ⟨fun hm=>h.g.notin f z hm rfl,?_⟩
 rintro (r | r)
 · exact f.neM h.p.pd r.symm
 · refine ea1_2 h.p.rl fun rr h1 ξ=>?_;exact f.neM h1 r.symm
theorem QS.ex (h:QS σ e P ps gs) {X} (x:Ex X σ σ') (h1:∀ a∈e.ads,¬ X a) (h2:¬ X P.d) (h3:¬ X P.rl):QS σ' e P ps gs:=⟨h.p.ex x h2 h3,h.g.ex x h1,h.nd,h.nr⟩
theorem MemsAt.snoc {ms vs m v} (h:MemsAt σ ms vs) (a:MemAt σ m v):MemsAt σ (ms++[m]) (vs++[v]):=by
 induction h with
 | nil=>exact .cons a .nil
 | cons b c ih=>exact .cons b ih
noncomputable abbrev lwF2 (e:Ge) (P:Pe) (sl:Addr) (fl:Int) (fa ma nd:Addr) (dg:Addr) (r:Loc):Loc:=lwFr e sl fl fa ma (("diags",.ref dg)::("p",.ref P.p)::("node",.ref nd)::r)
theorem law_end {sl fa ma nd:Addr} {fl at_:Int} {av:V} {kids mv:List V} {laps:List Lap} {fds:List Fd} (Q:QS σ e P ps gs) (hN:NodeAt σ nd 71 av kids 0 at_) (hK:FdsAt σ fds 1 kids) (ok:∀ f∈fds,f.Ok)
 (hma:σ.M ma=some (.list mv)) (hL:LapsAt σ laps mv) (hll:laps.length<=5) (hcn:cntF laps=fds.length) (hle:fds.length<=laps.length) (he:ps.dgs=gs.early) (hel:gs.early.length<=100) (hla:gs.late=lateAll (mkM laps fds 1)) (hD:70<=D) (q:∀ σ',k (.bool true) σ') :
 vcAt (cx 177 K D) (fBody (stAt 177)) 14 (lwF2 e P sl fl fa ma nd P.dg []) σ (kRet k):=by
 revert fa ma nd fl at_ av kids mv laps fds Q hN hK ok hma hL hll hcn hle he hel hla hD q;revert K D σ k e gs P ps sl;refine no_implicit_lambda% (al9 (n:=⟨(kc0,default)⟩) ?_);generalize et9 _ _=υ;generalize υ.1=K,υ.2.1=D,υ.2.2.1=σ,υ.2.2.2.1=k,υ.2.2.2.2.1=e,υ.2.2.2.2.2.1=gs,υ.2.2.2.2.2.2.1=P,υ.2.2.2.2.2.2.2.1=ps,υ.2.2.2.2.2.2.2.2=sl;clear υ;intro fa ma nd fl at_ av kids mv laps fds Q hN hK ok hma hL hll hcn hle he hel hla hD q
 revert Q hN hK ok hma hL hll hcn hle he hel hla hD q;revert fa ma nd fl at_ av kids mv laps fds;refine no_implicit_lambda% (al10 ?_);generalize et10 _ _=υ;generalize υ.1=fa,υ.2.1=ma,υ.2.2.1=nd,υ.2.2.2.1=fl,υ.2.2.2.2.1=at_,υ.2.2.2.2.2.1=av,υ.2.2.2.2.2.2.1=kids,υ.2.2.2.2.2.2.2.1=mv,υ.2.2.2.2.2.2.2.2.1=laps,υ.2.2.2.2.2.2.2.2.2=fds;clear υ;intro Q hN hK ok hma hL hll hcn hle he hel hla hD q
 have hkl:=hK.len
 have hml:=hL.len
 have final:∀ (y:Addr) (rv:List V) (σ2:Sg),σ2.M y=some (.list rv)->y ∉ e.ads->¬ PX P y->QS σ2 e P ps gs->MemsAt σ2 (mkM laps fds 1) rv->∀ x σ3,NodeAt σ3 x 71 (.str "") rv 0 2->Ex (fun a=>a=y) σ2 σ3->CallV K (D-1) (fA K 113) [.ref P.p,.ref x] (fun ξ σ4=>QS σ4 e P { ps with dgs:=ps.dgs++lateAll (mkM laps fds 1) } gs) σ3:=by
  intro y rv σ2 hy n1 n2 Q2 hm x σ3 hx x3
  revert hy n1 n2 Q2 hm hx x3;revert y rv σ2 x σ3;refine no_implicit_lambda% (al5 ?_);generalize et5 _ _=υ;generalize υ.1=y,υ.2.1=rv,υ.2.2.1=σ2,υ.2.2.2.1=x,υ.2.2.2.2=σ3;clear υ;intro hy n1 n2 Q2 hm hx x3
  have Q3:=Q2.ex x3 (fun a ha h=>n1 (h▸ha)) (fun h=>n2 (.inl h.symm)) (fun h=>n2 (.inr h.symm))
  refine c_declared_members Q3.p hx (hm.ex x3) ?_ (dn hD) fun σ4 P4 x4=>Q3.px x4 P4
  have:=mkM_len (l:=laps) (fds:=fds) (i:=1)
  refine qE he ?_;lia
 have hll2:(lateAll (mkM laps fds 1)).length<=5:=by have:=lateAll_len (ms:=mkM laps fds 1);have:=mkM_len (l:=laps) (fds:=fds) (i:=1);lia
 refine tp fun y fy=>?_
 revert fy;revert y;refine al1 ?_;generalize et1 _ _=y;intro fy
 refine ea0_2 (Q.fresh fy) fun ny np=>set1 fy fun σ1 x1 hy1=>?_
 revert x1 hy1;revert σ1;refine al1 ?_;generalize et1 _ _=σ1;intro x1 hy1
 have Q1:=Q.e0 x1
 have hN1:=hN.ex x1
 have hK1:=hK.ex x1
 have hma1:=x1.m _ _ hma id
 have hL1:=hL.ex x1
 have nym:ma≠y:=fy.neM hma
 refine forI 10 (.list ma) (mv) (fun rem m' σ'=>∃ (lr:List Lap) (fr:List Fd) (pos n:Nat) (msd:List Mem) (rv:List V),LapsAt σ' lr rem/\FdsAt σ' fr pos (kids.drop n)/\cntF lr=fr.length/\σ'.M y=some (.list rv)/\MemsAt σ' msd rv/\msd++mkM lr fr pos=mkM laps fds 1/\n+lr.length<=10/\Ex (fun a=>a=y) σ1 σ'/\(∀ f∈fr,f.Ok)/\m'=lwF2 e P sl fl fa ma nd P.dg [("rows",.ref y),("place",.int n)])
  ⟨laps,fds,1,0,[],[],hL1,hK1,hcn,hy1,.nil,rfl,by lia,.refl,ok,rfl⟩ (fun rem m' σ' h=>by refine ea6_1 h fun ξ ξ ξ ξ ξ ξ y20=>?_;refine ea0_9 y20 fun ξ ξ ξ ξ ξ ξ ξ h ξ=>?_;clear y20;exact hM (h.m _ _ hma1 nym)) ?_ ?_
 · intro Iv hin v rem m' σ2 z1;refine ea6_1 z1 fun lr fr pos n msd rv y21=>?_;refine ea0_10 y21 fun g1 g2 g3 hy g4 g5 g6 X okr z2=>?_;clear y21;clear z1;subst z2
   have hrl:rv.length<=10:=by
    have h1:=g4.len
    have h2:=congrArg List.length g5
    have h3:=mkM_len (l:=laps) (fds:=fds) (i:=1)
    replace h2:=List.length_append▸h2
    lia
   cases g1 with
   | @cons l v lr vs h1 h2=>
    replace g6:=List.length_cons▸g6
    cases l with
    | none=>
     have h1:v=.none:=h1
     subst h1
     cases fr with
     | nil=>simp [cntF] at g3
     | cons f fr=>
      refine ea2_3 g2 fun x l' hkd hx hfr=>?_;clear g2
      have hget:kids[n]?=some (.ref x):=by have:=congrArg (fun l=>l[0]?) hkd;simpa using this
      have hkd2:kids.drop (n+1)=l':=by refine qB List.drop_drop (qE hkd ?_);rfl
      have hN2:=hN1.ex X
      refine isN (⟨_,(mAppend (hM hy)).1,(mAppend (hM hy)).2,?_⟩)
      refine getNode hN2 fun kl hkl=>⟨notPyL (hF hkl),itemL (i:=n) (hF hkl) hget (by lia) ?_⟩
      refine cAppend hy (by lia) ?_
      have x3:Ex (fun a=>a=y) σ2 (σ2.set y (.list (rv++[.ref x]))):=.set rfl
      exact iaddI (qE (show ((n:Int)+1)=((n+1:Nat):Int) by lia) (hin _ _ _ ⟨lr,fr,f.jE pos,n+1,msd++[.fd f pos],rv++[.ref x],h2.ex x3,by refine qE hkd2 ?_;exact hfr.ex x3,by simpa [cntF] using g3,set_M,(g4.ex x3).snoc (m:=.fd f pos) (v:=.ref x) (show ∃ ξ,_ from ⟨x,rfl,hx.ex x3,okr f (List.mem_cons_self ..)⟩),by rw [List.append_assoc];exact g5,by lia,X.trans x3,fun g hg=>okr g (List.mem_cons_of_mem _ hg),rfl⟩))
    | some t=>
     obtain ⟨b,fl2,t2⟩:=t
     refine ea3_3 h1 fun x lst bd z1 c1 c2=>?_;clear h1;subst z1
     refine isN (⟨_,(mAppend (hM hy)).1,(mAppend (hM hy)).2,?_⟩)
     refine cAppend hy (by lia) ?_
     have x3:Ex (fun a=>a=y) σ2 (σ2.set y (.list (rv++[.ref x]))):=.set rfl
     exact hin _ _ _ ⟨lr,fr,pos,n,msd++[.me b fl2 t2],rv++[.ref x],h2.ex x3,g2.ex x3,by simpa [cntF] using g3,set_M,(g4.ex x3).snoc (m:=.me b fl2 t2) (v:=.ref x) (show ∃ ξ,_ from ⟨x,lst,bd,rfl,c1.ex x3,c2⟩),by rw [List.append_assoc];exact g5,by lia,X.trans x3,okr,rfl⟩
 · intro m' σ2 z1;refine ea6_1 z1 fun lr fr pos n msd rv y22=>?_;refine ea0_10 y22 fun g1 g2 g3 hy g4 g5 g6 X okr z2=>?_;clear y22;clear z1;subst z2
   cases g1
   rw [show mkM [] fr pos=[] from rfl,List.append_nil] at g5
   subst g5
   have Q2:=Q1.ex X (fun a ha h=>ny (h▸ha)) (fun h=>np (.inl h.symm)) (fun h=>np (.inr h.symm))
   refine gFn 113 (gCls 45 ct_Node (nodeNew hy (dn hD) fun x σ3 hx x3=>(final y rv σ2 hy ny np Q2 g4 x σ3 hx x3).mono fun ξ σ4 Q4=>ea1_2 Q4.g.ea fun re he1 he2=>?_))
   have hel2:=he2.len
   refine gFn 176 (⟨_,g_len.1,g_len.2,?_⟩)
   refine gItem Q4.g (fun nx=>gget.2.2.2.2.1) (lenL (hM he1) (by lia) (qE hel2 (c_told (n:=gs.early.length) Q4.p (by show (ps.dgs++lateAll (mkM laps fds 1)).length<=800;refine qE List.length_append (qE he ?_);lia) (dn hD) fun w ws σ5 hw hws x5=>?_)))
   have Q5:=Q4.e0 x5
   refine ea1_2 Q5.g.la fun rl hl1 hl2=>?_
   have hdrop:(ps.dgs++lateAll (mkM laps fds 1)).drop gs.early.length=gs.late:=by exact qB he (qE List.drop_left (qE hla rfl))
   have hws:PrsAt σ5 ws ((ps.dgs++lateAll (mkM laps fds 1)).drop gs.early.length):=hws
   replace hws:=hdrop▸hws
   exact gItem Q5.g (fun nx=>gget.2.2.2.2.2) (eqL (hM hw) (hM hl1) (prs_eq hws hl2) (q σ5))
end
section
variable {gs:Gs} {P:Pe} {ps ps':Ps}
theorem FdsAt.nth2:∀ {fds:List Fd} {i:Nat} {vs ws:List V},FdsAt σ fds i vs->FdsAt σ fds i ws->∀ {j:Nat},j<fds.length->∃ f pos x y,f∈fds/\vs[j]?=some (.ref x)/\ws[j]?=some (.ref y)/\FdAt σ f pos x/\FdAt σ f pos y
 | [],_,_,_,_,_,j,h=>absurd h (Nat.not_lt_zero _)
 | f::r,i,vs,ws,h,h',j,hj=>by
  refine ea2_3 h fun x l z1 h1 h2=>?_;clear h;subst z1
  refine ea2_3 h' fun y l' z1 g1 g2=>?_;clear h';subst z1
  induction j using Nat.casesOn with
  | zero=>exact ⟨f,i,x,y,List.mem_cons_self ..,rfl,rfl,h1,g1⟩
  | succ j=>
   exact ea4_5 (FdsAt.nth2 h2 g2 (j:=j) (by simpa using hj)) fun f' pos x' y' a1 a2 a3 a4 a5=>⟨f',pos,x',y',List.mem_cons_of_mem _ a1,by simpa using a2,by simpa using a3,a4,a5⟩
theorem law_places {sl fa ma nd dg:Addr} {fl at_:Int} {av:V} {kids fv:List V} {fds:List Fd} (hN:NodeAt σ nd 71 av kids 0 at_) (hK:FdsAt σ fds 1 kids) (hfa:σ.F fa=some (.list fv)) (hV:FdsAt σ fds 1 fv) (ok:∀ f∈fds,f.Ok) (hn:fds.length<=5) (hD:230<=D)
 (q:∀ σ',E0 σ σ'->vcAt (cx 177 K D) (fBody (stAt 177)) 14 (lwF2 e P sl fl fa ma nd dg []) σ' (kRet k)) :
 vcAt (cx 177 K D) (fBody (stAt 177)) 13 (lwF2 e P sl fl fa ma nd dg []) σ (kRet k):=by
 revert kids fv fds hN hK hfa hV ok hn hD q
 revert K D σ k e P sl fa ma nd dg fl at_ av
 refine no_implicit_lambda% (al14 (n:=⟨(kc0,default)⟩) ?_)
 generalize et14 _ _=υ
 generalize υ.1=K,υ.2.1=D,υ.2.2.1=σ,υ.2.2.2.1=k,υ.2.2.2.2.1=e,υ.2.2.2.2.2.1=P,υ.2.2.2.2.2.2.1=sl,υ.2.2.2.2.2.2.2.1=fa,υ.2.2.2.2.2.2.2.2.1=ma,υ.2.2.2.2.2.2.2.2.2.1=nd,υ.2.2.2.2.2.2.2.2.2.2.1=dg,υ.2.2.2.2.2.2.2.2.2.2.2.1=fl,υ.2.2.2.2.2.2.2.2.2.2.2.2.1=at_,υ.2.2.2.2.2.2.2.2.2.2.2.2.2=av
 intro kids fv fds hN hK hfa hV ok hn hD q
 have hfl:=hV.len
 refine ⟨_,g_range.1,g_range.2,?_⟩
 refine ⟨_,g_len.1,g_len.2,?_⟩
 refine lenL (hF hfa) (by lia) ?_
 refine rangeW fun yr fr=>fz1 fr fun σ1 xr hy=>forI 8 (.range yr) ((List.range fv.length).map fun (j:Nat)=>V.int (j:Int)) (fun rem m' σ'=>∃ i,rem=((List.range fv.length).map fun (j:Nat)=>V.int (j:Int)).drop i/\i<=fv.length/\E0 σ1 σ'/\m'=lwF2 e P sl fl fa ma nd dg [])
  ⟨0,rfl,Nat.zero_le _,.refl,rfl⟩ (fun rem m' σ' hh=>⟨by refine ea1_4 hh fun ξ ξ ξ h ξ=>?_;clear hh;rw [List.length_map,List.length_range];exact hF (h.f _ _ hy),by rw [List.length_map,List.length_range];lia,fun i hi=>by
   rw [List.length_map,List.length_range] at hi
   refine qE List.getElem?_map (qE (List.getElem?_range hi) ?_);rfl⟩) ?_ ?_
 · intro Iv hin v rem m' σ2 z1;refine ea1_4 z1 fun i hrem hi E2 z2=>?_;clear z1;subst z2
   have hilt:i<fv.length:=by
    rcases Nat.lt_or_ge i fv.length with h | h
    · exact h
    · rw [List.drop_eq_nil_of_le (by rw [List.length_map,List.length_range];exact h)] at hrem;injection hrem
   rw [List.drop_eq_getElem_cons (by rw [List.length_map,List.length_range];exact hilt)] at hrem
   simp only [List.getElem_map,List.getElem_range,List.cons.injEq] at hrem
   refine ea0_2 hrem fun z1 z2=>?_;clear hrem;subst z1;subst z2
   have X:=xr.trans E2
   have hN2:=hN.ex X
   have hfa2:=X.f _ _ hfa
   refine ea4_5 ((hK.ex X).nth2 (hV.ex X) (j:=i) (by lia)) fun f pos x y a1 a2 a3 z1 z2=>?_;refine ea2_3 z1 fun kv iv b1 b2 b3=>?_;clear z1;refine ea2_3 z2 fun kw iw c1 c2 c3=>?_;clear z2
   have okf:=ok f a1
   refine getNode hN2 fun kl hkl=>⟨notPyL (hF hkl),itemL (i:=i) (hF hkl) a2 (by lia) ?_⟩
   refine ⟨notPyL (hF hfa2),itemL (i:=i) (hF hfa2) a3 (by lia) ?_⟩
   refine getNode b3 fun kl1 hk1=>getNode c3 fun kl2 hk2=>neI ?_
   rw [bne_self_eq_false]
   refine getNode c3 fun kl2 hk2=>⟨notPyL (hF hk2),itemL' 1 (hF hk2) rfl rfl (by lia) ?_⟩
   refine isNotN ?_
   induction ho:f.ini pos with
   | none=>
    replace c2:=ho▸c2
    have c2:iw=.none:=c2
    subst c2
    exact hin _ _ _ ⟨i+1,rfl,hilt,E2,rfl⟩
   | some p=>
    obtain ⟨t,j⟩:=p
    rw [ho] at b2 c2
    refine ea1_2 b2 fun x3 z1 hx3=>?_;clear b2;subst z1
    refine ea1_2 c2 fun y3 z1 hy3=>?_;clear c2;subst z1
    have hts:t.sz<=200:=by
     have h1:f.init=some t:=by unfold Fd.ini at ho;induction hi2:f.init with
      | none=>replace ho:=hi2▸ho;injection ho
      | some v=>replace ho:=hi2▸ho;cases ho;rfl
     have:=(okf.v t h1).2.1;lia
    refine gFn 174 (getNode b3 fun kl1 hk1=>⟨notPyL (hF hk1),itemL' 1 (hF hk1) rfl rfl (by lia) ?_⟩)
    refine g_placesT hx3 hts (dn hD) fun z1 σ3 hz1 E3=>gFn 174 (getNode (c3.ex E3) fun kl2 hk2=>⟨notPyL (hF hk2),itemL' 1 (hF hk2) rfl rfl (by lia) ?_⟩)
    exact g_placesT (hy3.ex E3) hts (dn hD) fun z2 σ4 hz2 E4=>neL (hM (E4.m _ _ hz1 id)) (hM hz2) (ints_eq _) (hin _ _ _ ⟨i+1,rfl,hilt,(E2.trans E3).trans E4,rfl⟩)
 · intro m' σ2 z1;refine ea1_4 z1 fun i hrem hi E2 z2=>?_;clear z1;subst z2
   exact q σ2 (xr.trans E2)
end
section
variable {gs:Gs} {P:Pe} {ps ps':Ps}
theorem law_mid {sl fa ma:Addr} {fl:Int} {laps:List Lap} {fds:List Fd} {fv mv:List V} (L:LS σ e fa ma laps fds fv mv) (hll:laps.length<=5) (hD:230<=D) (q:∀ σ',k (.bool true) σ') :
 vcAt (cx 177 K D) (fBody (stAt 177)) 7 (lwFr e sl fl fa ma []) σ (kRet k):=by
 revert mv L hll hD q
 revert K D σ k e sl fa ma fl laps fds fv
 refine no_implicit_lambda% (al12 (n:=⟨(kc0,default)⟩) ?_)
 generalize et12 _ _=υ
 generalize υ.1=K,υ.2.1=D,υ.2.2.1=σ,υ.2.2.2.1=k,υ.2.2.2.2.1=e,υ.2.2.2.2.2.1=sl,υ.2.2.2.2.2.2.1=fa,υ.2.2.2.2.2.2.2.1=ma,υ.2.2.2.2.2.2.2.2.1=fl,υ.2.2.2.2.2.2.2.2.2.1=laps,υ.2.2.2.2.2.2.2.2.2.2.1=fds,υ.2.2.2.2.2.2.2.2.2.2.2=fv
 intro mv L hll hD q
 have hle:=L.le
 have hb:=FT_bound (ln:=false) L.ok
 have ok:∀ f∈fds,f.Ok:=fun f hf=>(L.ok f hf).1
 have htl:(gsOf laps fds).toks.length<=801:=by show (_::FT false fds).length<=801;refine qE List.length_cons ?_;lia
 refine gFn 166 (g_put L.g (by lia) (dn hD) fun σ1 G1 x1=>?_)
 have hlen:((gsOf laps fds).app [(⟨5,"}",0⟩,(gsOf laps fds).ln)]).toks.length=endOf fds 1+1:=by refine qE Gs.app_len (qE gs_len ?_);rfl
 have hel:((gsOf laps fds).app [(⟨5,"}",0⟩,(gsOf laps fds).ln)]).early=earlyOf fds 1:=rfl
 have hla:((gsOf laps fds).app [(⟨5,"}",0⟩,(gsOf laps fds).ln)]).late=lateAll (mkM laps fds 1):=rfl
 have htk:((gsOf laps fds).app [(⟨5,"}",0⟩,(gsOf laps fds).ln)]).toks=(⟨5,"{",0⟩,false)::(FT false fds++[(⟨5,"}",0⟩,lnOf false fds)]):=rfl
 revert htk;revert hla;revert hel;revert hlen;revert G1;refine gnE ((gsOf laps fds).app [(⟨5,"}",0⟩,(gsOf laps fds).ln)]) fun gs hgs G1 hlen hel hla htk=>?_
 have hfa1:=x1.m _ _ L.hfa (gx_ads L.nf)
 have hma1:=x1.m _ _ L.hma (gx_ads L.nm)
 have hV1:=L.hfv.ex x1
 have hL1:=L.hmv.ex x1
 refine gCls 70 ct_Diags (new_diags (dn hD) fun dg dd rl σ2 hdg hdd hrl f1 f2 f3 E2=>?_)
 have G2:=G1.e0 E2
 have nrl:rl ∉ e.ads:=fun h=>G1.notin f3 rl h rfl
 have nrf:rl≠fa:=fun h=>(f3.neM hfa1) h.symm
 have nrm:rl≠ma:=fun h=>(f3.neM hma1) h.symm
 have hfa2:=E2.m _ _ hfa1 id
 have hma2:=E2.m _ _ hma1 id
 have hV2:=hV1.ex E2
 have hL2:=hL1.ex E2
 have hn900:gs.toks.length<=900:=by refine qB hgs (qE Gs.app_len ?_);show (gsOf laps fds).toks.length+1<=900;lia
 refine gFn 175 (c_reader G2 hn900 hdg hdd hrl (dn hD) fun P σ3 hPt hPd P3 hpe E3 hPr hPf=>?_)
 subst hPd
 subst hPr
 have nPd:P.d ∉ e.ads:=fun h=>G2.notin hPf P.d h rfl
 have nPf:P.d≠fa:=fun h=>(hPf.neM hfa2) h.symm
 have nPm:P.d≠ma:=fun h=>(hPf.neM hma2) h.symm
 have Q3:QS σ3 e P ⟨0,0,true,false,[]⟩ gs:=⟨P3,G2.e0 E3,nPd,nrl⟩
 have hblk:Blk P.tks 0 gs.toks:=by refine qE hPt ?_;exact mkT_blk gs.toks 0 [endTok gs.toks.length] [] rfl
 replace hblk:=htk▸hblk
 have hb2:=Blk.hd hblk
 have on:FdsOn P.tks false fds 1:=fds_on fds false 1 L.ok hb2.2
 have hfa3:=E3.m _ _ hfa2 id
 have hma3:=E3.m _ _ hma2 id
 have hV3:=hV2.ex E3
 have hL3:=hL2.ex E3
 refine gFn 116 (c_read_members (i:=0) P3 rfl hb2.1 on (by lia) rfl rfl (dn hD) fun nd kids σ4 rt ln htn P4 hK4 hN4 x4=>?_)
 have Q4:=Q3.px x4 P4
 have hfa4:=x4.m _ _ hfa3 (by rintro (h | h);exact nPf h.symm;exact nrf h.symm)
 have hma4:=x4.m _ _ hma3 (by rintro (h | h);exact nPm h.symm;exact nrm h.symm)
 have hV4:=hV3.ex x4
 have hL4:=hL3.ex x4
 have hpe4:=x4.f _ _ hpe
 refine gFn 51 (gCls 45 ct_Node (nodeNewF hfa4 (dn hD) fun nd2 σ5 hN2 hfF x5=>?_))
 have Q5:=Q4.ex x5 (fun a ha h=>L.nf (h▸ha)) nPf nrf
 have hma5:=x5.m _ _ hma4 L.fm.symm
 have hN5:=hN4.ex x5
 have hK5:=hK4.ex x5
 have hV5:=hV4.ex x5
 have hsz:=fds_size (i:=1) ok
 refine c_same_tree (f:=.nd 71 (.str "") 0 ((3 * 0+2:Nat):Int) (fdsFo fds 1) .nil) (g:=.nd 71 (.str "") 0 0 (fdsFo fds 1) .nil) ⟨nd,[],.str "",kids,rfl,rfl,hN5,fds_fo hK5,rfl⟩ ⟨nd2,[],.str "",fv,rfl,rfl,hN2,fds_fo hV5,rfl⟩ ⟨rfl,rfl,rfl,Fo.sim_refl _,trivial⟩ (by simp only [Fo.size];lia) (dn hD) fun σ6 E6=>?_
 have Q6:=Q5.e0 E6
 refine truB (getNode (hN5.ex E6) fun kl hkl=>neI ?_)
 have hend:P.tks[endOf fds 1+1]?=some (endTok gs.toks.length):=by
  rw [hPt,← hlen,List.getElem?_append_right (by rw [mkT_len];exact Nat.le_refl _),mkT_len,Nat.sub_self];rfl
 refine pM 1 Q6.p (c_now Q6.p hend (dn hD) fun ta hta=>getTok hta (neI (getP Q6.p (neI (getP Q6.p (tp fun y fy=>?_))))))
 have E7:E0 σ6 (σ6.fz y (.tup [.str "",.int 0,.int 0])):=.fz fy
 have hpe7:=E7.f _ _ (E6.f _ _ (x5.f _ _ hpe4))
 refine neT (hF hpe7) (hF fz_F) (.cons (.sc (.str _)) (.cons (.sc (.int _)) (.cons (.sc (.int _)) .nil))) ?_
 have Q7:=Q6.e0 E7
 refine gFn 176 ?_
 have hdl:(earlyOf fds 1).length<=5:=by have:=earlyOf_len (fds:=fds) (i:=1);lia
 refine c_told (n:=0) Q7.p (show (earlyOf fds 1).length<=800 by lia) (dn hD) fun w ws σ8 hw hws E8=>?_
 have Q8:=Q7.e0 E8
 refine ea1_2 Q8.g.ea fun re he1 he2=>?_
 replace he2:=hel▸he2
 refine gItem Q8.g (fun nx=>gget.2.2.2.2.1) (neL (hM hw) (hM he1) (prs_eq hws he2) ?_)
 have X58:=(E6.trans E7).trans E8
 have H:=law_places (K:=K) (D:=D) (e:=e) (P:=P) (sl:=sl) (fl:=fl) (ma:=ma) (dg:=P.dg) (k:=k) (hN5.ex X58) (hK5.ex X58) (X58.f _ _ hfF) (hV5.ex X58) ok (by lia) hD fun σ9 E9=>
  law_end (Q8.e0 E9) ((hN5.ex X58).ex E9) ((hK5.ex X58).ex E9) ok (E9.m _ _ (X58.m _ _ hma5 id) id) (((hL4.ex x5).ex X58).ex E9) hll L.cn hle hel.symm (by refine qE hel ?_;lia) hla (by lia) q
 conv at H=>whnf
 exact H
theorem law_vc {sl:Addr} {ns:List Int} (hs:HasL K σ sl (ns.map .int)) (hns:ns.length<=63) (hD:231<=D) (q:∀ σ',k (.bool true) σ'):vc (cx 177 K D) (fBody (stAt 177)) (((fPar (stAt 177)).args.map (·.arg)).zip [.ref sl]) σ (kRet k):=by
 refine ⟨_,ns.map .int,(ns.take 48).map .int,rfl,hs,by rw [List.length_map];lia,.inr (.inr ⟨48,rfl,rfl,by exact qE List.map_take rfl⟩),fun nu fnu=>?_⟩
 have hnu1:(σ.set nu (.list ((ns.take 48).map .int))).M nu=some (.list ((ns.take 48).map .int)):=set_M
 revert hnu1;refine gn (σ.set nu (.list ((ns.take 48).map .int))) fun σ1 hnu1=>?_
 intro A env L hrr fe
 refine dict_str (by decide +kernel) ?_ hrr fe
 refine tp fun tk ftk=>tp fun ea fea=>tp fun la fla=>?_
 have E3:=Ex.new (X:=fun ξ=>False) (c:=.list []) fla
 have E2:=(Ex.new (X:=fun ξ=>False) (c:=.list []) fea).trans E3
 have E1:=(Ex.new (X:=fun ξ=>False) (c:=.list []) ftk).trans E2
 have m1:=E2.m _ _ (set_M (σ:=σ1) (y:=tk) (c:=.list [])) id
 have m2:=E3.m _ _ (set_M (σ:=σ1.set tk (.list [])) (y:=ea) (c:=.list [])) id
 have m3:=set_M (σ:=(σ1.set tk (.list [])).set ea (.list [])) (y:=la) (c:=.list [])
 have m0:=E1.m _ _ hnu1 id
 have n1:nu≠tk:=ftk.neM hnu1
 have n2:nu≠ea:=(fea.set.1).neM hnu1
 have n3:nu≠la:=(fla.set.1.set.1).neM hnu1
 have n4:tk≠ea:=fun h=>fea.set.2 h.symm
 have n5:tk≠la:=fun h=>fla.set.1.set.2 h.symm
 have n6:ea≠la:=fun h=>fla.set.2 h.symm
 revert m3;revert m2;revert m1;revert m0;refine gn (((σ1.set tk (.list [])).set ea (.list [])).set la (.list [])) fun σ2 m0 m1 m2 m3=>?_
 clear E1 E2 E3
 refine ⟨[("nums",.ref nu),("next",.int 0),("toks",.ref tk),("line",.bool false),("early",.ref ea),("late",.ref la)],rfl,List.pairwise_map.mp (show List.Nodup (["nums","next","toks","line","early","late"]:List Str) from by decide +kernel),fun g fg=>?_⟩
 have E3:E0 σ2 (σ2.set g (.dict (gns ⟨g,nu,tk,ea,la,ns.take 48⟩ 0 false))):=.new fg
 have G3:GSt (σ2.set g (.dict (gns ⟨g,nu,tk,ea,la,ns.take 48⟩ 0 false))) ⟨g,nu,tk,ea,la,ns.take 48⟩ ⟨[],false,[],[]⟩:=by
  refine ⟨⟨0,set_M⟩,E3.m _ _ m0 id,by refine qE List.length_take ?_;lia,⟨[],E3.m _ _ m1 id,.nil⟩,⟨[],E3.m _ _ m2 id,.nil⟩,⟨[],E3.m _ _ m3 id,.nil⟩,?_⟩
  have g0:=fg.neM m0
  have g1:=fg.neM m1
  have g2:=fg.neM m2
  have g3:=fg.neM m3
  simp only [List.nodup_cons,List.mem_cons,List.not_mem_nil,or_false,not_or]
  exact ⟨⟨g0.symm,g1.symm,g2.symm,g3.symm⟩,⟨n1,n2,n3⟩,⟨n4,n5⟩,n6,fun h=>h,.nil⟩
 have rest:∀ (fl:Int) (σ4:Sg),GSt σ4 ⟨g,nu,tk,ea,la,ns.take 48⟩ ⟨[],false,[],[]⟩->vcAt (cx 177 K D) (fBody (stAt 177)) 3 [("script",.ref nu),("st",.ref g),("flags",.int fl)] σ4 (kRet k):=by
  intro fl σ4 G4
  refine gFn 166 (g_put G4 (Nat.zero_le _) (dn hD) fun σ5 G5 x5=>tp fun fa ffa=>?_)
  have G6:=G5.new (c:=.list []) ffa
  have hfa:(σ5.set fa (.list [])).M fa=some (.list []):=set_M
  refine tp fun ma fma=>?_
  have G7:=G6.new (c:=.list []) fma
  have x7:E0 (σ5.set fa (.list [])) ((σ5.set fa (.list [])).set ma (.list [])):=.new fma
  have L:LS ((σ5.set fa (.list [])).set ma (.list [])) ⟨g,nu,tk,ea,la,ns.take 48⟩ fa ma [] [] [] []:=
   ⟨rfl,Nat.le_refl _,fun f h=>by simp at h,G7,x7.m _ _ hfa id,rfl,set_M,.nil,fun h=>G5.notin ffa fa h rfl,fun h=>G6.notin fma ma h rfl,fma.neM hfa⟩
  have H:=law_loop (K:=K) (D:=D) (sl:=nu) (fl:=fl) (k:=k) L (by lia) fun laps fds fv mv σ' hll L' x'=>law_mid L' hll (by lia) q
  conv at H=>whnf
  exact H
 refine gFn 165 (g_pull (m:=2) G3 (by decide) (dn hD) fun q2 hq2 σ4 G4 x4=>eqI ?_)
 induction hq:((q2:Int)==1) with
 | true=>
  have H:=rest 4194304 σ4 G4
  conv at H=>whnf
  exact H
 | false=>
  have H:=rest 0 σ4 G4
  conv at H=>whnf
  exact H
end
section
section
variable {t:Nat} {A:Around}
noncomputable def sg0:Sg:=⟨fun ξ=>none,fun ξ=>none⟩
theorem code_fn0 {lo f name qual params body sc} (Fn:FnAt K.h0 lo f name qual params body sc) (hroom:A.depth<recursionLimit) {names:List Str} {as:List V} {vs:List Value} (hv:AllAt as vs)
 (hdef:params.defaults=[]) (hok:okFn sc names=true) (hnd:nodupS names=true) (hlen:names.length=vs.length)
 (hbind:∀ pm code doc,bindArgs (defFd name qual params body sc mainGlobals .none .none none pm code doc) ⟨vs,[]⟩=pure (names.zip vs)) {R:Result->Shared->Prop}
 (q:∀ L' h' t' env,Fe env sc L'->St K sg0 L' (names.zip as) [] h' →
  wpAny (model prg K.w) (A.deeper env) (execs body env) (fun fl s'=>R (.ok (.ret (match fl with | .ret v=>v | _=>.none))) s') (fun ξ ξ=>False) ⟨h',#[],K.d,t',K.os⟩) :
 codeAny (model prg K.w) A (.call (.ref f) ⟨vs,[]⟩) R ⟨K.h0,#[],K.d,t,K.os⟩:=by
 refine ea0_2 Fn.ex fun lf z1=>?_;refine ea6_1 z1 fun dV dvs pm code doc P' y31=>?_;refine ea0_8 y31 fun lc lP e c D R' I T=>?_;clear y31;clear z1
 have hd:dV=.none:=by
  rcases D with d | ⟨hne,r⟩
  · exact d.2
  · replace c:=hdef▸c
    induction dvs using List.casesOn with
    | nil=>exact (hne rfl).elim
    | cons _ _=>exact c.elim
 subst hd
 simp only [okFn,Bool.and_eq_true,Bool.not_eq_true',beq_iff_eq] at hok
 refine ea0_2 hok fun z1 h6=>?_;clear hok;refine ea0_2 z1 fun z2 h5=>?_;clear z1;refine ea0_2 z2 fun z3 h4=>?_;clear z2;refine ea0_2 z3 fun z4 h3=>?_;clear z3;refine ea0_2 z4 fun h1 h2=>?_;clear z4
 refine codeAny_call_plain (o:=_) hroom e rfl K.gl.noLimit R' rfl (hbind _ _ _) (fun x hx=>?_) (fun x hx=>?_) (fun h0 hns k=>?_) h2 h3 h4
 · have:=List.all_eq_true.mp h1 x hx
   simpa using this
 · have:=List.all_eq_true.mp h5 x.1 (List.of_mem_zip (a:=x.1) (b:=x.2) hx).1
   show sc.names.lookup x.1=some .local
   simpa using this
 · refine wpAny_mono (q K.h0.objs.size h0 _ _ ⟨rfl,rfl,rfl,rfl,h4,h6⟩ ⟨fun b o e=>⟨k _ _ e,rfl,rfl⟩,fun b c e=>(by injection e),fun b c e=>(by injection e),⟨⟨_,hns,.of fun x=>?_⟩,rfl,rfl,Heap.get?_none_of_le (Nat.le_refl _)⟩,fun p hp=>(by cases hp),.nil⟩) (fun fl s' z=>?_) (fun ξ ξ z=>z.elim)
   · rw [lookup_reverse (zip_keys_nodup hnd)]
     exact zip_get hnd hv hlen x
   · cases fl <;> exact z
theorem law_run {f sl:Addr} {ns:List Int} {its:Array Value} {E:VP} (Fn:FnAt K.h0 K.lo f (fName (stAt 177)) (fName (stAt 177)) (fPar (stAt 177)) (fBody (stAt 177)) (fSc (stAt 177))) (hl:K.h0.IsList sl its) (hi:AllAt (ns.map .int) its.toList) (hns:ns.length<=63) {D:Nat} (hr:Room A (D+1)) (hD:231<=D+1) {Q:VP}
 (q:∀ h' t',(Kp K.h0 h')->Q (.bool true) ⟨h',#[],K.d,t',K.os⟩):wpAny (model prg K.w) A (call (.ref f) [.ref sl]) Q E ⟨K.h0,#[],K.d,t,K.os⟩:=by
 have hf:fOk (fPar (stAt 177)) (fSc (stAt 177)) 1=true:=by decide +kernel
 simp only [fOk,Bool.and_eq_true,List.isEmpty_iff,beq_iff_eq] at hf
 refine ea0_2 hf fun z1 h5=>?_;clear hf;refine ea0_2 z1 fun z2 h4=>?_;clear z1;refine ea0_2 z2 fun z3 h3=>?_;clear z2;refine ea0_2 z3 fun h1 h2=>?_;clear z3
 have hlen:((fPar (stAt 177)).args.map (·.arg)).length=[Value.ref sl].length:=by rw [List.length_map,h5];rfl
 refine wpAny_call (code_fn0 (as:=[.ref sl]) (vs:=[Value.ref sl]) Fn (by have:=hr.1;omega) ⟨rfl,trivial⟩ h2 h3 h4 hlen (fun pm code doc=>bind_plain h1 h2 hlen h4) fun L' h' t' env fe st'=>?_)
 refine (recS_ok (c:=cx 177 K (D+1)) hr.deeper fe 60).okSS (law_vc (k:=fun v ξ=>v=.bool true) (.inr ⟨its,hl,hi⟩) hns hD fun ξ=>rfl) st' fun fl u m2 σ2 h2 t2 fu x2 st2=>?_
 induction fl with
 | ret a=>
  refine ea1_2 fu fun v z1 av=>?_;clear fu;subst z1
  have e:a=.bool true:=x2
  subst e
  have e:v=.bool true:=av
  subst e
  exact q _ _ st2.h0
 | _=>cases (show V.none=.bool true from x2)
end
theorem ints_all {vs:List Value} {ns:List Int} (h:IntsAre vs ns):AllAt (ns.map .int) vs:=by
 induction h with
 | nil=>exact trivial
 | cons n t h ih=>exact ⟨⟨t,rfl⟩,ih⟩
theorem law_true (sd:lawRow.wellSaid=true):lawRow.Holds:=by
 have nm:fName (stAt 177)=("law":Str):=by decide +kernel
 refine holds_by_top sd (fun w s=>∃ mg mb lo,GL w s.heap mg mb lo) top_body (fun w s hF=>?_) fun w s s₁ ns a its hF k hg hl hi hn=>?_
 · refine ea3_1 hF fun mg mb lo g=>?_;clear hF
   refine ea1_3 (fn_at (K:=⟨w,s.heap,mg,mb,lo,s.drawn,s.os,g⟩) 177 (by decide +kernel)) fun f h1 z1 Fn=>?_;clear z1
   refine ea0_2 Fn.ex fun lf z1=>?_;refine ea6_1 z1 fun dV dvs pm code doc P' y32=>?_;refine ea0_8 y32 fun lc lP e c D R' I T=>?_;clear y32;clear z1
   have hd:dV=.none:=by
    rcases D with d | ⟨hne,r⟩
    · exact d.2
    · replace c:=(show (fPar (stAt 177)).defaults=[] from by kernel_rfl)▸c
      induction dvs using List.casesOn with
      | nil=>exact (hne rfl).elim
      | cons _ _=>exact c.elim
   subst hd
   replace h1:=nm▸h1
   refine ⟨f,_,_,fPar (stAt 177),fBody (stAt 177),fSc (stAt 177),(globalOf_ns g.g _).trans h1,e,rfl,by kernel_rfl,nm,nm,rfl,rfl,rfl,rfl,rfl,rfl,.inl ⟨by kernel_rfl,rfl⟩,[],by kernel_rfl,.inl ⟨rfl,rfl⟩⟩
 · refine ea3_1 hF fun mg mb lo g=>?_;clear hF
   obtain ⟨h1,g1,d1,t1,o1⟩:=s₁
   cases hg
   refine ea1_3 (fn_at (K:=⟨w,h1,mg,mb,lo,d1,o1,g.keeps k⟩) 177 (by decide +kernel)) fun f e1 z1 Fn=>?_;clear z1
   replace e1:=nm▸e1
   refine ⟨.ref f,(globalOf_ns g.g _).trans e1,law_run (K:=⟨w,h1,mg,mb,lo,d1,o1,g.keeps k⟩) (D:=231) Fn hl (ints_all hi) hn ⟨?_,?_,rfl⟩ (by omega) fun h' t' kk=>⟨rfl,kk,rfl,rfl⟩⟩
   · decide +kernel
   · decide +kernel
end
end
end
end Mine
theorem PySem.Challenge.cw_xw0134_01_holds : PySem.Challenge.rw_xw0134_01.Holds :=
  holds_law Mine.said Mine.law_true
