import PyProof.Rows.All
import Wide.All
import OpenK.AllK
import Wide.FinOn
import Lean
import PySem.Challenge.RW_nu0094_01
open PySem PySem.W PySem.Calls PyProof.Rows PySem.Spec
set_option Elab.async false
set_option maxRecDepth 100000
set_option linter.all false
namespace Mine
namespace Internal
set_option tactic.hygienic false
theorem AG{p0 p1:Prop}{Z:Prop}(h:p0/\p1)(z:p0->p1->Z):Z:=by obtain⟨q0,q1⟩:=h;exact z q0 q1
theorem D3{a b:Bool}{Z:Prop}(h:(a&&b)=true)(z:a=true->b=true->Z):Z:=by obtain⟨q0,q1⟩:=Bool.and_eq_true_iff.mp h;exact z q0 q1
theorem Ct{a b:Bool}(h:(a&&b)=true):a=true:=(Bool.and_eq_true_iff.mp h).1
theorem Dp{a b:Bool}(h:(a&&b)=true):b=true:=(Bool.and_eq_true_iff.mp h).2
theorem B0{p0 p1 p2:Prop}{Z:Prop}(h:p0/\p1/\p2)(z:p0->p1->p2->Z):Z:=by obtain⟨q0,q1,q2⟩:=h;exact z q0 q1 q2
theorem GO{p0 p1 p2 p3:Prop}{Z:Prop}(h:p0/\p1/\p2/\p3)(z:p0->p1->p2->p3->Z):Z:=by obtain⟨q0,q1,q2,q3⟩:=h;exact z q0 q1 q2 q3
theorem NB{p0 p1 p2 p3 p4:Prop}{Z:Prop}(h:p0/\p1/\p2/\p3/\p4)(z:p0->p1->p2->p3->p4->Z):Z:=by obtain⟨q0,q1,q2,q3,q4⟩:=h;exact z q0 q1 q2 q3 q4
theorem oX{p0 p1 p2 p3 p4 p5:Prop}{Z:Prop}(h:p0/\p1/\p2/\p3/\p4/\p5)(z:p0->p1->p2->p3->p4->p5->Z):Z:=by obtain⟨q0,q1,q2,q3,q4,q5⟩:=h;exact z q0 q1 q2 q3 q4 q5
theorem X4{p0 p1 p2 p3 p4 p5 p6 p7:Prop}{Z:Prop}(h:p0/\p1/\p2/\p3/\p4/\p5/\p6/\p7)(z:p0->p1->p2->p3->p4->p5->p6->p7->Z):Z:=by obtain⟨q0,q1,q2,q3,q4,q5,q6,q7⟩:=h;exact z q0 q1 q2 q3 q4 q5 q6 q7
theorem AP{A:Sort _}{p0:A->Prop}{Z:Prop}(h:∃a,p0 a)(z:∀a,p0 a->Z):Z:=by obtain⟨a,q0⟩:=h;exact z a q0
theorem Au{A:Sort _}{p0 p1:A->Prop}{Z:Prop}(h:∃a,p0 a/\p1 a)(z:∀a,p0 a->p1 a->Z):Z:=by obtain⟨a,q0,q1⟩:=h;exact z a q0 q1
theorem D9{A:Sort _}{p0 p1 p2:A->Prop}{Z:Prop}(h:∃a,p0 a/\p1 a/\p2 a)(z:∀a,p0 a->p1 a->p2 a->Z):Z:=by obtain⟨a,q0,q1,q2⟩:=h;exact z a q0 q1 q2
theorem pH{A:Sort _}{p0 p1 p2 p3:A->Prop}{Z:Prop}(h:∃a,p0 a/\p1 a/\p2 a/\p3 a)(z:∀a,p0 a->p1 a->p2 a->p3 a->Z):Z:=by obtain⟨a,q0,q1,q2,q3⟩:=h;exact z a q0 q1 q2 q3
theorem pS{A:Sort _}{p0 p1 p2 p3 p4:A->Prop}{Z:Prop}(h:∃a,p0 a/\p1 a/\p2 a/\p3 a/\p4 a)(z:∀a,p0 a->p1 a->p2 a->p3 a->p4 a->Z):Z:=by obtain⟨a,q0,q1,q2,q3,q4⟩:=h;exact z a q0 q1 q2 q3 q4
theorem KH{A B:Sort _}{p0:A->B->Prop}{Z:Prop}(h:∃a b,p0 a b)(z:∀a b,p0 a b->Z):Z:=by obtain⟨a,b,q0⟩:=h;exact z a b q0
theorem CX{A B:Sort _}{p0 p1:A->B->Prop}{Z:Prop}(h:∃a b,p0 a b/\p1 a b)(z:∀a b,p0 a b->p1 a b->Z):Z:=by obtain⟨a,b,q0,q1⟩:=h;exact z a b q0 q1
theorem Cz{A B:Sort _}{p0 p1 p2:A->B->Prop}{Z:Prop}(h:∃a b,p0 a b/\p1 a b/\p2 a b)(z:∀a b,p0 a b->p1 a b->p2 a b->Z):Z:=by obtain⟨a,b,q0,q1,q2⟩:=h;exact z a b q0 q1 q2
theorem Sp{A B:Sort _}{p0 p1 p2 p3:A->B->Prop}{Z:Prop}(h:∃a b,p0 a b/\p1 a b/\p2 a b/\p3 a b)(z:∀a b,p0 a b->p1 a b->p2 a b->p3 a b->Z):Z:=by obtain⟨a,b,q0,q1,q2,q3⟩:=h;exact z a b q0 q1 q2 q3
theorem lF{A B:Sort _}{p0 p1 p2 p3 p4:A->B->Prop}{Z:Prop}(h:∃a b,p0 a b/\p1 a b/\p2 a b/\p3 a b/\p4 a b)(z:∀a b,p0 a b->p1 a b->p2 a b->p3 a b->p4 a b->Z):Z:=by obtain⟨a,b,q0,q1,q2,q3,q4⟩:=h;exact z a b q0 q1 q2 q3 q4
theorem sH{A B C:Sort _}{p0:A->B->C->Prop}{Z:Prop}(h:∃a b c,p0 a b c)(z:∀a b c,p0 a b c->Z):Z:=by obtain⟨a,b,c,q0⟩:=h;exact z a b c q0
theorem iK{A B C:Sort _}{p0 p1:A->B->C->Prop}{Z:Prop}(h:∃a b c,p0 a b c/\p1 a b c)(z:∀a b c,p0 a b c->p1 a b c->Z):Z:=by obtain⟨a,b,c,q0,q1⟩:=h;exact z a b c q0 q1
theorem Jh{A B C:Sort _}{p0 p1 p2:A->B->C->Prop}{Z:Prop}(h:∃a b c,p0 a b c/\p1 a b c/\p2 a b c)(z:∀a b c,p0 a b c->p1 a b c->p2 a b c->Z):Z:=by obtain⟨a,b,c,q0,q1,q2⟩:=h;exact z a b c q0 q1 q2
theorem HP{A B C:Sort _}{p0 p1 p2 p3:A->B->C->Prop}{Z:Prop}(h:∃a b c,p0 a b c/\p1 a b c/\p2 a b c/\p3 a b c)(z:∀a b c,p0 a b c->p1 a b c->p2 a b c->p3 a b c->Z):Z:=by obtain⟨a,b,c,q0,q1,q2,q3⟩:=h;exact z a b c q0 q1 q2 q3
theorem nV{A B C:Sort _}{p0 p1 p2 p3 p4:A->B->C->Prop}{Z:Prop}(h:∃a b c,p0 a b c/\p1 a b c/\p2 a b c/\p3 a b c/\p4 a b c)(z:∀a b c,p0 a b c->p1 a b c->p2 a b c->p3 a b c->p4 a b c->Z):Z:=by obtain⟨a,b,c,q0,q1,q2,q3,q4⟩:=h;exact z a b c q0 q1 q2 q3 q4
theorem oM{A B C D:Sort _}{p0:A->B->C->D->Prop}{Z:Prop}(h:∃a b c d,p0 a b c d)(z:∀a b c d,p0 a b c d->Z):Z:=by obtain⟨a,b,c,d,q0⟩:=h;exact z a b c d q0
theorem hM{A B C D:Sort _}{p0 p1 p2:A->B->C->D->Prop}{Z:Prop}(h:∃a b c d,p0 a b c d/\p1 a b c d/\p2 a b c d)(z:∀a b c d,p0 a b c d->p1 a b c d->p2 a b c d->Z):Z:=by obtain⟨a,b,c,d,q0,q1,q2⟩:=h;exact z a b c d q0 q1 q2
theorem Hm{A B C D:Sort _}{p0 p1 p2 p3:A->B->C->D->Prop}{Z:Prop}(h:∃a b c d,p0 a b c d/\p1 a b c d/\p2 a b c d/\p3 a b c d)(z:∀a b c d,p0 a b c d->p1 a b c d->p2 a b c d->p3 a b c d->Z):Z:=by obtain⟨a,b,c,d,q0,q1,q2,q3⟩:=h;exact z a b c d q0 q1 q2 q3
theorem nW{A B C D:Sort _}{p0 p1 p2 p3 p4:A->B->C->D->Prop}{Z:Prop}(h:∃a b c d,p0 a b c d/\p1 a b c d/\p2 a b c d/\p3 a b c d/\p4 a b c d)(z:∀a b c d,p0 a b c d->p1 a b c d->p2 a b c d->p3 a b c d->p4 a b c d->Z):Z:=by obtain⟨a,b,c,d,q0,q1,q2,q3,q4⟩:=h;exact z a b c d q0 q1 q2 q3 q4
theorem rK{A B C D E:Sort _}{p0:A->B->C->D->E->Prop}{Z:Prop}(h:∃a b c d e,p0 a b c d e)(z:∀a b c d e,p0 a b c d e->Z):Z:=by obtain⟨a,b,c,d,e,q0⟩:=h;exact z a b c d e q0
theorem lA{A B C D E:Sort _}{p0 p1:A->B->C->D->E->Prop}{Z:Prop}(h:∃a b c d e,p0 a b c d e/\p1 a b c d e)(z:∀a b c d e,p0 a b c d e->p1 a b c d e->Z):Z:=by obtain⟨a,b,c,d,e,q0,q1⟩:=h;exact z a b c d e q0 q1
theorem sA{A B C D E F:Sort _}{p0:A->B->C->D->E->F->Prop}{Z:Prop}(h:∃a b c d e f,p0 a b c d e f)(z:∀a b c d e f,p0 a b c d e f->Z):Z:=by obtain⟨a,b,c,d,e,f,q0⟩:=h;exact z a b c d e f q0
theorem lX{A B C D E F:Sort _}{p0 p1 p2:A->B->C->D->E->F->Prop}{Z:Prop}(h:∃a b c d e f,p0 a b c d e f/\p1 a b c d e f/\p2 a b c d e f)(z:∀a b c d e f,p0 a b c d e f->p1 a b c d e f->p2 a b c d e f->Z):Z:=by obtain⟨a,b,c,d,e,f,q0,q1,q2⟩:=h;exact z a b c d e f q0 q1 q2
theorem iP{A B C D E F:Sort _}{p0 p1 p2 p3 p4:A->B->C->D->E->F->Prop}{Z:Prop}(h:∃a b c d e f,p0 a b c d e f/\p1 a b c d e f/\p2 a b c d e f/\p3 a b c d e f/\p4 a b c d e f)(z:∀a b c d e f,p0 a b c d e f->p1 a b c d e f->p2 a b c d e f->p3 a b c d e f->p4 a b c d e f->Z):Z:=by obtain⟨a,b,c,d,e,f,q0,q1,q2,q3,q4⟩:=h;exact z a b c d e f q0 q1 q2 q3 q4
theorem rO{A B C D E F G:Sort _}{p0:A->B->C->D->E->F->G->Prop}{Z:Prop}(h:∃a b c d e f g,p0 a b c d e f g)(z:∀a b c d e f g,p0 a b c d e f g->Z):Z:=by obtain⟨a,b,c,d,e,f,g,q0⟩:=h;exact z a b c d e f g q0
theorem pN{A B C D E F G:Sort _}{p0 p1 p2:A->B->C->D->E->F->G->Prop}{Z:Prop}(h:∃a b c d e f g,p0 a b c d e f g/\p1 a b c d e f g/\p2 a b c d e f g)(z:∀a b c d e f g,p0 a b c d e f g->p1 a b c d e f g->p2 a b c d e f g->Z):Z:=by obtain⟨a,b,c,d,e,f,g,q0,q1,q2⟩:=h;exact z a b c d e f g q0 q1 q2
theorem pW{A B C D E F G:Sort _}{p0 p1 p2 p3:A->B->C->D->E->F->G->Prop}{Z:Prop}(h:∃a b c d e f g,p0 a b c d e f g/\p1 a b c d e f g/\p2 a b c d e f g/\p3 a b c d e f g)(z:∀a b c d e f g,p0 a b c d e f g->p1 a b c d e f g->p2 a b c d e f g->p3 a b c d e f g->Z):Z:=by obtain⟨a,b,c,d,e,f,g,q0,q1,q2,q3⟩:=h;exact z a b c d e f g q0 q1 q2 q3
theorem sG{A B C D E F G:Sort _}{p0 p1 p2 p3 p4 p5 p6:A->B->C->D->E->F->G->Prop}{Z:Prop}(h:∃a b c d e f g,p0 a b c d e f g/\p1 a b c d e f g/\p2 a b c d e f g/\p3 a b c d e f g/\p4 a b c d e f g/\p5 a b c d e f g/\p6 a b c d e f g)(z:∀a b c d e f g,p0 a b c d e f g->p1 a b c d e f g->p2 a b c d e f g->p3 a b c d e f g->p4 a b c d e f g->p5 a b c d e f g->p6 a b c d e f g->Z):Z:=by obtain⟨a,b,c,d,e,f,g,q0,q1,q2,q3,q4,q5,q6⟩:=h;exact z a b c d e f g q0 q1 q2 q3 q4 q5 q6
theorem rV{A B C D E F G H:Sort _}{p0:A->B->C->D->E->F->G->H->Prop}{Z:Prop}(h:∃a b c d e f g h,p0 a b c d e f g h)(z:∀a b c d e f g h,p0 a b c d e f g h->Z):Z:=by obtain⟨a,b,c,d,e,f,g,h,q0⟩:=h;exact z a b c d e f g h q0
theorem Dm{α:Type}{P:Prop}{a:α}(h:none=some a):P:=absurd h.symm (Option.some_ne_none _)
theorem DA{P:Prop}(h:false=true):P:=absurd h Bool.false_ne_true
set_option backward.match.sparseCases false
noncomputable section
set_option genSizeOf false in
inductive V where
 |none|bool (b:Bool)|int (i:Int)|str (s:Str)|byt (b:Array UInt8)|rng (n:Nat)
 |glob (v:Value)|exn (c v:Int)|tup (l:List V)|lst (l:List V)|obj (i:Nat)
set_option genSizeOf false in
set_option genInjectivity false in
inductive AO where
 |inst (C:Addr) (fs:List (Str×V))
 |dict (es:List (V×V)) (n:Nat)
 |list (vs:List V)
abbrev St:=List AO
set_option genSizeOf false in
set_option genInjectivity false in
set_option genCtorIdx false in
inductive Ex where
 |trap (c v:Int) (d:Nat)|bad (a:Int) (d:Nat)
noncomputable def Ex.d:Ex->Nat
 |.trap _ _ d=>d
 |.bad _ d=>d
noncomputable def Ex.up(n:Nat):Ex->Ex
 |.trap c v _=>.trap c v n
 |.bad a _=>.bad a n
set_option genSizeOf false in
inductive C6(α:Type) where
 |ok (a:α) (σ:St)|exc (e:Ex) (σ:St)|stuck
abbrev Mo(α:Type):=St->C6 α
abbrev Fm:=Str->Option V
noncomputable def ret(a:α):Mo α:=λσ=>.ok a σ
noncomputable def AB:Mo α:=λ_=>.stuck
noncomputable def Aa(f:Mo α)(g:α->Mo β):Mo β:=λσ=>match f σ with
 |.ok a σ'=>g a σ'
 |.exc e σ'=>.exc e σ'
 |.stuck=>.stuck
noncomputable def Eb(b:Bool)(f:Mo α):Mo α:=if b=true then f else AB
noncomputable def Cs(f:Mo α):Mo α:=λσ=>match f σ with
 |.exc _ _=>.stuck
 |r=>r
theorem Ae(e:f σ=.ok a σ'):Aa f g σ=g a σ':=by unfold Aa;rw[e]
theorem AQ(e:f σ=.exc x σ'):Aa f g σ=.exc x σ':=by unfold Aa;rw[e]
theorem Ao(e:f σ=.stuck):Aa f g σ=.stuck:=by unfold Aa;rw[e]
theorem B1:Aa (Aa f g) k=Aa f λa=>Aa (g a) k:=by funext σ;unfold Aa;cases f σ<;>rfl
theorem Bk(e:f σ=.ok a σ'):Cs f σ=.ok a σ':=by unfold Cs;rw[e]
theorem ET(e:f σ=.exc x σ'):Cs f σ=.stuck:=by unfold Cs;rw[e]
theorem CD(e:f σ=.stuck):Cs f σ=.stuck:=by unfold Cs;rw[e]
noncomputable def Af:Option α->Mo α
 |some a=>ret a
 |none=>AB
set_option genSizeOf false in
set_option genInjectivity false in
set_option genCtorIdx false in
structure Cx where
 glb:Str->Option V
 meth:Addr->Str->Option Value
 tab:Addr->Str->Option Int
 own:Addr->Str->Bool
 call:Value->List V->Mo V
 kind:Str->Option NameKind
 plain:Bool
 calm:Bool
 okn:Str->Bool
 comp:Bool
noncomputable def Cx.off(c:Cx):Cx:={c with plain:=false}
noncomputable def Cx.cl(c:Cx)(fr:Fm):Cx:={c with calm:=true,okn:=λx=>(fr x).isNone}
mutual
noncomputable def Hk:V->Option PyData
 |.none=>some .none
 |.bool b=>some (.bool b)
 |.int i=>some (.int i)
 |.str s=>some (.str s)
 |.tup l=>(DD l).map .tuple
 |.lst l=>(DD l).map .list
 |_=>none
noncomputable def DD:List V->Option (List PyData)
 |[]=>some []
 |a::r=>match Hk a,DD r with
  |some d,some ds=>some (d::ds)
  |_,_=>none
end
theorem UD(h:DD (a::r)=some d):∃x y,Hk a=some x/\DD r=some y/\d=x::y:=by
 replace h:(match Hk a,DD r with|some d,some ds=>some (d::ds)|_,_=>none)=some d:=h;cases e1:Hk a with
 |none=>rw[e1]at h;exact Dm h
 |some x=>
  cases e2:DD r with
  |none=>rw[e1,e2]at h;exact Dm h
  |some y=>rw[e1,e2]at h;exact⟨x,y,rfl,rfl,(Option.some.inj h).symm⟩
noncomputable def I9(a b:V):Option Bool:=match Hk a,Hk b with
 |some d,some e=>if SeqAt.shaped d=true/\SeqAt.shaped e=true then some (d.eqv e) else none
 |_,_=>none
mutual
noncomputable def Ay:V->V->Bool
 |.none,b=>decide (b.ctorIdx=0)
 |.bool a,b=>if h:b.ctorIdx=1 then V.bool.elim b h λc=>a==c else false
 |.int a,b=>if h:b.ctorIdx=2 then V.int.elim b h λc=>decide (a=c) else false
 |.str a,b=>if h:b.ctorIdx=3 then V.str.elim b h λc=>decide (a=c) else false
 |.byt a,b=>if h:b.ctorIdx=4 then V.byt.elim b h λc=>decide (a=c) else false
 |.rng a,b=>if h:b.ctorIdx=5 then V.rng.elim b h λc=>decide (a=c) else false
 |.glob a,b=>if h:b.ctorIdx=6 then V.glob.elim b h λc=>decide (a=c) else false
 |.exn a x,b=>if h:b.ctorIdx=7 then V.exn.elim b h λc y=>decide (a=c)&&decide (x=y) else false
 |.tup a,b=>if h:b.ctorIdx=8 then V.tup.elim b h λc=>A6 a c else false
 |.lst a,b=>if h:b.ctorIdx=9 then V.lst.elim b h λc=>A6 a c else false
 |.obj a,b=>if h:b.ctorIdx=10 then V.obj.elim b h λc=>decide (a=c) else false
noncomputable def A6:List V->List V->Bool
 |[],b=>(match b with|[]=>true|_::_=>false)
 |a::x,b=>(match b with|[]=>false|c::y=>Ay a c&&A6 x y)
end
theorem X0(h:Ay .none b=true):V.none=b:=V.none.elim b (of_decide_eq_true h) rfl
theorem Zr(x:Bool)(h:Ay (.bool x) b=true):V.bool x=b:=by
 by_cases c:b.ctorIdx=1;·revert h;exact V.bool.elim b c λi h=>congrArg V.bool (eq_of_beq h)
 ·exact DA ((dif_neg c).symm.trans h)
theorem bS(x:Int)(h:Ay (.int x) b=true):V.int x=b:=by
 by_cases c:b.ctorIdx=2;·revert h;exact V.int.elim b c λi h=>congrArg V.int (of_decide_eq_true h)
 ·exact DA ((dif_neg c).symm.trans h)
theorem dI(x:Str)(h:Ay (.str x) b=true):V.str x=b:=by
 by_cases c:b.ctorIdx=3;·revert h;exact V.str.elim b c λi h=>congrArg V.str (of_decide_eq_true h)
 ·exact DA ((dif_neg c).symm.trans h)
theorem aL(x:Array UInt8)(h:Ay (.byt x) b=true):V.byt x=b:=by
 by_cases c:b.ctorIdx=4;·revert h;exact V.byt.elim b c λi h=>congrArg V.byt (of_decide_eq_true h)
 ·exact DA ((dif_neg c).symm.trans h)
theorem gV(x:Nat)(h:Ay (.rng x) b=true):V.rng x=b:=by
 by_cases c:b.ctorIdx=5;·revert h;exact V.rng.elim b c λi h=>congrArg V.rng (of_decide_eq_true h)
 ·exact DA ((dif_neg c).symm.trans h)
theorem WX(x:Value)(h:Ay (.glob x) b=true):V.glob x=b:=by
 by_cases c:b.ctorIdx=6;·revert h;exact V.glob.elim b c λi h=>congrArg V.glob (of_decide_eq_true h)
 ·exact DA ((dif_neg c).symm.trans h)
theorem dR(x:Nat)(h:Ay (.obj x) b=true):V.obj x=b:=by
 by_cases c:b.ctorIdx=10;·revert h;exact V.obj.elim b c λi h=>congrArg V.obj (of_decide_eq_true h)
 ·exact DA ((dif_neg c).symm.trans h)
theorem fR(x y:Int)(h:Ay (.exn x y) b=true):V.exn x y=b:=by
 by_cases c:b.ctorIdx=7;·revert h;refine V.exn.elim b c λi j h=>?_;refine D3 h λh1 h2=>?_;rw[of_decide_eq_true h1,of_decide_eq_true h2]
 ·exact DA ((dif_neg c).symm.trans h)
theorem cD(h:Ay (.tup a) b=true):∃c,b=.tup c/\A6 a c=true:=by
 by_cases c:b.ctorIdx=8;·revert h;exact V.tup.elim b c λi h=>⟨i,rfl,h⟩
 ·exact DA ((dif_neg c).symm.trans h)
theorem gH(h:Ay (.lst a) b=true):∃c,b=.lst c/\A6 a c=true:=by
 by_cases c:b.ctorIdx=9;·revert h;exact V.lst.elim b c λi h=>⟨i,rfl,h⟩
 ·exact DA ((dif_neg c).symm.trans h)
mutual
theorem Cr:∀{a b:V},Ay a b=true->a=b
 |.none,_,h=>X0 h
 |.bool a,_,h=>Zr a h
 |.int a,_,h=>bS a h
 |.str a,_,h=>dI a h
 |.byt a,_,h=>aL a h
 |.rng a,_,h=>gV a h
 |.glob a,_,h=>WX a h
 |.exn a x,_,h=>fR a x h
 |.tup a,_,h=>(cD h).elim λ_ q=>q.1.symm▸congrArg V.tup (C8 q.2)
 |.lst a,_,h=>(gH h).elim λ_ q=>q.1.symm▸congrArg V.lst (C8 q.2)
 |.obj a,_,h=>dR a h
theorem C8:∀{a b:List V},A6 a b=true->a=b
 |[],b,h=>by cases b<;>first|rfl|cases h
 |a::x,b,h=>by
  cases b with
  |nil=>cases h
  |cons c y=>refine D3 h λh1 h2=>?_;rw[Cr h1,C8 h2]
end
mutual
theorem BX:∀a:V,Ay a a=true
 |.none=>rfl
 |.bool _=>beq_self_eq_true _
 |.int _|.str _|.byt _|.rng _|.glob _|.obj _=>decide_eq_true rfl
 |.exn _ _=>Bool.and_eq_true_iff.mpr ⟨decide_eq_true rfl,decide_eq_true rfl⟩
 |.tup l=>Bx l
 |.lst l=>Bx l
theorem Bx:∀a:List V,A6 a a=true
 |[]=>rfl
 |a::x=>Bool.and_eq_true_iff.mpr ⟨BX a,Bx x⟩
end
noncomputable def SJ:Const->Mo V
 |.none=>ret .none
 |.bool b=>ret (.bool b)
 |.int i=>ret (.int i)
 |.str s=>ret (.str s)
 |_=>AB
noncomputable def EH(c:Cx)(fr:Fm)(x:Str):Mo V:=Eb (!(x==("__debug__" : Str))) (match c.kind x with
 |some .local|some .cell=>Af (fr x)
 |some .globalImplicit=>Af (c.glb x)
 |_=>AB)
noncomputable def Za(op:Operator)(a b:Int):Mo V:=match op with
 |.Add=>ret (.int (a+b))
 |.Sub=>ret (.int (a-b))
 |.Mult=>Eb (decide (a.natAbs<2^64)) (ret (.int (a*b)))
 |.FloorDiv=>Eb (decide (0<b/\b<2^60)) (ret (.int (a.fdiv b)))
 |.Mod=>Eb (decide (b≠0)) (ret (.int (a.fmod b)))
 |.Pow=>Eb (decide (0<=a/\a<=1024/\0<=b/\b<=16)) (ret (.int (a^b.toNat)))
 |.LShift=>Eb (decide (0<=b/\b<=64/\a.natAbs<2^64)) (ret (.int (a*2^b.toNat)))
 |.RShift=>Eb (decide (0<=b/\b<=64)) (ret (.int (a.fdiv (2^b.toNat))))
 |.BitAnd=>ret (.int (Builtin.bitAnd a b))
 |.BitOr=>ret (.int (Builtin.bitOr a b))
 |_=>AB
noncomputable def vI(v:V):Option Int:=if h:v.ctorIdx=2 then V.int.elim v h some else none
noncomputable def vN(v:V):Bool:=decide (v.ctorIdx=0)
noncomputable def vT(v:V):Option (List V):=if h:v.ctorIdx=8 then V.tup.elim v h some else none
noncomputable def vL(v:V):Option (List V):=if h:v.ctorIdx=9 then V.lst.elim v h some else none
noncomputable def vO(v:V):Option Nat:=if h:v.ctorIdx=10 then V.obj.elim v h some else none
theorem EM(h:vI v=some x):v=.int x:=by
 by_cases c:v.ctorIdx=2;·revert h;exact V.int.elim v c λi h=>congrArg V.int (Option.some.inj h)
 ·exact Dm ((dif_neg c).symm.trans h)
theorem eY(h:vN v=true):v=.none:=by exact V.none.elim v (of_decide_eq_true h) rfl
theorem Ir(h:vT v=some x):v=.tup x:=by
 by_cases c:v.ctorIdx=8;·revert h;exact V.tup.elim v c λi h=>congrArg V.tup (Option.some.inj h)
 ·exact Dm ((dif_neg c).symm.trans h)
theorem Oo(h:vL v=some x):v=.lst x:=by
 by_cases c:v.ctorIdx=9;·revert h;exact V.lst.elim v c λi h=>congrArg V.lst (Option.some.inj h)
 ·exact Dm ((dif_neg c).symm.trans h)
theorem cG(h:vO v=some x):v=.obj x:=by
 by_cases c:v.ctorIdx=10;·revert h;exact V.obj.elim v c λi h=>congrArg V.obj (Option.some.inj h)
 ·exact Dm ((dif_neg c).symm.trans h)
noncomputable def Xy(op:Operator)(a b:List V):Mo V:=match op with
 |.Add=>Eb (decide (a.length+b.length<=4096)) (ret (.tup (a++b)))
 |_=>AB
noncomputable def YS(op:Operator)(a b:List V):Mo V:=match op with
 |.Add=>Eb (decide (a.length+b.length<=4096)) (ret (.lst (a++b)))
 |_=>AB
noncomputable def Ys(op:Operator)(a:List V)(k:Int):Mo V:=match op with
 |.Mult=>Eb (decide ((k=0\/k=1)/\a.length<=4096)) (ret (.lst (if k=0 then[] else a)))
 |_=>AB
noncomputable def QU(op:Operator)(l:List V)(b:V):Mo V:=match vL b with
 |some m=>YS op l m
 |none=>(match vI b with
  |some k=>Ys op l k
  |none=>AB)
noncomputable def Q8(op:Operator)(l:List V)(b:V):Mo V:=match vT b with
 |some m=>Xy op l m
 |none=>AB
noncomputable def Aj(op:Operator)(a b:V):Mo V:=match vI a with
 |some x=>(match vI b with
  |some y=>Za op x y
  |none=>AB)
 |none=>(match vT a with
  |some l=>Q8 op l b
  |none=>(match vL a with
   |some l=>QU op l b
   |none=>AB))
noncomputable def BS:V->Mo Bool
 |.none=>ret false
 |.bool b=>ret b
 |.int i=>ret (decide (i≠0))
 |_=>AB
noncomputable def rZ(op:UnaryOp)(a:Int):Mo V:=match op with
 |.Invert=>ret (.int (Builtin.bitNot a))
 |.USub=>ret (.int (-a))
 |_=>AB
noncomputable def Th(op:UnaryOp)(a:V):Mo V:=match vI a with
 |some i=>rZ op i
 |none=>AB
noncomputable def isNone:V->Option Bool
 |.none=>some true
 |.bool _|.int _|.str _|.tup _|.lst _|.obj _=>some false
 |_=>none
noncomputable def CI:List V->Option (List Int)
 |[]=>some []
 |a::r=>(match vI a with
  |some i=>(CI r).map (i :: ·)
  |none=>none)
theorem Lm(e:CI (a::l)=some ns):∃i ms,a=.int i/\CI l=some ms/\ns=i::ms:=by
 replace e:(match vI a with|some i=>(CI l).map (i :: ·)|none=>none)=some ns:=e;cases e1:vI a with
 |none=>rw[e1]at e;exact Dm e
 |some i=>rw[e1]at e;refine Au (Option.map_eq_some_iff.mp e) λms e2 e3=>?_;exact⟨i,ms,EM e1,e2,e3.symm⟩
noncomputable def LF:Option AO->Bool
 |some o=>(match o with
  |.list l=>l.isEmpty
  |_=>false)
 |none=>false
theorem HU(h:LF o=true):o=some (.list []):=by
 cases o with
 |none=>exact DA h
 |some o=>cases o<;>first|exact DA h|exact congrArg (λl=>some (AO.list l)) (List.isEmpty_iff.mp h)
noncomputable def Pe(d:Option PyData):Option Bool:=d.bind λd=>if SeqAt.shaped d=true then some (d.eqv (.list [])) else none
noncomputable def LV(f:Int->Int->Bool)(a b:V):Mo Bool:=match vI a with
 |some x=>(match vI b with
  |some y=>ret (f x y)
  |none=>AB)
 |none=>AB
noncomputable def Oy(f:Bool->Bool)(a b:V):Mo Bool:=if vN b=true then Af ((isNone a).map f) else AB
noncomputable def R1(a:V)(i:Nat):Mo Bool:=λσ=>if LF σ[i]?=true then Af (Pe (Hk a)) σ else .stuck
noncomputable def RS(a b:V):Mo Bool:=match vL a with
 |some _=>(match vO b with
  |some i=>R1 a i
  |none=>Af (I9 a b))
 |none=>Af (I9 a b)
noncomputable def Rg(a b:V):Mo Bool:=match vI a with
 |some x=>(match vT b with
  |some l=>Af ((CI l).map λns => !(ns.any (· == x)))
  |none=>AB)
 |none=>AB
noncomputable def Ap(op:CmpOp)(a b:V):Mo Bool:=match op with
 |.Lt=>LV (λx y=>decide (x<y)) a b
 |.LtE=>LV (λx y=>decide (x<=y)) a b
 |.Gt=>LV (λx y=>decide (x>y)) a b
 |.GtE=>LV (λx y=>decide (x≥y)) a b
 |.Is=>Oy id a b
 |.IsNot=>Oy (!·) a b
 |.Eq=>RS a b
 |.NotEq=>Af ((I9 a b).map (!·))
 |.NotIn=>Rg a b
 |_=>AB
noncomputable def IP(l:List V)(k:Int):Mo V:=Eb (decide (-(2^62)<=k/\k<2^62)) (match seqIndex? k l.length with
 |some j=>Af l[j]?
 |none=>AB)
noncomputable def Ba(v:V):Bool := !decide (v.ctorIdx=6)
noncomputable def AI(es:List (V×V))(k:V):Option V:=match es with
 |[]=>none
 |(a,v)::r=>if Ay a k=true then some v else AI r k
noncomputable def Bl(es:List (V×V))(k v:V):List (V×V):=match es with
 |[]=>[(k,v)]
 |(a,u)::r=>if Ay a k=true then(a,v)::r else(a,u)::Bl r k v
noncomputable def EK(es:List (V×V))(k:V):List (V×V):=match es with
 |[]=>[]
 |(a,u)::r=>if Ay a k=true then r else(a,u)::EK r k
noncomputable def BM(v:V):Bool:=decide (v.ctorIdx=2)||decide (v.ctorIdx=3)
noncomputable def B3:V->Bool
 |.int _=>true
 |.tup l=>l.all BM
 |_=>false
noncomputable def E8(v:V):Bool:=decide (v.ctorIdx=2)
noncomputable def LY(v:V):Bool:=decide (v.ctorIdx=8)
noncomputable def As(es:List (V×V))(k:V):Bool:=B3 k&&if E8 k=true then es.all (λp=>E8 p.1) else es.all (λp=>LY p.1)
noncomputable def Fj(c:Cx)(o k:V):Mo V:=λσ=>match o,k with
 |.tup l,.int k=>IP l k σ
 |.lst l,.int k=>IP l k σ
 |.glob (.ref a),.str s=>Af ((c.tab a s).map .int) σ
 |.obj i,k=>(match σ[i]? with
  |some (.dict es _)=>(match As es k,AI es k with|true,some v=>.ok v σ|_,_=>.stuck)
  |_=>.stuck)
 |_,_=>.stuck
noncomputable def De:V->Option (Option Int)
 |.none=>some none
 |.int i=>some (some i)
 |_=>none
noncomputable def Jz(lo hi:Option Int)(n:Nat):Int×Nat:=((Builtin.Slice.sliceAdjust lo hi 1 n).1,Builtin.Slice.slicePlaces (Builtin.Slice.sliceAdjust lo hi 1 n).1 (Builtin.Slice.sliceAdjust lo hi 1 n).2 1)
noncomputable def Eo(l:List V)(c:Int×Nat):List V:=(List.range c.2).filterMap λ(k:Nat)=>l[(c.1+(k:Int)*1).toNat]?
noncomputable def Ep(l:List α)(lo hi st:Option Int):List α:=(sliceRange (sliceBounds lo hi st l.length).1 (sliceBounds lo hi st l.length).2.1 (sliceBounds lo hi st l.length).2.2).filterMap (l[·]?)
noncomputable def I8(l:List V)(lo hi:Option Int):Mo V:=Eb (!((Jz lo hi l.length).1==0&&(1:Int)==1&&(Jz lo hi l.length).2==l.length)&&decide ((Jz lo hi l.length).2<=4096)) (ret (.tup (Eo l (Jz lo hi l.length))))
noncomputable def Iq(l:List V)(lo hi st:Option Int):Mo V:=Eb (decide (st≠some 0/\l.length<=4096)) (ret (.lst (Ep l lo hi st)))
open Builtin in
noncomputable def H3(b:Array UInt8)(lo hi st:Option Int):Array UInt8:=
 if((sliceBounds lo hi st b.size).1==0&&(sliceBounds lo hi st b.size).2.2==1&&(sliceBounds lo hi st b.size).2.1==b.size && !b.isEmpty)=true then b
 else Bytes.sliced b (sliceBounds lo hi st b.size).1 (sliceBounds lo hi st b.size).2.1 (sliceBounds lo hi st b.size).2.2
noncomputable def Ss(b:Array UInt8)(lo hi st:Option Int):Mo V:=Eb (decide (st≠some 0/\(H3 b lo hi st).size<=4096)) (ret (.byt (H3 b lo hi st)))
noncomputable def iQ(o:V)(lo hi st:Option (Option Int)):Mo V:=match lo,hi,st with
 |some lo,some hi,some st=>(match o with
  |.tup l=>(match st with|none=>I8 l lo hi|_=>AB)
  |.lst l=>Iq l lo hi st
  |.byt b=>Ss b lo hi st
  |_=>AB)
 |_,_,_=>AB
noncomputable def My(o:V)(lo hi st:V):Mo V:=iQ o (De lo) (De hi) (De st)
noncomputable def Fg(c:Cx)(o:V)(name:Str):Mo V:=λσ=>match o with
 |.obj i=>(match σ[i]? with
  |some (.inst C fs)=>if c.own C name=true then(match fs.lookup name with
   |some v=>if Ba v=true then .ok v σ else .stuck
   |none=>.stuck) else .stuck
  |_=>.stuck)
 |.exn a v=>if name=("cause" : Str) then .ok (.int a) σ else if name=("value" : Str) then .ok (.int v) σ else .stuck
 |_=>.stuck
noncomputable def Ed(c:Cx)(o:V)(name:Str):Mo Value:=λσ=>match o with
 |.obj i=>(match σ[i]? with
  |some (.inst C fs)=>(match fs.lookup name with|none=>Af (c.meth C name) σ|some _=>.stuck)
  |some (.dict _ _)=>if name=("get" : Str) then .ok (.builtin "dict.get") σ else if name=("pop" : Str) then .ok (.builtin "dict.pop") σ else .stuck
  |some (.list _)=>if name=("append" : Str) then .ok (.builtin "list.append") σ else .stuck
  |_=>.stuck)
 |_=>.stuck
noncomputable def FT(fs:List (Str×V))(name:Str)(v:V):List (Str×V):=match fs with
 |[]=>[(name,v)]
 |(n,u)::r=>if n=name then(n,v)::r else(n,u)::FT r name v
noncomputable def Cp(c:Cx)(o:V)(name:Str)(v:V):Mo Unit:=λσ=>match o with
 |.obj i=>(match σ[i]? with
  |some (.inst C fs)=>if(c.own C name&&decide (fs.length<100))=true then .ok () (σ.set i (.inst C (FT fs name v))) else .stuck
  |_=>.stuck)
 |_=>.stuck
noncomputable def A8(o k v:V):Mo Unit:=λσ=>match o with
 |.obj i=>(match σ[i]? with
  |some (.dict es n)=>if(As es k&&decide (es.length<=4096)&&Ba v)=true then .ok () (σ.set i (.dict (Bl es k v) (if(AI es k).isSome=true then n else n+1))) else .stuck
  |_=>.stuck)
 |_=>.stuck
noncomputable def A5(o:V):Mo (List V):=λσ=>match o with
 |.tup l=>.ok l σ
 |.lst l=>.ok l σ
 |.rng n=>.ok ((List.range n).map λ(i:Nat)=>V.int (i:Int)) σ
 |.byt b=>.ok (b.toList.map λx=>V.int (x.toNat:Int)) σ
 |.obj i=>(match σ[i]? with
  |some (.dict es _)=>.ok (es.map (·.1)) σ
  |some (.list l)=>.ok l σ
  |_=>.stuck)
 |_=>.stuck
noncomputable def Ej(o:AO):Mo V:=λσ=>.ok (.obj σ.length) (σ++[o])
noncomputable def Ac(fr:Fm)(x:Str)(v:V):Fm:=λy=>if y=x then some v else fr y
noncomputable def CN(scope:Scope)(k:Str->Option NameKind)(x:Str):Option NameKind:=match scope.names.lookup x with
 |some .free=>if k x=some .cell then some .cell else some .free
 |q=>q
noncomputable def Bh(scope:Scope)(fr:Fm):Fm:=λx=>match scope.names.lookup x with
 |some .free=>fr x
 |_=>none
noncomputable def stays(o:V)(σ₀ σ:St):Bool:=match o with
 |.obj i=>(match σ₀[i]?,σ[i]? with
  |some (.dict es n),some (.dict es' n')=>decide (n=n')&&A6 (es.map (·.1)) (es'.map (·.1))
  |some (.list l),some (.list l')=>A6 l l'
  |_,_=>false)
 |_=>true
noncomputable def Cg(o:V)(σ₀:St)(f:V->Mo (List V)):List V->Mo (List V)
 |[]=>ret []
 |a::r=>Aa (f a) λx=>Aa (λσ=>if(stays o σ₀ σ&&decide (x.length<=256))=true then .ok () σ else .stuck) λ_=>Aa (Cg o σ₀ f r) λy=>ret (x++y)
noncomputable def Bt(o:V)(f:V->Mo (List V)):Mo (List V):=λσ=>Aa (A5 o) (λvs=>if vs.length<=4096 then Cg o σ f vs else AB) σ
noncomputable def Mb:List V->Option (V×V)
 |[]=>none
 |k::r=>(match r with
  |[]=>none
  |v::t=>(match t with
   |[]=>some (k,v)
   |_::_=>none))
noncomputable def Ee(v:V):Option (V×V):=(vT v).bind Mb
theorem RC(h:Ee v=some q):v=.tup [q.1,q.2]:=by
 refine Au (Option.bind_eq_some_iff.mp h) λl h1 h2=>?_;rw[Ir h1];cases l with
 |nil=>exact Dm h2
 |cons k r=>
  cases r with
  |nil=>exact Dm h2
  |cons u t=>
   cases t with
   |nil=>rw[<-Option.some.inj h2]
   |cons=>exact Dm h2
noncomputable def AZ:List V->List (V×V)->Option (List (V×V))
 |[],es=>some es
 |v::r,es=>(match Ee v with
  |some q=>if(As es q.1&&decide (es.length<=4096))=true then AZ r (Bl es q.1 q.2) else none
  |none=>none)
noncomputable def Ew(l:List V)(es:List (V×V)):Mo V:=match AZ l es with
 |some es=>Ej (.dict es es.length)
 |none=>AB
set_option genSizeOf false in
set_option genInjectivity false in
set_option genCtorIdx false in
inductive B4 where
 |meth (f:Value) (o:V)|plain (g:Value)
set_option genSizeOf false in
set_option genInjectivity false in
set_option genCtorIdx false in
inductive Ek where
 |item (k:V)|cut (a b d:V)
noncomputable def DB(c:Cx)(f:B4)(vs:List V):Mo V:=match f with
 |.meth f o=>c.call f (o::vs)
 |.plain g=>c.call g vs
noncomputable def Hc(g:Value):Bool:=decide (g=.ref 94)||decide (g=.ref 95)
noncomputable def I2:V->Mo B4
 |.glob g=>if Hc g=true then AB else ret (.plain g)
 |_=>AB
noncomputable def B9(c:Cx)(o:V):Ek->Mo V
 |.item k=>Fj c o k
 |.cut a b d=>My o a b d
noncomputable def C5(c:Cx)(scope:Scope):Cx:={c with kind:=CN scope c.kind,comp:=true}
noncomputable def Ei(t:Expr):Option Str:=if h:t.ctorIdx=23 then Expr.Name.elim t h λx _=>some x else none
noncomputable def BL:Expr->Bool
 |.Set _ _ _=>false
 |_=>true
noncomputable def XW:Option NameKind->Bool
 |some .local=>true
 |_=>false
noncomputable def CF(c:Cx)(scope:Scope)(gens:List Comprehension):Bool:=
 c.plain && !c.comp&&(match scope.kind with|.function=>true|_=>false)&&scope.names.all (λp=>match p.2 with
  |.cell=>false
  |.free=>c.kind p.1==some .cell
  |.local=>XW (scope.names.lookup p.1)
  |_=>true)&&decide (0<gens.length/\gens.length<=8)&&gens.all (λg=>BL g.iter&&g.is_async==0&&(match Ei g.target with|some x=>XW (scope.names.lookup x)|none=>false))
noncomputable def CV:Expr->Bool
 |.Starred _ _=>false
 |_=>true
noncomputable def CP:Expr->Bool
 |.Call _ _ _ _=>false
 |_=>true
noncomputable def O2(f:Expr)(pos:Pos):Bool:=match f with
 |.Attribute o _ ap=>ap.endLine==pos.line&&CP o
 |_=>true
noncomputable def argsOk(xs:List Expr):Bool:=xs.all CV&&decide (xs.length<29)
noncomputable def Bz(op:BoolOp)(q:Bool)(a b:Mo α):Mo α:=match op,q with
 |.And,false=>a
 |.Or,true=>a
 |_,_=>b
mutual
noncomputable def ev:Expr->Cx->Fm->Mo V
 |.Constant k _ _,_,_=>SJ k
 |.Name x _,c,fr=>EH c fr x
 |.BoolOp op xs _,c,fr=>JN xs op c fr
 |.BinOp l op r _,c,fr=>Aa (ev l c fr) λa=>Aa (ev r c fr) λb=>Aj op a b
 |.UnaryOp op x _,c,fr=>Aa (ev x c fr) λa=>Th op a
 |.IfExp t b o _,c,fr=>Aa (tst t c fr (ev t c fr)) λq=>if q=true then ev b c fr else ev o c fr
 |.Compare l ops rs _,c,fr=>if(rs.all BL&&rs.length==ops.length)=true then Aa (ev l c fr) λa=>Aa (Hj rs ops a c fr) λq=>ret (.bool q) else AB
 |.Call f args kw pos,c,fr=>if(c.plain&&kw.isEmpty&&O2 f pos&&argsOk args)=true then Aa (bC f c fr) λg=>Aa (GX args c fr) λvs=>DB c g vs else AB
 |.Attribute o name _,c,fr=>if CP o=true then Aa (ev o c fr) λov=>Fg c ov name else AB
 |.Subscript o i _,c,fr=>Aa (ev o c fr) λov=>Aa (Yo i c fr) λk=>B9 c ov k
 |.List xs _,c,fr=>if xs.isEmpty=true then Ej (.list []) else if argsOk xs=true then Aa (GX xs c fr) λvs=>ret (.lst vs) else AB
 |.Tuple xs _ _,c,fr=>if argsOk xs=true then Aa (GX xs c fr) λvs=>ret (.tup vs) else AB
 |.Dict ks vs _,_,_=>if ks.isEmpty=true/\vs.isEmpty=true then Ej (.dict [] 0) else AB
 |.ListComp elt gens scope _,c,fr=>if CF c scope gens=true then Aa (Cs (gen gens true (C5 c scope) (Bh scope fr) c fr (λfr'=>Aa (ev elt (C5 c scope) fr') λy=>ret [y]))) λl=>ret (.lst l) else AB
 |.DictComp ke ve gens scope _,c,fr=>if(CF c scope gens&&decide (gens.length=1))=true then Aa (Cs (gen gens true (C5 c scope) (Bh scope fr) c fr (λfr'=>Aa (ev ke (C5 c scope) fr') λk=>Aa (ev ve (C5 c scope) fr') λy=>ret [.tup [k,y]]))) λl=>Ew l [] else AB
 |_,_,_=>AB
termination_by structural e=>e
noncomputable def Yo:Expr->Cx->Fm->Mo Ek
 |.Slice lo hi st _,c,fr=>Aa (YW lo c fr) λa=>Aa (YW hi c fr) λb=>Aa (YW st c fr) λd=>ret (.cut a b d)
 |.Constant k _ _,_,_=>Aa (SJ k) λk=>ret (.item k)
 |.Name x _,c,fr=>Aa (EH c fr x) λk=>ret (.item k)
 |.BinOp l op r _,c,fr=>Aa (ev l c fr) λa=>Aa (ev r c fr) λb=>Aa (Aj op a b) λk=>ret (.item k)
 |.UnaryOp op x _,c,fr=>Aa (ev x c fr) λa=>Aa (Th op a) λk=>ret (.item k)
 |.Subscript o i _,c,fr=>Aa (ev o c fr) λov=>Aa (Yo i c fr) λk=>Aa (B9 c ov k) λk=>ret (.item k)
 |_,_,_=>AB
termination_by structural e=>e
noncomputable def bC:Expr->Cx->Fm->Mo B4
 |.Attribute o name _,c,fr=>Aa (ev o c fr) λov=>Aa (Ed c ov name) λf=>ret (.meth f ov)
 |.Name x _,c,fr=>if c.kind x=some .globalImplicit then Aa (EH c fr x) I2 else AB
 |_,_,_=>AB
termination_by structural e=>e
noncomputable def GX:List Expr->Cx->Fm->Mo (List V)
 |[],_,_=>ret []
 |e::r,c,fr=>Aa (ev e c fr) λv=>Aa (GX r c fr) λvs=>ret (v::vs)
termination_by structural e=>e
noncomputable def YW:Option Expr->Cx->Fm->Mo V
 |none,_,_=>ret .none
 |some e,c,fr=>ev e c fr
termination_by structural e=>e
noncomputable def JN:List Expr->BoolOp->Cx->Fm->Mo V
 |[],_,_,_=>AB
 |x::r,op,c,fr=>Aa (ev x c fr) λv=>if r.isEmpty=true then ret v else Aa (BS v) λq=>Bz op q (ret v) (JN r op c fr)
termination_by structural e=>e
noncomputable def tst:Expr->Cx->Fm->Mo V->Mo Bool
 |.UnaryOp op x _,c,fr,whole=>(match op with
  |.Not=>Aa (tst x c fr (ev x c fr)) λq=>ret (!q)
  |_=>Aa whole BS)
 |.BoolOp op xs _,c,fr,_=>NH xs op c fr
 |.Compare l ops rs _,c,fr,_=>if(rs.all BL&&rs.length==ops.length)=true then Aa (ev l c fr) λa=>Hj rs ops a c fr else AB
 |.IfExp _ _ _ _,_,_,_=>AB
 |_,_,_,whole=>Aa whole BS
termination_by structural e=>e
noncomputable def NH:List Expr->BoolOp->Cx->Fm->Mo Bool
 |[],op,_,_=>ret (op==.And)
 |x::r,op,c,fr=>Aa (tst x c fr (ev x c fr)) λq=>Bz op q (ret q) (NH r op c fr)
termination_by structural e=>e
noncomputable def GH:List Expr->Cx->Fm->Mo Bool
 |[],_,_=>ret true
 |x::r,c,fr=>Aa (tst x c fr (ev x c fr)) λq=>if q=true then GH r c fr else ret false
termination_by structural e=>e
noncomputable def Hj:List Expr->List CmpOp->V->Cx->Fm->Mo Bool
 |[],_,_,_,_=>AB
 |x::r,ops,a,c,fr=>(match ops with
  |[]=>AB
  |op::ops=>Aa (ev x c fr) λb=>Aa (Ap op a b) λq=>if r.isEmpty=true then(if ops.isEmpty=true then ret q else AB) else if q=true then Hj r ops b c fr else ret false)
termination_by structural e=>e
noncomputable def gen:List Comprehension->Bool->Cx->Fm->Cx->Fm->(Fm->Mo (List V))->Mo (List V)
 |[],_,_,fr,_,_,k=>k fr
 |⟨t,it,ifs,_⟩::gs,first,c,fr,c0,fr0,k=>(match Ei t with
  |none=>AB
  |some x=>if(fr x).isSome=true then AB else Aa (if first=true then ev it c0 fr0 else ev it c fr) λsrc=>
    Bt src λv=>Aa (GH ifs c (Ac fr x v)) λq=>if q=true then gen gs false c (Ac fr x v) c0 fr0 k else ret [])
termination_by structural e=>e
end
set_option genSizeOf false in
set_option genInjectivity false in
inductive Az where
 |next (fr:Fm)|rets (v:V)|cont (fr:Fm)
noncomputable def names:List Expr->Option (List Str)
 |[]=>some []
 |.Name x _::r=>(names r).map (x :: ·)
 |_::_=>none
noncomputable def Ca(fr:Fm):List Str->List V->Option Fm
 |[],[]=>some fr
 |x::xs,v::vs=>Ca (Ac fr x v) xs vs
 |_,_=>none
noncomputable def CL(v:V):Option (List V):=match vT v with
 |some l=>some l
 |none=>vL v
theorem Qu(h:CL v=some l):v=.tup l\/v=.lst l:=by
 unfold CL at h;cases e:vT v with
 |some m=>rw[e]at h;rw[<-Option.some.inj h];exact .inl (Ir e)
 |none=>rw[e]at h;exact .inr (Oo h)
noncomputable def AW(c:Cx)(x:Str):Bool:=(c.kind x==some .local||c.kind x==some .cell)&&c.okn x
noncomputable def Fc(t:Expr):Option (List Expr):=if h:t.ctorIdx=25 then Expr.Tuple.elim t h λxs _ _=>some xs else none
set_option backward.match.sparseCases true in
noncomputable def oY(k:Str->Option NameKind)(ts vs:List Expr):Option (Option (List Str)):=
  if !(ts.length==2||ts.length==3)||vs.length != ts.length then some none else
  if !argsOk vs then none else
  let line:=(ts.head?.map (·.pos.line)).getD 0;let names:=ts.filterMap fun
   |.Name id pos=>if k id==some .local&&pos.line==line then some id else none
   |_=>none
  if names.length != ts.length||names.eraseDups.length != names.length then some none else
  if vs.all (foldedForSure 8) then some none else
  if vs.all (constantsAlone 8) then none else some (some names)
noncomputable def Nn(c:Cx)(ts:List Expr)(value:Expr):Option (Option (List Str)):=match Fc value with
 |some vs=>oY c.kind ts vs
 |none=>some none
noncomputable def D6(ns:List Str)(l:List V)(c:Cx)(fr:Fm):Mo Fm:=if(c.plain&&ns.all (AW c)&&ns.length==l.length)=true then Af (Ca fr ns l) else AB
noncomputable def CS(t:Expr)(v:V)(c:Cx)(fr:Fm):Mo Fm:=match Ei t with
 |some x=>if AW c x=true then ret (Ac fr x v) else AB
 |none=>(match Fc t with
  |some xs=>(match names xs,CL v with
   |some ns,some l=>D6 ns l c fr
   |_,_=>AB)
  |none=>AB)
noncomputable def Fo(ns:List Str)(v:V)(c:Cx)(fr:Fm):Mo Fm:=match v with
 |.tup l=>if(ns.length==l.length)=true then D6 ns.reverse l.reverse c fr else AB
 |_=>AB
noncomputable def HL(t:Expr)(v:V)(value:Expr)(c:Cx)(fr:Fm):Mo Fm:=match t with
 |.Attribute o name _=>Aa (ev o c fr) λov=>Aa (Cp c ov name v) λ_=>ret fr
 |.Subscript o i _=>Aa (ev o c fr) λov=>Aa (ev i c fr) λk=>Aa (A8 ov k v) λ_=>ret fr
 |.Tuple xs _ _=>(match Nn c xs value with
  |some none=>CS t v c fr
  |some (some ns)=>Fo ns v c fr
  |none=>AB)
 |_=>CS t v c fr
noncomputable def FQ:Expr->Bool
 |.ListComp _ _ _ _|.SetComp _ _ _ _|.DictComp _ _ _ _ _=>false
 |_=>true
noncomputable def BE(t v:Expr)(c:Cx):Bool:=match v with
 |.ListComp _ _ scope _|.DictComp _ _ _ scope _=>(match t with
  |.Name x pos => !(c.kind x==some .local&&pos.line==v.pos.line && !(scope.names.any λ(n,k)=>n==x&&(k==.local||k==.cell)))
  |_=>true)
 |.SetComp _ _ _ _=>false
 |_=>true
noncomputable def Em(t:Expr)(src:V):Bool:=decide (t.ctorIdx=23)||(decide (t.ctorIdx=25)&&decide (src.ctorIdx=9))
noncomputable def V3(t v:Expr):Bool:=decide (t.ctorIdx=23)&&decide (v.ctorIdx=8)
noncomputable def qW(t:Expr):Bool:=decide (t.ctorIdx=23)||(decide (t.ctorIdx=20)||(decide (t.ctorIdx=21)||decide (t.ctorIdx=25)))
noncomputable def mH(t v:Expr)(c:Cx):Bool:=match t with
 |.Tuple xs _ _=>(Nn c xs v).isSome
 |_=>true
noncomputable def OR(t v:Expr)(c:Cx):Bool:=qW t&&mH t v c&&(BE t v c||V3 t v)
noncomputable def BO(o:V)(σ₀:St)(f:V->Fm->Mo Az):List V->Fm->Mo Az
 |[],fr=>ret (.next fr)
 |a::r,fr=>Aa (Cs (f a fr)) λq=>match q with
  |.rets v=>ret (.rets v)
  |.next fr'=>Aa (λσ=>if stays o σ₀ σ=true then .ok () σ else .stuck) λ_=>BO o σ₀ f r fr'
  |.cont fr'=>Aa (λσ=>if stays o σ₀ σ=true then .ok () σ else .stuck) λ_=>BO o σ₀ f r fr'
noncomputable def vG(v:V):Option Value:=if h:v.ctorIdx=6 then V.glob.elim v h some else none
noncomputable def vR(v:Value):Option Addr:=if h:v.ctorIdx=10 then Value.ref.elim v h some else none
theorem hF(h:vG v=some x):v=.glob x:=by
 by_cases c:v.ctorIdx=6;·revert h;exact V.glob.elim v c λi h=>congrArg V.glob (Option.some.inj h)
 ·exact Dm ((dif_neg c).symm.trans h)
theorem fG(h:vR v=some x):v=.ref x:=by
 by_cases c:v.ctorIdx=10;·revert h;exact Value.ref.elim v c λi h=>congrArg Value.ref (Option.some.inj h)
 ·exact Dm ((dif_neg c).symm.trans h)
noncomputable def Fx(c:Cx)(x:Str):Option Addr:=if(c.kind x==some .globalImplicit && !(x==("__debug__" : Str)))=true then((c.glb x).bind vG).bind vR else none
theorem JI:∀{ns:List Int},CI l=some ns->l=ns.map .int:=by
 induction l with
 |nil=>intro ns e;rw[<-Option.some.inj e];rfl
 |cons v r ih=>intro ns e;refine Cz (Lm e) λi ms eqq2 e2 eqq4=>?_;subst eqq2;subst eqq4;rw[ih e2];rfl
noncomputable def jE(C:Addr):List Int->Option Ex
 |[]=>none
 |p::r=>(match r with
  |[]=>if C=71/\0<=p/\p<2^40 then some (.bad p 0) else none
  |q::t=>(match t with
   |[]=>if C=91/\0<=p/\p<16/\0<=q/\q<2^40 then some (.trap p q 0) else none
   |_::_=>none))
noncomputable def CU(C:Addr)(vs:List V):Option Ex:=(CI vs).bind (jE C)
inductive Yw:Addr->List V->Ex->Prop
 |trap (p q:Int) (p0:0<=p) (p1:p<16) (q0:0<=q) (q1:q<2^40):Yw 91 [.int p,.int q] (.trap p q 0)
 |bad (p:Int) (p0:0<=p) (p1:p<2^40):Yw 71 [.int p] (.bad p 0)
theorem eJ(h:jE C ns=some e):Yw C (ns.map .int) e:=by
 cases ns with
 |nil=>exact Dm h
 |cons p r=>
  cases r with
  |nil=>
   replace h:(if C=71/\0<=p/\p<2^40 then some (.bad p 0) else none)=some e:=h;by_cases q:C=71/\0<=p/\p<2^40;·rw[if_pos q]at h;rw[<-Option.some.inj h,q.1];exact .bad p q.2.1 q.2.2
   ·rw[if_neg q]at h;exact Dm h
  |cons x t=>
   cases t with
   |cons=>exact Dm h
   |nil=>
    replace h:(if C=91/\0<=p/\p<16/\0<=x/\x<2^40 then some (.trap p x 0) else none)=some e:=h;by_cases q:C=91/\0<=p/\p<16/\0<=x/\x<2^40;·rw[if_pos q]at h;rw[<-Option.some.inj h,q.1];exact .trap p x q.2.1 q.2.2.1 q.2.2.2.1 q.2.2.2.2
    ·rw[if_neg q]at h;exact Dm h
theorem Ln(h:CU C vs=some e):Yw C vs e:=by refine Au (Option.bind_eq_some_iff.mp h) λns h1 h2=>?_;rw[JI h1];exact eJ h2
theorem Mn(h:Fx c x=some a):(c.kind x==some .globalImplicit && !(x==("__debug__" : Str)))=true/\c.glb x=some (.glob (.ref a)):=by
 by_cases hk:(c.kind x==some .globalImplicit && !(x==("__debug__" : Str)))=true;·refine Au (Option.bind_eq_some_iff.mp ((if_pos hk).symm.trans h)) λw h1 h2=>?_;refine Au (Option.bind_eq_some_iff.mp h1) λv h3 h4=>?_;rw[h3,hF h4,fG h2];exact⟨hk,rfl⟩
 ·exact Dm ((if_neg hk).symm.trans h)
noncomputable def Ie(t:Expr):Option (Expr×List Expr×List Keyword):=if h:t.ctorIdx=16 then Expr.Call.elim t h λf args kw _=>some (f,args,kw) else none
noncomputable def UJ(t:Expr):Bool:=if h:t.ctorIdx=19 then Expr.Constant.elim t h λk _ _=>(match k with|.none=>true|_=>false) else false
noncomputable def MF(t:Stmt):Option Expr:=if h:t.ctorIdx=3 then Stmt.Return.elim t h λe _=>e else none
noncomputable def Ph(t:Stmt):Option (Expr×Expr):=if h:t.ctorIdx=16 then Stmt.Raise.elim t h λx y _=>(match x,y with|some x,some y=>some (x,y)|_,_=>none) else none
noncomputable def ZZ(c:Cx):List Expr->Bool
 |[]=>false
 |a::r=>(match r with
  |[]=>false
  |b::r=>r.isEmpty&&(match Ei a with
   |some y=>(match Ei b with
    |some x=>Fx c y==some 71&&Fx c x==some 91
    |none=>false)
   |none=>false))
noncomputable def Cu(c:Cx)(t:Expr)(e:Ex):Bool:=match Ei t with
 |some x=>(match e with|.trap _ _ _=>Fx c x==some 91|.bad _ _=>false)
 |none=>(match Fc t with|some xs=>ZZ c xs|none=>false)
noncomputable def Ku(n₀:Nat)(n:Str)(args:List Expr)(c:Cx)(fr:Fm):Mo Az:=if(!c.calm&&argsOk args)=true then Aa (Cs (GX args c fr)) λvs σ=>match(Fx c n).bind λC=>CU C vs with
  |some e=>.exc (e.up n₀) σ
  |none=>.stuck
  else AB
noncomputable def BH(n₀:Nat)(x:Expr)(c:Cx)(fr:Fm):Mo Az:=match Ie x with
 |some q=>(match Ei q.1 with
  |some n=>if q.2.2.isEmpty=true then Ku n₀ n q.2.1 c fr else AB
  |none=>AB)
 |none=>AB
noncomputable def Pt(n₀:Nat)(s:Stmt)(c:Cx)(fr:Fm):Mo Az:=match MF s with
 |some e=>Aa (Cs (ev e c fr)) λv=>ret (.rets v)
 |none=>(match Ph s with
  |some q=>if UJ q.2=true then(if n₀<=1 then BH (n₀+1) q.1 c fr else AB) else AB
  |none=>AB)
noncomputable def Eg(n₀:Nat)(suite:List Stmt)(c:Cx)(fr:Fm):Mo Az:=match suite with
 |[]=>AB
 |s::r=>if r.isEmpty=true then Pt n₀ s c fr else AB
noncomputable def Om(suite:List Stmt):Bool:=match suite with
 |[]=>false
 |s::r=>r.isEmpty&&(MF s).isSome
theorem Dr(h:Ei t=some x):∃p,t=.Name x p:=by
 by_cases c:t.ctorIdx=23;·revert h;refine Expr.Name.elim t c λx p h=>?_;exact⟨p,congrArg (Expr.Name · _) (Option.some.inj h)⟩
 ·exact Dm ((dif_neg c).symm.trans h)
theorem Gp(h:Fc t=some x):∃n p,t=.Tuple x n p:=by
 by_cases c:t.ctorIdx=25;·revert h;refine Expr.Tuple.elim t c λxs n p h=>?_;exact⟨n,p,congrArg (Expr.Tuple · _ _) (Option.some.inj h)⟩
 ·exact Dm ((dif_neg c).symm.trans h)
theorem Og(h:Ie t=some x):∃p,t=.Call x.1 x.2.1 x.2.2 p:=by
 by_cases c:t.ctorIdx=16;·revert h;refine Expr.Call.elim t c λf a k p h=>?_;exact⟨p,by rw[<-Option.some.inj h]⟩
 ·exact Dm ((dif_neg c).symm.trans h)
theorem Qe(h:UJ t=true):∃p q,t=.Constant .none p q:=by
 by_cases c:t.ctorIdx=19;·revert h;refine Expr.Constant.elim t c λk p q h=>?_;cases k<;>first|exact⟨_,_,rfl⟩|exact DA h
 ·exact DA ((dif_neg c).symm.trans h)
theorem JH(h:MF t=some x):∃p,t=.Return (some x) p:=by
 by_cases c:t.ctorIdx=3;·revert h;refine Stmt.Return.elim t c λe p h=>?_;exact⟨p,congrArg (Stmt.Return · _) h⟩
 ·exact Dm ((dif_neg c).symm.trans h)
theorem Qp(h:Ph t=some x):∃p,t=.Raise (some x.1) (some x.2) p:=by
 by_cases c:t.ctorIdx=16;·revert h;refine Stmt.Raise.elim t c λa b p h=>?_;cases a<;>cases b<;>first|exact⟨_,by rw[<-Option.some.inj h]⟩|exact Dm h
 ·exact Dm ((dif_neg c).symm.trans h)
noncomputable def Zt:C6 α->Bool
 |.ok _ _=>true
 |.exc _ _=>false
 |.stuck=>false
theorem Tc(n:Nat)(x:Expr)(c:Cx)(fr:Fm)(σ:St):Zt (BH n x c fr σ)=false:=by
 unfold BH;cases Ie x with
 |none=>rfl
 |some q=>
  dsimp only;cases Ei q.1 with
  |none=>rfl
  |some m=>
   dsimp only;by_cases h1:q.2.2.isEmpty=true
   rotate_left
   ·rw[if_neg h1];rfl
   rw[if_pos h1];unfold Ku;by_cases h2:(!c.calm&&argsOk q.2.1)=true
   rotate_left
   ·rw[if_neg h2];rfl
   rw[if_pos h2];cases e:Cs (GX q.2.1 c fr) σ with
   |exc=>rw[AQ e];rfl
   |stuck=>rw[Ao e];rfl
   |ok vs τ=>rw[Ae e];cases(Fx c m).bind λC=>CU C vs<;>rfl
theorem Ke(h:BH n x c fr σ=.ok f σ'):False:=Bool.false_ne_true ((Tc n x c fr σ).symm.trans (congrArg Zt h))
noncomputable def Jo(body:Mo Az)(handlers:List ExceptHandler)(c:Cx)(fr:Fm):Mo Az:=λσ=>match body σ with
 |.ok f σ'=>.ok f σ'
 |.exc e σ'=>(match handlers with
  |[.ExceptHandler (some t) none suite _]=>if Cu c t e=true then Eg e.d suite c.off fr σ' else .stuck
  |[.ExceptHandler (some t) (some x) suite _]=>(match e with
   |.trap a v _=>if(Cu c t e&&c.kind x==some .local&&Om suite)=true then Eg 2 suite c.off (Ac fr x (.exn a v)) σ' else .stuck
   |_=>.stuck)
  |_=>.stuck)
 |.stuck=>.stuck
mutual
noncomputable def Ny:Stmt->Cx->Fm->Mo Az
 |.Return e _,c,fr=>(match e with
  |none=>ret (.rets .none)
  |some e=>Aa (ev e c fr) λv=>ret (.rets v))
 |.Assign ts v _,c,fr=>(match ts with
  |[t]=>if OR t v c=true then Aa (ev v c fr) λx=>Aa (HL t x v c fr) λfr'=>ret (.next fr') else AB
  |_=>AB)
 |.For t it body orelse _,c,fr=>if(orelse.isEmpty&&c.plain&&BL it)=true then Aa (ev it c fr) λsrc σ=>Aa (A5 src) (λvs=>if(Em t src&&decide (vs.length<=4096))=true then BO src σ (λv fr=>Aa (CS t v c fr) λfr'=>Fv body c fr') vs fr else AB) σ else AB
 |.If t a b _,c,fr=>Aa (tst t c fr (ev t c fr)) λq=>if q=true then Fv a c fr else Fv b c fr
 |.Raise x cause _,c,fr=>(match x,cause with
  |some x,none=>if c.plain=true then BH 0 x c fr else AB
  |_,_=>AB)
 |.Try body hs orelse CA _,c,fr=>if(orelse.isEmpty&&CA.isEmpty && !c.calm&&c.plain && !hs.isEmpty)=true then Jo (Fv body (c.cl fr) fr) hs c fr else AB
 |.Expr e _,c,fr=>if FQ e=true then Aa (ev e c fr) λv=>(match v with
  |.none|.int _=>ret (.next fr)
  |_=>AB) else AB
 |.Pass _,_,fr=>ret (.next fr)
 |.Continue _,_,fr=>ret (.cont fr)
 |_,_,_=>AB
termination_by structural e=>e
noncomputable def Fv:List Stmt->Cx->Fm->Mo Az
 |[],_,fr=>ret (.next fr)
 |s::r,c,fr=>Aa (Ny s c fr) λq=>match q with
  |.next fr'=>Fv r c fr'
  |q=>ret q
termination_by structural e=>e
end
noncomputable def GN(vs:List V)(F:V->Mo V):Mo V:=match vs with
 |a::r=>if r.isEmpty=true then F a else AB
 |[]=>AB
noncomputable def Nw(vs:List V)(F:V->V->Mo V):Mo V:=match vs with
 |a::r=>GN r (F a)
 |[]=>AB
noncomputable def Vi(vs:List V)(F:V->V->V->Mo V):Mo V:=match vs with
 |a::r=>Nw r (F a)
 |[]=>AB
noncomputable def G0(v:V)(F:Int->Mo V):Mo V:=match v with
 |.int i=>F i
 |_=>AB
noncomputable def K8(v:V)(F:Bool->Mo V):Mo V:=match v with
 |.bool i=>F i
 |_=>AB
noncomputable def J5(v:V)(F:List V->Mo V):Mo V:=match v with
 |.lst l=>F l
 |_=>AB
noncomputable def FG(v:V)(F:Nat->Mo V):Mo V:=match v with
 |.obj l=>F l
 |_=>AB
noncomputable def CB(l:List V)(F:List Int->Mo V):Mo V:=match CI l with
 |some ns=>F ns
 |none=>AB
noncomputable def BJ(i:Nat)(F:List (V×V)->Nat->Mo V):Mo V:=λσ=>match σ[i]? with
 |some o=>(match o with
  |.dict es n=>F es n σ
  |_=>.stuck)
 |none=>.stuck
noncomputable def Ft(i:Nat)(F:List V->Mo V):Mo V:=λσ=>match σ[i]? with
 |some o=>(match o with
  |.list l=>F l σ
  |_=>.stuck)
 |none=>.stuck
noncomputable def kM(vs:List V):Mo V:=GN vs λv=>G0 v λa=>ret (.int (if a<0 then -a else a))
noncomputable def nC(vs:List V):Mo V:=Nw vs λv u=>G0 v λa=>G0 u λb=>ret (.int (if b>a then b else a))
noncomputable def jO(vs:List V):Mo V:=GN vs λv=>FG v λi=>BJ i λes _=>Eb (decide (es.length<=4096)) (ret (.int es.length))
noncomputable def kU(vs:List V):Mo V:=GN vs λv=>J5 v λl=>CB l λns=>ret (.int ns.sum)
noncomputable def Zs(vs:List V):Mo V:=GN vs λv=>FG v λi=>BJ i λes _=>CB (es.map (·.1)) λns=>Eb (decide (ns.length<64)) (ret (.lst ((ns.mergeSort (· <= ·)).map .int)))
noncomputable def kY(vs:List V):Mo V:=GN vs λv=>K8 v λb=>ret (.int (if b then 1 else 0))
noncomputable def nA(vs:List V):Mo V:=GN vs λv=>G0 v λn=>ret (.bool (n != 0))
noncomputable def nD(vs:List V):Mo V:=GN vs λv=>G0 v λn=>Eb (decide (0<=n/\n<=4096)) (ret (.rng n.toNat))
noncomputable def mZ(vs:List V):Mo V:=GN vs λv=>J5 v λl=>Eb (decide (l.length<=4096)) (Ew l [])
noncomputable def XG(v:V)(m:Mo V):Mo V:=match v with
 |.byt b=>ret (.byt b)
 |_=>m
noncomputable def iH(vs:List V):Mo V:=GN vs λv=>XG v<|J5 v λl=>CB l λns=>Eb (decide (ns.length<=4096)&&ns.all λn=>decide (0<=n/\n<256)) (ret (.byt (byteArr ns)))
noncomputable def N9(vs:List V):Mo V:=if vs.length=2 then Nw vs λo k=>FG o λi=>BJ i λes _=>Eb (As es k) (ret ((AI es k).getD .none))
 else Vi vs λo k d=>FG o λi=>BJ i λes _=>Eb (As es k) (ret ((AI es k).getD d))
noncomputable def Ts(vs:List V):Mo V:=Vi vs λo k d=>FG o λi=>BJ i λes n=>Eb (As es k&&E8 k&&decide (es.length<=4096)) (match AI es k with
 |some v=>λσ=>.ok v (σ.set i (.dict (EK es k) (n+1)))
 |none=>ret d)
noncomputable def X6(vs:List V):Mo V:=Nw vs λo v=>FG o λi=>Ft i λl=>Eb (decide (l.length<=4096)) λσ=>.ok .none (σ.set i (.list (l++[v])))
noncomputable def iG(f:String)(vs:List V):Mo V:=
 if f = "abs" then kM vs else if f = "max" then nC vs else if f = "len" then jO vs else if f = "sum" then kU vs else if f = "sorted" then Zs vs else
 if f = "dict.get" then N9 vs else if f = "dict.pop" then Ts vs else if f = "list.append" then X6 vs else AB
noncomputable def hY(f:String)(vs:List V):Mo V:=if f = "int" then kY vs else if f = "bool" then nA vs else if f = "range" then nD vs else if f = "dict" then mZ vs else if f = "bytes" then iH vs else AB
end
set_option backward.match.sparseCases true
section
structure V6(base:Heap)(outer:List Env)(h:Heap):Prop where
 stays:base.StaysIn h
 frames:h.FunFrames base outer
noncomputable def Sn(base:Heap)(outer:List Env)(h:Heap)(trk:List (Addr×Obj)):Prop:=∀p∈trk,h.get? p.1=some p.2/\base.get? p.1=none/\p.1∉outer.filterMap (·.frame)
noncomputable def W5(mods:List Addr)(h h':Heap):Prop:=∀b o,h.get? b=some o->b∉mods->h'.get? b=some o
section
variable{s:Shared}
 {trk news:List (Addr×Obj)}{p:Program}{loose:List Str}{mean:ExcName->Option Value}{mg mb:Str->Option Value}{Q:Value->Shared->Prop}
theorem Nb(mods:List Addr)(hg:∀b o,h₀.get? b=some o->b∉trk.map (·.1)->g.get? b=some o)
  (R:Sn base outer h₀ trk) (F:Fr g L' h' m') (N:News g L' h' news') (hm:∀q∈trk,q.1∈mods\/q∈news'):W5 mods h₀ h':=λb o e nb=>by
 by_cases q:b∈trk.map (·.1)
 ·refine Au (List.mem_map.mp q) λq' hq eqq2=>?_;subst eqq2;rw[(R q' hq).1]at e;cases e;rcases hm q' hq with z|z;·exact absurd z nb
  ·exact(N _ z).1
 ·exact F.keep b o (hg b o e q)
theorem LK{h₀ h':Heap}{L' t:Addr}{o:Obj}{news':List (Addr×Obj)}(hg:∀b o,h₀.get? b=some o->b∉trk.map (·.1)->g.get? b=some o)
  (N:News g L' h' news') (hm:(t,o)∈news') (ht:∀q∈trk,q.1≠t):h₀.get? t=none:=by
 cases e:h₀.get? t with
 |none=>rfl
 |some o'=>have:=hg t o' e (λq=>by refine Au (List.mem_map.mp q) λq' hq e'=>?_;exact ht q' hq e');have z:=(N _ hm).2.2;rw[this]at z;cases z
theorem Kx(B:Below A₀ base outer g)(F:Fr g L s.heap m)(hf:env.frame=some L)(hk:env.scope.kind=.function):V6 base (env::outer) s.heap:=
 let P:=pushX B F hf hk
 ⟨P.stays,P.frames⟩
theorem M4(B:Below A₀ base outer g)(F:Fr g L s.heap m)(N:News g L s.heap news)(hf:env.frame=some L)(hs:∀q∈trk,q∈news):Sn base (env::outer) s.heap trk:=λq hq=>by
 have z:=N q (hs q hq);refine⟨z.1,?_,λhm=>?_⟩
 ·cases e:base.get? q.1 with
  |none=>rfl
  |some o=>have:=B.stays _ _ e;rw[z.2.2]at this;cases this
 ·refine Au (List.mem_filterMap.mp hm) λe he hfe=>?_;rcases List.mem_cons.mp he with rfl|he;·rw[hf]at hfe;exact z.2.1 (Option.some.inj hfe).symm
  ·refine AG (B.frames.mem (List.mem_filterMap.mpr ⟨e,he,hfe⟩)) λ_ Hx=>?_;obtain⟨o,ho,_⟩:=Hx;rw[z.2.2]at ho;cases ho
theorem fT(F:Fr g L s.heap m)(N:News g L s.heap news)(U:UpdF d o news upd)(k:W5 [d] s.heap h')(hd:h'.get? d=some o'):
  Fr g L h' m/\News g L h' (upd o'):=by
 refine Sp U.split λpre post eqq2 hu h1 h2=>?_;subst eqq2;have D:=N (d,o) (by simp);obtain⟨oL,es,ep,hL,r⟩:=F.ns;refine⟨⟨⟨oL,es,ep,k _ _ hL (by simpa using Ne.symm D.2.1),r⟩,λb x e=>k _ _ (F.keep b x e) (λq=>?_),F.above⟩,?_⟩;·rw[List.mem_singleton.mp q,D.2.2]at e;cases e
 ·rw[hu];intro q hq;rcases List.mem_append.mp hq with z|z;·have P:=N q (List.mem_append_left _ z);exact⟨k _ _ P.1 (by simpa using h1 q z),P.2⟩
  ·rcases List.mem_cons.mp z with rfl|z;·exact⟨hd,D.2⟩
   ·have P:=N q (List.mem_append_right _ (.tail _ z));exact⟨k _ _ P.1 (by simpa using h2 q z),P.2⟩
theorem RY(F₀:Fr g L s₀ m)(hn:s₀.get? t=none)(F:Fr g L h' m)(N:News g L h' news)(ht:h'.get? t=some o):News g L h' ((t,o)::news):=by
 intro q hq;rcases List.mem_cons.mp hq with rfl|hq
 ·refine⟨ht,λe=>?_,?_⟩;·obtain⟨oL,_,_,hL,_⟩:=F₀.ns;have e':t=L:=e;rw[e',hL]at hn;cases hn
  ·cases e:g.get? t with
   |none=>exact rfl
   |some o'=>have:=F₀.keep _ _ e;rw[hn]at this;cases this
 ·exact N q hq
end
end
set_option tactic.hygienic true
section
section
variable{env:Env}
 {trk news:List (Addr×Obj)}{p:Program}{loose:List Str}{mean:ExcName->Option Value}{mg mb:Str->Option Value}{Q:Value->Shared->Prop}
end
end
set_option tactic.hygienic false
section
noncomputable abbrev Cb(C t:Addr):Obj:={cls:=.ref C,data:=.fields #[.ref t,.none,.none,.none,.bool false,.none]}
noncomputable abbrev Bu(vs:List Value):Obj:={cls:=.type "tuple",data:=.seq vs.toArray}
section
variable{K:Frag}{os:OsState}
variable{sub:List Value}
theorem rR(e:x=pure ())(q:Q () s):wpAny M A (Sem.onRaise x f) Q E s:=by rw[e];exact wpAny_onRaise (wpAny_pure q)
theorem Jj(hC:h.get? C=some (excClassObj nm q C N bs bm hdct sn sub ab col dd k0 k1 k2 k3 k5 "ValueError.__new__"))
  (hcB:(Value.ref C::bm).contains (.type "ValueError")=true) (hq:Q () ⟨h,g,d,t,os⟩):wpAny M A (checkBuiltinCall "ValueError.__new__" ⟨.ref C::rest,[]⟩) Q E ⟨h,g,d,t,os⟩:=by
 have F:=PySem.F.excBase_ValueError;delta checkBuiltinCall;rw[F.newKind,F.newSplit,F.newRow];dsimp -zeta only;rw[if_pos (beq_self_eq_true _)];show wpAny _ _ (isType (.ref C) >>= _) _ _ _;refine wpAny_bind ?_;unfold isType;refine wpAny_bind (wpAny_loadPart_at hC (wpAny_pure ?_));show wpAny _ _ (isSubtype (.ref C) (.type "ValueError") >>= _) _ _ _;refine wpAny_bind (wpAny_isSubtype_exc hC ?_);rw[hcB];show wpAny _ _ (Bind.staticBase (.ref C) >>= _) _ _ _;refine wpAny_bind (wpAny_staticBase_exc hC ?_);refine wpAny_bind (wpAny_madeBy_exc hC ?_);show wpAny _ _ (if(Manifest.canonical "ValueError.__new__" != Manifest.canonical "ValueError.__new__")=true then _ else _) _ _ _;rw[if_neg (by rw[bne_self_eq_false];exact Bool.false_ne_true)];show wpAny _ _ (Bind.printed "ValueError" true _ _ >>= _) _ _ _;refine wpAny_bind (wpAny_of_eq (a := "ValueError") (by kernel_rfl) ?_);refine wpAny_bind (wpAny_of_eq (a := "ValueError") (by kernel_rfl) ?_);exact rR (by kernel_rfl) hq
theorem Yv(hC:h.get? C=some (excClassObj nm q C N bs bm hdct sn sub ab col dd k0 k1 k2 k3 k5 "ValueError.__new__"))
  (hcB:(Value.ref C::bm).contains (.type "ValueError")=true) (hcA:(Value.ref C::bm).contains (.type "AttributeError")=false) (hcN:(Value.ref C::bm).contains (.type "NameError")=false)
  (hq:R (.ok (.ret (.ref (h.objs.size+1)))) ⟨(h.push (Bu rest)).push (Cb C h.objs.size),g,d,t,os⟩) (hrest:rest.length<=sizeLine) :
  codeAny (model prog w) A (.builtin "ValueError.__new__" ⟨.ref C::rest,[]⟩) R ⟨h,g,d,t,os⟩:=by
 have F:=PySem.F.excBase_ValueError;have hends:=F.ends;refine codeAny_builtinAt F.entry ?_;unfold Builtin.«BaseException.__new__»;refine PySem.wpAt_bind ?_;show PySem.wpAt _ _ _ (stack >>= _) _ _ _;refine PySem.wpAt_bind (PySem.wpAt_stack λp below=>PySem.wpAt_of_wpAny ?_)
 wp_walk
 refine PySem.wpAt_of_wpAny ?_;rw[F.owner];repeat (first|with_reducible refine wpAny_madeHere_exc F.canon hC ?_|with_reducible refine wpAny_loadPart_at hC ?_|(with_reducible refine wpAny_isSubtype_exc hC ?_;first|rw[hcB]|rw[hcA]|rw[hcN])|wp_step)
 show R _ _;rw[Heap.size_push];exact hq
theorem Wb(X:K.In h)(hC:h.get? C=some (excClassObj nm q C N bs bm hdct sn sub ab col dd k0 k1 k2 k3 k5 "ValueError.__new__"))
  (hcB:(Value.ref C::bm).contains (.type "ValueError")=true) (hcA:(Value.ref C::bm).contains (.type "AttributeError")=false) (hcN:(Value.ref C::bm).contains (.type "NameError")=false)
  (hcall:specialIn K (.ref C) "__call__" = some (some (.builtin "type.__call__"))) (htyp:instIn K (.ref C) (.type "type")=some true)
  (hi:findIn K (.ref C) "__init__" = some (some (.ref fI))) (hf:typeIn K (.ref fI)=some (.type "function")) (hrest:rest.length<=sizeLine)
  (hq:codeAny (model prog w) (A.under (.builtin "type.__call__" ⟨.ref C::rest,[]⟩)) (.call (.ref fI) ⟨.ref (h.objs.size+1)::rest,[]⟩) (InitBack (h.objs.size+1) R) ⟨(h.push (Bu rest)).push (Cb C h.objs.size),g,d,t,os⟩) :
  codeAny (model prog w) A (.call (.ref C) ⟨rest,[]⟩) R ⟨h,g,d,t,os⟩:=by
 have F:=PySem.F.excBase_ValueError;have call:=looks_specialIn (M:=model prog w) X hcall;have typ:=looks_instIn (M:=model prog w) X htyp;refine codeAny_of_tree ?_;show wpAny _ _ (callAny (.ref C) _) _ _ _;refine nd_load hC ?_;show wpAny _ _ (callAny.viaDunder (.ref C) _) _ _ _;unfold callAny.viaDunder;refine wpAny_bind (call.at ?_);dsimp only;rw[tc_bind];refine wpAny_bind (wpAny_pure (wpAny_bind (wpAny_pure ?_)));refine wpAny_pure (a:=Fin.again (.call (.builtin "type.__call__") ⟨.ref C::rest,[]⟩)) (And.intro rfl ?_);refine codeAny_call_builtin_at (Code.quiet_builtin _ (by decide +kernel)) entry_typeCall (check_slot tc_kind tc_split typ (tc_args _ _ _) ?_);unfold Builtin.«type.__call__»;repeat (first|with_reducible refine wpAny_loadPart_at hC ?_|with_reducible refine wpAny_madeBy_exc hC ?_|with_reducible refine wpAny_mroOf_exc hC ?_|wp_step)
 refine codeAny_call_builtin_code (Code.quiet_builtin _ F.quiet) (Jj hC hcB ?_);refine Yv hC hcB hcA hcN ?_ hrest;show wpAny _ _ _ _ _ _;have k:∀b o,h.get? b=some o->((h.push (Bu rest)).push (Cb C h.objs.size)).get? b=some o:=λb o e=>Heap.get?_push_of_some _ (Heap.get?_push_of_some _ e);have hx:((h.push (Bu rest)).push (Cb C h.objs.size)).get? (h.objs.size+1)=some (Cb C h.objs.size):=by heap_get
 have t1:Looks (model prog w) ((h.push (Bu rest)).push (Cb C h.objs.size)) (typeOf (.ref (h.objs.size+1))) (.ref C):=(Looks.ld hx).andThen .now;have hcC:(Value.ref C::bm).contains (.ref C)=true:=by simp
 have s1:Looks (model prog w) ((h.push (Bu rest)).push (Cb C h.objs.size)) (isSubtype (.ref C) (.ref C)) true:=by intro A' Q' E' s' k' q';obtain⟨h',g',d',t',os'⟩:=s';refine wpAny_isSubtype_exc (k' _ _ (k _ _ hC)) ?_;rw[hcC];exact q'
 have i1:=(looks_findIn (M:=model prog w) X hi).keeps k;have b1:=(bind_fn (M:=model prog w) X (.ref (h.objs.size+1)) hf).keeps k;unfold isInstance callSpecial? specialOf;repeat (first|with_reducible refine wpAny_call ?_|lk)
 refine codeAny_mono hq λr s' z=>?_;rcases r with e|(v|_|_|_)<;>first|exact z|exact z.elim|skip
 obtain⟨rfl,z⟩:=z;exact wpAny_pure (wpAny_pure z)
end
end
section
open Builtin Builtin.ObjectAttr
noncomputable abbrev DX(C:Addr):List Value:=[.ref C,.ref 39,.type "ValueError",.type "Exception",.type "BaseException",.type "object"]
theorem Ol(self:Value)(C:Addr):refuseLoop self "__setattr__" (DX C)=pure ():=by rw[refuseLoop_ref,refuseLoop_ref];kernel_rfl
section
variable{K:Frag}
theorem OO(X:K.In s.heap)(I:InstAt s.heap x ox C od)(hc:clsIn K C=some cd)(hmro:cd.mro=DX C)(ht:takerIn K C name=some none)
  (h:∀b,wpAny (model prog w) A.in1 (storeInOwnDict (.ref x) (.ref C) (.str name tk) name v b)
   (λCA s'=>match CA with|.done f=>R (.ok f) s'|.again c'=>c'.quiet=true/\codeAny (model prog w) A c' R s') (λe s'=>R (.error e) s') s) :
  codeAny (model prog w) A (.call (.builtin "object.__setattr__") ⟨[.ref x,.str name tk,v],[]⟩) R s:=by
 have SF:=PySem.F.store_object;have sub:Looks (model prog w) s.heap (isInstance (.ref x) (.type "object")) true:=I.type.andThen (looks_mroIn X (by unfold mroIn;rw[hc,Option.bind_some,hmro];rfl));refine codeAny_call_builtin SF.slot.plain SF.entry (@check_slot (model prog w) _ _ s "object.__setattr__" "object" "__setattr__" (.ref x) [.str name tk,v] [] _ SF.kind SF.split sub (SF.args (.ref x) (.str name tk) v) ?_);refine Au (Option.bind_eq_some_iff.mp ht) λattr ha hr=>?_;have hm:Looks (model prog w) s.heap (mroOf (.ref C)) cd.mro:=(looks_clsIn X hc).andThen .now;have L3:Looks (model prog w) s.heap (storeTaker? attr) none:=by
  cases attr with
  |none=>exact .now
  |some a=>
   refine Au (Option.map_eq_some_iff.mp hr) λb hb hb'=>?_;refine(looks_takesIn X hb).andThen ?_;cases b;·exact .now
   ·cases hb'
 rw[osa_eq,refuse_eq];refine wpAny_bind (wpAny_bind (I.type.here (wpAny_bind (hm.here ?_))));rw[hmro,Ol];refine wpAny_pure (wpAny_bind (I.type.here (wpAny_bind ((looks_findIn X ha).here (wpAny_bind (L3.here ?_))))));exact h _
set_option tactic.hygienic true in
theorem VN(F:Fr h₀ L s.heap m)(X₀:K.In h₀)(N:News h₀ L s.heap news)(I:InstAt s.heap x ox C (some (dictOf es n)))(hd:ox.dict=some dx)
  (hc:clsIn K C=some cd) (hmro:cd.mro=DX C) (hh:cd.hasDict=true) (ht:takerIn K C name=some none) (hl:(getL name es).isSome=true)
  (e:(putL name (PyData.keyHash w.params name) (.str name s.toks) v es,putN name es n)=(es',n')) (U:UpdF dx (dictOf es n) news upd) (hz:es'.length<=1000)
  (h:∀h',Fr h₀ L h' m->News h₀ L h' (upd (dictOf es' n'))->R (.ok (.ret .none)) {s with heap:=h',toks:=s.toks+1}) :
  codeAny (model prog w) A (.call (.builtin "object.__setattr__") ⟨[.ref x,.str name tk,v],[]⟩) R s:=by
 have X:=X₀.keeps F.keep;refine Sp U.split λpre post eqq2 hu h1 h2=>?_;subst eqq2;refine AG (Prod.mk.inj e) λe1 e2=>?_;refine OO X I hc hmro ht λb=>?_;have ef:Obj.putName name (PyData.keyHash w.params name) (.str name s.toks) v (dictOf es n)=dictOf es' n':=by rw[putName_dict,e1,e2]
 refine AG (news_upd (f:=Obj.putName name (PyData.keyHash w.params name) (.str name s.toks) v) F N h1 h2 ef rfl) λU1 U2=>?_;have D:=(N (dx,dictOf es n) (by simp)).1;have D':=(U2 (dx,dictOf es' n') (by simp)).1;obtain⟨hx,hcl,hn,-⟩:=I;obtain⟨oc,odi,oda,osl⟩:=ox;dsimp only at hcl hd;subst hcl hd;refine wpAny_bind (wpAny_pure (wpAny_bind (wpAny_bind (wpAny_loadPart hx (wpAny_bind ((looks_clsIn X hc).here ?_))))));rw[hh];refine wpAny_pure (a:=some dx) (wpAny_bind (wpAny_pure (wpAny_bind ?_)));unfold nsSet;refine wpAny_bind (wpAny_bind (wpAny_askSetting (wpAny_pure (wpAny_bind (wpAny_mkText (wpAny_bind (wpAny_loadPart D ?_)))))));dsimp only;have c:(!es.toArray.any (·.key.isStr name)&&es.toArray.any (·.refKey))=false:=by
  rw[<-Array.any_toList,<-Array.any_toList];cases he:es.find? (·.key.isStr name) with
  |some en=>have:(List.toArray es).toList.any (·.key.isStr name)=true:=List.any_eq_true.mpr ⟨en,List.mem_of_find?_eq_some he,List.find?_some (p:=λe:DictEntry=>e.key.isStr name) he⟩;rw[this];rfl
  |none=>
   unfold getL at hl;rw[he]at hl;dsimp only at hl;by_cases z:es.any (·.refKey)=true;·rw[if_pos z]at hl;cases hl
   ·rw[Bool.not_eq_true]at z;rw[z,Bool.and_false]
 rw[aRefKeyMayBeTheName_at,c];refine wpAny_updatePart D ?_;refine wpAny_bind (wpAny_lookBehind D' (pastItsLine_dict (by rw[List.size_toArray,sizeLine_eq];lia)) ?_);exact wpAny_pure (h _ U1 (hu _▸U2))
theorem Y3(F:Fr h₀ L s.heap m)(X₀:K.In h₀)(N:News h₀ L s.heap news)(I:InstAt s.heap x ox C (some (dictOf es n)))(hd:ox.dict=some dx)
  (hs:findIn K (.ref C) "__setattr__" = some (some (.builtin "object.__setattr__"))) (hc:clsIn K C=some cd) (hmro:cd.mro=DX C) (hh:cd.hasDict=true) (ht:takerIn K C name=some none) (hl:(getL name es).isSome=true)
  (e:(putL name (PyData.keyHash w.params name) (.str name (s.toks+1)) v es,putN name es n)=(es',n')) (U:UpdF dx (dictOf es n) news upd) (hz:es'.length<=1000)
  (h:∀h',Fr h₀ L h' m->News h₀ L h' (upd (dictOf es' n'))->Q () {s with heap:=h',toks:=s.toks+2}) :
  wpAny (model prog w) A (setAttr (.ref x) name v) Q E s:=
 set_plain (X₀.keeps F.keep) I hs (VN (s:={s with toks:=s.toks+1}) F X₀ N I hd hc hmro hh ht hl e U hz λh' F' N'=>h h' F' N')
theorem NY(F:Fr h₀ L s.heap m)(X₀:K.In h₀)(N:News h₀ L s.heap news)(U:UpdF x {cls:=.ref C,data:=.fields vs} news upd)
  (hc:clsIn K C=some cd) (hmro:cd.mro=DX C) (hh:cd.hasDict=true) (ht:takerIn K C name=some none)
  (h:∀dx h',Fr h₀ L h' m->News h₀ L h' ((dx,dictOf [⟨PyData.keyHash w.params name,.str name s.toks,v⟩] 1)::upd {cls:=.ref C,dict:=some dx,data:=.fields vs})->(∀p∈news,p.1<dx)->R (.ok (.ret .none)) {s with heap:=h',toks:=s.toks+1}) :
  codeAny (model prog w) A (.call (.builtin "object.__setattr__") ⟨[.ref x,.str name tk,v],[]⟩) R s:=by
 have X:=X₀.keeps F.keep;refine Sp U.split λpre post eqq2 hu h1 h2=>?_;subst eqq2;have hx:=(N (x,_) (List.mem_append_right _ (.head _))).1;have I:InstAt s.heap x {cls:=.ref C,data:=.fields vs} C none:=⟨hx,rfl,rfl,trivial⟩
 refine OO X I hc hmro ht λb=>?_;have L0:=looks_clsIn (M:=model prog w) X hc;refine wpAny_bind (wpAny_pure (wpAny_bind (wpAny_bind (wpAny_loadPart hx (wpAny_bind (L0.here ?_))))));rw[hh];refine wpAny_bind (wpAny_alloc ?_);have N1:=N.push F {cls:=.type "dict",data:=.dict #[]};have F1:=F.push {cls:=.type "dict",data:=.dict #[]};have hx1:=(N1 (x,_) (List.mem_cons_of_mem _ (List.mem_append_right _ (.head _)))).1;have hne:∀p∈(s.heap.objs.size,({cls:=.type "dict",data:=.dict #[]}:Obj))::pre,p.1≠x:=by
  intro p hp;rcases List.mem_cons.mp hp with rfl|hp;·exact Nat.ne_of_gt (Heap.lt_size hx)
  ·exact h1 p hp
 refine AG (news_upd (pre:=(s.heap.objs.size,{cls:=.type "dict",data:=.dict #[]})::pre) (f:=λo:Obj=>{o with dict:=some s.heap.objs.size}) F1 N1 hne h2 rfl rfl) λF2 N2=>?_;refine wpAny_bind (wpAny_update hx1 (wpAny_pure (a:=some s.heap.objs.size) (wpAny_bind (wpAny_pure (wpAny_bind ?_)))));have D:=(N2 _ (.head _)).1;unfold nsSet;refine wpAny_bind (wpAny_bind (wpAny_askSetting (wpAny_pure (wpAny_bind (wpAny_mkText (wpAny_bind (wpAny_loadPart D ?_)))))));dsimp only;rw[aRefKeyMayBeTheName_at,show(!(#[]:Array DictEntry).any (λe=>e.key.isStr name)&&(#[]:Array DictEntry).any (λe=>e.refKey))=false from by simp];have ef:Obj.putName name (PyData.keyHash w.params name) (.str name s.toks) v (dictOf [] 0)=dictOf [⟨PyData.keyHash w.params name,.str name s.toks,v⟩] 1:=by rw[putName_dict];rfl
 obtain⟨F3,N3⟩:=news_upd (pre:=[]) (f:=Obj.putName name (PyData.keyHash w.params name) (.str name s.toks) v) F2 N2 (λ_ h=>nomatch h) (λp hp=>by
  rcases List.mem_append.mp hp with z|z;·exact Nat.ne_of_lt (Heap.lt_size (N p (List.mem_append_left _ z)).1)
  ·rcases List.mem_cons.mp z with rfl|z;·exact Nat.ne_of_lt (Heap.lt_size hx)
   ·exact Nat.ne_of_lt (Heap.lt_size (N p (List.mem_append_right _ (.tail _ z))).1)) ef rfl
 refine wpAny_updatePart (o:=dictOf [] 0) D ?_;refine wpAny_bind (wpAny_lookBehind (N3 _ (.head _)).1 (pastItsLine_dict (by rw[sizeLine_eq];simp)) ?_);exact wpAny_pure (h _ _ F3 (hu _▸N3) λp hp=>Heap.lt_size (N p hp).1)
theorem QC(F:Fr h₀ L s.heap m)(X₀:K.In h₀)(N:News h₀ L s.heap news)(U:UpdF x {cls:=.ref C,data:=.fields vs} news upd)
  (hs:findIn K (.ref C) "__setattr__" = some (some (.builtin "object.__setattr__"))) (hc:clsIn K C=some cd) (hmro:cd.mro=DX C) (hh:cd.hasDict=true) (ht:takerIn K C name=some none)
  (h:∀dx h',Fr h₀ L h' m->News h₀ L h' ((dx,dictOf [⟨PyData.keyHash w.params name,.str name (s.toks+1),v⟩] 1)::upd {cls:=.ref C,dict:=some dx,data:=.fields vs})->(∀p∈news,p.1<dx)->Q () {s with heap:=h',toks:=s.toks+2}) :
  wpAny (model prog w) A (setAttr (.ref x) name v) Q E s:=by
 have hx:s.heap.get? x=some {cls:=.ref C,data:=.fields vs}:=by refine CX U.split λpre post eqq2 _=>?_;subst eqq2;exact(N (x,_) (List.mem_append_right _ (.head _))).1
 have I:InstAt s.heap x {cls:=.ref C,data:=.fields vs} C none:=⟨hx,rfl,rfl,trivial⟩
 exact set_plain (X₀.keeps F.keep) I hs (NY (s:={s with toks:=s.toks+1}) F X₀ N U hc hmro hh ht λdx h' F' N' l=>h dx h' F' N' l)
theorem mX(F:Fr h₀ L s.heap m)(X₀:K.In h₀)(N:News h₀ L s.heap news)(U:UpdF x {cls:=.ref C,dict:=dct,data:=.fields vs} news upd)
  (hKC:K.lookup C=some ⟨oc,odd,.cls cd,sl⟩) (hsub:subIn K (.ref C) (.type "ValueError")=some true) (h0:vs[0]?=some a₀) (hz:rest.length<=sizeLine)
  (h:∀t2 h',Fr h₀ L h' m->News h₀ L h' ((t2,Bu rest)::upd {cls:=.ref C,dict:=dct,data:=.fields (vs.setIfInBounds 0 (.ref t2))})->(∀p∈news,p.1<t2)->Q .none {s with heap:=h'}) :
  wpAny (model prog w) A (call (.builtin "ValueError.__init__") (.ref x::rest)) Q E s:=by
 have X:=X₀.keeps F.keep;refine Sp U.split λpre post eqq2 hu h1 h2=>?_;subst eqq2;have hx:=(N (x,_) (List.mem_append_right _ (.head _))).1;have FV:=PySem.F.excBase_ValueError;have hshort:=FV.noStar;have L0:Looks (model prog w) s.heap (isInstance (.ref x) (.type "ValueError")) true:=((Looks.ld (part:=none) hx).andThen .now).andThen (looks_subIn X hsub);refine wpAny_call (codeAny_call_builtin FV.init.plain FV.initEntry ?_);simp only[checkBuiltinCall,FV.initKind,FV.initSplit,FV.initRow];have hC:=X _ _ hKC;obtain⟨hh,g,d,t,os⟩:=s;refine wpAny_bind (L0.here ?_);repeat (first|with_reducible refine wpAny_loadPart_at hx ?_|with_reducible refine wpAny_loadPart_at hC ?_|wp_step)
 refine wpAny_onRaise ?_;rw[show∀(a b:String) (n:Nat),Bind.check ⟨.positional, "*", "ValueError",.self,[⟨"args",.varPos,false⟩]⟩ a b n (List.map (λx=>x.fst) ({pos:=Value.ref x::rest}:Args).kw)=pure () from
  λa b n=>check_star_args _ _ _ _ _ _]
 refine wpAny_pure ?_;unfold Builtin.«BaseException.__init__»;have hsz:0<vs.size:=(Array.getElem?_eq_some_iff.mp h0).1;dsimp only at F N X;have N1:=N.push F (Bu rest);have F1:=F.push (Bu rest);have hx1:=(N1 (x,_) (List.mem_cons_of_mem _ (List.mem_append_right _ (.head _)))).1;have hne:∀p∈(hh.objs.size,Bu rest)::pre,p.1≠x:=by
  intro p hp;rcases List.mem_cons.mp hp with rfl|hp;·exact Nat.ne_of_gt (Heap.lt_size hx)
  ·exact h1 p hp
 refine AG (news_upd (pre:=(hh.objs.size,Bu rest)::pre) (f:=Obj.mapFields (·.setIfInBounds 0 (.ref hh.objs.size))) F1 N1 hne h2 rfl rfl) λF2 N2=>?_;have CA:Q .none ⟨(hh.push (Bu rest)).update x (Obj.mapFields (·.setIfInBounds 0 (.ref hh.objs.size))),g,d,t,os⟩:=h _ _ F2 (hu _▸N2) λp hp=>Heap.lt_size (N p hp).1;refine wpAny_bind ?_;show wpAny _ _ (newTuple rest) _ _ _;unfold newTuple;refine wpAny_newObj_type ?_ (by show rest.toArray.size<=sizeLine;rw[List.size_toArray];exact hz);unfold PySem.Builtin.BaseException.bexcPut;refine wpAny_bind (wpAny_bind (wpAny_field hx1 rfl h0 (wpAny_bind (wpAny_setField hx1 rfl hsz ?_))));cases a₀<;>first|exact wpAny_pure (wpAny_pure CA)|(refine wpAny_letGo ?_;exact wpAny_pure CA)
set_option maxHeartbeats 400000 in
theorem PQ(X:K.In s.heap)(I:InstAt s.heap x ox C od)(hsub:subIn K (.ref C) (.type "BaseException")=some true)
  (hga:findIn K (.ref C) "__getattribute__" = some (some (.builtin "BaseException.__getattribute__"))) (hgg:findIn K (.ref C) "__getattr__" = some none)
  (hf:findObj K C od name=some (.value v)) (hh:handedIn v=true) (h:Q v {s with toks:=s.toks+1}):wpAny (model prog w) A (getAttr (.ref x) name expr) Q E s:=by
 obtain⟨hp,g,d,t,os⟩:=s;have L0:=I.type (M:=model prog w);have L1:=looks_findIn (M:=model prog w) X hga;have L2:=looks_findIn (M:=model prog w) X hgg;have L3:=looks_find (M:=model prog w) X I hf;have L4:Looks (model prog w) hp (isInstance (.ref x) (.type "BaseException")) true:=L0.andThen (looks_subIn X hsub);have hk:builtinKind "BaseException.__getattribute__" = some .slot:=by decide +kernel
 have hsplit:splitId "BaseException.__getattribute__" = some ("BaseException", "__getattribute__"):=by decide +kernel
 have hpl:plainId "BaseException.__getattribute__" = true:=by decide +kernel
 unfold getAttr getAttrBy;refine wpAny_bind (wpAny_mkText (wpAny_holding (wpAny_bind (L0.at (wpAny_bind (L1.at ?_))))));have hne:(onTheHeap (Value.ref C)&&Value.builtin "BaseException.__getattribute__" == Value.builtin "object.__getattribute__")=false:=by rw[show(Value.builtin "BaseException.__getattribute__" == Value.builtin "object.__getattribute__")=false from by decide +kernel,Bool.and_false]
 dsimp only;rw[hne];simp only[Bool.false_eq_true,if_false];unfold getAttrByItsOwn hookBefore;rw[show onTheHeap (Value.ref C)=true from rfl,if_pos rfl];refine wpAny_bind (L2.at (wpAny_bind (wpAny_attempt (wpAny_holding ?_))));unfold callGetattribute;rw[show(expr&&onTheHeap (Value.builtin "BaseException.__getattribute__"))=false from by cases expr<;>rfl];simp only[Bool.false_eq_true,if_false];unfold boundAndCalled;rw[PySem.F.excAttr_ValueError.ga.bind];refine wpAny_bind (wpAny_pure ?_);show wpAny _ _ (call (.builtin "BaseException.__getattribute__") [.ref x,.str name t]) _ _ _;refine wpAny_call (codeAny_call_builtin hpl PySem.F.entry_bexc_ga ?_);refine @check_slot (model prog w) _ _ _ "BaseException.__getattribute__" "BaseException" "__getattribute__" (.ref x) [.str name t] [] _ hk hsplit L4 (PySem.F.args_bexc_ga _ _) ?_;unfold Builtin.«object.__getattribute__»;refine wpAny_bind (wpAny_of_eq (a:=(.ref x,[.str name t])) rfl ?_);dsimp only;refine wpAny_bind (wpAny_of_eq (a:=name) rfl ?_);refine wpAny_bind (L0.at ?_);refine wpAny_bind (L3.at ?_);refine wpAny_pure ?_;show wpAny _ _ (handedOut v) _ _ _;rw[handedOut_of hh];exact wpAny_pure h
theorem Tu(N:News h₀ L h news)(h1:(x,({cls:=.ref C,dict:=some dx,data:=.fields vs}:Obj))∈news)(h2:(dx,odd)∈news):
  InstAt h x {cls:=.ref C,dict:=some dx,data:=.fields vs} C (some odd):=⟨(N _ h1).1,rfl,rfl,(N _ h2).1⟩
end
end
section
noncomputable abbrev BN(C:Addr)(dx:Option Addr)(a0 ctx cau BP x5 tb:Value):Obj:={cls:=.ref C,dict:=dx,data:=.fields #[a0,tb,ctx,cau,BP,x5]}
noncomputable def nS(base:Heap)(l:List Env)(e:Addr)(oe:Obj)(fl:Value)(h h':Heap):Prop:=base.StaysIn h'/\h'.FunFrames base l/\h.UpToSlots h'/\∃T oT ts,h'.get? e=some (Obj.mapFields (·.setIfInBounds 1 (.ref T)) oe)/\base.get? T=none/\T≠e/\h'.get? T=some oT/\oT.data=.fields ts/\ts[3]?=some fl
noncomputable def Dn(B:Heap)(l:List Env)(e:Addr)(mk:Value->Obj)(fl:Value)(h:Heap):Prop:=B.StaysIn h/\B.get? e=none/\h.FunFrames B l/\∃T oT ts,h.get? e=some (mk (.ref T))/\B.get? T=none/\T≠e/\h.get? T=some oT/\oT.data=.fields ts/\ts[3]?=some fl
section
variable{L e C:Addr}
theorem PA(hfr:A.frames=some (env::outer))(hl:s.heap.FunFrames base (env::outer))(hf:env.frame=some L)(he:s.heap.get? e=some oe)(hkb:base.StaysIn s.heap)(hen:base.get? e=none)
  (hd:oe.data=.fields vs) (hsz:1<vs.size) (h:∀h',nS base (env::outer) e oe (rawInt L) s.heap h'->Q () {s with heap:=h'}) :
  wpAny M A (do let a<-frameOf env;let pl<-entryPlaceOf L hadNext;let b<-EntryCells.newEntry head a .none (rawInt L) .none pl;setField (.ref e) 1 b) Q E s:=by
 have off:e∉(env::outer).filterMap (·.frame):=λhm=>by obtain⟨_,o,ho,hnf⟩:=hl.mem hm;rw[he]at ho;cases ho;exact hnf vs hd
 refine wpAny_bind (wpAny_frameOf_fun hfr hl hf λh₁ hs₁=>?_);refine wpAny_bind (wpAny_entryPlaceOf λpl hpl=>?_);unfold EntryCells.newEntry newFields;refine wpAny_bind (wpAny_newObj_type ?_ (hpl.sizeOk5 _ _ _ _ _));have he₁:h₁.get? e=some oe:=(hs₁.2.1 e off).trans he;have kb:base.StaysIn h₁:=λb o hbo=>(hs₁.2.1 b λhm=>by rw[(hl.mem hm).1]at hbo;cases hbo).trans (hkb b o hbo);generalize hO:({cls:=.type "traceback",dict:=none,data:=.fields ([head,.ref L,.none,rawInt L,.none]++(if pl.isEmpty then List.replicate 6 Value.none else pl)).toArray}:Obj)=O;have he₂:=Heap.get?_push_of_some (h:=h₁) O he₁;refine wpAny_setField he₂ hd hsz (h _ ?_);have hTe:h₁.objs.size≠e:=Nat.ne_of_gt (Heap.lt_size he₁);have he₃:=Heap.get?_update_self (Obj.mapFields (·.setIfInBounds 1 (Value.ref h₁.objs.size))) he₂ (Obj.isFreed_of_fields (Obj.data_mapFields hd (·.setIfInBounds 1 (Value.ref h₁.objs.size))));have hT₃:((h₁.push O).update e (Obj.mapFields (·.setIfInBounds 1 (Value.ref h₁.objs.size)))).get? h₁.objs.size=some O:=(Heap.get?_update_other _ _ (Ne.symm hTe)).trans (Heap.get?_push_size h₁ (by rw[<-hO];rfl));have keep:∀b o,b≠e->h₁.get? b=some o->((h₁.push O).update e (Obj.mapFields (·.setIfInBounds 1 (Value.ref h₁.objs.size)))).get? b=some o:=λb o nb hb=>by rw[Heap.get?_update_other _ _ (Ne.symm nb)];exact Heap.get?_push_of_some _ hb
 have plain:∀b o,s.heap.get? b=some o->(∀ws,o.data≠.fields ws)->b≠e:=λb o hb hnf q=>by rw[q,he]at hb;cases hb;exact hnf vs hd
 refine⟨λb o hbo=>keep b o (λq=>by rw[q,hen]at hbo;cases hbo) (kb b o hbo),hl.of_keeps λb o hb hnf=>?_,λb o hb hnf=>?_,h₁.objs.size,O,_,he₃,kb.fresh,hTe,hT₃,by rw[<-hO],?_⟩;·obtain⟨sl,hs⟩:=hs₁.2.2 b o hb;exact⟨_,keep b _ (plain b o hb hnf) hs,rfl⟩
 ·obtain⟨sl,hs⟩:=hs₁.2.2 b o hb;exact⟨sl,keep b _ (plain b o hb hnf) hs⟩
 ·first|(simp;done)|(rcases hpl with rfl|⟨_,_,_,_,_,_,_,rfl⟩<;>simp)
theorem FY(hfr:A.frames=some (env::outer))(hl:s.heap.FunFrames B (env::outer))(hf:env.frame=some L)(he:s.heap.get? e=some (BN C dx a0 ctx cau BP x5 .none))(hkb:B.StaysIn s.heap)(hen:B.get? e=none)
  (h:∀h',Dn B (env::outer) e (BN C dx a0 ctx cau BP x5) (rawInt L) h'->s.heap.UpToSlots h'->Q () {s with heap:=h'}):wpAny M A (noteFrame (.ref e) env) Q E s:=by
 unfold noteFrame;simp only[hf];refine wpAny_bind (wpAny_field (x:=.none) he rfl rfl ?_);rw[if_neg (by decide)];exact PA hfr hl hf he hkb hen rfl (by show 1<6;decide) λh' k=>by obtain⟨k1,k2,k3,T,oT,ts,k4,k5⟩:=k;exact h h' ⟨k1,hen,k2,T,oT,ts,k4,k5⟩ k3
theorem SD(hkb:B.StaysIn s.heap)(hen:B.get? e=none)(hl:s.heap.FunFrames B l)(he:s.heap.get? e=some (mk (.ref T)))(hnT:B.get? T=none)(hTe:T≠e)(hT:s.heap.get? T=some oT)
  (hdT:oT.data=.fields ts) (h3:ts[3]?=some fl) (h:∀h',Dn B l e mk v h'->s.heap.UpToSlots h'->Q () {s with heap:=h'}):wpAny M A (setField (.ref T) 3 v) Q E s:=by
 have hsz3:3<ts.size:=(Array.getElem?_eq_some_iff.mp h3).1;have other:∀b,b≠T->(s.heap.update T (Obj.mapFields (·.setIfInBounds 3 v))).get? b=s.heap.get? b:=λb hb=>Heap.get?_update_other _ _ (Ne.symm hb);have plain:∀b o,s.heap.get? b=some o->(∀ws,o.data≠.fields ws)->b≠T:=λb o hb hnf q=>by rw[q,hT]at hb;cases hb;exact hnf ts hdT
 refine wpAny_setField hT hdT hsz3 (h _ ⟨λb o hbo=>(other b λq=>by rw[q,hnT]at hbo;cases hbo).trans (hkb b o hbo),hen,
  hl.of_keeps λb o hb hnf=>⟨o,(other b (plain b o hb hnf)).trans hb,rfl⟩,T,_,_,(other e (Ne.symm hTe)).trans he,hnT,hTe,
  Heap.get?_update_self _ hT (Obj.isFreed_of_fields (Obj.data_mapFields hdT _)),Obj.data_mapFields hdT _,by simp[hsz3]⟩
  λb o hb hnf=>⟨o.slots,(other b (plain b o hb hnf)).trans hb⟩)
theorem Dg(F:Dn B l e (BN C dx a0 ctx cau BP x5) fl s.heap)(h:∀h',Dn B l e (BN C dx a0 ctx cau BP x5) (v.elim .none λf=>rawInt f) h'->s.heap.UpToSlots h'->Q () {s with heap:=h'}):
  wpAny M A (setFlight (.ref e) v) Q E s:=by
 obtain⟨k1,k2,k3,T,oT,ts,he,hnT,hTe,hT,hdT,h3⟩:=F;unfold setFlight;refine wpAny_bind (wpAny_field (x:=.ref T) he rfl rfl ?_);rw[if_pos (show(Value.ref T != Value.none)=true from by simp)];exact SD k1 k2 k3 he hnT hTe hT hdT h3 h
theorem Hf(hfr:A.frames=some (env::outer))(hf:env.frame=some L)(F:Dn B (env::outer) e (BN C dx a0 ctx cau BP x5) .none s.heap)
  (h:∀h',Dn B (env::outer) e (BN C dx a0 ctx cau BP x5) (rawInt L) h'->s.heap.UpToSlots h'->Q () {s with heap:=h'}):wpAny M A (noteFrame (.ref e) env) Q E s:=by
 obtain⟨k1,k2,k3,T,oT,ts,he,hnT,hTe,hT,hdT,h3⟩:=F;unfold noteFrame;simp only[hf];refine wpAny_bind (wpAny_field (x:=.ref T) he rfl rfl ?_);rw[if_pos (show(Value.ref T != Value.none)=true from by simp)];refine wpAny_bind (wpAny_field hT hdT h3 ?_);rw[if_neg (show¬((Value.none==rawInt L)=true) from by simp[rawInt])];refine wpAny_bind (SD (mk:=BN C dx a0 ctx cau BP x5) (v:=.none) k1 k2 k3 he hnT hTe hT hdT h3 λh₁ F₁ U₁=>?_);obtain⟨j1,j2,j3,T',oT',ts',he',_⟩:=F₁;exact PA (s:={s with heap:=h₁}) hfr j3 hf he' j1 j2 rfl (by show 1<6;decide) λh' k=>by obtain⟨i1,i2,i3,T₂,oT₂,ts₂,i4,i5⟩:=k;exact h h' ⟨i1,j2,i2,T₂,oT₂,ts₂,i4,i5⟩ (U₁.trans i3)
theorem XU(hf:env.frame=some L)(F:Dn B l e (BN C dx a0 ctx cau BP x5) (rawInt L) s.heap)(h:Q () s):wpAny M A (noteFrame (.ref e) env) Q E s:=by obtain⟨_,_,_,T,oT,ts,he,hnT,hTe,hT,hdT,h3⟩:=F;unfold noteFrame;simp only[hf];refine wpAny_bind (wpAny_field (x:=.ref T) he rfl rfl ?_);rw[if_pos (show(Value.ref T != Value.none)=true from by simp)];refine wpAny_bind (wpAny_field hT hdT h3 ?_);rw[if_pos (show(rawInt L==rawInt L)=true from by simp)];exact wpAny_pure h
theorem Dn.tail(F:Dn B (env::outer) e mk fl h):Dn B outer e mk fl h:=⟨F.1,F.2.1,F.2.2.1.2.2,F.2.2.2⟩
theorem Jt(hfr:A.frames=some (env::outer))(hl:s.heap.FunFrames B (env::outer))(hf:env.frame=some L)(he:s.heap.get? e=some (BN C dx a0 ctx cau BP x5 .none))(hkb:B.StaysIn s.heap)(hen:B.get? e=none)
  (h:∀h',Dn B outer e (BN C dx a0 ctx cau BP x5) .none h'->s.heap.UpToSlots h'->Q () {s with heap:=h'}):wpAny M A (leaving env (.ref e)) Q E s:=by
 unfold leaving;refine wpAny_bind (FY hfr hl hf he hkb hen λh₁ F₁ U₁=>?_);exact Dg (s:={s with heap:=h₁}) (v:=none) F₁ λh' F' U'=>h h' F'.tail (U₁.trans U')
theorem Lf(hfr:A.frames=some (env::outer))(hf:env.frame=some L)(F:Dn B (env::outer) e (BN C dx a0 ctx cau BP x5) .none s.heap)
  (h:∀h',Dn B outer e (BN C dx a0 ctx cau BP x5) .none h'->s.heap.UpToSlots h'->Q () {s with heap:=h'}):wpAny M A (leaving env (.ref e)) Q E s:=by
 unfold leaving;refine wpAny_bind (Hf hfr hf F λh₁ F₁ U₁=>?_);exact Dg (s:={s with heap:=h₁}) (v:=none) F₁ λh' F' U'=>h h' F'.tail (U₁.trans U')
theorem Jk(hf:env.frame=some L)(F:Dn B (env::outer) e (BN C dx a0 ctx cau BP x5) (rawInt L) s.heap)
  (h:∀h',Dn B outer e (BN C dx a0 ctx cau BP x5) .none h'->s.heap.UpToSlots h'->Q () {s with heap:=h'}):wpAny M A (leaving env (.ref e)) Q E s:=by
 unfold leaving;refine wpAny_bind (XU hf F ?_);exact Dg (v:=none) F λh' F' U'=>h h' F'.tail U'
end
end
section
noncomputable def Gr(h₀:Heap)(trk:List (Addr×Obj))(fs:List Addr)(g:Heap):Prop:=∀b o,h₀.get? b=some o->b∉trk.map (·.1)->(b∉fs->g.get? b=some o)/\∃sl,g.get? b=some {o with slots:=sl}
structure qF(base:Heap)(outer:List Env)(mods:List Addr)(h h':Heap):Prop where
 stays:base.StaysIn h'
 frames:h'.FunFrames base outer
 keep:∀b o,h.get? b=some o->b∉mods->b∉outer.filterMap (·.frame)->h'.get? b=some o
 up:∀b o,h.get? b=some o->b∈outer.filterMap (·.frame)->∃sl,h'.get? b=some {o with slots:=sl}
noncomputable def ZC(h:Heap)(e:Addr)(ctx:Value):Prop:=ctx=.none\/∃e0 o0 vs0,ctx=.ref e0/\e0≠e/\h.get? e0=some o0/\o0.data=.fields vs0/\vs0[2]?=some .none
section
variable{s:Shared}{env:Env}
theorem Gr.of(hg:∀b o,h₀.get? b=some o->b∉trk.map (·.1)->g.get? b=some o):Gr h₀ trk fs g:=λb o e n=>⟨λ_=>hg b o e n,o.slots,hg b o e n⟩
theorem Gr.turn(G:Gr h₀ trk fs g)(T:KtsTurn fs g g'):Gr h₀ trk fs g':=λb o e n=>by refine AG (G b o e n) λx Hx=>?_;obtain⟨sl,y⟩:=Hx;refine AP (T.up y) λsl' z=>?_;exact⟨λnf=>T.other b o (x nf) nf,sl',z⟩
theorem Cf(hm:b∈(env::outer).filterMap (·.frame))(hf:env.frame=some L):b=L\/b∈outer.filterMap (·.frame):=by
 refine Au (List.mem_filterMap.mp hm) λe he hf'=>?_;rcases List.mem_cons.mp he with rfl|he;·exact .inl (Option.some.inj (hf'.symm.trans hf))
 ·exact .inr (List.mem_filterMap.mpr ⟨e,he,hf'⟩)
theorem pP(B:Below A base outer g)(F:Fr g L s.heap m)(N:News g L s.heap news)(hf:env.frame=some L)(S:qF base (env::outer) mods s.heap h')(hm:∀a∈mods,a∈news.map (·.1)):
  ∃g',KtsTurn (outer.filterMap (·.frame)) g g'/\Fr g' L h' m/\Below A base outer g'/\(∀q∈news,q.1∉mods->h'.get? q.1=some q.2)/\∀q∈news,q.1≠L/\g'.get? q.1=none:=by
 have inL:∀b,b∈outer.filterMap (·.frame)->b∈(env::outer).filterMap (·.frame):=λb hb=>by refine Au (List.mem_filterMap.mp hb) λe he h=>?_;exact List.mem_filterMap.mpr ⟨e,.tail _ he,h⟩
 have nm:∀b o,g.get? b=some o->b∉mods:=λb o e q=>by refine Au (List.mem_map.mp (hm b q)) λq' hq eqq2=>?_;subst eqq2;rw[(N q' hq).2.2]at e;cases e
 obtain⟨T,st⟩:=kts_turn_at (h:=h') (fs:=outer.filterMap (·.frame)) (g:=g)
  (λb hb=>let⟨_,o,ho,_⟩:=B.frames.mem hb;⟨o,ho⟩)
  (λb o e nf=>S.keep b o (F.keep b o e) (nm b o e) λhb=>by
   rcases Cf hb hf with rfl|z;·rw[kts_self F]at e;cases e
   ·exact nf z)
  (λb o e hb=>S.up b o (F.keep b o e) (inL b hb))
 obtain⟨oL,es,ep,hL,hd,r⟩:=F.ns;refine AP (S.up L oL hL (List.mem_filterMap.mpr ⟨env,.head _,hf⟩)) λsl hL'=>?_;refine⟨_,T,⟨⟨_,es,ep,hL',hd,r⟩,st,by rw[T.size];exact F.above⟩,⟨B.stack,λb o e=>T.other b o (B.stays b o e) (λhb=>by rw[(B.frames.mem hb).1]at e;cases e),B.frames.of_keeps λb o e _=>?_⟩,λq hq nq=>?_,λq hq=>⟨(N q hq).2.1,T.none_ _ (N q hq).2.2⟩⟩;·refine AP (T.up e) λsl' hs=>?_;exact⟨_,hs,rfl⟩
 ·refine S.keep _ _ (N q hq).1 nq λhb=>?_;rcases Cf hb hf with z|z;·exact(N q hq).2.1 z
  ·refine AG (B.frames.mem z) λ_ Hx=>?_;obtain⟨o,ho,_⟩:=Hx;rw[(N q hq).2.2]at ho;cases ho
end
section
noncomputable def EW(H:Heap)(fs:List Addr)(e:Addr):Heap:=hideAll H (e::fs)
end
end
section
section
variable{K:Frag}
theorem MG(X:K.In h)(he:h.get? e=some oe)(hc:oe.cls=.ref C)(hd:oe.data=.fields vs)(hs:subIn K (.ref C) (.type "BaseException")=some true):Looks M h (excFromValue (.ref e) msg) (.ref e):=by
 have LT:Looks M h (isType (.ref e)) false:=by intro A Q E s k q;unfold isType;refine wpAny_bind (wpAny_loadPart (k _ _ he) (wpAny_pure ?_));rw[hd];exact q
 have LI:Looks M h (isInstance (.ref e) (.type "BaseException")) true:=by
  unfold isInstance;refine(Looks.ld he).andThen ?_ |>.andThen (looks_subIn X hs)
  rw[hc];exact .now
 intro A Q E s k q;unfold excFromValue isExcClass;refine wpAny_bind (wpAny_bind ((LT.keeps k).here ?_));rw[if_neg Bool.false_ne_true];refine wpAny_pure ?_;rw[if_neg Bool.false_ne_true];refine wpAny_bind ((LI.keeps k).here ?_);rw[if_pos rfl];exact wpAny_pure q
theorem Nh(he:h.get? e=some oe)(hd:oe.data=.fields vs):Looks M h (isType (.ref e)) false:=by intro A Q E s k q;unfold isType;refine wpAny_bind (wpAny_loadPart (k _ _ he) (wpAny_pure ?_));rw[hd];exact q
theorem G7(X:K.In h)(he:h.get? e=some oe)(hc:oe.cls=.ref C)(ht:typeIn K (.ref C)=some (.type "type")):Looks M h (raisedInstance (.ref e)) (.ref e):=by
 have L1:Looks M h (typeOf (.ref e)) (.ref C):=by refine(Looks.ld he).andThen ?_;rw[hc];exact .now
 have L2:=looks_typeIn (M:=M) X ht;intro A Q E s k q;unfold raisedInstance;refine wpAny_bind ((L1.keeps k).here (wpAny_bind ((L2.keeps k).here ?_)));rw[if_pos (by simp)];exact wpAny_pure q
end
section
variable{K:Frag}
theorem G5(he:s.heap.get? e=some (BN C dx a0 ctx cau BP x5 .none))(h:Q () s):wpAny M A (setFlight (.ref e) v) Q E s:=by unfold setFlight;refine wpAny_bind (wpAny_field (x:=.none) he rfl rfl ?_);rw[if_neg (by decide)];exact wpAny_pure h
noncomputable def fO(K:Frag)(C:Addr)(E:Value->Shared->Prop)(v:Value)(s:Shared):Prop:=∃e dx a0 BP,v=.ref e/\K.In s.heap/\s.heap.get? e=some (BN C dx a0 .none .none BP .none .none)/\E (.ref e) s
theorem MT(_X:K.In hB)(hh:A.handled=none)(hs:subIn K (.ref C) (.type "BaseException")=some true)(ht:typeIn K (.ref C)=some (.type "type"))
  (h:wpAny M A (eval x env) (fO K C E) E s):wpAny M A (exec (.Raise (some x) none pos) env) Q E s:=by
 rw[arm_exec_Raise];refine wpAny_bind (wpAny_standAt ?_);show wpAny _ _ (raiseStmt env (some (eval x env >>= λv=>standAt pos >>= λ_=>pure v)) none) _ _ _;unfold raiseStmt;refine wpAny_bind (wpAny_bind (wpAny_mono h (λv s₁ h₁=>wpAny_bind (wpAny_standAt (wpAny_pure ?_))) λ_ _ z=>z));obtain⟨e,dx,a0,BP,rfl,X,he,hE⟩:=h₁;refine wpAny_bind (wpAny_pure ?_);refine wpAny_bind (wpAny_holding ((MG X he rfl rfl hs).here ?_));dsimp only;try refine wpAny_bind (wpAny_pure ?_)
 refine wpAny_bind ((Nh he rfl).here ?_);rw[if_neg Bool.false_ne_true];refine wpAny_bind ((G7 X he rfl ht).here ?_);refine wpAny_bind (G5 he ?_);exact wpAny_raiseNew_none hh hE
end
section
variable{K:Frag}
theorem Fi:entryFor table "proto.unchain" = some Builtin.«proto.unchain»:=entryFor_of_fast (by kernel_rfl)
theorem Jd(args:Args):(Code.builtin "proto.unchain" args).quiet=true:=Code.quiet_builtin _ (by decide +kernel)
theorem GY(ho:s.heap.get? h₁=some o)(hd:o.data=.fields vs)(h2:vs[2]?=some .none)(h:R (.ok (.ret .none)) s):
  codeAny (model prog w) A (.builtin "proto.unchain" ⟨[.ref e,.ref h₁,.ref sl,.bool b],[]⟩) R s:=by
 refine codeAny_builtin Fi ?_;unfold Builtin.«proto.unchain»;refine wpAny_bind (wpAny_field ho hd h2 ?_);rw[if_pos (show(Value.none==Value.none)=true from by decide)];exact wpAny_pure h
theorem Mp(ho:s.heap.get? h₁=some o)(hd:o.data=.fields vs)(h2:vs[2]?=some (.ref h₂))(n1:h₂≠e)(n2:h₂≠h₁)
  (ho₂:s.heap.get? h₂=some o₂) (hd₂:o₂.data=.fields vs₂) (h22:vs₂[2]?=some .none) (h:R (.ok (.ret .none)) s) :
  codeAny (model prog w) A (.builtin "proto.unchain" ⟨[.ref e,.ref h₁,.ref h₁,.bool false],[]⟩) R s:=by
 refine codeAny_builtin Fi ?_;unfold Builtin.«proto.unchain»;refine wpAny_bind (wpAny_field ho hd h2 ?_);rw[if_neg (show¬((Value.ref h₂==Value.none)=true) from by simp)];rw[if_neg (show¬((Value.ref h₂==Value.ref e)=true) from λq=>n1 (by have:=eq_of_beq q;injection this))];rw[if_neg (show¬((Value.ref h₂==Value.ref h₁)=true) from λq=>n2 (by have:=eq_of_beq q;injection this))];rw[if_neg Bool.false_ne_true];refine wpAny_bind (wpAny_pure (wpAny_pure ⟨Jd _,GY ho₂ hd₂ h22 h⟩))
theorem VW(hh:A.handled=some (.ref h₁))(ne:h₁≠e)(ho:s.heap.get? h₁=some o)(hd:o.data=.fields vs)(h2:vs[2]?=some ctx)(hc:ZC s.heap h₁ ctx)
  (hn:∀e0,ctx=.ref e0->e0≠e) (he:s.heap.get? e=some oe) (hde:oe.data=.fields ve) (hz:2<ve.size)
  (h:E (.ref e) {s with heap:=s.heap.update e (Obj.mapFields (·.setIfInBounds 2 (.ref h₁)))}):wpAny (model prog w) A (raiseNew (.ref e):Sem α) Q E s:=by
 unfold raiseNew;refine wpAny_bind (wpAny_handled ?_);rw[hh];dsimp only;rw[if_pos (by simp;exact ne)];refine wpAny_bind (wpAny_holding (wpAny_runValue ?_));have set2:wpAny (model prog w) A (updateField e 2 (.ref h₁)) (λ_ s'=>wpAny (model prog w) A (throw (.ref e):Sem α) Q E s') E s:=by unfold updateField;refine wpAny_bind (wpAny_load he ?_);rw[hde];show wpAny _ A (if 2<ve.size then _ else _) _ E s;rw[if_pos hz];exact wpAny_update he (wpAny_throw h)
 have goB:wpAny (model prog w) A (do updateField e 2 (.ref h₁);(throw (.ref e):Sem α)) Q E s:=wpAny_bind set2;rcases hc with rfl|⟨e0,o0,vs0,rfl,n0,g0,d0,z0⟩
 ·exact GY ho hd h2 goB
 ·exact Mp ho hd h2 (hn e0 rfl) n0 g0 d0 z0 goB
noncomputable def bR(K:Frag)(C h₁:Addr)(E:Value->Shared->Prop)(v:Value)(s:Shared):Prop:=
 ∃e dx a0 BP o vs ctx,v=.ref e/\K.In s.heap/\K.lookup e=none/\s.heap.get? e=some (BN C dx a0 .none .none BP .none .none)/\h₁≠e/\s.heap.get? h₁=some o/\o.data=.fields vs/\vs[2]?=some ctx/\ZC s.heap h₁ ctx/\
  (∀e0,ctx=.ref e0->e0≠e)/\
  ∀h',h'.get? e=some (BN C dx a0 (.ref h₁) .none (.bool true) .none .none)->Heap.SameBut e s.heap h'->E (.ref e) {s with heap:=h'}
theorem NX(_X:K.In hB)(hh:A.handled=some (.ref h₁))(hs:subIn K (.ref C) (.type "BaseException")=some true)(ht:typeIn K (.ref C)=some (.type "type"))
  (h:wpAny (model prog w) A (eval x env) (bR K C h₁ E) E s):wpAny (model prog w) A (exec (.Raise (some x) (some (.Constant Const.none ck cp)) pos) env) Q E s:=by
 rw[arm_exec_Raise];refine wpAny_bind (wpAny_standAt ?_);show wpAny _ _ (raiseStmt env (some (eval x env >>= λv=>standAt pos >>= λ_=>pure v)) (some (eval (.Constant Const.none ck cp) env >>= λv=>standAt pos >>= λ_=>pure v))) _ _ _;unfold raiseStmt;refine wpAny_bind (wpAny_bind (wpAny_mono h (λv s₁ h₁=>wpAny_bind (wpAny_standAt (wpAny_pure ?_))) λ_ _ z=>z));obtain⟨e,dx,a0,BP,o,vs,ctx,rfl,X,hK,he,ne,ho,hd,h2,hc,hn,hE⟩:=h₁;refine wpAny_bind (wpAny_holding (wpAny_bind (wpAny_mono (Q:=λv s'=>v=.none/\s'=s₁) ?_ (λc s₂ hc₂=>?_) λ_ _ z=>z)));·show wpAny _ _ (eval (.Constant Const.none ck cp) env) _ _ _;exact wpAny_pure ⟨rfl,rfl⟩
 refine AG hc₂ λeqq0 eqq1=>?_;subst eqq0;subst eqq1;refine wpAny_bind (wpAny_standAt (wpAny_pure (wpAny_bind (wpAny_pure ?_))));refine wpAny_bind (wpAny_holding ((MG X he rfl rfl hs).here ?_));dsimp only;rw[if_pos (by rfl)];refine wpAny_bind (wpAny_pure ?_);refine wpAny_bind (wpAny_setField he rfl (by show 3<6;decide) ?_);have g1:=Heap.get?_update_self (Obj.mapFields (·.setIfInBounds 3 Value.none)) he rfl;have g1:(s₂.heap.update e (Obj.mapFields (·.setIfInBounds 3 Value.none))).get? e=some (BN C dx a0 .none .none BP .none .none):=g1;refine wpAny_bind (wpAny_setField (s:={s₂ with heap:=s₂.heap.update e (Obj.mapFields (·.setIfInBounds 3 Value.none))}) g1 rfl (by show 4<6;decide) ?_);have g2:=Heap.get?_update_self (Obj.mapFields (·.setIfInBounds 4 (Value.bool true))) g1 rfl;generalize hH:(s₂.heap.update e (Obj.mapFields (·.setIfInBounds 3 Value.none))).update e (Obj.mapFields (·.setIfInBounds 4 (Value.bool true)))=H at g2⊢;have g2:H.get? e=some (BN C dx a0 .none .none (.bool true) .none .none):=g2;have other:∀b,b≠e->H.get? b=s₂.heap.get? b:=λb nb=>by rw[<-hH,Heap.get?_update_other _ _ (Ne.symm nb),Heap.get?_update_other _ _ (Ne.symm nb)]
 have X':K.In H:=λb o eb=>by
  by_cases nb:b=e;·subst nb;rw[hK]at eb;cases eb
  ·rw[other b nb];exact X b o eb
 refine wpAny_bind ((Nh (M:=model prog w) g2 rfl).here ?_);rw[if_neg Bool.false_ne_true];refine wpAny_bind ((G7 (M:=model prog w) X' g2 rfl ht).here ?_);refine wpAny_bind (G5 g2 ?_);refine VW hh ne ((other _ ne).trans ho) hd h2 ?_ hn g2 rfl (by show 2<6;decide) ?_
 ·rcases hc with rfl|⟨e0,o0,vs0,rfl,n0,g0,r⟩
  ·exact .inl rfl
  ·exact .inr ⟨e0,o0,vs0,rfl,n0,(other _ (hn e0 rfl)).trans g0,r⟩
 ·have g3:=Heap.get?_update_self (Obj.mapFields (·.setIfInBounds 2 (Value.ref h₁))) g2 rfl;exact hE _ g3 ⟨by rw[<-hH];simp[Heap.size_after_update],λb nb=>(Heap.get?_update_other _ _ (Ne.symm nb)).trans (other b nb)⟩
theorem Dn.keeps(F:Dn B l e mk fl h)(k:∀b o,h.get? b=some o->h'.get? b=some o):Dn B l e mk fl h':=⟨λb o q=>k _ _ (F.1 b o q),F.2.1,F.2.2.1.of_keeps λb o q _=>⟨o,k b o q,rfl⟩,nV F.2.2.2 λT oT ts x1 x2 x3 x4 x5=>⟨T,oT,ts,k _ _ x1,x2,x3,k _ _ x4,x5⟩⟩
end
section
variable{cx:Bool}
 {n:Str}{b₀:Stmt}{suite:List Stmt}{pos:Pos}{rest:List ExceptHandler}{Q:Flow->Shared->Prop}{news:List (Addr×Obj)}{KF:Frag}{tt:Expr}
 {p:Program}{loose:List Str}{mean:ExcName->Option Value}{mg mb:Str->Option Value}
end
end
section
section
variable{lo hi:Option Int}
theorem HH(p:IsPart v k)(h:Q k s):wpAny (model prog w) A (Builtin.Slice.slicePartIndex v) Q E s:=by
 cases p with
 |none=>exact slicePart_none h
 |int i u=>exact slicePart_int h
noncomputable def Hi(lo hi:Option Int)(n:Nat):Int×Nat:=((Builtin.Slice.sliceAdjust lo hi 1 n).1,Builtin.Slice.slicePlaces (Builtin.Slice.sliceAdjust lo hi 1 n).1 (Builtin.Slice.sliceAdjust lo hi 1 n).2 1)
noncomputable def Fn(xs:Array Value)(c:Int×Nat):List Value:=(List.range c.2).filterMap λ(k:Nat)=>xs[(c.1+(k:Int)*1).toNat]?
theorem Lh{sl:Addr}{n:Nat}{Q:Int×Int×Nat->Shared->Prop}(hs:s.heap.IsSliceOf sl vl vu .none)(pl:IsPart vl lo)(pu:IsPart vu hi)(h:Q ((Hi lo hi n).1,1,(Hi lo hi n).2) s):
  wpAny (model prog w) A (Builtin.Slice.sliceApplied (.ref sl) (pure (n:Int))) Q E s:=by
 obtain⟨os,hos,hcs,hds⟩:=id hs;unfold Builtin.Slice.sliceApplied Builtin.Slice.sliceFields;refine wpAny_bind (wpAny_bind (wpAny_field hos hds (x:=vl) rfl (wpAny_bind (wpAny_field hos hds (x:=vu) rfl (wpAny_bind (wpAny_field hos hds (x:=.none) rfl (wpAny_pure ?_)))))));refine wpAny_bind (slicePart_none ?_);show wpAny _ _ (if((1:Int)==0)=true then _ else _) _ _ s;rw[if_neg (by decide)];refine wpAny_bind (HH pl (wpAny_bind (HH pu (wpAny_bind (wpAny_pure ?_)))));exact wpAny_pure h
theorem RX(xs:Array Value)(c:Int×Nat):(Fn xs c).length<=c.2:=by unfold Fn;exact Nat.le_trans (List.length_filterMap_le _ _) (by simp)
theorem H9(ht:IsTup s.heap t items)(hs:s.heap.IsSliceOf sl vl vu .none)(pl:IsPart vl lo)(pu:IsPart vu hi)
  (hw:((Hi lo hi items.size).1==0&&(1:Int)==1&&(Hi lo hi items.size).2==items.size)=false) (hz:(Hi lo hi items.size).2<=sizeLine)
  (h:Q (.ref s.heap.objs.size) {s with heap:=s.heap.push {cls:=.type "tuple",data:=.seq (Fn items (Hi lo hi items.size)).toArray}}):wpAny (model prog w) A (getItem (.ref t) (.ref sl)) Q E s:=by
 have hdrop:sizeOk (.seq (Fn items (Hi lo hi items.size)).toArray):=by show(Fn items (Hi lo hi items.size)).toArray.size<=sizeLine;rw[List.size_toArray];exact Nat.le_trans (RX _ _) hz
 obtain⟨os,hos,hcs,hds⟩:=id hs;have hTs:s.TypeIs (.ref sl) "slice" := ⟨os,hos,hcs⟩
 unfold getItem;try with_reducible refine wpAny_holding ?_
 first|refine wpAny_bind (wpAny_pure ?_)|skip
 refine wpAny_bind (wpAny_sequenceKey ht.typeIs (by decide) ?_);refine wpAny_bind (wpAny_callSpecial?_slot (name:=Str.ofString "__getitem__") ht.typeIs slot_tuple_getitem
  (wpAny_call_entry slot_tuple_getitem ht.typeIs entry_tuple_getitem ?_ (args_tuple_getitem _ _)))
 show wpAny _ _ (Builtin.Tuple.tupleItemsOf (.ref t) >>= _) _ _ s;refine wpAny_bind (tupleItemsOf_ ht ?_);refine wpAny_bind (wpAny_typeOf hTs ?_);rw[if_pos (by decide)];refine wpAny_bind (Lh hs pl pu ?_);show wpAny _ _ (if((Hi lo hi items.size).1==0&&(1:Int)==1&&(Hi lo hi items.size).2==items.size)=true then _ else _) _ _ s;rw[hw,if_neg Bool.false_ne_true];first
  |exact wpAny_bind (m:=Builtin.Tuple.tupleExact _) (wpAny_newObj_type (wpAny_pure ⟨_,rfl,wpAny_pure h⟩) hdrop)
  |exact wpAny_bind (m:=Builtin.Tuple.tupleExact _) (wpAny_newObj_type (wpAny_bind (wpAny_pure (wpAny_pure ⟨_,rfl,wpAny_pure h⟩))) hdrop)
  |exact wpAny_bind (wpAny_bind (m:=Builtin.Tuple.tupleExact _) (wpAny_newObj_type (wpAny_pure (wpAny_pure ⟨_,rfl,wpAny_pure h⟩)) hdrop))
  |exact wpAny_bind (wpAny_bind (m:=Builtin.Tuple.tupleExact _) (wpAny_newObj_type (wpAny_pure ⟨_,rfl,wpAny_pure h⟩) hdrop))
end
end
set_option genSizeOf false in
inductive Gz where
 |i (n:Int)|s (x:Str)
 deriving DecidableEq
noncomputable def Us:Gz->Value->Bool
 |.i n,v=>Value.isInt n v
 |.s x,v=>Value.isStrOf x v
inductive V7:Gz->Value->Prop
 |i (n:Int) (t:Tok):V7 (.i n) (.int n t)
 |s (x:Str) (t:Tok):V7 (.s x) (.str x t)
theorem EF(h:Us a v=true):V7 a v:=by
 cases a<;>cases v<;>first|exact DA h|skip
 ·rw[of_decide_eq_true h];exact .i _ _
 ·rw[of_decide_eq_true h];exact .s _ _
noncomputable def jL(w:World):Gz->Int
 |.i n=>hashInt n
 |.s x=>hashStr w x
noncomputable def Dl(prog:Program)(w:World):KeyKind prog w Gz where
 is:=Us
 hash:=jL w
 inj:=λv a b ha hb=>by cases EF ha<;>(cases EF hb;rfl)
 byValue:=λk v h=>by cases EF h<;>rfl
 pyHash:=λhv h=>by
  cases EF hv;·exact wpAny_pyHash_int h
  ·exact wpAny_pyHash_str h
 eqBool:=λhu hv h=>by
  cases EF hu with
  |i n t=>cases EF hv with
   |i n' t'=>refine wpAny_eqBool_int ?_;rw[show(n==n')=decide (Gz.i n=Gz.i n') by rw[Bool.eq_iff_iff];simp];exact h
   |s x' t'=>exact SeqAt.EqAt.int_str n t x' t' _ _ _ _ (by simpa using h)
  |s x t=>cases EF hv with
   |i n' t'=>exact SeqAt.EqAt.str_int x t n' t' _ _ _ _ (by simpa using h)
   |s x' t'=>refine wpAny_eqBool_str ?_;rw[show decide (x=x')=decide (Gz.s x=Gz.s x') by simp];exact h
 «strs»:=λk x t v h=>by cases EF h;cases v<;>rfl
noncomputable def Cd:V->Gz
 |.int n=>.i n
 |.str x=>.s x
 |_=>.i 0
noncomputable def Lg(prog:Program)(w:World):V->Int
 |.int n=>hashInt n
 |.tup l=>tupleKeyHash (Dl prog w) (l.map Cd)
 |_=>0
set_option genSizeOf false in
set_option genInjectivity false in
set_option genCtorIdx false in
structure Wd where
 ρ:List Addr
 im:List (Addr×Obj)
set_option genSizeOf false in
set_option genInjectivity false in
set_option genCtorIdx false in
structure Wd.Le(a b:Wd):Prop where
 ρ:∃t,b.ρ=a.ρ++t
 im:∀q∈a.im,q∈b.im
theorem Wd.Le.refl{a:Wd}:a.Le a:=⟨⟨[],(List.append_nil _).symm⟩,λ_ h=>h⟩
theorem Wd.Le.trans{a b c:Wd}(x:a.Le b)(y:b.Le c):a.Le c:=by obtain⟨⟨t,e⟩,i⟩:=x;obtain⟨⟨u,f⟩,j⟩:=y;exact⟨⟨t++u,by rw[f,e,List.append_assoc]⟩,λq h=>j q (i q h)⟩
theorem Wd.Le.at{a b:Wd}(x:a.Le b){i:Nat}{p:Addr}(e:a.ρ[i]?=some p):b.ρ[i]?=some p:=by obtain⟨⟨t,f⟩,_⟩:=x;rw[f];exact(List.getElem?_append_left (List.getElem?_eq_some_iff.mp e).1).trans e
noncomputable def Pf(base:Heap)(κ:Wd)(a:Addr)(o:Obj):Prop:=base.get? a=some o\/(a,o)∈κ.im
theorem Pf.le(x:κ.Le κ')(h:Pf base κ a o):Pf base κ' a o:=h.imp id (x.im _)
noncomputable abbrev NI(arr:Array Value)(ep:Nat):Obj:={cls:=.type "tuple",data:=.seq arr ep}
noncomputable abbrev KP(arr:Array Value)(ep:Nat):Obj:={cls:=.type "list",data:=.seq arr ep}
noncomputable def Pn(o:Obj)(c v:Int):Prop:=∃(h1 h2 h3:Int) (k1 k2 k3:Tok) (r:Value) (t1 t2:Tok) (n:Nat),o=dictOf [⟨h1,.str (Str.ofString "reason") k1,r⟩,⟨h2,.str (Str.ofString "cause") k2,.int c t1⟩,⟨h3,.str (Str.ofString "value") k3,.int v t2⟩] n
mutual
inductive RV(base:Heap)(κ:Wd):V->Value->Prop
 |none:RV base κ .none .none
 |bool (b:Bool):RV base κ (.bool b) (.bool b)
 |int (i:Int) (t:Tok):RV base κ (.int i) (.int i t)
 |str (s:Str) (t:Tok):RV base κ (.str s) (.str s t)
 |byt (b:Array UInt8) (t:Tok):RV base κ (.byt b) (.bytes b t)
 |glob (v:Value):RV base κ (.glob v) v
 |exn {c v:Int}{x dx:Addr}{od:Obj}{a0 ctx cau BP x5 tb:Value}:Pf base κ x (BN 91 (some dx) a0 ctx cau BP x5 tb)->Pf base κ dx od->Pn od c v->RV base κ (.exn c v) (.ref x)
 |tup {l:List V}{a:Addr}{arr:Array Value}{ep:Nat}:Pf base κ a (NI arr ep)->Bo base κ l arr.toList->RV base κ (.tup l) (.ref a)
 |lst {l:List V}{a:Addr}{arr:Array Value}{ep:Nat}:Pf base κ a (KP arr ep)->Bo base κ l arr.toList->RV base κ (.lst l) (.ref a)
 |rng {n:Nat}{a:Addr}{t u v:Tok}:Pf base κ a {cls:=.type "range",dict:=none,data:=.fields #[.int 0 t,.int (n:Int) u,.int 1 v],slots := #[]}->RV base κ (.rng n) (.ref a)
 |obj {i:Nat}{a:Addr}:κ.ρ[i]?=some a->RV base κ (.obj i) (.ref a)
inductive Bo(base:Heap)(κ:Wd):List V->List Value->Prop
 |nil:Bo base κ [] []
 |cons {v:V}{x:Value}{l:List V}{r:List Value}:RV base κ v x->Bo base κ l r->Bo base κ (v::l) (x::r)
end
inductive jC(base:Heap)(κ:Wd)(O:Array Value->Nat->Obj)(l:List V):Value->Prop
 |mk {a:Addr}{arr:Array Value}{ep:Nat}:Pf base κ a (O arr ep)->Bo base κ l arr.toList->jC base κ O l (.ref a)
inductive Tk(f:Tok->Value):Value->Prop
 |mk (t:Tok):Tk f (f t)
inductive pI(base:Heap)(κ:Wd)(c v:Int):Value->Prop
 |mk {x dx:Addr}{od:Obj}{a0 ctx cau BP x5 tb:Value}:Pf base κ x (BN 91 (some dx) a0 ctx cau BP x5 tb)->Pf base κ dx od->Pn od c v->pI base κ c v (.ref x)
inductive pR(base:Heap)(κ:Wd)(n:Nat):Value->Prop
 |mk {a:Addr}{t u v:Tok}:Pf base κ a {cls:=.type "range",dict:=none,data:=.fields #[.int 0 t,.int (n:Int) u,.int 1 v],slots := #[]}->pR base κ n (.ref a)
inductive oO(κ:Wd)(i:Nat):Value->Prop
 |mk {a:Addr}:κ.ρ[i]?=some a->oO κ i (.ref a)
inductive pG(base:Heap)(κ:Wd)(v:V)(l:List V):List Value->Prop
 |mk {x:Value}{r:List Value}:RV base κ v x->Bo base κ l r->pG base κ v l (x::r)
noncomputable def rC(base:Heap)(κ:Wd)(x:Value):V->Prop
 |.none=>x=.none
 |.bool b=>x=.bool b
 |.int i=>Tk (.int i) x
 |.str i=>Tk (.str i) x
 |.byt i=>Tk (.bytes i) x
 |.glob v=>x=v
 |.exn c v=>pI base κ c v x
 |.tup l=>jC base κ NI l x
 |.lst l=>jC base κ KP l x
 |.rng n=>pR base κ n x
 |.obj i=>oO κ i x
noncomputable def nU(base:Heap)(κ:Wd)(x:List Value):List V->Prop
 |[]=>x = []
 |v::l=>pG base κ v l x
theorem RV.inv(r:RV base κ v x):rC base κ x v:=by
 cases r with
 |none=>exact rfl
 |bool b=>exact rfl
 |int i t=>exact .mk t
 |str i t=>exact .mk t
 |byt i t=>exact .mk t
 |glob v=>exact rfl
 |exn a b c=>exact .mk a b c
 |tup a b=>exact .mk a b
 |lst a b=>exact .mk a b
 |rng a=>exact .mk a
 |obj a=>exact .mk a
theorem Bo.inv(r:Bo base κ v x):nU base κ x v:=by
 cases r with
 |nil=>exact rfl
 |cons a b=>exact .mk a b
section
theorem RV.nn(r:RV base κ .none x):x=.none:=r.inv
theorem RV.bb(r:RV base κ (.bool b) x):x=.bool b:=r.inv
theorem RV.ii(r:RV base κ (.int i) x):Tk (.int i) x:=r.inv
theorem RV.ss(r:RV base κ (.str i) x):Tk (.str i) x:=r.inv
theorem RV.yy(r:RV base κ (.byt i) x):Tk (.bytes i) x:=r.inv
theorem RV.gg(r:RV base κ (.glob v) x):x=v:=r.inv
theorem RV.xx(r:RV base κ (.exn c v) x):pI base κ c v x:=r.inv
theorem RV.tt(r:RV base κ (.tup l) x):jC base κ NI l x:=r.inv
theorem RV.ll(r:RV base κ (.lst l) x):jC base κ KP l x:=r.inv
theorem RV.rr(r:RV base κ (.rng n) x):pR base κ n x:=r.inv
theorem RV.oo(r:RV base κ (.obj i) x):oO κ i x:=r.inv
theorem Bo.nn{x:List Value}(r:Bo base κ [] x):x = []:=r.inv
theorem Bo.cc{v:V}{l:List V}{x:List Value}(r:Bo base κ (v::l) x):pG base κ v l x:=r.inv
end
theorem RV.le{base:Heap}{κ κ':Wd}(q:κ.Le κ'){v:V}{x:Value}(r:RV base κ v x):RV base κ' v x:=RV.rec (motive_1:=λv x _=>RV base κ' v x) (motive_2:=λl y _=>Bo base κ' l y) .none (λb=>.bool b) (λi t=>.int i t) (λs t=>.str s t) (λs t=>.byt s t) (λv=>.glob v) (λa b c=>.exn (a.le q) (b.le q) c) (λa _ ih=>.tup (a.le q) ih) (λa _ ih=>.lst (a.le q) ih) (λe=>.rng (e.le q)) (λe=>.obj (q.at e)) .nil (λ_ _ a b=>.cons a b) r
theorem Bo.le{base:Heap}{κ κ':Wd}(q:κ.Le κ'){v:List V}{x:List Value}(r:Bo base κ v x):Bo base κ' v x:=Bo.rec (motive_1:=λv x _=>RV base κ' v x) (motive_2:=λl y _=>Bo base κ' l y) .none (λb=>.bool b) (λi t=>.int i t) (λs t=>.str s t) (λs t=>.byt s t) (λv=>.glob v) (λa b c=>.exn (a.le q) (b.le q) c) (λa _ ih=>.tup (a.le q) ih) (λa _ ih=>.lst (a.le q) ih) (λe=>.rng (e.le q)) (λe=>.obj (q.at e)) .nil (λ_ _ a b=>.cons a b) r
section
theorem Bo.length(h:Bo base κ l r):l.length=r.length:=by
 induction l generalizing r with
 |nil=>cases h;rfl
 |cons a l ih=>cases h with|cons x y=>simp[ih y]
theorem Bo.get{l:List V}{r:List Value}(h:Bo base κ l r){i:Nat}{v:V}(e:l[i]?=some v):∃x,r[i]?=some x/\RV base κ v x:=by
 induction l generalizing r i with
 |nil=>simp at e
 |cons a l ih=>
  cases h with
  |cons x y=>
   cases i with
   |zero=>simp at e;subst e;exact⟨_,by simp,x⟩
   |succ i=>simp at e;refine Au (ih y e) λz e' r'=>?_;exact⟨z,by simpa using e',r'⟩
theorem Bo.append(h:Bo base κ l r)(h':Bo base κ l' r'):Bo base κ (l++l') (r++r'):=by
 induction l generalizing r with
 |nil=>cases h;exact h'
 |cons a l ih=>cases h with|cons x y=>exact .cons x (ih y)
end
inductive Hz(base:Heap)(κ:Wd):List (Str×V)->List DictEntry->Prop
 |nil:Hz base κ [] []
 |cons {n:Str}{v:V}{h:Int}{t:Tok}{x:Value}{fs:List (Str×V)}{es:List DictEntry}:RV base κ v x->Hz base κ fs es->Hz base κ ((n,v)::fs) (⟨h,.str n t,x⟩::es)
inductive Eh(base:Heap)(κ:Wd)(hsh:V->Int):List (V×V)->List DictEntry->Prop
 |nil:Eh base κ hsh [] []
 |cons {k v:V}{x y:Value}{es:List (V×V)}{ds:List DictEntry}:RV base κ k x->RV base κ v y->Eh base κ hsh es ds->Eh base κ hsh ((k,v)::es) (⟨hsh k,x,y⟩::ds)
inductive OL(base:Heap)(κ:Wd)(hsh:V->Int):AO->Addr->List (Addr×Obj)->Prop
 |inst {C a dx:Addr}{fs:List (Str×V)}{es:List DictEntry}{n:Nat}:Hz base κ fs es->OL base κ hsh (.inst C fs) a [(a,instObj C dx),(dx,dictOf es n)]
 |dict {a:Addr}{es:List (V×V)}{ds:List DictEntry}{n:Nat}:Eh base κ hsh es ds->(es.map (·.1)).all B3=true->(es.map (·.1)).Nodup->OL base κ hsh (.dict es n) a [(a,dictOf ds n)]
 |list {a:Addr}{l:List V}{vs:List Value}{n:Nat}:Bo base κ l vs->OL base κ hsh (.list l) a [(a,PySem.W.listOf vs.toArray n)]
inductive Hg(base:Heap)(κ:Wd)(hsh:V->Int):List Addr->St->List (Addr×Obj)->Prop
 |nil:Hg base κ hsh [] [] []
 |cons {a:Addr}{o:AO}{l:List (Addr×Obj)}{ρ:List Addr}{σ:St}{led:List (Addr×Obj)}:OL base κ hsh o a l->Hg base κ hsh ρ σ led->Hg base κ hsh (a::ρ) (o::σ) (l++led)
section
theorem Hz.le(q:κ.Le κ')(h:Hz base κ fs es):Hz base κ' fs es:=by
 induction h with
 |nil=>exact .nil
 |cons a _ ih=>exact .cons (a.le q) ih
theorem Eh.le(q:κ.Le κ')(h:Eh base κ hsh fs es):Eh base κ' hsh fs es:=by
 induction h with
 |nil=>exact .nil
 |cons a b _ ih=>exact .cons (a.le q) (b.le q) ih
theorem OL.le(q:κ.Le κ')(h:OL base κ hsh o a l):OL base κ' hsh o a l:=by
 cases h with
 |inst f=>exact .inst (f.le q)
 |dict f k nd=>exact .dict (f.le q) k nd
 |list f=>exact .list (f.le q)
theorem Hg.le(q:κ.Le κ')(h:Hg base κ hsh ρ σ l):Hg base κ' hsh ρ σ l:=by
 induction h with
 |nil=>exact .nil
 |cons a _ ih=>exact .cons (a.le q) ih
theorem Hg.length(h:Hg base κ hsh ρ σ l):ρ.length=σ.length:=by
 induction h with
 |nil=>rfl
 |cons _ _ ih=>simp[ih]
theorem Hg.split(h:Hg base κ hsh ρ σ led)(e:σ[i]?=some o):
  ∃a l pre post,ρ[i]?=some a/\OL base κ hsh o a l/\led=pre++l++post/\∀o' l',OL base κ hsh o' a l'->Hg base κ hsh ρ (σ.set i o') (pre++l'++post):=by
 induction h generalizing i with
 |nil=>simp at e
 |@cons a o₁ l ρ σ led x y ih=>
  cases i with
  |zero=>simp at e;subst e;exact⟨a,l,[],led,by simp,x,by simp,λo' l' z=>by simpa using Hg.cons z y⟩
  |succ i=>
   simp at e;refine Hm (ih e) λb l' pre post h1 h2 h3 h4=>?_;refine⟨b,l',l++pre,post,by simpa using h1,h2,by rw[h3];simp,λo' l₂ z=>?_⟩;have:=Hg.cons x (h4 o' l₂ z)
   simpa using this
theorem Hg.snoc(h:Hg base κ hsh ρ σ led)(x:OL base κ hsh o a l):Hg base κ hsh (ρ++[a]) (σ++[o]) (led++l):=by
 induction h with
 |nil=>simpa using Hg.cons x .nil
 |cons y _ ih=>simpa using Hg.cons y ih
end
section
set_option genSizeOf false in
set_option genInjectivity false in
set_option genCtorIdx false in
structure BG where
 prog:Program
 w:World
 K:Frag
 base:Heap
 outer:List Env
 env:Env
 h₀:Heap
 trk:List (Addr×Obj)
 im₀:List (Addr×Obj)
 s₀:Shared
 A₀:Around
 dp:Nat
 un:Nat
 hsh:V->Int
 mg:Str->Option Value
 mb:Str->Option Value
 keep:Option Fm
noncomputable def BG.M(Γ:BG):Model:=model Γ.prog Γ.w
noncomputable def BG.at(Γ:BG)(h:Heap)(tk:Nat):Shared:={Γ.s₀ with heap:=h,toks:=tk}
noncomputable def BG.fs(Γ:BG):List Addr:=Γ.outer.filterMap (·.frame)
set_option genSizeOf false in
set_option genInjectivity false in
set_option genCtorIdx false in
structure BG.Ok(Γ:BG):Prop where
 frame:Γ.env.frame=some Γ.env.locals
 kind:Γ.env.scope.kind=.function
 X:Γ.K.In Γ.base
 gl:Γ.base.Ns mainGlobals Γ.mg
 bl:Γ.base.Ns builtinsNs Γ.mb
 nolimit:Γ.base.NoLimit
 genv:Γ.env.globals=mainGlobals
 benv:Γ.env.builtins=builtinsNs
 st:Γ.A₀.frames=some Γ.outer
 R:Sn Γ.base Γ.outer Γ.h₀ Γ.trk
 hash:Γ.hsh=Lg Γ.prog Γ.w
 sysm:∃o,Γ.base.get? sysModules=some o
 cinj:∀x y a,Γ.env.cells.lookup x=some a->Γ.env.cells.lookup y=some a->x=y
structure Gb(Γ:BG)(A:Around)(plain:Bool):Prop where
 frames:A.frames=some (Γ.env::Γ.outer)
 handled:plain=true->A.handled=none
 depth:A.depth=Γ.dp
 units:A.units=Γ.un
structure DN(Γ:BG)(κ:Wd)(ex:List (Addr×Obj))(σ:St)(h g:Heap)(m:Str->Option Value)(led cel im:List (Addr×Obj)):Prop where
 F:Fr g Γ.env.locals h m
 N:News g Γ.env.locals h (led++cel++ex++im)
 B:Below Γ.A₀ Γ.base Γ.outer g
 G:Gr Γ.h₀ Γ.trk Γ.fs g
 L:Hg Γ.base κ Γ.hsh κ.ρ σ led
 I:∀q∈κ.im,q∈im\/q∈Γ.im₀
 J:∀q∈Γ.im₀,g.get? q.1=some q.2/\q.1∉Γ.fs
 D:((led++cel++ex++im).map (·.1)).Nodup
 T:∀q∈Γ.trk,q.1∈led.map (·.1)
noncomputable def rW(Γ:BG)(κ:Wd)(m:Str->Option Value)(cel:List (Addr×Obj))(f:Fm):Prop:=
 (∀x v,f x=some v->Γ.env.kindOf x=some .local->∃y,m x=some y/\RV Γ.base κ v y)/\
  ∀x,Γ.env.kindOf x=some .cell->∃a o y,Γ.env.cells.lookup x=some a/\(a,o)∈cel/\o.data=.cell y/\∀v,f x=some v->∃z,y=some z/\RV Γ.base κ v z
structure Lj(Γ:BG)(κ:Wd)(ce:Env)(ex:List (Addr×Obj))(m:Str->Option Value)(cel:List (Addr×Obj))(fr:Fm):Prop where
 ns:∃cm,((ce.locals=Γ.env.locals/\cm=m)\/∃oC es ep,(ce.locals,oC)∈ex/\oC.data=.dict es ep/\StrKeys es/\∀n,nsFind es n=cm n)/\
  ∀x v,fr x=some v->ce.kindOf x=some .local->∃y,cm x=some y/\RV Γ.base κ v y
 cell:∀x,ce.kindOf x=some .cell->∃a o y,ce.cells.lookup x=some a/\(a,o)∈cel/\o.data=.cell y/\∀v,fr x=some v->∃z,y=some z/\RV Γ.base κ v z
 keep:∀f,Γ.keep=some f->rW Γ κ m cel f
theorem Lj.sub(nm:Lj Γ κ ce ex m cel fr)(s:∀o,(ce.locals,o)∈ex->(ce.locals,o)∈ex'):Lj Γ κ ce ex' m cel fr:=by obtain⟨⟨cm,h1,h2⟩,h3,h4⟩:=nm;exact⟨⟨cm,h1.imp id λq=>HP q λoC es ep a b c d=>⟨oC,es,ep,s oC a,b,c,d⟩,h2⟩,h3,h4⟩
theorem DW(na:a≠L)(x:(L,oC)∈(a,o)::ex):(L,oC)∈ex:=(List.mem_cons.mp x).elim (λe=>absurd (congrArg Prod.fst e).symm na) id
structure hW(Γ:BG)(ce:Env):Prop where
 kind:ce.scope.kind=.function
 gl:ce.globals=mainGlobals
 bl:ce.builtins=builtinsNs
inductive AR(Γ:BG)(κ:Wd)(ce:Env)(ex:List (Addr×Obj))(fr:Fm)(σ:St)(h:Heap):Prop
 |mk (g:Heap) (m:Str->Option Value) (led cel im:List (Addr×Obj)) (d:DN Γ κ ex σ h g m led cel im) (nm:Lj Γ κ ce ex m cel fr):AR Γ κ ce ex fr σ h
noncomputable def Bp:Ex->Addr
 |.trap _ _ _=>91
 |.bad _ _=>71
noncomputable def Fz:Ex->Obj->Prop
 |.trap c v _,o=>Pn o c v
 |.bad _ _,_=>True
noncomputable def Mm(base:Heap)(κ:Wd)(d:Nat)(e:Addr)(ctx:Value):Prop:=match d with
 |0=>ctx=.none
 |1=>∃e0 o0 vs0,ctx=.ref e0/\e0≠e/\Pf base κ e0 o0/\o0.data=.fields vs0/\vs0[2]?=some .none
 |_=>True
inductive bM(base:Heap)(outer:List Env)(h h':Heap)(cd:Value->Prop)(C:Addr)(P:Obj->Prop)(e:Addr):Prop
 |mk (B:Heap) (a0:Value) (dx:Addr) (od:Obj) (ctx cau BP x5:Value) (b1:base.StaysIn B) (b2:∀b o,h.get? b=some o->b∉outer.filterMap (·.frame)->B.get? b=some o) (fx:Dn B outer e (BN C (some dx) a0 ctx cau BP x5) .none h') (up:h.UpToSlots h')
  (d1:B.get? dx=some od) (d2:P od) (d3:h.get? dx=none) (d4:h.get? e=none) (d5:cd ctx):bM base outer h h' cd C P e
inductive IJ(Γ:BG)(κ:Wd)(ce:Env)(ex:List (Addr×Obj))(fr:Fm)(σ:St)(e:Ex)(x:Value)(s:Shared):Prop
 |mk (hv h':Heap) (tk:Nat) (a:Addr) (e1:s=Γ.at h' tk) (e2:x=.ref a) (ar:AR Γ κ ce ex fr σ hv) (f:bM Γ.base (Γ.env::Γ.outer) hv h' (Mm Γ.base κ e.d a) (Bp e) (Fz e) a):IJ Γ κ ce ex fr σ e x s
noncomputable def Bq(Γ:BG)(ce:Env)(fr:Fm)(κ:Wd)(ex:List (Addr×Obj))(R:Wd->α->β->Prop)(r:C6 α)(Q:β->Shared->Prop)(E:Value->Shared->Prop):Prop:=match r with
 |.ok a σ=>∀κ' h tk b,κ.Le κ'->AR Γ κ' ce ex fr σ h->R κ' a b->Q b (Γ.at h tk)
 |.exc e σ=>∀κ' x s,κ.Le κ'->IJ Γ κ' ce ex fr σ e x s->E x s
 |.stuck=>False
noncomputable def S0(Γ:BG)(A:Around)(ce:Env)(fr:Fm)(R:Wd->α->β->Prop)(t:Sem β)(f:Mo α):Prop:=∀κ ex σ h tk Q E,AR Γ κ ce ex fr σ h->Bq Γ ce fr κ ex R (f σ) Q E->wpAny Γ.M A t Q E (Γ.at h tk)
section
variable{κ κ':Wd}{σ:St}
theorem Bq.le(q:κ.Le κ')(o:Bq Γ ce fr κ ex R r Q E):Bq Γ ce fr κ' ex R r Q E:=by
 cases r with
 |ok a σ=>exact λκ₂ h tk b q'=>o κ₂ h tk b (q.trans q')
 |exc e σ=>exact λκ₂ x s q'=>o κ₂ x s (q.trans q')
 |stuck=>exact o
theorem AA
  (o:Bq Γ ce fr κ ex R2 (Aa f g σ) Q E)
  (k:∀a σ',f σ=.ok a σ'->∀κ' h' tk' b,κ.Le κ'->AR Γ κ' ce ex fr σ' h'->R κ' a b->Bq Γ ce fr κ' ex R2 (g a σ') Q E->P b (Γ.at h' tk')):Bq Γ ce fr κ ex R (f σ) P E:=by
 unfold Aa at o;cases e:f σ with
 |ok a σ'=>rw[e]at o;exact λκ' h' tk' b q ar r=>k a σ' e κ' h' tk' b q ar r (o.le q)
 |exc x σ'=>rw[e]at o;exact o
 |stuck=>rw[e]at o;exact o
theorem S0.use(s:S0 Γ A ce fr R t f)(ar:AR Γ κ ce ex fr σ h)(o:Bq Γ ce fr κ ex R (f σ) Q E):
  wpAny Γ.M A t Q E (Γ.at h tk):=s κ ex σ h tk Q E ar o
theorem AX(o:Bq Γ ce fr κ ex R (.ok a σ) Q E)(q:κ.Le κ')(ar:AR Γ κ' ce ex fr σ h)(r:R κ' a b):Q b (Γ.at h tk):=o κ' h tk b q ar r
theorem An(o:Bq Γ ce fr κ ex R (ret a σ) Q E)(q:κ.Le κ')(ar:AR Γ κ' ce ex fr σ h)(r:R κ' a b):Q b (Γ.at h tk):=o κ' h tk b q ar r
theorem Be(o:Bq Γ ce fr κ ex R (Eb c f σ) Q E):c=true/\Bq Γ ce fr κ ex R (f σ) Q E:=by
 unfold Eb at o;by_cases hc:c=true;·rw[if_pos hc]at o;exact⟨hc,o⟩
 ·rw[if_neg hc]at o;exact o.elim
theorem Co(o:Bq Γ ce fr κ ex R (Af q σ) Q E):∃a,q=some a/\Bq Γ ce fr κ ex R (.ok a σ) Q E:=by
 cases q with
 |none=>exact o.elim
 |some a=>exact⟨a,rfl,o⟩
theorem DN.kept(d:DN Γ κ ex σ h g m led cel im)(e:Γ.base.get? b=some o):h.get? b=some o:=d.F.keep _ _ (d.B.stays _ _ e)
theorem DN.pf(d:DN Γ κ ex σ h g m led cel im)(e:Pf Γ.base κ b o):h.get? b=some o:=by
 rcases e with e|e;·exact d.kept e
 ·rcases d.I _ e with q|q;·exact(d.N (b,o) (by simp[q])).1
  ·exact d.F.keep _ _ (d.J _ q).1
theorem AR.kept(ar:AR Γ κ ce ex fr σ h)(e:Γ.base.get? b=some o):h.get? b=some o:=let⟨_,_,_,_,_,d,_⟩:=ar;d.kept e
theorem AR.pf(ar:AR Γ κ ce ex fr σ h)(e:Pf Γ.base κ b o):h.get? b=some o:=let⟨_,_,_,_,_,d,_⟩:=ar;d.pf e
theorem Lj.le(q:κ.Le κ')(n:Lj Γ κ ce ex m cel fr):Lj Γ κ' ce ex m cel fr:=by
 obtain⟨⟨cm,h1,h2⟩,h3,h4⟩:=n;refine⟨⟨cm,h1,λx v e k=>?_⟩,λx k=>?_,λf e=>⟨λx v e' k=>?_,λx k=>?_⟩⟩;·refine Au (h2 x v e k) λy a b=>?_;exact⟨y,a,b.le q⟩
 ·refine HP (h3 x k) λa o y b1 b2 b3 b4=>?_;exact⟨a,o,y,b1,b2,b3,λv e=>let⟨z,c1,c2⟩:=b4 v e;⟨z,c1,c2.le q⟩⟩
 ·refine Au ((h4 f e).1 x v e' k) λy a b=>?_;exact⟨y,a,b.le q⟩
 ·refine HP ((h4 f e).2 x k) λa o y b1 b2 b3 b4=>?_;exact⟨a,o,y,b1,b2,b3,λv e=>let⟨z,c1,c2⟩:=b4 v e;⟨z,c1,c2.le q⟩⟩
theorem Pq:∀{pre post:List (Addr×Obj)},((pre++(d,o)::post).map (·.1)).Nodup->Upd d o o' (pre++(d,o)::post) (pre++(d,o')::post)
 |[],post,hn=>.head λp hp e=>by simp only[List.nil_append,List.map_cons,List.nodup_cons]at hn;exact hn.1 (by rw[<-e];exact List.mem_map_of_mem hp)
 |q::pre,post,hn=>by simp only[List.cons_append,List.map_cons,List.nodup_cons]at hn;refine .tail (λe=>hn.1 ?_) (Pq hn.2);rw[e];simp
theorem DE{a:Addr}{o:Obj}{l:List (Addr×Obj)}(hn:(l.map (·.1)).Nodup)(ha:∀p∈l,p.1≠a){pre post:List (Addr×Obj)}(e:l=pre++post):((pre++(a,o)::post).map (·.1)).Nodup:=by subst e;rw[List.map_append,List.map_cons];refine(List.perm_middle.nodup_iff).mpr ?_;rw[List.nodup_cons];refine⟨λm=>?_,by simpa using hn⟩;rw[<-List.map_append]at m;refine Au (List.mem_map.mp m) λq hq e=>?_;exact ha q hq e
section
theorem DN.same(d:DN Γ κ ex σ h g m led cel im)(F:Fr g Γ.env.locals h' m)(N:News g Γ.env.locals h' (led++cel++ex++im)):DN Γ κ ex σ h' g m led cel im:=⟨F,N,d.B,d.G,d.L,d.I,d.J,d.D,d.T⟩
noncomputable def Wd.put(κ:Wd)(a:Addr)(o:Obj):Wd:=⟨κ.ρ,(a,o)::κ.im⟩
theorem Wd.put_le:κ.Le (κ.put a o):=⟨⟨[],(List.append_nil _).symm⟩,λ_ h=>.tail _ h⟩
theorem Wd.put_pf:Pf base (κ.put a o) a o:=.inr (.head _)
theorem DN.put(d:DN Γ κ ex σ h g m led cel im){a:Addr}{o:Obj}(F:Fr g Γ.env.locals h' m)(N:News g Γ.env.locals h' ((a,o)::(led++cel++ex++im)))(ha:∀p∈led++cel++ex++im,p.1≠a):
  DN Γ (κ.put a o) ex σ h' g m led cel ((a,o)::im) where
 F:=F
 N:=λq hq=>N q (by
  simp only[List.mem_append,List.mem_cons]at hq⊢;rcases hq with ((q|q)|q)|q|q;·exact .inr (.inl (.inl (.inl q)))
  ·exact .inr (.inl (.inl (.inr q)))
  ·exact .inr (.inl (.inr q))
  ·exact .inl q
  ·exact .inr (.inr q))
 B:=d.B
 G:=d.G
 L:=d.L.le Wd.put_le
 I:=λq hq=>by
  rcases List.mem_cons.mp hq with rfl|hq;·exact .inl (.head _)
  ·exact(d.I q hq).imp (λz=>.tail _ z) id
 J:=d.J
 D:=DE d.D ha (by simp)
 T:=d.T
theorem AR.put(nm:Lj Γ κ ce ex m cel fr)(d:DN Γ κ ex σ h g m led cel im)(F:Fr g Γ.env.locals h' m)(N:News g Γ.env.locals h' ((a,o)::(led++cel++ex++im)))(ha:∀p∈led++cel++ex++im,p.1≠a):
  AR Γ (κ.put a o) ce ex fr σ h':=⟨g,m,led,cel,_,d.put F N ha,nm.le Wd.put_le⟩
noncomputable def Wd.add(κ:Wd)(a:Addr):Wd:=⟨κ.ρ++[a],κ.im⟩
theorem Wd.add_le:κ.Le (κ.add a):=⟨⟨[a],rfl⟩,λ_ h=>h⟩
theorem Wd.add_at(hl:κ.ρ.length=σ.length):(κ.add a).ρ[σ.length]?=some a:=by unfold Wd.add;simp[<-hl]
theorem DN.add1(d:DN Γ κ ex σ h g m led cel im){a:Addr}{o:Obj}{ao:AO}(F:Fr g Γ.env.locals h' m)(N:News g Γ.env.locals h' ((a,o)::(led++cel++ex++im)))(ha:∀p∈led++cel++ex++im,p.1≠a)
  (x:OL Γ.base (κ.add a) Γ.hsh ao a [(a,o)]):DN Γ (κ.add a) ex (σ++[ao]) h' g m (led++[(a,o)]) cel im where
 F:=F
 N:=λq hq=>N q (by
  simp only[List.mem_append,List.mem_cons,List.not_mem_nil,or_false]at hq⊢;rcases hq with (((q|q)|q)|q)|q;·exact .inr (.inl (.inl (.inl q)))
  ·exact .inl q
  ·exact .inr (.inl (.inl (.inr q)))
  ·exact .inr (.inl (.inr q))
  ·exact .inr (.inr q))
 B:=d.B
 G:=d.G
 L:=(d.L.le Wd.add_le).snoc x
 I:=d.I
 J:=d.J
 D:=by
  have:=DE (o:=o) d.D ha (pre:=led) (post:=cel++ex++im) (by simp)
  simpa using this
 T:=λq hq=>by simp[d.T q hq]
theorem AR.add1(nm:Lj Γ κ ce ex m cel fr)(d:DN Γ κ ex σ h g m led cel im)(F:Fr g Γ.env.locals h' m)(N:News g Γ.env.locals h' ((a,o)::(led++cel++ex++im)))(ha:∀p∈led++cel++ex++im,p.1≠a)
  (x:OL Γ.base (κ.add a) Γ.hsh ao a [(a,o)]):AR Γ (κ.add a) ce ex fr (σ++[ao]) h':=⟨g,m,_,cel,im,d.add1 F N ha x,nm.le Wd.add_le⟩
theorem DN.find(d:DN Γ κ ex σ h g m led cel im)(e:σ[i]?=some ao):
  ∃a l pre post,κ.ρ[i]?=some a/\OL Γ.base κ Γ.hsh ao a l/\led=pre++l++post/\∀o' l',OL Γ.base κ Γ.hsh o' a l'->Hg Γ.base κ Γ.hsh κ.ρ (σ.set i o') (pre++l'++post):=d.L.split e
end
end
end
section
structure Ef(Γ:BG)(A:Around)(c:Cx)(ce:Env):Prop where
 ok:Γ.Ok
 kind:∀x,c.kind x=ce.kindOf x
 glb:∀x v,c.glb x=some v->∃y,(Γ.mg x=some y\/(Γ.mg x=none/\Γ.mb x=some y))/\RV Γ.base ⟨[],[]⟩ v y
 env:hW Γ ce
 comp:c.comp=false->ce=Γ.env
 nk:Γ.keep=none\/c.comp=true
 around:Gb Γ A c.plain
 units:A.units+64<cLine
 meth:∀C name f,c.meth C name=some f->∃a,f=.ref a/\plainGet Γ.K C name=true/\findIn Γ.K (.ref C) name=some (some (.ref a))/\isFn Γ.K (.ref a)=true/\keepIn Γ.K f=true
 own:∀C name,c.own C name=true->plainGet Γ.K C name=true/\hasDictIn Γ.K C=true/\(∃at_,findIn Γ.K (.ref C) name=some at_/\noGet Γ.K at_=true)/\
  findIn Γ.K (.ref C) "__setattr__" = some (some (.builtin "object.__setattr__"))/\plainOver Γ.K C=true/\takerIn Γ.K C name=some none
 exn:∀name,name=("cause" : Str)\/name=("value" : Str)->subIn Γ.K (.ref 91) (.type "BaseException")=some true/\findIn Γ.K (.ref 91) "__getattribute__" = some (some (.builtin "BaseException.__getattribute__"))/\
  findIn Γ.K (.ref 91) "__getattr__" = some none/\hasDictIn Γ.K 91=true/\findIn Γ.K (.ref 91) name=some none
 gkeep:∀x g,c.glb x=some (.glob g)->Hc g=false->keepIn Γ.K g=true\/∀a,g≠.ref a
 tab:∀a s n,c.tab a s=some n->∃(f:Str->Option Value) (t:Tok),(∀h:Heap,Γ.K.In h->h.MapOf (strKind Γ.prog Γ.w) a f)/\f s=some (.int n t)
 call:c.plain=true->∀kp ce' fr' f vs xs κ ex σ h tk Q E,hW Γ ce'->AR {Γ with keep:=kp} κ ce' ex fr' σ h->Bo Γ.base κ vs xs->Bq {Γ with keep:=kp} ce' fr' κ ex (RV Γ.base) (c.call f vs σ) Q E->wpAny Γ.M A (PySem.call f xs) Q E (Γ.at h tk)
section
variable{ce:Env}
abbrev Bd(Γ:BG)(A:Around)(c:Cx)(ce:Env)(fr:Fm)(e:Expr):Prop:=S0 Γ A ce fr (RV Γ.base) (eval e ce) (ev e c fr)
theorem Wd.nil_le:Wd.Le ⟨[],[]⟩ κ:=⟨⟨κ.ρ,rfl⟩,λ_ h=>nomatch h⟩
theorem Sj:Bd Γ A c ce fr (.Constant k n pos):=by
 intro κ ex σ h tk Q E ar o;have o:Bq Γ ce fr κ ex (RV Γ.base) (SJ k σ) Q E:=o;cases k with
 |none=>exact wpAny_Constant_none (An o .refl ar .none)
 |bool b=>exact wpAny_Constant_bool (An o .refl ar (.bool b))
 |int i=>exact wpAny_Constant_int (An o .refl ar (.int i _))
 |str s=>exact Calls.Constant_str (An o .refl ar (.str s _))
 |_=>exact o.elim
theorem Se(d:DN Γ κ ex σ h g m led cel im)
  (h1:(ce.locals=Γ.env.locals/\cm=m)\/∃oC es ep,(ce.locals,oC)∈ex/\oC.data=.dict es ep/\StrKeys es/\∀n,nsFind es n=cm n):h.Ns ce.locals cm:=by
 rcases h1 with ⟨a,rfl⟩|⟨oC,es,ep,a,r⟩
 ·refine a.symm▸?_;exact d.F.ns
 ·exact⟨oC,es,ep,(d.N (ce.locals,oC) (by simp[a])).1,r⟩
theorem MZ(C:Ef Γ A c ce):Bd Γ A c ce fr (.Name x pos):=by
 intro κ ex σ h tk Q E ar o;have o:Bq Γ ce fr κ ex (RV Γ.base) (EH c fr x σ) Q E:=o;unfold EH at o;refine AG (Be o) λhd o=>?_;have hd:(x==("__debug__" : Str))=false:=by simpa using hd
 refine wpAny_Name ?_ hd;obtain⟨g,m,led,cel,im,d,nm⟩:=id ar;refine Au nm.ns λcm n1 n2=>?_;cases hk:c.kind x with
 |none=>rw[hk]at o;exact o.elim
 |some k=>
  rw[hk]at o;have hk':=(C.kind x).symm.trans hk;cases k with
  |«local»=>refine Au (Co o) λv e o=>?_;refine Au (n2 x v e hk') λy e' r=>?_;exact wpAny_loadName_local C.env.kind hk' (Se d n1) e' (AX o .refl ar r)
  |cell=>refine Au (Co o) λv e o=>?_;refine HP (nm.cell x hk') λa oc y b1 b2 b3 b4=>?_;refine Au (b4 v e) λz eqq1 r=>?_;subst eqq1;exact wpAny_loadName_cell C.env.kind hk' b1 ⟨oc,(d.N (a,oc) (by simp[b2])).1,b3⟩ (AX o .refl ar r)
  |globalImplicit=>
   refine Au (Co o) λv e o=>?_;refine Au (C.glb x v e) λy e' r=>?_;rw[loadName_read C.env.kind hk'];rcases e' with e'|⟨e1,e2⟩
   ·exact Calls.loadGlobal_global (C.env.gl▸C.ok.gl.keeps λ_ _ z=>d.kept z) e' (AX o .refl ar (r.le Wd.nil_le))
   ·exact Calls.loadGlobal_builtin (C.env.gl▸C.ok.gl.keeps λ_ _ z=>d.kept z) e1 (C.env.bl▸C.ok.bl.keeps λ_ _ z=>d.kept z) e2 (AX o .refl ar (r.le Wd.nil_le))
  |_=>exact o.elim
theorem Oq(h:a.natAbs<2^64):Builtin.Int.intBits a<=64:=by
 show(if(a==0)=true then 0 else a.natAbs.log2+1)<=64;by_cases hz:(a==0)=true;·rw[if_pos hz];decide
 ·rw[if_neg hz];have hz:a≠0:=by simpa using hz
  have:=(Nat.log2_lt (by omega)).mpr h;omega
theorem WI(ar:AR Γ κ ce ex fr σ h)(o:Bq Γ ce fr κ ex (RV Γ.base) (Za op a b σ) Q E):
  wpAny Γ.M A (binaryOp op (.int a t) (.int b u)) Q E (Γ.at h tk):=by
 have e:∀n:Nat,(2:Int)^n=((2^n:Nat):Int):=λn=>by simp
 cases op with
 |Add=>exact add_int (An o .refl ar (.int _ _))
 |Sub=>exact sub_int (An o .refl ar (.int _ _))
 |Mult=>refine AG (Be o) λhg o=>?_;have hg:=of_decide_eq_true hg;refine mul_int (An o .refl ar (.int _ _)) (IntMulOk.of_left ?_);exact Oq (by omega)
 |FloorDiv=>
  refine AG (Be o) λhg o=>?_;have hg:=of_decide_eq_true hg;refine floordiv_int (by omega) (An o .refl ar (.int _ _)) (.inl (PyProof.noPylong_of_log2 ?_));refine(Nat.log2_lt (by omega)).mpr ?_;have:b.natAbs<2^60:=by have:=hg.2;omega
  exact Nat.lt_of_lt_of_le this (Nat.pow_le_pow_right (by decide) (by decide))
 |Mod=>refine AG (Be o) λhg o=>?_;exact mod_int' (of_decide_eq_true hg) (An o .refl ar (.int _ _))
 |Pow=>refine AG (Be o) λhg o=>?_;have hg:=of_decide_eq_true hg;exact pow_int_small (by omega) (by omega) (by omega) (An o .refl ar (.int _ _))
 |LShift=>refine AG (Be o) λhg o=>?_;have hg:=of_decide_eq_true hg;exact lshift_int_small (by omega) (by omega) hg.2.2 (An o .refl ar (.int _ _))
 |RShift=>refine AG (Be o) λhg o=>?_;have hg:=of_decide_eq_true hg;exact rshift_int hg.1 (An o .refl ar (.int _ _))
 |BitAnd=>exact and_int (An o .refl ar (.int _ _))
 |BitOr=>exact or_int (An o .refl ar (.int _ _))
 |_=>exact o.elim
theorem dO(ar:AR Γ κ ce ex fr σ h)(r:RV Γ.base κ v x)(o:Bq Γ ce fr κ ex (RV Γ.base) (Th op v σ) Q E):
  wpAny Γ.M A (unaryOp op x) Q E (Γ.at h tk):=by
 unfold Th at o;cases e1:vI v with
 |none=>rw[e1]at o;exact o.elim
 |some i=>
  rw[e1]at o;obtain rfl:=EM e1;cases r.ii;cases op with
  |Invert=>exact invert_int (An o .refl ar (.int _ _))
  |USub=>exact neg_int (An o .refl ar (.int _ _))
  |Not=>exact o.elim
  |UAdd=>exact o.elim
theorem gR(hx:Bd Γ A c ce fr x):Bd Γ A c ce fr (.UnaryOp op x pos):=by intro κ ex σ h tk Q E ar o;exact wpAny_UnaryOp (hx.use ar (AA o λa σ' _ κ' h' tk' b q' ar' r o'=>dO ar' r o'))
theorem DR:∀(ops:List CmpOp) (rs:List Expr),rs.all BL=true->lastMarks ops rs=false
 |[],rs,_=>by cases rs<;>rfl
 |[_],[],_=>rfl
 |[op],[e],h=>by show behindInMarks op e=false;simp only[List.all_cons,List.all_nil,Bool.and_true]at h;cases e<;>first|rfl|cases h
 |[_],_::_::_,_=>rfl
 |_::_::_,[],_=>rfl
 |_::op::ops,e::rs,h=>by simp only[List.all_cons,Bool.and_eq_true]at h;have:=DR (op::ops) rs h.2;cases rs<;>exact this
theorem EG(e:h.get? a=some ob)(hc:ob.cls=.type "tuple")(hd:ob.data=.seq arr ep):IsTup h a arr:=⟨ob,e,hc,ep,hd⟩
mutual
theorem C7(pf:∀b o,Pf base κ b o->h.get? b=some o):∀(v:V) {x:Value},RV base κ v x->∀{d:PyData},Hk v=some d->∃as,Reads h x d as
 |.none,_,r,d,e=>by cases r.nn;refine(Option.some.inj e)▸?_;exact⟨_,Reads.none⟩
 |.bool b,_,r,d,e=>by cases r.bb;refine(Option.some.inj e)▸?_;exact⟨_,Reads.bool _⟩
 |.int i,_,r,d,e=>by cases r.ii;refine(Option.some.inj e)▸?_;exact⟨_,Reads.int _ _⟩
 |.str s,_,r,d,e=>by cases r.ss;refine(Option.some.inj e)▸?_;exact⟨_,Reads.str _ _⟩
 |.byt _,_,_,d,e|.rng _,_,_,d,e|.glob _,_,_,d,e|.exn _ _,_,_,d,e|.obj _,_,_,d,e=>Dm e
 |.tup l,_,r,d,e=>by
  refine Au (Option.map_eq_some_iff.mp (show(DD l).map PyData.tuple=some d from e)) λds e' eqq2=>?_;subst eqq2;cases r with
  |tup a r=>refine AP (DS pf l r e') λas r'=>?_;exact⟨_,reads_tuple_at (pf _ _ a) rfl rfl r'⟩
 |.lst l,_,r,d,e=>by
  refine Au (Option.map_eq_some_iff.mp (show(DD l).map PyData.list=some d from e)) λds e' eqq2=>?_;subst eqq2;cases r with
  |lst a r=>refine AP (DS pf l r e') λas r'=>?_;exact⟨_,reads_list_at (pf _ _ a) rfl rfl r'⟩
theorem DS(pf:∀b o,Pf base κ b o->h.get? b=some o):∀(v:List V) {x:List Value},Bo base κ v x->∀{d:List PyData},DD v=some d->∃as,ReadsAll h x d as
 |[],_,r,d,e=>by cases r.nn;refine(Option.some.inj e)▸?_;exact⟨_,.nil⟩
 |v::l,_,r,d,e=>by
  refine Cz (UD e) λd₁ ds e1 e2 eqq4=>?_;subst eqq4;cases r with
  |cons a r=>refine AP (C7 pf v a e1) λas ra=>?_;refine AP (DS pf l r e2) λbs rb=>?_;exact⟨_,.cons ra rb⟩
end
theorem GA:∀{r:List Value}{ns:List Int},Bo base κ l r->CI l=some ns->IntsAre r ns:=by
 induction l with
 |nil=>intro r ns h e;cases h.nn;refine(Option.some.inj e)▸?_;exact .nil
 |cons a l ih=>
  intro r ns h e;refine Cz (Lm e) λi ms eqq2 e2 eqq4=>?_;subst eqq2;subst eqq4;cases h.cc with
  |mk ra rl=>cases ra.ii;exact .cons _ _ (ih rl e2)
theorem J9(r:RV base κ a x)(e:isNone a=some b):plainIs x .none=true/\((b=true/\x=.none)\/(b=false/\x≠.none)):=by
 cases r with
 |none=>exact⟨rfl,.inl ⟨(Option.some.inj e).symm,rfl⟩⟩
 |glob=>exact Dm e
 |rng=>exact Dm e
 |byt=>exact Dm e
 |exn=>exact Dm e
 |_=>exact⟨rfl,.inr ⟨(Option.some.inj e).symm,nofun⟩⟩
theorem FX(o:Bq Γ ce fr κ ex R (LV f a b σ) Q E):∃x y,a=.int x/\b=.int y/\Bq Γ ce fr κ ex R (.ok (f x y) σ) Q E:=by
 unfold LV at o;cases e1:vI a with
 |none=>rw[e1]at o;exact o.elim
 |some x=>
  rw[e1]at o;dsimp only at o;cases e2:vI b with
  |none=>rw[e2]at o;exact o.elim
  |some y=>rw[e2]at o;exact⟨x,y,EM e1,EM e2,o⟩
theorem Mr(o:Bq Γ ce fr κ ex R (Oy f a b σ) Q E):∃q,b=.none/\isNone a=some q/\Bq Γ ce fr κ ex R (.ok (f q) σ) Q E:=by
 unfold Oy at o;by_cases h:vN b=true;·rw[if_pos h]at o;refine Au (Co o) λq e o=>?_;refine Au (Option.map_eq_some_iff.mp e) λp e' eqq2=>?_;subst eqq2;exact⟨p,eY h,e',o⟩
 ·rw[if_neg h]at o;exact o.elim
theorem Pp(e:I9 a b=some q):∃d d',Hk a=some d/\Hk b=some d'/\SeqAt.shaped d=true/\SeqAt.shaped d'=true/\q=d.eqv d':=by
 unfold I9 at e;cases e1:Hk a with
 |none=>rw[e1]at e;exact Dm e
 |some d=>
  cases e2:Hk b with
  |none=>rw[e1,e2]at e;exact Dm e
  |some d'=>
   rw[e1,e2]at e;dsimp only at e;by_cases h:SeqAt.shaped d=true/\SeqAt.shaped d'=true;·rw[if_pos h]at e;exact⟨d,d',rfl,rfl,h.1,h.2,(Option.some.inj e).symm⟩
   ·rw[if_neg h]at e;exact Dm e
theorem OU(hu:A.units+64<cLine)(ar:AR Γ κ ce ex fr σ h)(ra:RV Γ.base κ a x)(rb:RV Γ.base κ b y)
  (o:Bq Γ ce fr κ ex (λ_ q v=>v=Value.bool q) (Af (I9 a b) σ) Q E):wpAny Γ.M A (compareOp .Eq x y) Q E (Γ.at h tk):=by
 have pf:=λb o=>AR.pf (b:=b) (o:=o) ar;refine Au (Co o) λq e o=>?_;refine lF (Pp e) λd d' e1 e2 s1 s2 eqq6=>?_;subst eqq6;refine AP (C7 pf _ ra e1) λas r1=>?_;refine AP (C7 pf _ rb e2) λbs r2=>?_;exact eq_dataH r1 r2 s1 s2 hu (AX o .refl ar rfl)
set_option tactic.hygienic true in
theorem Yl(hu:A.units+64<cLine)(ar:AR Γ κ ce ex fr σ h)(ra:RV Γ.base κ a x)(rb:RV Γ.base κ (.obj i) y)
  (o:Bq Γ ce fr κ ex (λ_ q v=>v=Value.bool q) (R1 a i σ) Q E):wpAny Γ.M A (compareOp .Eq x y) Q E (Γ.at h tk):=by
 have pf:=λb o=>AR.pf (b:=b) (o:=o) ar;unfold R1 at o;by_cases hn:LF σ[i]?=true
 rotate_left
 ·rw[if_neg hn]at o;exact o.elim
 rw[if_pos hn]at o;have e1:=HU hn;refine Au (Co o) λq e o=>?_;refine Au (Option.bind_eq_some_iff.mp e) λd e2 e3=>?_;by_cases hs:SeqAt.shaped d=true
 rotate_left
 ·rw[if_neg hs]at e3;exact Dm e3
 rw[if_pos hs]at e3;obtain rfl:=Option.some.inj e3;refine AP (C7 pf _ ra e2) λas rd=>?_;cases rb.oo with
 |mk hi=>
  obtain⟨g,m,led,cel,im,dd,nm⟩:=id ar;refine Hm (dd.find e1) λa' l pre post h1 h2 h3 _=>?_;cases h2 with
  |list hl=>cases hl.nn;rename_i a' _ n';have e3:=Option.some.inj (hi.symm.trans h1);subst e3;have:=(dd.N (a',PySem.W.listOf #[] n') (by refine h3.symm▸?_;simp)).1;exact eq_dataH rd (reads_list_at this rfl rfl ReadsAll.nil) hs (by decide) hu (AX o .refl ar rfl)
theorem YY(ar:AR Γ κ ce ex fr σ h)(ra:RV Γ.base κ a x)(rb:RV Γ.base κ b y)
  (o:Bq Γ ce fr κ ex (λ_ q v=>v=Value.bool q) (Rg a b σ) Q E):wpAny Γ.M A (compareOp .NotIn x y) Q E (Γ.at h tk):=by
 have pf:=λb o=>AR.pf (b:=b) (o:=o) ar;unfold Rg at o;cases e1:vI a with
 |none=>rw[e1]at o;exact o.elim
 |some i=>
  rw[e1]at o;dsimp only at o;cases e2:vT b with
  |none=>rw[e2]at o;exact o.elim
  |some l=>
   rw[e2]at o;refine Au (Co o) λq e o=>?_;refine Au (Option.map_eq_some_iff.mp e) λns e' eqq2=>?_;subst eqq2;obtain rfl:=EM e1;obtain rfl:=Ir e2;cases ra.ii;cases rb.tt with
   |mk p1 p4=>exact notin_tuple_ints (EG (pf _ _ p1) rfl rfl) (GA p4 e') (AX o .refl ar rfl)
theorem Hw(hu:A.units+64<cLine)(ar:AR Γ κ ce ex fr σ h)(ra:RV Γ.base κ a x)(rb:RV Γ.base κ b y)
  (o:Bq Γ ce fr κ ex (λ_ q v=>v=Value.bool q) (Ap op a b σ) Q E):wpAny Γ.M A (compareOp op x y) Q E (Γ.at h tk):=by
 have pf:=λb o=>AR.pf (b:=b) (o:=o) ar;cases op with
 |Lt=>refine Cz (FX o) λi j eqq2 eqq3 o=>?_;subst eqq2;subst eqq3;cases ra.ii;cases rb.ii;exact PyProof.Rows.lt_int (AX o .refl ar rfl)
 |LtE=>refine Cz (FX o) λi j eqq2 eqq3 o=>?_;subst eqq2;subst eqq3;cases ra.ii;cases rb.ii;exact le_int (AX o .refl ar rfl)
 |Gt=>refine Cz (FX o) λi j eqq2 eqq3 o=>?_;subst eqq2;subst eqq3;cases ra.ii;cases rb.ii;exact gt_int (AX o .refl ar rfl)
 |GtE=>refine Cz (FX o) λi j eqq2 eqq3 o=>?_;subst eqq2;subst eqq3;cases ra.ii;cases rb.ii;exact ge_int (AX o .refl ar rfl)
 |Is=>
  refine D9 (Mr o) λq eqq1 e o=>?_;subst eqq1;cases rb.nn;obtain⟨hp,⟨rfl,rfl⟩|⟨rfl,hn⟩⟩:=J9 ra e;·exact wpAny_is_self hp (AX o .refl ar rfl)
  ·exact wpAny_is_other hp hn (AX o .refl ar rfl)
 |IsNot=>
  refine D9 (Mr o) λq eqq1 e o=>?_;subst eqq1;cases rb.nn;obtain⟨hp,⟨rfl,rfl⟩|⟨rfl,hn⟩⟩:=J9 ra e;·exact wpAny_isNot_plain hp (AX o .refl ar rfl)
  ·exact wpAny_isNot_other hp hn (AX o .refl ar rfl)
 |Eq=>
  replace o:Bq Γ ce fr κ ex (λ_ q v=>v=Value.bool q) (RS a b σ) Q E:=o;unfold RS at o;cases e1:vL a with
  |none=>rw[e1]at o;exact OU hu ar ra rb o
  |some l=>
   rw[e1]at o;dsimp only at o;cases e2:vO b with
   |none=>rw[e2]at o;exact OU hu ar ra rb o
   |some i=>rw[e2]at o;obtain rfl:=cG e2;exact Yl hu ar ra rb o
 |NotEq=>refine Au (Co o) λq e o=>?_;refine Au (Option.map_eq_some_iff.mp e) λp e' eqq2=>?_;subst eqq2;refine lF (Pp e') λd d' e1 e2 s1 s2 eqq6=>?_;subst eqq6;refine AP (C7 pf _ ra e1) λas r1=>?_;refine AP (C7 pf _ rb e2) λbs r2=>?_;exact ne_dataH r1 r2 s1 s2 hu (AX o .refl ar rfl)
 |In=>exact o.elim
 |NotIn=>exact YY ar ra rb o
set_option tactic.hygienic true in
theorem OM(ar:AR Γ κ ce ex fr σ h)(r:RV Γ.base κ v x)(o:Bq Γ ce fr κ ex (λ_ (a b:Bool)=>a=b) (BS v σ) Q E):wpAny Γ.M A (truthy x) Q E (Γ.at h tk):=by
 cases v with
 |none=>cases r.nn;exact wpAny_pure (An o .refl ar rfl)
 |bool=>cases r.bb;exact wpAny_truthy_bool (An o .refl ar rfl)
 |int i=>cases r.ii;refine PyProof.Rows.truthy_int (An o .refl ar ?_);by_cases hz:i=0<;>simp[hz]
 |_=>exact o.elim
end
end
section
abbrev Wx:Wd->Bool->Bool->Prop:=λ_ a b=>a=b
abbrev C9(Γ:BG)(A:Around)(c:Cx)(ce:Env)(fr:Fm)(e:Expr):Prop:=S0 Γ A ce fr Wx (isTrue e ce (eval e ce)) (tst e c fr (ev e c fr))
theorem Pm(ar:AR Γ κ ce ex fr σ h)(r:Bo Γ.base κ l vs):
  ∃g m news,Fr g Γ.env.locals h m/\News g Γ.env.locals h news/\∀h',Fr g Γ.env.locals h' m->News g Γ.env.locals h' ((h.objs.size,NI vs.toArray 0)::news)->∃κ',κ.Le κ'/\AR Γ κ' ce ex fr σ h'/\RV Γ.base κ' (.tup l) (.ref h.objs.size):=by
 obtain⟨g,m,led,cel,im,d,nm⟩:=ar;exact⟨g,m,_,d.F,d.N,λh' F N=>⟨_,Wd.put_le,AR.put nm d F N (λp hp=>Nat.ne_of_lt (Heap.lt_size (d.N p hp).1)),.tup Wd.put_pf (by simpa using r.le Wd.put_le)⟩⟩
theorem Lk(ar:AR Γ κ ce ex fr σ h)(r:Bo Γ.base κ l vs):
  ∃g m news,Fr g Γ.env.locals h m/\News g Γ.env.locals h news/\∀h' a ep,(∀p∈news,p.1≠a)->Fr g Γ.env.locals h' m->News g Γ.env.locals h' ((a,KP vs.toArray ep)::news)->∃κ',κ.Le κ'/\AR Γ κ' ce ex fr σ h'/\RV Γ.base κ' (.lst l) (.ref a):=by
 obtain⟨g,m,led,cel,im,d,nm⟩:=ar;exact⟨g,m,_,d.F,d.N,λh' a ep ha F N=>⟨_,Wd.put_le,AR.put nm d F N ha,.lst Wd.put_pf (by simpa using r.le Wd.put_le)⟩⟩
theorem SM(N:News g L h news):∀p∈news,p.1≠h.objs.size:=λp hp=>Nat.ne_of_lt (Heap.lt_size (N p hp).1)
set_option tactic.hygienic true in
theorem WR(ar:AR Γ κ ce ex fr σ h)(ra:RV Γ.base κ (.tup a) x)(rb:RV Γ.base κ (.tup b) y)(o:Bq Γ ce fr κ ex (RV Γ.base) (Xy op a b σ) Q E):
  wpAny Γ.M A (binaryOp op x y) Q E (Γ.at h tk):=by
 cases op<;>first|exact o.elim|skip
 refine AG (Be o) λhg o=>?_;have hg:=of_decide_eq_true hg;cases ra.tt with|mk p1 r1=>cases rb.tt with|mk p2 r2=>
  rename_i a1 arr1 ep1 a2 arr2 ep2;have l1:=r1.length;have l2:=r2.length;refine Jh (Pm ar (r1.append r2)) λg m news F N k=>?_;refine add_tuples F N (vs:=arr1.toList) (ws:=arr2.toList) (EG (ar.pf p1) rfl rfl) (EG (ar.pf p2) rfl rfl) (λe=>?_) (λ_ e=>?_) (λ_ _ h' F' N'=>?_) (by rw[sizeLine_eq];lia);·rw[e]at l1;have:=List.length_eq_zero_iff.mp l1;subst this;exact An o .refl ar (by simpa using RV.tup p2 r2)
  ·rw[e]at l2;have:=List.length_eq_zero_iff.mp l2;subst this;exact An o .refl ar (by simpa using RV.tup p1 r1)
  ·refine D9 (k h' F' N') λκ' q ar' r=>?_;exact An o q ar' r
set_option tactic.hygienic true in
theorem XM(ar:AR Γ κ ce ex fr σ h)(ra:RV Γ.base κ (.lst a) x)(rb:RV Γ.base κ (.lst b) y)(o:Bq Γ ce fr κ ex (RV Γ.base) (YS op a b σ) Q E):
  wpAny Γ.M A (binaryOp op x y) Q E (Γ.at h tk):=by
 cases op<;>first|exact o.elim|skip
 refine AG (Be o) λhg o=>?_;have hg:=of_decide_eq_true hg;cases ra.ll with|mk p1 r1=>cases rb.ll with|mk p2 r2=>rename_i a1 arr1 ep1 a2 arr2 ep2;have l1:=r1.length;have l2:=r2.length;refine Jh (Lk ar (r1.append r2)) λg m news F N k=>?_;refine add_arrays F N ⟨_,ar.pf p1,rfl,_,rfl⟩ ⟨_,ar.pf p2,rfl,_,rfl⟩ (λh' F' N'=>?_) (by rw[sizeLine_eq];simp at l1 l2;lia);refine D9 (k h' _ 0 (SM N) F' N') λκ' q ar' r=>?_;exact An o q ar' r
set_option tactic.hygienic true in
theorem Yn(ar:AR Γ κ ce ex fr σ h)(ra:RV Γ.base κ (.lst zs₀) x)(rb:RV Γ.base κ (.int k') y)(o:Bq Γ ce fr κ ex (RV Γ.base) (Ys op zs₀ k' σ) Q E):
  wpAny Γ.M A (binaryOp op x y) Q E (Γ.at h tk):=by
 cases op<;>first|exact o.elim|skip
 refine AG (Be o) λhg o=>?_;refine AG (of_decide_eq_true hg) λhk hz=>?_;cases ra.ll with|mk p1 r1=>cases rb.ii with|mk t'=>
  rename_i a1 arr1 ep1;have l1:=r1.length;have h1:=ar.pf p1;have CA:∀(zs:List V) (arr:Array Value),Bo Γ.base κ zs arr.toList->zs=(if k'=0 then[] else zs₀)->(List.foldl (λx1 x2=>x1++x2) #[] (List.replicate (if arr1.isEmpty=true then 0 else Int.toNat k') arr1))=arr->wpAny Γ.M A (binaryOp .Mult (.ref a1) (.int k' t')) Q E (Γ.at h tk):=by
   intro zs arr rz ez ea;refine Jh (Lk ar rz) λg m news F N k=>?_;refine mul_list F N h1 (by lia) (by lia) ?_ (λh' F' N'=>?_)
   ·have:k'.toNat<=1:=by lia
    simp at l1;calc arr1.size*k'.toNat<=arr1.size*1:=Nat.mul_le_mul_left _ this
     _<=2^24:=by lia
   ·rw[ea]at N';refine D9 (k h' _ 0 (SM N) F' N') λκ' q ar' r=>?_;subst ez;exact An o q ar' r
  rcases hk with rfl|rfl;·exact CA [] #[] .nil rfl (by split<;>simp)
  ·refine CA _ arr1 r1 rfl ?_;by_cases he:arr1.isEmpty=true
   ·rw[if_pos he];have:arr1 = #[]:=by simpa using he
    subst this;rfl
   ·rw[if_neg he];show(#[]:Array Value)++arr1=arr1;simp
theorem XX(ar:AR Γ κ ce ex fr σ h)(ra:RV Γ.base κ a x)(rb:RV Γ.base κ b y)(o:Bq Γ ce fr κ ex (RV Γ.base) (Aj op a b σ) Q E):
  wpAny Γ.M A (binaryOp op x y) Q E (Γ.at h tk):=by
 unfold Aj at o;cases e1:vI a with
 |some i=>
  rw[e1]at o;dsimp only at o;cases e2:vI b with
  |none=>rw[e2]at o;exact o.elim
  |some j=>rw[e2]at o;obtain rfl:=EM e1;obtain rfl:=EM e2;cases ra.ii;cases rb.ii;exact WI ar o
 |none=>
  rw[e1]at o;dsimp only at o;cases e2:vT a with
  |some l=>
   rw[e2]at o;obtain rfl:=Ir e2;replace o:Bq Γ ce fr κ ex (RV Γ.base) (Q8 op l b σ) Q E:=o;unfold Q8 at o;cases e3:vT b with
   |none=>rw[e3]at o;exact o.elim
   |some m=>rw[e3]at o;obtain rfl:=Ir e3;exact WR ar ra rb o
  |none=>
   rw[e2]at o;dsimp only at o;cases e3:vL a with
   |none=>rw[e3]at o;exact o.elim
   |some l=>
    rw[e3]at o;obtain rfl:=Oo e3;replace o:Bq Γ ce fr κ ex (RV Γ.base) (QU op l b σ) Q E:=o;unfold QU at o;cases e4:vL b with
    |some m=>rw[e4]at o;obtain rfl:=Oo e4;exact XM ar ra rb o
    |none=>
     rw[e4]at o;dsimp only at o;cases e5:vI b with
     |none=>rw[e5]at o;exact o.elim
     |some k=>rw[e5]at o;obtain rfl:=EM e5;exact Yn ar ra rb o
theorem Xu(hl:Bd Γ A c ce fr l)(hr:Bd Γ A c ce fr r):Bd Γ A c ce fr (.BinOp l op r pos):=by intro κ ex σ h tk Q E ar o;refine wpAny_BinOp (hl.use ar (AA o λv σ₁ _ κ₁ h₁ tk₁ x q₁ ar₁ rx o₁=>?_));refine hr.use ar₁ (AA o₁ λu σ₂ _ κ₂ h₂ tk₂ y q₂ ar₂ ry o₂=>?_);exact XX ar₂ (rx.le q₂) ry o₂
theorem NQ(C:Ef Γ A c ce)(pos:Pos):∀(rs:List Expr) (ops:List CmpOp) (_:∀e∈rs,Bd Γ A c ce fr e) (_:rs.length=ops.length) {κ:Wd}{σ:St}{h:Heap}{tk:Nat}{v:V}{x:Value}{Q:Bool->Shared->Prop}{E:Value->Shared->Prop},
  AR Γ κ ce ex fr σ h->RV Γ.base κ v x->Bq Γ ce fr κ ex Wx (Hj rs ops v c fr σ) Q E->wpAny Γ.M A (testChain pos x ops (evalEach rs ce)) Q E (Γ.at h tk):=by
 intro rs;induction rs with
 |nil=>intro ops hs hl κ σ h tk v x Q E ar rv o;exact o.elim
 |cons e r ih=>
  intro ops hs hl κ σ h tk v x Q E ar rv o;cases ops with
  |nil=>exact absurd hl (Nat.succ_ne_zero _)
  |cons op ops=>
   cases r with
   |nil=>
    cases ops with
    |cons=>exact absurd (Nat.succ.inj hl).symm (Nat.succ_ne_zero _)
    |nil=>
     have o:Bq Γ ce fr κ ex Wx (Aa (ev e c fr) (λb=>Aa (Ap op v b) λq=>ret q) σ) Q E:=o;show wpAny Γ.M A (do
      let rv<-holding [x] (eval e ce)
      standAt pos
      let c<-operate [x,rv] (compareOp op x rv)
      holding [c] (truthy c)) Q E _
     refine wpAny_bind (wpAny_holding ((hs e (.head _)).use ar (AA o λu σ₁ _ κ₁ h₁ tk₁ y q₁ ar₁ ry o₁=>?_)));refine wpAny_bind (wpAny_standAt (wpAny_bind (wpAny_operate' ?_)));refine Hw C.units ar₁ (rv.le q₁) ry (AA o₁ λq σ₂ _ κ₂ h₂ tk₂ z q₂ ar₂ rz o₂=>?_);subst rz;exact wpAny_holding (wpAny_truthy_bool (An o₂ .refl ar₂ rfl))
   |cons e2 r=>
    cases ops with
    |nil=>exact absurd (Nat.succ.inj hl) (Nat.succ_ne_zero _)
    |cons op2 ops=>
     have o:Bq Γ ce fr κ ex Wx (Aa (ev e c fr) (λb=>Aa (Ap op v b) λq=>if q=true then Hj (e2::r) (op2::ops) b c fr else ret false) σ) Q E:=o;show wpAny Γ.M A (do
      let rv<-holding [x] (eval e ce)
      standAt pos
      let c<-holding [x,rv] (compareOp op x rv)
      release [x,rv] [c]
      if<-holding [c,rv] (truthy c) then testChain pos rv (op2::ops) (evalEach (e2::r) ce) else pure false) Q E _
     refine wpAny_bind (wpAny_holding ((hs e (.head _)).use ar (AA o λu σ₁ _ κ₁ h₁ tk₁ y q₁ ar₁ ry o₁=>?_)));refine wpAny_bind (wpAny_standAt (wpAny_bind (wpAny_holding ?_)));refine Hw C.units ar₁ (rv.le q₁) ry (AA o₁ λq σ₂ _ κ₂ h₂ tk₂ z q₂ ar₂ rz o₂=>?_);subst rz;refine wpAny_bind (wpAny_release' (wpAny_bind (wpAny_holding (wpAny_truthy_bool ?_))));cases q with
     |true=>exact ih (op2::ops) (λx hx=>hs x (.tail _ hx)) (Nat.succ.inj hl) ar₂ (ry.le q₂) o₂
     |false=>exact wpAny_pure (An o₂ .refl ar₂ rfl)
end
section
theorem Si{α β γ δ:Type}{f:Mo α}{g:α->Mo β}{k:α->β->Mo γ}{l:γ->Mo δ}:Aa (Aa f λb=>Aa (g b) (k b)) l=Aa f λb=>Aa (g b) λq=>Aa (k b q) l:=by rw[B1];exact congrArg (Aa f) (funext λb=>B1)
theorem Q5(C:Ef Γ A c ce)(pos:Pos):∀(rs:List Expr) (ops:List CmpOp) (_:∀e∈rs,Bd Γ A c ce fr e) (_:rs.length=ops.length) {κ:Wd}{σ:St}{h:Heap}{tk:Nat}{v:V}{x:Value}{Q:Value->Shared->Prop}{E:Value->Shared->Prop},
  AR Γ κ ce ex fr σ h->RV Γ.base κ v x->Bq Γ ce fr κ ex (RV Γ.base) (Aa (Hj rs ops v c fr) (λq=>ret (.bool q)) σ) Q E->wpAny Γ.M A (compareChain pos x ops (evalEach rs ce)) Q E (Γ.at h tk):=by
 intro rs;induction rs with
 |nil=>intro ops hs hl κ σ h tk v x Q E ar rv o;exact o.elim
 |cons e r ih=>
  intro ops hs hl κ σ h tk v x Q E ar rv o;cases ops with
  |nil=>exact absurd hl (Nat.succ_ne_zero _)
  |cons op ops=>
   cases r with
   |nil=>
    cases ops with
    |cons=>exact absurd (Nat.succ.inj hl).symm (Nat.succ_ne_zero _)
    |nil=>
     have o:Bq Γ ce fr κ ex (RV Γ.base) (Aa (Aa (ev e c fr) (λb=>Aa (Ap op v b) λq=>ret q)) (λq=>ret (.bool q)) σ) Q E:=o;rw[Si]at o;replace o:Bq Γ ce fr κ ex (RV Γ.base) (Aa (ev e c fr) (λb=>Aa (Ap op v b) λq=>ret (.bool q)) σ) Q E:=o;show wpAny Γ.M A (do
      let rv<-holding [x] (eval e ce)
      standAt pos
      operate [x,rv] (compareOp op x rv)) Q E _
     refine wpAny_bind (wpAny_holding ((hs e (.head _)).use ar (AA o λu σ₁ _ κ₁ h₁ tk₁ y q₁ ar₁ ry o₁=>?_)));refine wpAny_bind (wpAny_standAt (wpAny_operate' ?_));refine Hw C.units ar₁ (rv.le q₁) ry (AA o₁ λq σ₂ _ κ₂ h₂ tk₂ z q₂ ar₂ rz o₂=>?_);subst rz;exact An o₂ .refl ar₂ (.bool q)
   |cons e2 r=>
    cases ops with
    |nil=>exact absurd (Nat.succ.inj hl) (Nat.succ_ne_zero _)
    |cons op2 ops=>
     have o:Bq Γ ce fr κ ex (RV Γ.base) (Aa (Aa (ev e c fr) (λb=>Aa (Ap op v b) λq=>if q=true then Hj (e2::r) (op2::ops) b c fr else ret false)) (λq=>ret (.bool q)) σ) Q E:=o;rw[Si]at o;show wpAny Γ.M A (do
      let rv<-holding [x] (eval e ce)
      standAt pos
      let c<-holding [x,rv] (compareOp op x rv)
      release [x,rv] [c]
      if<-holding [c,rv] (truthy c) then compareChain pos rv (op2::ops) (evalEach (e2::r) ce) else pure c) Q E _
     refine wpAny_bind (wpAny_holding ((hs e (.head _)).use ar (AA o λu σ₁ _ κ₁ h₁ tk₁ y q₁ ar₁ ry o₁=>?_)));refine wpAny_bind (wpAny_standAt (wpAny_bind (wpAny_holding ?_)));refine Hw C.units ar₁ (rv.le q₁) ry (AA o₁ λq σ₂ _ κ₂ h₂ tk₂ z q₂ ar₂ rz o₂=>?_);subst rz;refine wpAny_bind (wpAny_release' (wpAny_bind (wpAny_holding (wpAny_truthy_bool ?_))));cases q with
     |true=>exact ih (op2::ops) (λx hx=>hs x (.tail _ hx)) (Nat.succ.inj hl) ar₂ (ry.le q₂) o₂
     |false=>exact wpAny_pure (An o₂ .refl ar₂ (.bool false))
theorem Yi(C:Ef Γ A c ce)(hl:Bd Γ A c ce fr l)(hr:∀e∈rs,Bd Γ A c ce fr e):Bd Γ A c ce fr (.Compare l ops rs pos):=by
 intro κ ex σ h tk Q E ar o;have o:Bq Γ ce fr κ ex (RV Γ.base) ((if(rs.all BL&&rs.length==ops.length)=true then Aa (ev l c fr) λa=>Aa (Hj rs ops a c fr) λq=>ret (.bool q) else AB) σ) Q E:=o;by_cases hg:(rs.all BL&&rs.length==ops.length)=true;·rw[if_pos hg]at o;refine D3 hg λh1 h2=>?_;show wpAny Γ.M A (do compareChain pos (<-eval l ce) ops (markedEach ops rs (evalEach rs ce))) Q E _;rw[markedEach_of_false _ _ _ (DR ops rs h1)];exact wpAny_bind (hl.use ar (AA o λu σ₁ _ κ₁ h₁ tk₁ y q₁ ar₁ ry o₁=>Q5 C pos rs ops hr (by simpa using h2) ar₁ ry o₁))
 ·rw[if_neg hg]at o;exact o.elim
theorem YO(C:Ef Γ A c ce)(hl:Bd Γ A c ce fr l)(hr:∀e∈rs,Bd Γ A c ce fr e):C9 Γ A c ce fr (.Compare l ops rs pos):=by
 intro κ ex σ h tk Q E ar o;have o:Bq Γ ce fr κ ex Wx ((if(rs.all BL&&rs.length==ops.length)=true then Aa (ev l c fr) λa=>Hj rs ops a c fr else AB) σ) Q E:=o;by_cases hg:(rs.all BL&&rs.length==ops.length)=true;·rw[if_pos hg]at o;refine D3 hg λh1 h2=>?_;show wpAny Γ.M A (do testChain pos (<-eval l ce) ops (markedEach ops rs (evalEach rs ce))) Q E _;rw[markedEach_of_false _ _ _ (DR ops rs h1)];exact wpAny_bind (hl.use ar (AA o λu σ₁ _ κ₁ h₁ tk₁ y q₁ ar₁ ry o₁=>NQ C pos rs ops hr (by simpa using h2) ar₁ ry o₁))
 ·rw[if_neg hg]at o;exact o.elim
theorem Vp(C:Ef Γ A c ce)(pos:Pos)(op:BoolOp):∀(xs:List Expr) (_:∀e∈xs,Bd Γ A c ce fr e) {κ:Wd}{σ:St}{h:Heap}{tk:Nat}{Q:Value->Shared->Prop}{E:Value->Shared->Prop},
  AR Γ κ ce ex fr σ h->Bq Γ ce fr κ ex (RV Γ.base) (JN xs op c fr σ) Q E->wpAny Γ.M A (boolOp pos op (evalEach xs ce)) Q E (Γ.at h tk):=by
 intro xs;induction xs with
 |nil=>intro hs κ σ h tk Q E ar o;exact o.elim
 |cons e r ih=>
  intro hs κ σ h tk Q E ar o;cases r with
  |nil=>have o:Bq Γ ce fr κ ex (RV Γ.base) (Aa (ev e c fr) (λv=>ret v) σ) Q E:=o;exact(hs e (.head _)).use ar (AA o λu σ₁ _ κ₁ h₁ tk₁ y q₁ ar₁ ry o₁=>An o₁ .refl ar₁ ry)
  |cons e2 r=>
   have o:Bq Γ ce fr κ ex (RV Γ.base) (Aa (ev e c fr) (λv=>Aa (BS v) λq=>Bz op q (ret v) (JN (e2::r) op c fr)) σ) Q E:=o;show wpAny Γ.M A (do
    let v<-eval e ce
    standAt pos
    let t<-holding [v] (truthy v);match op,t with
    |.And,false|.Or,true=>pure v
    |_,_=>boolOp pos op (evalEach (e2::r) ce)) Q E _
   refine wpAny_bind ((hs e (.head _)).use ar (AA o λu σ₁ _ κ₁ h₁ tk₁ y q₁ ar₁ ry o₁=>?_));refine wpAny_bind (wpAny_standAt (wpAny_bind (wpAny_holding (OM ar₁ ry (AA o₁ λq σ₂ _ κ₂ h₂ tk₂ z q₂ ar₂ rz o₂=>?_)))));subst rz;cases op<;>cases q<;>first|exact wpAny_pure (An o₂ .refl ar₂ (ry.le q₂))|exact ih (λx hx=>hs x (.tail _ hx)) ar₂ o₂
theorem To(C:Ef Γ A c ce)(hs:∀e∈xs,Bd Γ A c ce fr e):Bd Γ A c ce fr (.BoolOp op xs pos):=by intro κ ex σ h tk Q E ar o;exact Vp C pos op xs hs ar o
theorem P7(op:BoolOp):∀(xs:List Expr) (_:∀e∈xs,C9 Γ A c ce fr e) {κ:Wd}{σ:St}{h:Heap}{tk:Nat}{Q:Bool->Shared->Prop}{E:Value->Shared->Prop},
  AR Γ κ ce ex fr σ h->Bq Γ ce fr κ ex Wx (NH xs op c fr σ) Q E->wpAny Γ.M A (allTrue op xs ce) Q E (Γ.at h tk):=by
 intro xs;induction xs with
 |nil=>intro hs κ σ h tk Q E ar o;exact wpAny_pure (An o .refl ar rfl)
 |cons e r ih=>
  intro hs κ σ h tk Q E ar o;have o:Bq Γ ce fr κ ex Wx (Aa (tst e c fr (ev e c fr)) (λq=>Bz op q (ret q) (NH r op c fr)) σ) Q E:=o;show wpAny Γ.M A (do
   match op,<-isTrue e ce (eval e ce) with
   |.And,false=>pure false
   |.Or,true=>pure true
   |_,_=>allTrue op r ce) Q E _
  refine wpAny_bind ((hs e (.head _)).use ar (AA o λq σ₁ _ κ₁ h₁ tk₁ y q₁ ar₁ ry o₁=>?_));subst ry;cases op<;>cases q<;>first|exact wpAny_pure (An o₁ .refl ar₁ rfl)|exact ih (λx hx=>hs x (.tail _ hx)) ar₁ o₁
theorem Sx(hs:∀e∈xs,C9 Γ A c ce fr e):C9 Γ A c ce fr (.BoolOp op xs pos):=by intro κ ex σ h tk Q E ar o;exact P7 op xs hs ar o
theorem WT(hx:C9 Γ A c ce fr x):C9 Γ A c ce fr (.UnaryOp .Not x pos):=by intro κ ex σ h tk Q E ar o;have o:Bq Γ ce fr κ ex Wx (Aa (tst x c fr (ev x c fr)) (λq=>ret (!q)) σ) Q E:=o;exact isTrue_not (hx.use ar (AA o λq σ₁ _ κ₁ h₁ tk₁ y q₁ ar₁ ry o₁=>by subst ry;exact An o₁ .refl ar₁ rfl))
theorem XN(he:Bd Γ A c ce fr e)(h1:∀whole,isTrue e ce whole=(do let v<-whole;standAt e.pos;holding [v] (truthy v)))(h2:∀whole,tst e c fr whole=Aa whole BS):C9 Γ A c ce fr e:=by intro κ ex σ h tk Q E ar o;rw[h2]at o;rw[h1];exact wpAny_bind (he.use ar (AA o λq σ₁ _ κ₁ h₁ tk₁ y q₁ ar₁ ry o₁=>wpAny_bind (wpAny_standAt (wpAny_holding (OM ar₁ ry o₁)))))
theorem aN(ht:C9 Γ A c ce fr t)(ha:Bd Γ A c ce fr a)(hb:Bd Γ A c ce fr b):Bd Γ A c ce fr (.IfExp t a b pos):=by
 intro κ ex σ h tk Q E ar o;have o:Bq Γ ce fr κ ex (RV Γ.base) (Aa (tst t c fr (ev t c fr)) (λq=>if q=true then ev a c fr else ev b c fr) σ) Q E:=o;refine IfExp_ (ht.use ar (AA o λq σ₁ _ κ₁ h₁ tk₁ y q₁ ar₁ ry o₁=>?_));subst ry;cases q with
 |true=>exact ha.use ar₁ o₁
 |false=>exact hb.use ar₁ o₁
theorem Gv(he:CV e=true):starEach (e::r) ce=(false,eval e ce)::starEach r ce:=by cases e<;>first|rfl|cases he
theorem Fy(pos:Pos):∀{xs:List Expr},xs.all CV=true->(backTo pos (starEach xs ce)).any (·.1)=false
 |[],_=>rfl
 |e::r,hs=>by simp only[List.all_cons,Bool.and_eq_true]at hs;rw[Gv hs.1];show(false||(backTo pos (starEach r ce)).any (·.1))=false;rw[Fy pos hs.2];rfl
theorem ES(pos:Pos):∀(xs:List Expr) (_:∀e∈xs,Bd Γ A c ce fr e) (_:xs.all CV=true),S0 Γ A ce fr (Bo Γ.base) (spliced (backTo pos (starEach xs ce))) (GX xs c fr)
 |[],_,_=>λκ ex σ h tk Q E ar o=>wpAny_pure (An o .refl ar .nil)
 |e::r,hs,hp=>λκ ex σ h tk Q E ar o=>by simp only[List.all_cons,Bool.and_eq_true]at hp;have o:Bq Γ ce fr κ ex (Bo Γ.base) (Aa (ev e c fr) (λv=>Aa (GX r c fr) λvs=>ret (v::vs)) σ) Q E:=o;refine spliced_more ((hs e (.head _)).use ar (AA o λu σ₁ _ κ₁ h₁ tk₁ y q₁ ar₁ ry o₁=>?_)) (Gv hp.1);exact(ES pos r (λx hx=>hs x (.tail _ hx)) hp.2).use ar₁ (AA o₁ λu σ₂ _ κ₂ h₂ tk₂ z q₂ ar₂ rz o₂=>An o₂ .refl ar₂ (.cons (ry.le q₂) rz))
theorem Pz(e:GX xs c fr σ=.ok vs σ'):vs.length=xs.length:=by
 induction xs generalizing vs σ σ' with
 |nil=>cases e;rfl
 |cons x r ih=>
  have e:Aa (ev x c fr) (λv=>Aa (GX r c fr) λvs=>ret (v::vs)) σ=.ok vs σ':=e;unfold Aa at e;cases h1:ev x c fr σ with
  |ok v σ₁=>
   rw[h1]at e;dsimp only at e;cases h2:GX r c fr σ₁ with
   |ok ws σ₂=>rw[h2]at e;cases e;simp[ih h2]
   |exc=>rw[h2]at e;cases e
   |stuck=>rw[h2]at e;cases e
  |exc=>rw[h1]at e;cases e
  |stuck=>rw[h1]at e;cases e
theorem QE(hs:∀e∈xs,Bd Γ A c ce fr e):Bd Γ A c ce fr (.Tuple xs n pos):=by
 intro κ ex σ h tk Q E ar o;have o:Bq Γ ce fr κ ex (RV Γ.base) ((if argsOk xs=true then Aa (GX xs c fr) λvs=>ret (.tup vs) else AB) σ) Q E:=o;by_cases hg:argsOk xs=true
 ·rw[if_pos hg]at o;refine D3 hg λh1 h2=>?_;have h2:=of_decide_eq_true h2;refine Tuple_ ((ES pos xs hs h1).use ar (AA o λvs σ₁ e₁ κ₁ h₁ tk₁ ys q₁ ar₁ ry o₁=>?_));refine Jh (Pm ar₁ ry) λg m news F N k=>?_;refine newTuple_N F N (λh' F' N'=>?_) ?_;·refine D9 (k h' F' N') λκ' q ar' r=>?_;exact An o₁ q ar' r
  ·have:=Pz e₁;have:=ry.length;rw[sizeLine_eq];lia
 ·rw[if_neg hg]at o;exact o.elim
theorem Un(hs:∀e∈xs,Bd Γ A c ce fr e):Bd Γ A c ce fr (.List xs pos):=by
 intro κ ex σ h tk Q E ar o;have o:Bq Γ ce fr κ ex (RV Γ.base) ((if xs.isEmpty=true then Ej (.list []) else if argsOk xs=true then Aa (GX xs c fr) λvs=>ret (.lst vs) else AB) σ) Q E:=o;by_cases he:xs.isEmpty=true
 ·rw[if_pos he]at o;have:xs = []:=by simpa using he
  subst this;obtain⟨g,m,led,cel,im,d,nm⟩:=ar;refine List_ (spliced_nil (newList_K d.F d.N (λl h' F' N' lt=>?_) (by rw[sizeLine_eq];exact Nat.zero_le _)));have hl:=d.L.length;refine o (κ.add l) h' _ _ Wd.add_le (AR.add1 nm d F' N' (λp hp=>Nat.ne_of_lt (lt p hp)) (.list .nil)) (.obj (Wd.add_at hl))
 ·rw[if_neg he]at o;by_cases hg:argsOk xs=true
  ·rw[if_pos hg]at o;refine D3 hg λh1 h2=>?_;have h2:=of_decide_eq_true h2;refine List_ ((ES pos xs hs h1).use ar (AA o λvs σ₁ e₁ κ₁ h₁ tk₁ ys q₁ ar₁ ry o₁=>?_));refine Jh (Lk ar₁ ry) λg m news F N k=>?_;refine newList_K F N (λl h' F' N' lt=>?_) ?_;·refine D9 (k h' l 0 (λp hp=>Nat.ne_of_lt (lt p hp)) F' N') λκ' q ar' r=>?_;exact An o₁ q ar' r
   ·have:=Pz e₁;have:=ry.length;rw[sizeLine_eq];lia
  ·rw[if_neg hg]at o;exact o.elim
end
set_option backward.match.sparseCases false
section
theorem Hz.key(h:Hz base κ fs es):es.any (·.refKey)=false:=by
 induction h with
 |nil=>rfl
 |cons _ _ ih=>simp only[List.any_cons,ih,Bool.or_false];rfl
theorem Hz.find(h:Hz base κ fs es)(name:Str):
  match fs.lookup name with
  |some v=>∃e x,es.find? (·.key.isStr name)=some e/\e.val=x/\RV base κ v x
  |none=>es.find? (·.key.isStr name)=none:=by
 induction h with
 |nil=>rfl
 |@cons n v hs t x fs es r f ih=>
  rw[List.lookup_cons,List.find?_cons];have e1:(DictEntry.mk hs (.str n t) x).key.isStr name=(n==name):=rfl;rw[e1];by_cases q:name=n;·subst q;simp only[beq_self_eq_true];exact⟨_,_,rfl,rfl,r⟩
  ·have q1:(name==n)=false:=by simpa using q
   have q2:(n==name)=false:=by simpa using Ne.symm q
   rw[q1,q2];exact ih
theorem Hz.get(h:Hz base κ fs es)(e:fs.lookup name=some v):∃x,getL name es=some (some x)/\RV base κ v x:=by have:=h.find name;rw[e]at this;refine Cz this λen x h1 h2 h3=>?_;refine⟨x,?_,h3⟩;unfold getL;rw[h1,<-h2]
theorem Hz.miss(h:Hz base κ fs es)(e:fs.lookup name=none):getL name es=some none:=by have:=h.find name;rw[e]at this;unfold getL;rw[this];dsimp only;rw[h.key];rfl
theorem Hz.some(h:Hz base κ fs es)(name:Str):(getL name es).isSome=true:=by
 cases e:fs.lookup name with
 |none=>rw[h.miss e];rfl
 |some v=>refine Au (h.get e) λx h1 _=>?_;rw[h1];rfl
theorem Hz.put(h:Hz base κ fs es)(name:Str)(hs:Int)(t:Tok)(r:RV base κ v x):Hz base κ (FT fs name v) (putL name hs (.str name t) x es):=by
 induction h with
 |nil=>exact .cons r .nil
 |@cons n u hs' t' y fs es r' f ih=>
  show Hz base κ (if n=name then(n,v)::fs else(n,u)::FT fs name v) _;unfold putL;have e1:(DictEntry.mk hs' (.str n t') y).key.isStr name=(n==name):=rfl;rw[e1];by_cases q:n=name;·subst q;rw[if_pos rfl,if_pos (beq_self_eq_true _)];exact .cons r f
  ·have q2:(n==name)=false:=by simpa using q
   rw[q2,if_neg q,if_neg Bool.false_ne_true];exact .cons r' ih
theorem Nm(name:Str)(v:V):∀fs:List (Str×V),(FT fs name v).length<=fs.length+1
 |[]=>Nat.le_refl _
 |(n,u)::r=>by
  show(if n=name then(n,v)::r else(n,u)::FT r name v).length<=_;by_cases q:n=name;·rw[if_pos q];exact Nat.le_succ _
  ·rw[if_neg q];exact Nat.succ_le_succ (Nm name v r)
theorem Hz.len(h:Hz base κ fs es):es.length=fs.length:=by
 induction h with
 |nil=>rfl
 |cons _ _ ih=>simp[ih]
theorem cO(r:RV base κ v x)(n:Ba v=true):handedIn x=true:=by cases r<;>first|rfl|cases n
end
section
inductive Zy(Γ:BG)(κ:Wd)(ce:Env)(ex:List (Addr×Obj))(fr:Fm)(σ:St)(h:Heap)(i:Nat)(C:Addr)(fs:List (Str×V))(x:Value):Prop
 |mk (a:Addr) (g:Heap) (m:Str->Option Value) (led cel im:List (Addr×Obj)) (dx:Addr) (es:List DictEntry) (n:Nat) (pre post:List (Addr×Obj)) (e1:x=.ref a) (d:DN Γ κ ex σ h g m led cel im) (nm:Lj Γ κ ce ex m cel fr) (f:Hz Γ.base κ fs es) (e2:led=pre++[(a,instObj C dx),(dx,dictOf es n)]++post) (ia:PySem.W.InstAt h a (instObj C dx) C (some (dictOf es n)))
   (L:∀o' l',OL Γ.base κ Γ.hsh o' a l'->Hg Γ.base κ Γ.hsh κ.ρ (σ.set i o') (pre++l'++post)):Zy Γ κ ce ex fr σ h i C fs x
theorem LC(ar:AR Γ κ ce ex fr σ h)(e:σ[i]?=some (.inst C fs))(r:RV Γ.base κ (.obj i) x):Zy Γ κ ce ex fr σ h i C fs x:=by
 obtain⟨g,m,led,cel,im,d,nm⟩:=ar;refine Hm (d.find e) λa l pre post h1 h2 h3 h4=>?_;cases r.oo with
 |mk hi=>
  have:=Option.some.inj (hi.symm.trans h1);subst this;cases h2 with
  |@inst _ _ dx _ es n f=>refine⟨_,g,m,led,cel,im,dx,es,n,pre,post,rfl,d,nm,f,h3,?_,h4⟩;exact PySem.W.InstAt.of_news d.N (by rw[h3];simp) (by rw[h3];simp)
set_option tactic.hygienic true in
theorem Um(C:Ef Γ A c ce)(ar:AR Γ κ ce ex fr σ h)(r:RV Γ.base κ o x)(ot:Bq Γ ce fr κ ex (RV Γ.base) (Fg c o name σ) Q E):
  wpAny Γ.M A (getAttr x name b) Q E (Γ.at h tk):=by
 cases o with
 |obj i=>
  replace ot:Bq Γ ce fr κ ex (RV Γ.base) (match σ[i]? with
  |some (.inst C fs)=>if c.own C name=true then(match fs.lookup name with
   |some v=>if Ba v=true then .ok v σ else .stuck
   |none=>.stuck) else .stuck
  |_=>.stuck) Q E:=ot
  cases e:σ[i]? with
  |none=>rw[e]at ot;exact ot.elim
  |some w=>
   rw[e]at ot;cases w with
   |dict=>exact ot.elim
   |list=>exact ot.elim
   |inst Cc fs=>
    dsimp only at ot;by_cases hc:c.own Cc name=true
    ·rw[if_pos hc]at ot;cases ev:fs.lookup name with
     |none=>rw[ev]at ot;exact ot.elim
     |some v=>
      rw[ev]at ot;dsimp only at ot;by_cases hn:Ba v=true;·rw[if_pos hn]at ot;obtain⟨a,g,m,led,cel,im,dx,es,n,pre,post,rfl,d,nm,f,_,I,_⟩:=LC ar e r;refine Au (f.get ev) λy gy ry=>?_;obtain⟨o1,o2,⟨at_,o3,o4⟩,_⟩:=C.own _ _ hc;exact get_own d.F (C.ok.X.keeps d.B.stays) I o1 o2 o3 o4 gy (cO ry hn) (AX ot .refl ar ry)
      ·rw[if_neg hn]at ot;exact ot.elim
    ·rw[if_neg hc]at ot;exact ot.elim
 |exn a v=>
  cases r.xx with
  |mk p1 p2 p3=>
   obtain⟨h1,h2,h3,k1,k2,k3,rr,t1,t2,n,rfl⟩:=p3;have I:∀es n,h.get? _=some (dictOf es n)->PySem.W.InstAt h _ (BN 91 (some _) _ _ _ _ _ _) 91 (some (dictOf es n)):=λes n e=>⟨ar.pf p1,rfl,rfl,e⟩
   have X:Γ.K.In h:=C.ok.X.keeps λ_ _ z=>ar.kept z;replace ot:Bq Γ ce fr κ ex (RV Γ.base) (if name=("cause" : Str) then .ok (.int a) σ else if name=("value" : Str) then .ok (.int v) σ else .stuck) Q E:=ot;by_cases hn:name=("cause" : Str)
   ·rw[if_pos hn]at ot;subst hn;refine NB (C.exn _ (.inl rfl)) λe1 e2 e3 e4 e5=>?_;exact PQ X (I _ _ (ar.pf p2)) e1 e2 e3 (findObj_own e4 e5 rfl rfl) rfl (AX ot .refl ar (.int _ _))
   ·rw[if_neg hn]at ot;by_cases hn:name=("value" : Str)
    ·rw[if_pos hn]at ot;subst hn;refine NB (C.exn _ (.inr rfl)) λe1 e2 e3 e4 e5=>?_;exact PQ X (I _ _ (ar.pf p2)) e1 e2 e3 (findObj_own e4 e5 rfl rfl) rfl (AX ot .refl ar (.int _ _))
    ·rw[if_neg hn]at ot;exact ot.elim
 |_=>exact ot.elim
end
section
theorem DN.turn(d:DN Γ κ ex σ h g m led cel im)(F:Fr g Γ.env.locals h' m)(N:News g Γ.env.locals h' (led'++cel++ex++im))(L:Hg Γ.base κ Γ.hsh κ.ρ σ' led')(e:led'.map (·.1)=led.map (·.1)):
  DN Γ κ ex σ' h' g m led' cel im where
 F:=F
 N:=N
 B:=d.B
 G:=d.G
 L:=L
 I:=d.I
 J:=d.J
 D:=by have:=d.D;simp only[List.map_append,e]at this⊢;exact this
 T:=λq hq=>by rw[e];exact d.T q hq
abbrev Jy:Wd->Unit->Unit->Prop:=λ_ _ _=>True
set_option tactic.hygienic true in
theorem MN(C:Ef Γ A c ce)(ar:AR Γ κ ce ex fr σ h)(r:RV Γ.base κ o x)(ry:RV Γ.base κ v y)(ot:Bq Γ ce fr κ ex Jy (Cp c o name v σ) Q E):
  wpAny Γ.M A (setAttr x name y) Q E (Γ.at h tk):=by
 cases o with
 |obj i=>
  replace ot:Bq Γ ce fr κ ex Jy (match σ[i]? with
  |some (.inst C fs)=>if(c.own C name&&decide (fs.length<100))=true then .ok () (σ.set i (.inst C (FT fs name v))) else .stuck
  |_=>.stuck) Q E:=ot
  cases e:σ[i]? with
  |none=>rw[e]at ot;exact ot.elim
  |some w=>
   rw[e]at ot;cases w with
   |dict=>exact ot.elim
   |list=>exact ot.elim
   |inst Cc fs=>
    dsimp only at ot;by_cases hc:(c.own Cc name&&decide (fs.length<100))=true
    ·rw[if_pos hc]at ot;refine D3 hc λhc hl=>?_;have hl:=of_decide_eq_true hl;obtain⟨a,g,m,led,cel,im,dx,es,n,pre,post,rfl,d,nm,f,e3,I,L⟩:=LC ar e r;obtain⟨o1,o2,⟨at_,o3,o4⟩,o5,o6,o7⟩:=C.own _ _ hc;have el:led++cel++ex++im=(pre++[(a,instObj Cc dx)])++(dx,dictOf es n)::(post++cel++ex++im):=by rw[e3];simp
     refine set_dict d.F (C.ok.X.keeps d.B.stays) d.N I rfl o5 o6 o7 o2 (f.some name) rfl (by rw[el];exact Pq (by rw[<-el];exact d.D)) ?_ (λh' F' N'=>?_);·have h1:=(f.put name (PyData.keyHash Γ.w.params name) (tk+1) ry).len;have h2:=Nm name v fs;exact Nat.le_trans (Nat.le_of_eq h1) (by lia)
     ·refine ot κ h' _ _ .refl ⟨g,m,pre++[(a,instObj Cc dx),(dx,_)]++post,cel,im,d.turn F' (by simpa using N') (L _ _ (.inst (f.put name _ _ ry))) (by rw[e3];simp),nm⟩ trivial
    ·rw[if_neg hc]at ot;exact ot.elim
 |_=>exact ot.elim
noncomputable def MB(Γ:BG)(f:Value):Prop:=keepIn Γ.K f=true\/∀a,f≠.ref a
theorem TV(k:MB Γ f)(h:Heap)(X:Γ.K.In h):∃k,(k=Keeper.frame\/k=Keeper.machine\/k=Keeper.boundFrame)/\Looks Γ.M h (keeperOf f) k:=by
 rcases k with k|k;·exact keeps_K k h X
 ·refine⟨.machine,.inr (.inl rfl),Looks.of_pure ?_⟩;cases f<;>first|rfl|exact absurd rfl (k _)
theorem En(k:MB Γ f)(hp:xs.all CV=true)
  (hw:wpAny Γ.M A (spliced (backTo pos (starEach xs ce))) (λvs s₁=>Γ.K.In s₁.heap/\wpAny Γ.M A (call f (first++vs)) Q E s₁) E s):wpAny Γ.M A (callWith pos f first (backTo pos (starEach xs ce)) []) Q E s:=by
 refine callWith_of (P:=Γ.K.In) (by rw[Fy pos hp];rfl) (λh X=>TV k h X) ?_;cases xs with
 |nil=>unfold evalArgs;show wpAny Γ.M A (spliced [] >>= _) _ E s;refine wpAny_bind (wpAny_bind (wpAny_mono hw (λvs s' h'=>?_) λ_ _ x=>x));exact wpAny_pure (wpAny_holding (wpAny_bind (wpAny_pure (wpAny_bind (wpAny_pure (wpAny_pure h'))))))
 |cons e r=>simp only[List.all_cons,Bool.and_eq_true]at hp;rw[Gv hp.1]at hw⊢;exact evalArgs_plain hw
abbrev ZP(Γ:BG)(x:Value):Wd->Value->Value×List Value->Prop:=λ_ f p=>p=(f,[x])/\MB Γ f
inductive ZW(Γ:BG)(κ:Wd)(ce:Env)(ex:List (Addr×Obj))(fr:Fm)(σ:St)(h:Heap)(i:Nat)(es:List (V×V))(n:Nat)(x:Value):Prop
 |mk (a:Addr) (g:Heap) (m:Str->Option Value) (led cel im:List (Addr×Obj)) (ds:List DictEntry) (pre post:List (Addr×Obj)) (e1:x=.ref a) (d:DN Γ κ ex σ h g m led cel im) (nm:Lj Γ κ ce ex m cel fr) (f:Eh Γ.base κ Γ.hsh es ds) (ka:(es.map (·.1)).all B3=true) (nd:(es.map (·.1)).Nodup) (e2:led=pre++[(a,dictOf ds n)]++post) (hd:h.get? a=some (dictOf ds n))
   (L:∀o' l',OL Γ.base κ Γ.hsh o' a l'->Hg Γ.base κ Γ.hsh κ.ρ (σ.set i o') (pre++l'++post)):ZW Γ κ ce ex fr σ h i es n x
inductive ZN(Γ:BG)(κ:Wd)(ce:Env)(ex:List (Addr×Obj))(fr:Fm)(σ:St)(h:Heap)(i:Nat)(vs:List V)(x:Value):Prop
 |mk (a:Addr) (g:Heap) (m:Str->Option Value) (led cel im:List (Addr×Obj)) (xs:List Value) (n:Nat) (pre post:List (Addr×Obj)) (e1:x=.ref a) (d:DN Γ κ ex σ h g m led cel im) (nm:Lj Γ κ ce ex m cel fr) (f:Bo Γ.base κ vs xs) (e2:led=pre++[(a,PySem.W.listOf xs.toArray n)]++post) (hd:h.get? a=some (PySem.W.listOf xs.toArray n))
   (L:∀o' l',OL Γ.base κ Γ.hsh o' a l'->Hg Γ.base κ Γ.hsh κ.ρ (σ.set i o') (pre++l'++post)):ZN Γ κ ce ex fr σ h i vs x
theorem Cj(ar:AR Γ κ ce ex fr σ h)(e:σ[i]?=some (.dict es n))(r:RV Γ.base κ (.obj i) x):ZW Γ κ ce ex fr σ h i es n x:=by
 obtain⟨g,m,led,cel,im,d,nm⟩:=ar;refine Hm (d.find e) λa l pre post h1 h2 h3 h4=>?_;cases r.oo with
 |mk hi=>
  have:=Option.some.inj (hi.symm.trans h1);subst this;cases h2 with
  |@dict _ _ ds n f k nd=>exact⟨_,g,m,led,cel,im,ds,pre,post,rfl,d,nm,f,k,nd,h3,(d.N (_,dictOf ds n) (by rw[h3];simp)).1,h4⟩
theorem FZ(ar:AR Γ κ ce ex fr σ h)(e:σ[i]?=some (.list vs))(r:RV Γ.base κ (.obj i) x):ZN Γ κ ce ex fr σ h i vs x:=by
 obtain⟨g,m,led,cel,im,d,nm⟩:=ar;refine Hm (d.find e) λa l pre post h1 h2 h3 h4=>?_;cases r.oo with
 |mk hi=>
  have:=Option.some.inj (hi.symm.trans h1);subst this;cases h2 with
  |@list _ _ xs n f=>exact⟨_,g,m,led,cel,im,xs,n,pre,post,rfl,d,nm,f,h3,(d.N (_,PySem.W.listOf xs.toArray n) (by rw[h3];simp)).1,h4⟩
set_option tactic.hygienic true in
theorem VC(C:Ef Γ A c ce)(ar:AR Γ κ ce ex fr σ h)(r:RV Γ.base κ o x)(ot:Bq Γ ce fr κ ex (ZP Γ x) (Ed c o name σ) Q E):
  wpAny Γ.M A (getMethod x name pl) Q E (Γ.at h tk):=by
 cases o with
 |obj i=>
  replace ot:Bq Γ ce fr κ ex (ZP Γ x) (match σ[i]? with
  |some (.inst C fs)=>(match fs.lookup name with|none=>Af (c.meth C name) σ|some _=>.stuck)
  |some (.dict _ _)=>if name=("get" : Str) then .ok (.builtin "dict.get") σ else if name=("pop" : Str) then .ok (.builtin "dict.pop") σ else .stuck
  |some (.list _)=>if name=("append" : Str) then .ok (.builtin "list.append") σ else .stuck
  |_=>.stuck) Q E:=ot
  cases e:σ[i]? with
  |none=>rw[e]at ot;exact ot.elim
  |some w=>
   rw[e]at ot;cases w with
   |inst Cc fs=>
    dsimp only at ot;cases e2:fs.lookup name with
    |some=>rw[e2]at ot;exact ot.elim
    |none=>rw[e2]at ot;refine Au (Co ot) λf ef ot=>?_;obtain⟨a,g,m,led,cel,im,dx,es,n,pre,post,rfl,d,nm,f',e3,I,L⟩:=LC ar e r;refine pS (C.meth _ _ _ ef) λb eqq1 o1 o2 o3 o4=>?_;subst eqq1;exact method_inst d.F (C.ok.X.keeps d.B.stays) I o1 o2 o3 (f'.miss e2) (AX ot .refl ar ⟨rfl,.inl o4⟩)
   |dict es n=>
    dsimp only at ot;obtain⟨a,g,m,led,cel,im,ds,pre,post,rfl,d,nm,f',_,_,e3,ea,L⟩:=Cj ar e r;have ty:(Γ.at h tk).TypeIs (.ref a) "dict" := ⟨_,ea,rfl⟩
    by_cases hn:name=("get" : Str)
    ·rw[if_pos hn]at ot;subst hn;exact getMethod_builtin ty PySem.F.plainAttrs_dict PySem.F.slot_dict_get PySem.F.type_dict_get (λb hb=>⟨_,by cases hb;exact ea,rfl⟩) (AX ot .refl ar ⟨rfl,.inr λ_=>nofun⟩)
    ·rw[if_neg hn]at ot;by_cases hn:name=("pop" : Str)
     ·rw[if_pos hn]at ot;subst hn;exact getMethod_builtin ty PySem.F.plainAttrs_dict PySem.F.slot_dict_pop PySem.F.type_dict_pop (λb hb=>⟨_,by cases hb;exact ea,rfl⟩) (AX ot .refl ar ⟨rfl,.inr λ_=>nofun⟩)
     ·rw[if_neg hn]at ot;exact ot.elim
   |list vs=>
    dsimp only at ot;obtain⟨a,g,m,led,cel,im,xs,n,pre,post,rfl,d,nm,f',e3,ea,L⟩:=FZ ar e r;have ty:(Γ.at h tk).TypeIs (.ref a) "list" := ⟨_,ea,rfl⟩
    by_cases hn:name=("append" : Str)
    ·rw[if_pos hn]at ot;subst hn;exact getMethod_builtin ty PySem.F.plainAttrs_list PySem.F.slot_list_append PySem.F.type_list_append (λb hb=>⟨_,by cases hb;exact ea,rfl⟩) (AX ot .refl ar ⟨rfl,.inr λ_=>nofun⟩)
    ·rw[if_neg hn]at ot;exact ot.elim
 |_=>exact ot.elim
theorem Nk(hn:CP o=true):attributeBase o attr ce whole=whole:=by cases o<;>first|rfl|cases hn
theorem U7(C:Ef Γ A c ce)(ho:Bd Γ A c ce fr o):Bd Γ A c ce fr (.Attribute o name pos):=by
 intro κ ex σ h tk Q E ar ot;replace ot:Bq Γ ce fr κ ex (RV Γ.base) ((if CP o=true then Aa (ev o c fr) λov=>Fg c ov name else AB) σ) Q E:=ot;by_cases hg:CP o=true
 ·rw[if_pos hg]at ot;refine Attribute_any_ (ho.use ar (AA ot λu σ₁ _ κ₁ h₁ tk₁ y q₁ ar₁ ry o₁=>Um C ar₁ ry o₁)) ?_;show(do
   let ov<-attributeBase o name ce (eval o ce)
   standAt pos.atName
   let r<-holding [ov] (getAttr ov name true)
   letTemporaryGo o ov r
   pure r)=_
  rw[Nk hg]
 ·rw[if_neg hg]at ot;exact ot.elim
theorem Sa(C:Ef Γ A c ce)(hk:c.kind x=some .globalImplicit)(eu:EH c fr x σ=.ok (V.glob y) σ₁)(it:Hc y=false):MB Γ y:=by
 unfold EH Eb at eu;rw[hk]at eu;by_cases hq:(!(x==("__debug__" : Str)))=true
 ·rw[if_pos hq]at eu;cases e:c.glb x with
  |none=>rw[e]at eu;cases eu
  |some w=>rw[e]at eu;exact C.gkeep _ _ (e.trans (congrArg some (C6.ok.inj eu).1)) it
 ·rw[if_neg hq]at eu;cases eu
theorem SU(hp:xs.all CV=true)(hl:xs.length<29):methodCallForm (xs.length+([]:List Keyword).length) (backTo pos (starEach xs ce)) (backToKw pos (keywordEach [] ce))=true:=by
 unfold methodCallForm;have e1:(backTo pos (starEach xs ce)).all (λx => !x.1)=true:=by
  have:=Fy (ce:=ce) pos hp;rw[List.all_eq_true];intro x hx;have:=List.any_eq_false.mp this x hx
  simpa using this
 rw[e1];show(true&&true&&decide (xs.length+0+0<30))=true;exact decide_eq_true (Nat.lt_succ_of_lt hl)
theorem X7(h1:(ap.endLine==pos.line)=true)(h2:CP o=true)(hp:xs.all CV=true)(hl:xs.length<29):
  eval (.Call (.Attribute o name ap) xs [] pos) ce=(do
   let ov<-eval o ce
   standAt ap.atName
   let(f,first)<-holding [ov] (getMethod ov name (do return (<-importBound o ce).getD true))
   callWith pos f first (backTo pos (starEach xs ce)) []):=by
 show(do
  let ov<-attributeBase o name ce (eval o ce)
  standAt ap.atName
  methodCall o name ap pos ce ov (xs.length+([]:List Keyword).length) (backTo pos (starEach xs ce)) (backToKw pos (keywordEach [] ce)))=_
 rw[Nk h2];congr 1;funext ov;congr 1;funext _;unfold methodCall;have e2:methodCallPos true o ce ap pos=pure pos:=by unfold methodCallPos;simp[h1]
 rw[SU hp hl,e2];rfl
theorem TK:Aa (Aa (ev o c fr) λov=>Aa (Ed c ov name) λf=>ret (B4.meth f ov)) (λg=>Aa (GX xs c fr) λvs=>DB c g vs)=Aa (ev o c fr) (λov=>Aa (Ed c ov name) λf=>Aa (GX xs c fr) λvs=>c.call f (ov::vs)):=by rw[B1];congr 1;funext ov;rw[B1];rfl
theorem QA(C:Ef Γ A c ce)(hs:∀e∈xs,Bd Γ A c ce fr e)(ho:Bd Γ A c ce fr o)(hpl:c.plain=true)(h1:(ap.endLine==pos.line)=true)(h2:CP o=true)(hp:xs.all CV=true)(hl:xs.length<29):
  S0 Γ A ce fr (RV Γ.base) (eval (.Call (.Attribute o name ap) xs [] pos) ce) (Aa (Aa (ev o c fr) λov=>Aa (Ed c ov name) λf=>ret (B4.meth f ov)) (λg=>Aa (GX xs c fr) λvs=>DB c g vs)):=by
 intro κ ex σ h tk Q E ar ot;rw[TK]at ot;refine MethodCall_ (pl:=(do return (<-importBound o ce).getD true)) (ho.use ar (AA ot λu σ₁ _ κ₁ h₁ tk₁ y q₁ ar₁ ry o₁=>?_)) (X7 h1 h2 hp hl);refine VC C ar₁ ry (AA o₁ λf σ₂ _ κ₂ h₂ tk₂ p q₂ ar₂ rp o₂=>?_);refine AG rp λeqq0 kf=>?_;subst eqq0;refine En kf hp ((ES pos xs hs hp).use ar₂ (AA o₂ λvs σ₃ _ κ₃ h₃ tk₃ ys q₃ ar₃ rs o₃=>?_));exact⟨C.ok.X.keeps λ_ _ z=>ar₃.kept z,C.call hpl Γ.keep ce fr f _ _ κ₃ ex σ₃ h₃ tk₃ Q E C.env ar₃ (.cons (ry.le (q₂.trans q₃)) rs) o₃⟩
theorem RA(C:Ef Γ A c ce)(hs:∀e∈xs,Bd Γ A c ce fr e)(hpl:c.plain=true)(hk:c.kind x=some .globalImplicit)(hp:xs.all CV=true):
  S0 Γ A ce fr (RV Γ.base) (eval (.Call (.Name x p) xs [] pos) ce) (Aa (Aa (EH c fr x) I2) (λg=>Aa (GX xs c fr) λvs=>DB c g vs)):=by
 intro κ ex σ h tk Q E ar ot;rw[B1]at ot;show wpAny Γ.M A (do callWith pos (<-eval (.Name x p) ce) [] (backTo pos (starEach xs ce)) (backToKw pos (keywordEach [] ce))) Q E _;refine wpAny_bind ((MZ C:Bd Γ A c ce fr (.Name x p)).use ar (AA ot λu σ₁ eu κ₁ h₁ tk₁ y q₁ ar₁ ry o₁=>?_));cases u with
 |glob y'=>
  cases ry.gg;replace o₁:Bq Γ ce fr κ₁ ex (RV Γ.base) (Aa (if Hc y=true then AB else ret (.plain y)) (λg=>Aa (GX xs c fr) λvs=>DB c g vs) σ₁) Q E:=o₁;cases it:Hc y with
  |true=>rw[it]at o₁;exact o₁.elim
  |false=>rw[it]at o₁;replace o₁:Bq Γ ce fr κ₁ ex (RV Γ.base) (Aa (GX xs c fr) (λvs=>c.call y vs) σ₁) Q E:=o₁;refine En (Sa C hk eu it) hp ((ES pos xs hs hp).use ar₁ (AA o₁ λvs σ₃ _ κ₃ h₃ tk₃ ys q₃ ar₃ rs o₃=>?_));exact⟨C.ok.X.keeps λ_ _ z=>ar₃.kept z,C.call hpl Γ.keep ce fr _ _ _ κ₃ ex σ₃ h₃ tk₃ Q E C.env ar₃ rs o₃⟩
 |_=>exact o₁.elim
inductive XA:Expr->Prop
 |at_ (o:Expr) (n:Str) (p:Pos):XA (.Attribute o n p)
 |nm (x:Str) (p:Pos):XA (.Name x p)
 |no (f:Expr) (h:∀c fr,bC f c fr=AB):XA f
theorem mN(f:Expr):XA f:=by
 cases f with
 |Attribute o n p=>exact .at_ o n p
 |Name x p=>exact .nm x p
 |_=>exact .no _ λ_ _=>rfl
theorem Vq(C:Ef Γ A c ce)(hs:∀e∈xs,Bd Γ A c ce fr e)(hf:∀o name ap,f=.Attribute o name ap->Bd Γ A c ce fr o):Bd Γ A c ce fr (.Call f xs kw pos):=by
 intro κ ex σ h tk Q E ar ot;replace ot:Bq Γ ce fr κ ex (RV Γ.base) ((if(c.plain&&kw.isEmpty&&O2 f pos&&argsOk xs)=true then Aa (bC f c fr) λg=>Aa (GX xs c fr) λvs=>DB c g vs else AB) σ) Q E:=ot;by_cases hg:(c.plain&&kw.isEmpty&&O2 f pos&&argsOk xs)=true
 ·rw[if_pos hg]at ot;refine D3 hg λhg ha=>?_;refine D3 hg λhg hc=>?_;refine D3 hg λhpl hk=>?_;cases kw with
  |cons=>exact DA hk
  |nil=>
  refine D3 ha λhp hl=>?_;have hl:=of_decide_eq_true hl;cases mN f with
  |at_ o name ap=>refine D3 hc λh1 h2=>?_;exact QA C hs (hf _ _ _ rfl) hpl h1 h2 hp hl κ ex σ h tk Q E ar ot
  |nm x p=>
   replace ot:Bq Γ ce fr κ ex (RV Γ.base) (Aa (if c.kind x=some .globalImplicit then Aa (EH c fr x) I2 else AB) (λg=>Aa (GX xs c fr) λvs=>DB c g vs) σ) Q E:=ot;by_cases hk:c.kind x=some .globalImplicit;·rw[if_pos hk]at ot;exact RA C hs hpl hk hp κ ex σ h tk Q E ar ot
   ·rw[if_neg hk]at ot;exact ot.elim
  |no _ hn=>rw[hn]at ot;exact ot.elim
 ·rw[if_neg hg]at ot;exact ot.elim
end
set_option backward.match.sparseCases true
section
section
variable{Γ Γ':BG}
structure Vu(Γ Γ':BG)(h:Heap)(led:List (Addr×Obj))(κ:Wd):Prop where
 base:Γ'.base=Γ.base
 outer:Γ'.outer=Γ.env::Γ.outer
 h₀:Γ'.h₀=h
 trk:Γ'.trk=led
 im₀:Γ'.im₀=κ.im
 hsh:Γ'.hsh=Γ.hsh
theorem Vt(hf:Γ.env.frame=some Γ.env.locals)(hm:b∈(Γ.env::Γ.outer).filterMap (·.frame)):b=Γ.env.locals\/b∈Γ.fs:=Cf hm hf
theorem O0(ok:Γ.Ok)(u:Vu Γ Γ' h led κ)(d:DN Γ κ ex σ h g m led cel im)(nm:Lj Γ κ ce ex m cel fr)(R:Sn Γ.base (Γ.env::Γ.outer) h led)(q:κ.Le κ')
  (d':DN Γ' κ' ex' σ' h' g' m' led' cel' im') (bad:List Addr) (b1:∀q∈led'++im',q.1∉bad) (b2:∀b o,g'.get? b=some o->b∉bad) (hk:∀b o,b∉bad->h'.get? b=some o->H.get? b=some o) :
  AR Γ κ' ce ex fr σ' H:=by
 obtain⟨eb,eo,eh,et,ei,es⟩:=u;have efs:Γ'.fs=(Γ.env::Γ.outer).filterMap (·.frame):=by unfold BG.fs;rw[eo]
 have G':=d'.G;rw[eh,et,efs]at G';have B':=d'.B;rw[eb,eo]at B';have up:∀b o,h.get? b=some o->b∉led.map (·.1)->(b∉(Γ.env::Γ.outer).filterMap (·.frame)->g'.get? b=some o)/\∃sl,g'.get? b=some {o with slots:=sl}:=G';have toH:∀b o,g'.get? b=some o->H.get? b=some o:=λb o e=>hk b o (b2 b o e) (d'.F.keep b o e);have S:qF Γ.base (Γ.env::Γ.outer) (led.map (·.1)) h H:={
  stays:=λb o e=>toH _ _ (B'.stays _ _ e)
  frames:=B'.frames.of_keeps λb o e _=>⟨o,toH b o e,rfl⟩
  keep:=λb o e nm' nf=>toH _ _ ((up b o e nm').1 nf)
  up:=λb o e hf=>by
   have nt:b∉led.map (·.1):=λz=>by refine Au (List.mem_map.mp z) λp hp eqq2=>?_;subst eqq2;exact(R p hp).2.2 hf
   refine AG (up b o e nt) λ_ Hx=>?_;obtain⟨sl,y⟩:=Hx;exact⟨sl,toH _ _ y⟩}
 obtain⟨g₂,T₂,F₂,B₂,k₂,n₂⟩:=pP (s:=Γ.at h 0) d.B d.F d.N ok.frame S (λa ha=>by refine Au (List.mem_map.mp ha) λp hp eqq2=>?_;subst eqq2;exact List.mem_map.mpr ⟨p,by simp[hp],rfl⟩);have inn:∀b o,g.get? b=some o->∃o',g'.get? b=some o':=λb o e=>by
  have eh':=d.F.keep b o e;obtain⟨_,sl,y⟩:=up b o eh' λz=>by refine Au (List.mem_map.mp z) λp hp eqq2=>?_;subst eqq2;rw[(d.N p (by simp[hp])).2.2]at e;cases e
  exact⟨_,y⟩
 have innL:∃o',g'.get? Γ.env.locals=some o':=by
  obtain⟨oL,_,_,hL,_⟩:=d.F.ns;obtain⟨_,sl,y⟩:=up _ oL hL λz=>by refine Au (List.mem_map.mp z) λp hp e=>?_;exact(d.N p (by simp[hp])).2.1 e
  exact⟨_,y⟩
 have newG:∀q∈led'++im',q.1≠Γ.env.locals/\g.get? q.1=none/\g'.get? q.1=none:=λp hp=>by
  have z:=(d'.N p (by simp only[List.mem_append]at hp⊢;rcases hp with hp|hp<;>simp[hp])).2.2;refine⟨λe=>?_,?_,z⟩;·refine AP innL λo' y=>?_;rw[e,y]at z;cases z
  ·cases e:g.get? p.1 with
   |none=>rfl
   |some o=>refine AP (inn _ _ e) λo' y=>?_;rw[y]at z;cases z
 have own:∀p∈cel++ex++im,p.1∉led.map (·.1):=λp hp z=>by have D:=d.D;rw[List.append_assoc,List.append_assoc,List.map_append,List.nodup_append]at D;exact D.2.2 _ z _ (List.mem_map.mpr ⟨p,by simpa using hp,rfl⟩) rfl
 have ownG:∀p∈cel++ex++im,∃o',g'.get? p.1=some o':=λp hp=>by refine AG (up p.1 p.2 (d.N p (by simp only[List.mem_append]at hp⊢;rcases hp with (hp|hp)|hp<;>simp[hp])).1 (own p hp)) λ_ Hx=>?_;obtain⟨sl,y⟩:=Hx;exact⟨_,y⟩
 refine⟨g₂,m,led',cel,im++im',⟨F₂,λp hp=>?_,B₂,d.G.turn T₂,?_,?_,?_,?_,?_⟩,nm.le q⟩
 ·have hp':p∈led'++im'\/p∈cel++ex++im:=by
   simp only[List.mem_append]at hp⊢;rcases hp with ((hp|hp)|hp)|hp|hp;·exact .inl (.inl hp)
   ·exact .inr (.inl (.inl hp))
   ·exact .inr (.inl (.inr hp))
   ·exact .inr (.inr hp)
   ·exact .inl (.inr hp)
  rcases hp' with hp'|hp';·have z:=d'.N p (by simp only[List.mem_append]at hp'⊢;rcases hp' with hp'|hp' <;>simp[hp']);refine B0 (newG p hp') λn1 n2 _=>?_;exact⟨hk _ _ (b1 p hp') z.1,n1,T₂.none_ _ n2⟩
  ·have hm:p∈led++cel++ex++im:=by simp only[List.mem_append]at hp'⊢;rcases hp' with (hp'|hp')|hp' <;>simp[hp']
   exact⟨k₂ p hm (own p hp'),n₂ p hm⟩
 ·have:=d'.L;rw[eb,es]at this;exact this
 ·intro p hp;rcases d'.I p hp with z|z;·exact .inl (List.mem_append_right _ z)
  ·rw[ei]at z;exact(d.I p z).imp (λy=>List.mem_append_left _ y) id
 ·intro p hp;exact⟨T₂.other _ _ (d.J p hp).1 (d.J p hp).2,(d.J p hp).2⟩
 ·have D1:((led'++im').map (·.1)).Nodup:=by
   have D:=d'.D;have sub:(led'++im').Sublist (led'++cel'++ex'++im'):=by rw[List.append_assoc,List.append_assoc];exact List.Sublist.append (List.Sublist.refl _) (by rw[<-List.append_assoc];exact List.sublist_append_right _ _)
   exact List.Nodup.sublist (sub.map _) D
  have D2:((cel++ex++im).map (·.1)).Nodup:=by
   have D:=d.D;have sub:(cel++ex++im).Sublist (led++cel++ex++im):=by rw[List.append_assoc,List.append_assoc,List.append_assoc];exact List.sublist_append_right _ _
   exact List.Nodup.sublist (sub.map _) D
  have perm:(led'++cel++ex++(im++im')).Perm ((led'++im')++(cel++ex++im)):=by rw[List.append_assoc led',List.append_assoc led',<-List.append_assoc (cel++ex) im im',List.append_assoc led' im'];exact List.Perm.append_left _ List.perm_append_comm
  refine((perm.map _).nodup_iff).mpr ?_;rw[List.map_append,List.nodup_append];refine⟨D1,D2,λa ha b hb e=>?_⟩;subst e;refine Au (List.mem_map.mp ha) λp hp eqq2=>?_;subst eqq2;refine Au (List.mem_map.mp hb) λr hr e=>?_;refine AP (ownG r hr) λo' y=>?_;have:=(newG p hp).2.2;rw[<-e,y]at this;cases this
 ·intro p hp;refine Au (List.mem_map.mp (d.T p hp)) λr hr e=>?_;rw[<-e];exact d'.T r (by rw[et];exact hr)
end
end
section
section
variable{K:Frag}
theorem HC
  (hA:A.frames=some outer) (W:V6 base outer s.heap) (X:K.In base) (T:base.NoLimit) (R:Sn base outer s.heap trk)
  (ho:K.lookup f=some ⟨oc,od,.func (fnOf name qual params body scope dV kV doc pm an cdv ct),osl⟩) (hcd:codeIn K cdv qual=true) (hroom:A.depth<recursionLimit)
  (hbind:BindsTo s (fnOf name qual params body scope dV kV doc pm an cdv ct) ⟨vals,[]⟩ binds) (hkind:(binds.all λy=>scope.names.lookup y.1==some .local||scope.names.lookup y.1==some .cell)=true)
  (hnd:((cellsFrom 0 scope.names []).map (·.1)).Nodup)
  (h:∀g L' h₁ tk cells,(∀b o,s.heap.get? b=some o->b∉trk.map (·.1)->g.get? b=some o)->g.StaysIn s.heap->Fr g L' h₁ (bindL (envOfC qual scope L' f cdv).kindOf binds λ_=>none)->News g L' h₁ (cells++trk)->
   CellsAre (bindC (envOfC qual scope L' f cdv).kindOf binds λ_=>none) (cellsFrom (L'+1) scope.names []) cells->Below A base outer g->
   (∀q∈trk,q.1<L')->
   wpAny (model prog w) (A.deeper (envOfC qual scope L' f cdv)) (execs body (envOfC qual scope L' f cdv))
    (λfl s'=>R₀ (.ok (.ret (match fl with|.ret v=>v|_=>.none))) s')
    (λe s'=>wpAny (model prog w) (A.deeper (envOfC qual scope L' f cdv)) (leaving (envOfC qual scope L' f cdv) e) (λ_ s''=>R₀ (.error e) s'') (λe' s''=>R₀ (.error e') s'') s')
    {s with heap:=h₁,toks:=tk})
  (hco:scope.isCoroutine=false) (hgen:scope.isGenerator=false) (hk:scope.kind=.function):codeAny (model prog w) A (.call (.ref f) ⟨vals,[]⟩) R₀ s:=by
 have off:∀b o,base.get? b=some o->b∉trk.map (·.1):=λb o e q=>by refine Au (List.mem_map.mp q) λq' hq eqq2=>?_;subst eqq2;rw[(R q' hq).2.1]at e;cases e
 have st:base.StaysIn (hideAll s.heap (trk.map (·.1))):=λb o e=>hideAll_get _ (W.stays b o e) (off b o e);have B:Below A base outer (hideAll s.heap (trk.map (·.1))):=⟨hA,st,funFrames_hideAll W.frames λe he b hb hf=>by refine Au (List.mem_map.mp hb) λq hq eqq2=>?_;subst eqq2;exact(R q hq).2.2 (List.mem_filterMap.mpr ⟨e,he,hf⟩)⟩
 refine codeAny_call_function hroom (W.stays _ _ (X _ _ ho)) rfl hco hgen rfl (codeRec_of (X.keeps W.stays) hcd) (hbind _ _ _ _ ?_);refine wpAny_newFunctionEnv_cells hk (kindsX hkind _) λenv' he s' x=>?_;subst he;refine⟨(T.keeps W.stays).keeps x.toInCall.keep,codeAny_func ?_⟩;refine CX x.done λh₁ tk eqq2 _=>?_;subst eqq2;have hk₁:=x.toInCall.keep;refine Au (Cl.news (h₀:=s.heap) (Nat.le_refl _) λn c hm=>⟨x.cell n c (lookup_of_mem_nodup (cellsFrom_names scope.names 0 (s.heap.objs.size+1) [] [] rfl▸hnd) hm),x.above n c hm⟩) λcells NC Y=>?_;refine h _ s.heap.objs.size h₁ tk cells (λb o e nb=>hideAll_get _ e nb) (λb o e=>of_hideAll _ e) ⟨x.toInCall.ns,λb o e=>hk₁ b o (of_hideAll _ e),Nat.le_of_eq (hideAll_size _ _)⟩ (λq hq=>?_) Y B (λq hq=>Heap.lt_size (R q hq).1);rcases List.mem_append.mp hq with hq|hq
 ·refine⟨(NC q hq).1,(NC q hq).2.1,?_⟩;cases e:(hideAll s.heap (trk.map (·.1))).get? q.1 with
  |none=>rfl
  |some o=>have:=of_hideAll _ e;rw[(NC q hq).2.2]at this;cases this
 ·exact⟨hk₁ _ _ (R q hq).1,Nat.ne_of_lt (Heap.lt_size (R q hq).1),hideAll_none _ (List.mem_map_of_mem hq)⟩
end
set_option genSizeOf false in
set_option genInjectivity false in
set_option genCtorIdx false in
structure BQ where
 f:Addr
 n:Nat
 qual:Str
 ps:List Str
 dfl:List V
 body:List Stmt
 scope:Scope
structure AS(K:Frag)(fe:BQ):Prop where
 at_:∃(name:Str) (params:Arguments) (dV kV doc pm cdv ct oc:Value) (an od:Option Addr) (osl:Array (Option Value)),
  K.lookup fe.f=some ⟨oc,od,.func (fnOf name fe.qual params fe.body fe.scope dV kV doc pm an cdv ct),osl⟩/\codeIn K cdv fe.qual=true/\
  ∀(s:Shared) (vals:List Value),K.In s.heap->vals.length=fe.n->∃dv,(∀base κ,Bo base κ fe.dfl dv)/\BindsTo s (fnOf name fe.qual params fe.body fe.scope dV kV doc pm an cdv ct) ⟨vals,[]⟩ (fe.ps.zip (vals++dv))
 co:fe.scope.isCoroutine=false
 gen:fe.scope.isGenerator=false
 kind:fe.scope.kind=.function
 kinds:fe.ps.all (λx=>fe.scope.names.lookup x==some .local||fe.scope.names.lookup x==some .cell)=true
 nd:((cellsFrom 0 fe.scope.names []).map (·.1)).Nodup
 all:∀x,fe.scope.names.lookup x=some .cell->((cellsFrom 0 fe.scope.names []).lookup x).isSome=true
 len:fe.ps.length=fe.n+fe.dfl.length
 psnd:fe.ps.Nodup
theorem Vc{k:Str->Option NameKind}{x:Str}(hx:k x=some .local){base:Heap}{κ:Wd}{ps:List Str}:∀{vs:List V}{xs:List Value}{m:Str->Option Value},ps.Nodup->Bo base κ vs xs->∀{v:V},(ps.zip vs).lookup x=some v->∃y,bindL k (ps.zip xs) m x=some y/\RV base κ v y:=by
 have miss:∀{ps:List Str}{xs:List Value}{m:Str->Option Value},x∉ps->bindL k (ps.zip xs) m x=m x:=by
  intro ps;induction ps with
  |nil=>intro xs m _;rfl
  |cons a ps ih=>
   intro xs m hn;cases xs with
   |nil=>rfl
   |cons b xs=>
    simp only[List.zip_cons_cons,bindL];rw[ih (λz=>hn (.tail _ z))];have ne:x≠a:=λz=>hn (z▸.head _);split;·exact if_neg ne
    ·rfl
 induction ps with
 |nil=>intro vs xs m _ _ v e;simp at e
 |cons p ps ih=>
  intro vs xs m nd rs v e;cases rs with
  |nil=>simp at e
  |@cons v₀ y vs xs r rs=>
   rw[List.nodup_cons]at nd;simp only[List.zip_cons_cons,bindL];simp only[List.zip_cons_cons,List.lookup_cons]at e;by_cases q:x=p;·subst q;simp only[beq_self_eq_true,Option.some.injEq]at e;subst e;rw[if_pos hx,miss nd.1];exact⟨y,if_pos rfl,r⟩
   ·have:(x==p)=false:=by simpa using q
    rw[this]at e;exact ih nd.2 rs e
theorem U3{k:Str->Option NameKind}{x:Str}(hx:k x=some .cell){base:Heap}{κ:Wd}{ps:List Str}:∀{vs:List V}{xs:List Value}{m:Str->Option Value},ps.Nodup->Bo base κ vs xs->∀{v:V},(ps.zip vs).lookup x=some v->∃y,bindC k (ps.zip xs) m x=some y/\RV base κ v y:=by
 have miss:∀{ps:List Str}{xs:List Value}{m:Str->Option Value},x∉ps->bindC k (ps.zip xs) m x=m x:=by
  intro ps;induction ps with
  |nil=>intro xs m _;rfl
  |cons a ps ih=>
   intro xs m hn;cases xs with
   |nil=>rfl
   |cons b xs=>
    simp only[List.zip_cons_cons,bindC];rw[ih (λz=>hn (.tail _ z))];have ne:x≠a:=λz=>hn (z▸.head _);split;·rfl
    ·exact if_neg ne
 induction ps with
 |nil=>intro vs xs m _ _ v e;simp at e
 |cons p ps ih=>
  intro vs xs m nd rs v e;cases rs with
  |nil=>simp at e
  |@cons v₀ y vs xs r rs=>
   rw[List.nodup_cons]at nd;simp only[List.zip_cons_cons,bindC];simp only[List.zip_cons_cons,List.lookup_cons]at e;by_cases q:x=p;·subst q;simp only[beq_self_eq_true,Option.some.injEq]at e;subst e;rw[if_neg (by rw[hx];simp),miss nd.1];exact⟨y,if_pos rfl,r⟩
   ·have:(x==p)=false:=by simpa using q
    rw[this]at e;exact ih nd.2 rs e
theorem Mz{cells:List (Addr×Obj)}(H:CellsAre cm cs cells):(cs.lookup x).isSome=true->∃a o,cs.lookup x=some a/\(a,o)∈cells/\o.data=.cell (cm x):=by
 induction H with
 |nil=>intro e;cases e
 |@cons n c o cs cells d r ih=>
  intro e;rw[List.lookup_cons]at e⊢;by_cases q:x=n;·subst q;rw[beq_self_eq_true];exact⟨c,o,rfl,.head _,d⟩
  ·have:(x==n)=false:=beq_false_of_ne q;rw[this]at e⊢;refine Cz (ih e) λa o h1 h2 h3=>?_;exact⟨a,o,h1,.tail _ h2,h3⟩
theorem Dx(k:Nat):∀(names:List (Str×NameKind)) (n:Nat) (acc:List (Str×Addr)),cellsFrom (n+k) names (acc.map λp=>(p.1,p.2+k))=(cellsFrom n names acc).map λp=>(p.1,p.2+k)
 |[],_,_=>rfl
 |(x,kd)::r,n,acc=>by
  unfold cellsFrom;split
  ·have:=Dx k r (n+1) ((x,n)::acc);rw[<-this];have e:n+1+k=n+k+1:=by omega
   rw[e];rfl
  ·exact Dx k r n acc
theorem FI:∀{l:List (Str×Addr)},((l.map λp=>(p.1,p.2+k)).lookup x).isSome=(l.lookup x).isSome
 |[]=>rfl
 |(y,a)::r=>by
  rw[List.map_cons,List.lookup_cons,List.lookup_cons];cases x==y;·exact FI (l:=r)
  ·rfl
theorem Ji{cells:List (Addr×Obj)}(H:CellsAre cm cs cells):cells.map (·.1)=cs.map (·.2):=by
 induction H with
 |nil=>rfl
 |cons d r ih=>rw[List.map_cons,List.map_cons,ih]
theorem Dc:∀(names:List (Str×NameKind)) (n:Nat) (acc:List (Str×Addr)),(∀p∈acc,p.2<n)->(acc.map (·.2)).Nodup->((cellsFrom n names acc).map (·.2)).Nodup/\∀p∈cellsFrom n names acc,p∈acc\/n<=p.2
 |[],_,_,_,h=>⟨h,λ_ q=>.inl q⟩
 |(x,kd)::r,n,acc,hl,hn=>by
  unfold cellsFrom;split
  ·obtain⟨a,b⟩:=Dc r (n+1) ((x,n)::acc) (λp hp=>by
    rcases List.mem_cons.mp hp with rfl|hp;·exact Nat.lt_succ_self _
    ·exact Nat.lt_succ_of_lt (hl p hp)) (by
    rw[List.map_cons,List.nodup_cons];refine⟨λz=>?_,hn⟩;refine Au (List.mem_map.mp z) λp hp e=>?_;exact absurd (hl p hp) (by rw[e];exact Nat.lt_irrefl _))
   refine⟨a,λp hp=>?_⟩;rcases b p hp with z|z
   ·rcases List.mem_cons.mp z with rfl|z;·exact .inr (Nat.le_refl _)
    ·exact .inl z
   ·exact .inr (Nat.le_of_succ_le z)
  ·exact Dc r n acc hl hn
theorem IB:∀{l:List (Str×Addr)},(l.map (·.2)).Nodup->∀{x y:Str}{a:Addr},l.lookup x=some a->l.lookup y=some a->x=y
 |[],_,_,_,_,e,_=>by simp at e
 |(n,b)::r,hn,x,y,a,e1,e2=>by
  rw[List.map_cons,List.nodup_cons]at hn;have mem:∀{z:Str},r.lookup z=some a->a∈r.map (·.2):=λ{z} e=>List.mem_map.mpr ⟨(z,a),(List.lookup_eq_some_iff.mp e).elim λl₁ ⟨l₂,q,_⟩=>by rw[q];simp,rfl⟩;rw[List.lookup_cons]at e1 e2;by_cases q1:x=n<;>by_cases q2:y=n;·rw[q1,q2]
  ·have t1:(x==n)=true:=by simpa using q1
   have t2:(y==n)=false:=by simpa using q2
   rw[t1]at e1;rw[t2]at e2;simp only[Option.some.injEq]at e1;subst e1;exact absurd (mem e2) hn.1
  ·have t1:(x==n)=false:=by simpa using q1
   have t2:(y==n)=true:=by simpa using q2
   rw[t1]at e1;rw[t2]at e2;simp only[Option.some.injEq]at e2;subst e2;exact absurd (mem e1) hn.1
  ·have t1:(x==n)=false:=by simpa using q1
   have t2:(y==n)=false:=by simpa using q2
   rw[t1]at e1;rw[t2]at e2;exact IB hn.2 e1 e2
noncomputable def A9(fe:BQ)(vs:List V):Fm:=λx=>(fe.ps.zip (vs++fe.dfl)).lookup x
noncomputable def BG.innerO(Γ:BG)(outer:List Env)(A:Around)(κ:Wd)(h:Heap)(led:List (Addr×Obj))(ev:Env):BG:={Γ with outer:=outer,env:=ev,h₀:=h,trk:=led,im₀:=κ.im,A₀:=A,dp:=A.depth+1,un:=A.units+3,keep:=none}
noncomputable abbrev BG.inner(Γ:BG)(A:Around)(κ:Wd)(h:Heap)(led:List (Addr×Obj))(ev:Env):BG:=Γ.innerO (Γ.env::Γ.outer) A κ h led ev
set_option genSizeOf false in
set_option genInjectivity false in
set_option genCtorIdx false in
structure BG.Ok0(Γ:BG):Prop where
 X:Γ.K.In Γ.base
 gl:Γ.base.Ns mainGlobals Γ.mg
 bl:Γ.base.Ns builtinsNs Γ.mb
 nolimit:Γ.base.NoLimit
 hash:Γ.hsh=Lg Γ.prog Γ.w
 sysm:∃o,Γ.base.get? sysModules=some o
theorem BG.Ok.ok0{Γ:BG}(ok:Γ.Ok):Γ.Ok0:=⟨ok.X,ok.gl,ok.bl,ok.nolimit,ok.hash,ok.sysm⟩
section
variable{Γ:BG}
theorem DN.trk(ok:Γ.Ok)(d:DN Γ κ ex σ h g m led cel im):Sn Γ.base (Γ.env::Γ.outer) h led:=M4 (s:=Γ.at h 0) d.B d.F d.N ok.frame (λq hq=>by simp[hq])
theorem J2(ok:Γ.Ok0)(fo:AS Γ.K fe)(hA:A.frames=some outer)(hroom:A.depth<recursionLimit)(W:V6 Γ.base outer h)(R:Sn Γ.base outer h led)(hL:Hg Γ.base κ Γ.hsh κ.ρ σ led)(hD:(led.map (·.1)).Nodup)
  (hI:∀p∈κ.im,h.get? p.1=some p.2/\p.1∉led.map (·.1)/\p.1∉outer.filterMap (·.frame)) (rs:Bo Γ.base κ vs xs) (hn:vs.length=fe.n)
  (body:∀L' cdv h₁ tk₁,let env':=envOfC fe.qual fe.scope L' fe.f cdv;let Γ':=Γ.innerO outer A κ h led env';Γ'.Ok->hW Γ' env'->AR Γ' κ env' [] (A9 fe vs) σ h₁->
   wpAny Γ.M (A.deeper env') (execs fe.body env') (λfl s'=>R₀ (.ok (.ret (match fl with|.ret v=>v|_=>.none))) s') (λe s'=>wpAny Γ.M (A.deeper env') (leaving env' e) (λ_ s''=>R₀ (.error e) s'') (λe' s''=>R₀ (.error e') s'') s') (Γ.at h₁ tk₁)) :
  codeAny Γ.M A (.call (.ref fe.f) ⟨xs,[]⟩) R₀ (Γ.at h tk):=by
 obtain⟨name,params,dV,kV,doc,pm,cdv,ct,oc,an,od,osl,ho,hcd,hb⟩:=fo.at_;have Xh:Γ.K.In h:=ok.X.keeps W.stays;refine Au (hb (Γ.at h tk) xs Xh (by rw[<-rs.length];exact hn)) λdv hdv hbind=>?_;have rs':Bo Γ.base κ (vs++fe.dfl) (xs++dv):=rs.append (hdv _ _);have hknd:((fe.ps.zip (xs++dv)).all λy=>fe.scope.names.lookup y.1==some .local||fe.scope.names.lookup y.1==some .cell)=true:=by rw[List.all_eq_true];intro y hy;exact List.all_eq_true.mp fo.kinds y.1 (List.of_mem_zip hy).1
 refine HC (binds:=fe.ps.zip (xs++dv)) hA W ok.X ok.nolimit R ho hcd hroom hbind hknd fo.nd (λg₁ L' h₁ tk₁ cells hg st F' N' Y B' l'=>?_) fo.co fo.gen fo.kind;have ca:=Ji Y;have cfr:=Dc fe.scope.names (L'+1) [] (λ_ h=>nomatch h) .nil;have okΓ:(Γ.innerO outer A κ h led (envOfC fe.qual fe.scope L' fe.f cdv)).Ok:=⟨rfl,fo.kind,ok.X,ok.gl,ok.bl,ok.nolimit,rfl,rfl,hA,R,ok.hash,ok.sysm,λx y a e1 e2=>IB cfr.1 e1 e2⟩
 refine body L' cdv h₁ tk₁ okΓ ⟨fo.kind,rfl,rfl⟩ ⟨g₁,_,led,cells,[],⟨F',λp hp=>N' p ?_,B',Gr.of hg,hL,λp hp=>.inr hp,λp hp=>⟨hg _ _ (hI p hp).1 (hI p hp).2.1,(hI p hp).2.2⟩,?_,λp hp=>List.mem_map_of_mem hp⟩,⟨⟨_,.inl ⟨rfl,rfl⟩,λx v e k=>?_⟩,λx k=>?_,λf e=>nomatch e⟩⟩;·simp only[List.append_nil,List.mem_append]at hp⊢;exact hp.symm
 ·simp only[List.append_nil];rw[List.map_append,List.nodup_append];refine⟨hD,by rw[ca];exact cfr.1,λa ha b hb e=>?_⟩;refine Au (List.mem_map.mp ha) λr hr eqq2=>?_;subst eqq2;rw[ca]at hb;refine Au (List.mem_map.mp hb) λz hz e'=>?_;rcases cfr.2 z hz with y|y;·exact nomatch y
  ·have:=l' r hr;rw[e,<-e']at this;exact absurd (Nat.lt_of_le_of_lt y this) (by omega)
 ·have e:(fe.ps.zip (vs++fe.dfl)).lookup x=some v:=e;exact Vc k fo.psnd rs' e
 ·have hs:=fo.all x k;have hs':((cellsFrom (L'+1) fe.scope.names []).lookup x).isSome=true:=by
   have:=Dx (L'+1) fe.scope.names 0 [];rw[Nat.zero_add]at this;rw[show cellsFrom (L'+1) fe.scope.names []=cellsFrom (L'+1) fe.scope.names (([]:List (Str×Addr)).map λp=>(p.1,p.2+(L'+1))) from rfl,this,FI];exact hs
  refine Cz (Mz Y hs') λa o h1 h2 h3=>?_;refine⟨a,o,_,h1,h2,h3,λv e=>?_⟩;have e:(fe.ps.zip (vs++fe.dfl)).lookup x=some v:=e;exact U3 k fo.psnd rs' e
theorem RW(ok:Γ.Ok){fe:BQ}(fo:AS Γ.K fe)(hA:A.frames=some (Γ.env::Γ.outer))(hroom:A.depth<recursionLimit)(d:DN Γ κ ex σ h g m led cel im){vs:List V}{xs:List Value}(rs:Bo Γ.base κ vs xs)(hn:vs.length=fe.n)
  {R₀:Result->Shared->Prop}
  (body:∀L' cdv h₁ tk₁,let env':=envOfC fe.qual fe.scope L' fe.f cdv;let Γ':=Γ.inner A κ h led env';Γ'.Ok->hW Γ' env'->AR Γ' κ env' [] (A9 fe vs) σ h₁->
   wpAny Γ.M (A.deeper env') (execs fe.body env') (λfl s'=>R₀ (.ok (.ret (match fl with|.ret v=>v|_=>.none))) s') (λe s'=>wpAny Γ.M (A.deeper env') (leaving env' e) (λ_ s''=>R₀ (.error e) s'') (λe' s''=>R₀ (.error e') s'') s') (Γ.at h₁ tk₁)) :
  codeAny Γ.M A (.call (.ref fe.f) ⟨xs,[]⟩) R₀ (Γ.at h tk):=by
 have D:=d.D;refine J2 ok.ok0 fo hA hroom (Kx (s:=Γ.at h 0) d.B d.F ok.frame ok.kind) (d.trk ok) d.L ?_ (λp hp=>⟨?_,λz=>?_,λz=>?_⟩) rs hn body;·rw[List.append_assoc,List.append_assoc,List.map_append,List.nodup_append]at D;exact D.1
 ·rcases d.I p hp with z|z;·exact(d.N p (by simp[z])).1
  ·exact d.F.keep _ _ (d.J p z).1
 ·refine Au (List.mem_map.mp z) λr hr e=>?_;rcases d.I p hp with y|y;·rw[List.map_append,List.nodup_append]at D;exact D.2.2 r.1 (List.mem_map_of_mem (by simp[hr])) p.1 (List.mem_map_of_mem y) e
  ·have:=(d.N r (by simp[hr])).2.2;rw[e,(d.J p y).1]at this;cases this
 ·rcases Vt (Γ:=Γ) ok.frame z with y|y
  ·rcases d.I p hp with x|x;·exact(d.N p (by simp[x])).2.1 y
   ·have:=Heap.lt_size (d.J p x).1;rw[y]at this;exact absurd (Nat.lt_of_lt_of_le this d.F.above) (Nat.lt_irrefl _)
  ·rcases d.I p hp with x|x;·refine AG (d.B.frames.mem y) λ_ Hx=>?_;obtain⟨o,e,_⟩:=Hx;rw[(d.N p (by simp[x])).2.2]at e;cases e
   ·exact(d.J p x).2 y
end
end
section
inductive XI(Γ:BG)(κ:Wd)(σ:St)(e:Ex)(x:Value)(s:Shared):Prop
 |mk (H:Heap) (bad:List Addr) (h0 h':Heap) (tk:Nat) (a:Addr) (ex:List (Addr×Obj)) (g:Heap) (m:Str->Option Value) (led cel im:List (Addr×Obj)) (d:DN Γ κ ex σ h0 g m led cel im) (nb:∀q∈led++im,q.1∉bad) (gb:∀b o,g.get? b=some o->b∉bad) (hb:∀b o,b∉bad->h0.get? b=some o->H.get? b=some o)
  (f:bM Γ.base Γ.outer H h' (Mm Γ.base κ e.d a) (Bp e) (Fz e) a) (ex':x=.ref a) (es:s=Γ.at h' tk):XI Γ κ σ e x s
noncomputable def XF(Γ:BG)(κ:Wd)(σ:St)(e:Ex)(x:Value)(s:Shared):Prop:=∀(A':Around) (Q:Unit->Shared->Prop) (E:Value->Shared->Prop),A'.frames=some (Γ.env::Γ.outer)->(∀s'',XI Γ κ σ e x s''->Q () s'')->wpAny Γ.M A' (leaving Γ.env x) Q E s
section
theorem DN.offL(d:DN Γ κ ex σ h g m led cel im)(e:g.get? b=some o):b≠Γ.env.locals:=λz=>absurd (Nat.lt_of_lt_of_le (Heap.lt_size e) d.F.above) (by rw[z];exact Nat.lt_irrefl _)
theorem Ui(ok:Γ.Ok)(f:IJ Γ κ ce ex fr σ e x s):XF Γ κ σ e x s:=by
 obtain⟨hv,h',tk,a,rfl,rfl,⟨g,m,led,cel,im,d,nm⟩,D⟩:=f;obtain⟨B,a0,dx,od,ctx,cau,BP,x5,b1,b2,fx,up,d1,d2,d3,d4,okc⟩:=D;intro A' Q E hfr hQ;refine Lf hfr ok.frame fx λh'' fx' up'=>hQ _ ⟨hideAll hv [Γ.env.locals],[Γ.env.locals],hv,h'',tk,a,ex,g,m,led,cel,im,d,λq hq=>?_,λb o eb=>?_,λb o hb eb=>hideAll_get _ eb hb,
  ⟨B,a0,dx,od,ctx,cau,BP,x5,b1,λb o eb nf=>?_,fx',λb o eb hd=>?_,d1,d2,?_,?_,okc⟩,rfl,rfl⟩
 ·simp only[List.mem_singleton];exact(d.N q (by simp only[List.mem_append]at hq⊢;rcases hq with hq|hq<;>simp[hq])).2.1
 ·simp only[List.mem_singleton];exact d.offL eb
 ·have nL:b≠Γ.env.locals:=λz=>by rw[z,hideAll_none _ (.head _)]at eb;cases eb
  refine b2 b o (of_hideAll _ eb) λhm=>?_;rcases Cf hm ok.frame with y|y;·exact nL y
  ·exact nf y
 ·refine AP (up b o (of_hideAll _ eb) hd) λsl y=>?_;refine AP (up' b _ y hd) λsl' y'=>?_;exact⟨sl',y'⟩
 ·cases q:(hideAll hv [Γ.env.locals]).get? dx with
  |none=>rfl
  |some o=>rw[of_hideAll _ q]at d3;cases d3
 ·cases q:(hideAll hv [Γ.env.locals]).get? a with
  |none=>rfl
  |some o=>rw[of_hideAll _ q]at d4;cases d4
structure Ly(Γ:BG)(κ:Wd)(ex:List (Addr×Obj))(σ:St)(h g:Heap)(m:Str->Option Value)(led cel im:List (Addr×Obj))(e:Ex)(x dx:Addr)(od:Obj)(a0 ctx cau BP x5:Value):Prop where
 d:DN Γ κ ex σ h g m led cel im
 N:News g Γ.env.locals h ((x,BN (Bp e) (some dx) a0 ctx cau BP x5 .none)::(dx,od)::(led++cel++ex++im))
 ne:dx≠x
 off:∀q∈led++cel++ex++im,q.1≠x/\q.1≠dx
 P:Fz e od
 cd:Mm Γ.base κ e.d x ctx
section
variable{x dx:Addr}
theorem Ly.parts(ok:Γ.Ok)(n:Ly Γ κ ex σ h g m led cel im e x dx od a0 ctx cau BP x5):
  h.FunFrames (EW h ((Γ.env::Γ.outer).filterMap (·.frame)) x) (Γ.env::Γ.outer)/\(EW h ((Γ.env::Γ.outer).filterMap (·.frame)) x).StaysIn h/\(EW h ((Γ.env::Γ.outer).filterMap (·.frame)) x).get? x=none/\
   ∀h' tk,Dn (EW h ((Γ.env::Γ.outer).filterMap (·.frame)) x) Γ.outer x (BN (Bp e) (some dx) a0 ctx cau BP x5) .none h'->h.UpToSlots h'->XI Γ κ σ e (.ref x) (Γ.at h' tk):=by
 obtain⟨d,N,ne,off,hP,hcd⟩:=n;have hx:=N _ (.head _);have hdx:=N _ (.tail _ (.head _));have K':=pushX d.B d.F ok.frame ok.kind;have frN:∀{b:Addr},b∈(Γ.env::Γ.outer).filterMap (·.frame)->b=Γ.env.locals\/∃o,g.get? b=some o:=λ{b} hb=>by
  rcases Cf hb ok.frame with y|y;·exact .inl y
  ·refine AG (d.B.frames.mem y) λ_ Hx=>?_;obtain⟨o,ho,_⟩:=Hx;exact .inr ⟨o,ho⟩
 have newOff:∀{b:Addr},b≠Γ.env.locals->g.get? b=none->b∉(Γ.env::Γ.outer).filterMap (·.frame):=λ{b} n1 n2 hb=>by
  rcases frN hb with y|⟨o,y⟩
  ·exact n1 y
  ·rw[n2]at y;cases y
 refine⟨funFrames_hide K'.frames λenv' he' b hb=>.tail _ (List.mem_filterMap.mpr ⟨env',he',hb⟩),λb o q=>of_hideAll _ q,hideAll_none _ (.head _),λh' tk fx up=>?_⟩;refine⟨hideAll h [Γ.env.locals,x,dx],[Γ.env.locals,x,dx],h,h',tk,x,ex,g,m,led,cel,im,d,λq hq z=>?_,λb o eb z=>?_,λb o hb eb=>hideAll_get _ eb hb,
  ⟨_,a0,dx,od,ctx,cau,BP,x5,λb o q=>hideAll_get _ (K'.stays b o q) λhb=>?_,λb o q nf=>hideAll_get _ (of_hideAll _ q) λhb=>?_,fx,λb o q hd=>up b o (of_hideAll _ q) hd,hideAll_get _ hdx.1 λhb=>?_,hP,
   hideAll_none _ (by simp),hideAll_none _ (by simp),hcd⟩,rfl,rfl⟩
 ·have hq':q∈led++cel++ex++im:=by simp only[List.mem_append]at hq⊢;rcases hq with hq|hq<;>simp[hq]
  simp only[List.mem_cons,List.not_mem_nil,or_false]at z;rcases z with z|z|z;·exact(d.N q hq').2.1 z
  ·exact(off q hq').1 z
  ·exact(off q hq').2 z
 ·simp only[List.mem_cons,List.not_mem_nil,or_false]at z;rcases z with rfl|rfl|rfl;·exact d.offL eb rfl
  ·rw[hx.2.2]at eb;cases eb
  ·rw[hdx.2.2]at eb;cases eb
 ·rcases List.mem_cons.mp hb with rfl|hb;·rw[d.B.stays _ _ q]at hx;exact nomatch hx.2.2
  ·rw[(K'.frames.mem hb).1]at q;cases q
 ·have nb:b∉[Γ.env.locals,x,dx]:=λz=>by rw[hideAll_none _ z]at q;cases q
  rcases List.mem_cons.mp hb with rfl|hb;·exact nb (by simp)
  ·rcases Cf hb ok.frame with y|y;·exact nb (by simp[y])
   ·exact nf y
 ·rcases List.mem_cons.mp hb with z|hb;·exact ne z
  ·exact newOff hdx.2.1 hdx.2.2 hb
theorem VV(ok:Γ.Ok)(n:Ly Γ κ ex σ h g m led cel im e x dx od a0 .none cau BP x5):XF Γ κ σ e (.ref x) (Γ.at h tk):=by intro A' Q E hfr hQ;refine GO (n.parts ok) λp1 p2 p3 p4=>?_;exact Jt (s:=Γ.at h tk) hfr p1 ok.frame (n.N _ (.head _)).1 p2 p3 λh' fx up=>hQ _ (p4 h' tk fx up)
theorem SG(ok:Γ.Ok)(n:Ly Γ κ ex σ h g m led cel im e x dx od a0 ctx cau BP x5)(hfr:A₁.frames=some (Γ.env::Γ.outer))(hE:∀s,XF Γ κ σ e (.ref x) s->E (.ref x) s):
  notedBy Γ.M A₁ Γ.env (cameBackBy Γ.M A₂ Γ.env E) (.ref x) (Γ.at h tk):=by
 refine GO (n.parts ok) λp1 p2 p3 p4=>?_;refine FY (s:=Γ.at h tk) hfr p1 ok.frame (n.N _ (.head _)).1 p2 p3 λh₁ f₁ u₁=>?_;unfold cameBackBy;obtain⟨_,_,_,T,_,_,hT,_⟩:=id f₁;refine wpAny_bind (wpAny_field (x:=.ref T) hT rfl rfl ?_);rw[if_neg (by simp)];try refine wpAny_bind (wpAny_pure ?_)
 refine Dg (s:=Γ.at h₁ tk) (v:=Γ.env.frame) f₁ λh₂ f₂ u₂=>hE _ ?_;rw[ok.frame]at f₂;intro A' Q E' hfr' hQ;exact Jk (s:=Γ.at h₂ tk) ok.frame f₂ λh' fx up=>hQ _ (p4 h' tk fx (u₁.trans (u₂.trans up)))
end
theorem NN(ok:Γ.Ok)(u:Vu Γ Γ' h led κ)(es:Γ'.s₀=Γ.s₀)(d:DN Γ κ ex σ h g m led cel im)(nm:Lj Γ κ ce ex m cel fr)(q:κ.Le κ')(G:XI Γ' κ' σ' e x s):IJ Γ κ' ce ex fr σ' e x s:=by obtain⟨H,bad,h0,h',tk,a,ex',g',m',led',cel',im',d',b1,b2,hk,D,rfl,rfl⟩:=G;refine⟨H,h',tk,a,by unfold BG.at;rw[es],rfl,O0 ok u d nm (d.trk ok) q d' bad b1 b2 hk,?_⟩;rw[u.base,u.outer]at D;exact D
end
noncomputable def Bf(Γ:BG)(ex:List (Addr×Obj))(κ:Wd)(P:Fm->Prop)(X:Wd->St->Ex->Value->Shared->Prop)(r:C6 Az)(Q:Flow->Shared->Prop)(E:Value->Shared->Prop):Prop:=match r with
 |.ok (.next fr') σ=>∀κ' h tk,κ.Le κ'->P fr'->AR Γ κ' Γ.env ex fr' σ h->Q .next (Γ.at h tk)
 |.ok (.cont fr') σ=>∀κ' h tk,κ.Le κ'->P fr'->AR Γ κ' Γ.env ex fr' σ h->Q .cont (Γ.at h tk)
 |.ok (.rets v) σ=>∀κ' h tk y fr',κ.Le κ'->AR Γ κ' Γ.env ex fr' σ h->RV Γ.base κ' v y->Q (.ret y) (Γ.at h tk)
 |.exc e σ=>∀κ' x s,κ.Le κ'->X κ' σ e x s->E x s
 |.stuck=>False
noncomputable def F7(b:Mo Az):Mo V:=λσ=>match b σ with
 |.ok (.rets v) σ'=>.ok v σ'
 |.ok (.next _) σ'=>.ok .none σ'
 |.ok (.cont _) _=>.stuck
 |.exc e σ'=>.exc e σ'
 |.stuck=>.stuck
section
theorem QY(ok:Γ.Ok)(fo:AS Γ.K fe)(hA:A.frames=some (Γ.env::Γ.outer))(hroom:A.depth<recursionLimit)(ar:AR Γ κ ce ex fr σ h)(rs:Bo Γ.base κ vs xs)(hn:vs.length=fe.n)
  (o:Bq Γ ce fr κ ex (RV Γ.base) (F7 b σ) (λv s=>R₀ (.ok (.ret v)) s) (λe s=>R₀ (.error e) s))
  (body:∀h led L' cdv h₁ tk₁ Q E,let env':=envOfC fe.qual fe.scope L' fe.f cdv;let Γ':=Γ.inner A κ h led env';Γ'.Ok->hW Γ' env'->AR Γ' κ env' [] (A9 fe vs) σ h₁->
   Bf Γ' [] κ (λ_=>True) (XF Γ') (b σ) Q E->wpAny Γ.M (A.deeper env') (execs fe.body env') Q E (Γ.at h₁ tk₁)) :
  codeAny Γ.M A (.call (.ref fe.f) ⟨xs,[]⟩) R₀ (Γ.at h tk):=by
 obtain⟨g,m,led,cel,im,d,nm⟩:=ar;refine RW ok fo hA hroom d rs hn λL' cdv h₁ tk₁ ok' ek ar'=>?_;have u:Vu Γ (Γ.inner A κ h led (envOfC fe.qual fe.scope L' fe.f cdv)) h led κ:=⟨rfl,rfl,rfl,rfl,rfl,rfl⟩
 refine body h led L' cdv h₁ tk₁ _ _ ok' ek ar' ?_;have back:∀κ' σ' h' ce' fr',κ.Le κ'->AR (Γ.inner A κ h led (envOfC fe.qual fe.scope L' fe.f cdv)) κ' ce' [] fr' σ' h'->AR Γ κ' ce ex fr σ' h':=λκ' σ' h' ce' fr' q ⟨g',m',led',cel',im',d',_⟩=>O0 ok u d nm (d.trk ok) q d' [] (λ_ _ z=>nomatch z) (λ_ _ _ z=>nomatch z) (λ_ _ _ z=>z);unfold F7 at o;cases r:b σ with
 |stuck=>rw[r]at o;exact o.elim
 |ok f σ'=>
  rw[r]at o;cases f with
  |next fr'=>exact λκ' h' tk' q _ ar'=>o κ' h' tk' .none q (back _ _ _ _ _ q ar') .none
  |cont fr'=>exact o.elim
  |rets v=>exact λκ' h' tk' y fr' q ar' rv=>o κ' h' tk' y q (back _ _ _ _ _ q ar') rv
 |exc e σ'=>rw[r]at o;exact λκ' x s q xf=>xf _ _ _ (Around.frames_deeper hA) λs'' G=>o κ' x s'' q (NN ok u rfl d nm q G)
end
end
section
theorem JF(hne:t≠it):∀(n i:Nat) (s:Shared) (Q:List Value->Shared->Prop),s.heap.IsListIter it t i->s.heap.IsList t items->i+n<=items.size->
  (∀h',h'.IsListIter it t (i+n)->Heap.SameBut it s.heap h'->Q ((items.toList.drop i).take n) {s with heap:=h'})->wpAny (model prog w) A (draw (.ref it) n) Q E s
 |0,i,s,Q,hit,_,_,hQ=>by show wpAny _ _ (pure []) Q E s;exact wpAny_pure (by simpa using hQ s.heap hit (Heap.SameBut.refl ..))
 |n+1,i,s,Q,hit,ht,hle,hQ=>by
  have hlt:i<items.size:=by(clear hQ ht hit hne;lia)
  show wpAny _ _ (pyNext (.ref it) >>= _) Q E s;refine wpAny_bind (wpAny_pyNext_list_item hit ht (x:=items[i]) (by simp[hlt]) λh₁ hit₁ hs₁=>?_);refine wpAny_bind (wpAny_holding (JF hne n (i+1) _ _ hit₁ (ht.extBut hs₁.extBut hne) (by(clear hs₁ hit₁ hlt hQ ht hit hne;lia)) λh₂ hit₂ hs₂=>wpAny_pure ?_));have hd:items.toList.drop i=items[i]::items.toList.drop (i+1):=by simp[List.drop_eq_getElem_cons,hlt]
  have:=hQ h₂ (by rw[show i+(n+1)=i+1+n by(clear hd hs₂ hit₂ hs₁ hit₁ hlt hQ hle ht hit hne;lia)];exact hit₂) (hs₁.trans hs₂);rw[hd,List.take_succ_cons]at this;exact this
theorem GP(hh:A.handled=none)(ht:s.heap.IsList t items)
  (hQ:∀h',Heap.ExtBut s.heap.objs.size s.heap h'->Q items.toList {s with heap:=h'}):wpAny (model prog w) A (unpackItems (.ref t) items.size none) Q E s:=by
 have hlt:t≠s.heap.objs.size:=by obtain⟨o,ho,_⟩:=ht;exact Nat.ne_of_lt (Heap.lt_size ho)
 unfold unpackItems;refine wpAny_bind ?_;unfold notIterableAtAll;refine wpAny_bind (wpAny_specialOf ht.typeIs slot_list_iter.lookup ?_);refine wpAny_pure ?_;simp only[Bool.false_eq_true,if_false];refine wpAny_bind (wpAny_holding (wpAny_pyIter_list ht ?_));have hl₀:(s.heap.push {cls:=.type "list_iterator",data:=.fields #[.ref t,.int 0 0]}).IsList t items:=let⟨o,a,b⟩:=ht;⟨o,Heap.get?_push_of_some _ a,b⟩;refine wpAny_bind (wpAny_holding (JF hlt items.size 0 _ _ ⟨_,Heap.get?_push_size _ rfl,rfl,rfl⟩ hl₀ (by(clear hl₀ hlt hQ ht hh;lia)) λh₁ hit₁ hs₁=>?_));have hall:List.take items.size (List.drop 0 items.toList)=items.toList:=by rw[List.drop_zero];exact List.take_of_length_le (by simp)
 rw[hall];rw[if_neg (by simp)];have ht₁:h₁.IsList t items:=hl₀.extBut hs₁.extBut hlt;refine wpAny_bind (wpAny_holding (wpAny_pyNext_list_end hh hit₁ ht₁ (by simp) λh₂ he₂=>?_));simp only[Option.isSome_none,Bool.false_eq_true,if_false];exact wpAny_pure (hQ h₂ λb o hb e=>he₂ b o hb (hs₁.extBut b o hb (Heap.get?_push_of_some _ e)))
end
section
theorem DY(F:Fr g L h m)(N:News g L h news)(e:news=pre++(a,o)::post)(hn:(news.map (·.1)).Nodup)(hs:Heap.SameBut a h h')(ho:h'.get? a=some o'):
  Fr g L h' m/\News g L h' (pre++(a,o')::post):=by
 have ha:=N (a,o) (by rw[e];simp);refine⟨⟨F.ns.at' λo e=>hs.extBut _ o (Ne.symm ha.2.1) e,λb o e=>hs.extBut b o (λz=>by rw[z,ha.2.2]at e;cases e) (F.keep b o e),F.above⟩,λq hq=>?_⟩;rw[e,List.map_append,List.map_cons,List.nodup_append]at hn;refine B0 hn λ_ h2 h3=>?_;rw[List.nodup_cons]at h2;rcases List.mem_append.mp hq with hq|hq
 ·have hq':q∈news:=by rw[e];exact List.mem_append_left _ hq
  exact⟨hs.extBut _ _ (λz=>h3 q.1 (List.mem_map_of_mem hq) a (by simp) z) (N q hq').1,(N q hq').2⟩
 ·rcases List.mem_cons.mp hq with rfl|hq;·exact⟨ho,ha.2⟩
  ·have hq':q∈news:=by rw[e];simp[hq]
   exact⟨hs.extBut _ _ (λz=>h2.1 (List.mem_map.mpr ⟨q,hq,z⟩)) (N q hq').1,(N q hq').2⟩
theorem DF(ok:Γ.Ok)(nk:Γ.keep=none)(hk:∀x,c.kind x=Γ.env.kindOf x)(hx:AW c x=true)(ar:AR Γ κ Γ.env ex fr σ h)(r:RV Γ.base κ v y)
  (k:∀h' tk',AR Γ κ Γ.env ex (Ac fr x v) σ h'->Q () (Γ.at h' tk')):wpAny Γ.M A (storeName Γ.env x y) Q E (Γ.at h tk):=by
 obtain⟨g,m,led,cel,im,d,nm⟩:=ar;unfold AW at hx;have hx:=(Ct hx)
 have hns:∀x v,fr x=some v->Γ.env.kindOf x=some .local->∃y,m x=some y/\RV Γ.base κ v y:=by
  refine Au nm.ns λcm h1 h2=>?_;rcases h1 with ⟨_,e⟩|⟨oC,_,_,hm,_⟩
  ·rw[<-e];exact h2
  ·exact absurd rfl (d.N (Γ.env.locals,oC) (by simp[hm])).2.1
 rcases Bool.or_eq_true_iff.mp hx with hx|hx
 ·have hl:Γ.env.kindOf x=some .local:=(hk x)▸eq_of_beq hx;refine wpAny_storeName_local (m:=_) hl d.F.ns (λh' hn hs=>?_) (by rw[ok.kind];rfl);refine k h' _ ⟨g,_,led,cel,im,⟨d.F.set hn hs,d.N.set hs,d.B,d.G,d.L,d.I,d.J,d.D,d.T⟩,⟨⟨_,.inl ⟨rfl,rfl⟩,λz u e kz=>?_⟩,λz kz=>?_,λf e=>by rw[nk]at e;cases e⟩⟩
  ·unfold Ac at e;by_cases q:z=x;·rw[if_pos q]at e;cases e;exact⟨y,if_pos q,r⟩
   ·rw[if_neg q]at e;refine Au (hns z u e kz) λy' e' r'=>?_;exact⟨y',(if_neg q).trans e',r'⟩
  ·refine HP (nm.cell z kz) λa o y' b1 b2 b3 b4=>?_;refine⟨a,o,y',b1,b2,b3,λu e=>b4 u ?_⟩;unfold Ac at e;rw[if_neg (λq=>by rw[q,hl]at kz;cases kz)]at e;exact e
 ·have hl:Γ.env.kindOf x=some .cell:=(hk x)▸eq_of_beq hx;refine HP (nm.cell x hl) λa o y' b1 b2 b3 b4=>?_;refine wpAny_storeName_cell (c:=a) (v₀:=y') ok.kind hl b1 ⟨o,(d.N (a,o) (by simp[b2])).1,b3⟩ λh' hc hs=>?_;obtain⟨o',ho',hd'⟩:=hc;refine KH (List.append_of_mem b2) λpre post eqq2=>?_;subst eqq2;refine AG (DY (o:=o) (pre:=led++pre) (post:=post++ex++im) d.F d.N (by simp) d.D hs ho') λF' N'=>?_;refine k h' _ ⟨g,m,led,pre++(a,o')::post,im,⟨F',by simpa using N',d.B,d.G,d.L,d.I,d.J,by simpa using d.D,d.T⟩,⟨⟨m,.inl ⟨rfl,rfl⟩,λz u e kz=>?_⟩,λz kz=>?_,λf e=>by rw[nk]at e;cases e⟩⟩;·unfold Ac at e;rw[if_neg (λq=>by rw[q,hl]at kz;cases kz)]at e;exact hns z u e kz
  ·by_cases q:z=x;·subst q;refine⟨a,o',some y,b1,by simp,hd',λu e=>?_⟩;unfold Ac at e;rw[if_pos rfl]at e;cases e;exact⟨y,rfl,r⟩
   ·refine HP (nm.cell z kz) λa₂ o₂ y₂ c1 c2 c3 c4=>?_;have na:a₂≠a:=λz'=>q (ok.cinj _ _ _ c1 (z'▸b1));refine⟨a₂,o₂,y₂,c1,?_,c3,λu e=>c4 u ?_⟩
    ·rcases List.mem_append.mp c2 with c2|c2;·exact List.mem_append_left _ c2
     ·rcases List.mem_cons.mp c2 with c2|c2;·exact absurd (congrArg Prod.fst c2) na
      ·exact List.mem_append_right _ (.tail _ c2)
    ·unfold Ac at e;rw[if_neg q]at e;exact e
end
set_option backward.match.sparseCases false
section
noncomputable def lZ(Γ:BG)(A:Around):Prop:=
 ∀(C:Addr) (e:Ex) (vs:List V) (xs:List Value) (κ:Wd) (ex:List (Addr×Obj)) (fr:Fm) (σ:St) (h:Heap) (tk:Nat) (Q:Value->Shared->Prop) (E:Value->Shared->Prop),CU C vs=some e->AR Γ κ Γ.env ex fr σ h->Bo Γ.base κ vs xs->
  (∀κ' g m led cel im x dx od a0 BP h' tk',κ.Le κ'->Lj Γ κ' Γ.env ex m cel fr->Ly Γ κ' ex σ h' g m led cel im e x dx od a0 .none .none BP .none->Q (.ref x) (Γ.at h' tk'))->wpAny Γ.M A (PySem.call (.ref C) xs) Q E (Γ.at h tk)
structure E6(Γ:BG)(c:Cx)(ex:List (Addr×Obj))(P:Fm->Prop)(X:Wd->St->Ex->Value->Shared->Prop):Prop where
 cok:∀A p,Gb Γ A p->Ef Γ A {c with plain:=p} Γ.env
 up:∀fr x v,P fr->c.okn x=true->P (Ac fr x v)
 fl:∀fr κ σ e x s,P fr->IJ Γ κ Γ.env ex fr σ e x s->X κ σ e x s
 ra:c.calm=false->∀κ σ e x s,XF Γ κ σ e x s->X κ σ e x s
 all:c.calm=false->∀fr,P fr
 nk:Γ.keep=none
 mkx:∀A p,Gb Γ A p->lZ Γ A
 exm:exmOne Γ.K (.ref 91) (.ref 91)=some true/\∀e,exmAny Γ.K (.ref (Bp e)) [.ref 71,.ref 91]=some true
 sub:∀e,subIn Γ.K (.ref (Bp e)) (.type "BaseException")=some true/\typeIn Γ.K (.ref (Bp e))=some (.type "type")
section
variable{P:Fm->Prop}
theorem E6.cc(S:E6 Γ c ex P X)(hA:Gb Γ A c.plain):Ef Γ A c Γ.env:=S.cok A c.plain hA
theorem Bf.le(q:κ.Le κ')(o:Bf Γ ex κ P X r Q E):Bf Γ ex κ' P X r Q E:=by
 cases r with
 |ok f σ=>cases f with
  |next fr=>exact λκ₂ h tk q'=>o κ₂ h tk (q.trans q')
  |cont fr=>exact λκ₂ h tk q'=>o κ₂ h tk (q.trans q')
  |rets v=>exact λκ₂ h tk y fr' q'=>o κ₂ h tk y fr' (q.trans q')
 |exc e σ=>exact λκ₂ x s q'=>o κ₂ x s (q.trans q')
 |stuck=>exact o
theorem BV(S:E6 Γ c ex P X)(hP:P fr)(o:Bf Γ ex κ P X (Aa f k σ) Q E)
  (go:∀a σ',f σ=.ok a σ'->∀κ' h' tk' b,κ.Le κ'->AR Γ κ' Γ.env ex fr σ' h'->R κ' a b->Bf Γ ex κ' P X (k a σ') Q E->P₁ b (Γ.at h' tk')):Bq Γ Γ.env fr κ ex R (f σ) P₁ E:=by
 unfold Aa at o;cases e:f σ with
 |ok a σ'=>rw[e]at o;exact λκ' h' tk' b q ar r=>go a σ' e κ' h' tk' b q ar r (o.le q)
 |exc x σ'=>rw[e]at o;exact λκ' y s q fl=>o κ' y s q (S.fl _ _ _ _ _ _ hP fl)
 |stuck=>rw[e]at o;exact o
theorem Ma(o:Bf Γ ex κ P X (Aa (Cs f) k σ) Q E)
  (go:∀a σ',f σ=.ok a σ'->∀κ' h' tk' b,κ.Le κ'->AR Γ κ' ce ex fr σ' h'->R κ' a b->Bf Γ ex κ' P X (k a σ') Q E->P₁ b (Γ.at h' tk')):Bq Γ ce fr κ ex R (f σ) P₁ E':=by
 unfold Aa Cs at o;cases e:f σ with
 |ok a σ'=>rw[e]at o;exact λκ' h' tk' b q ar r=>go a σ' e κ' h' tk' b q ar r (o.le q)
 |exc x σ'=>rw[e]at o;exact o.elim
 |stuck=>rw[e]at o;exact o.elim
theorem AR.ext(ar:AR Γ κ ce ex fr σ h)(he:Heap.ExtBut h.objs.size h h'):AR Γ κ ce ex fr σ h':=by obtain⟨g,m,led,cel,im,d,nm⟩:=ar;exact⟨g,m,led,cel,im,d.same (d.F.extBut he (Nat.le_refl _)) (d.N.extBut he (Nat.le_refl _)),nm⟩
theorem I6(up:∀fr x v,P fr->c.okn x=true->P (Ac fr x v)):∀{ns:List Str}{l:List V}{fr fr':Fm},ns.all (AW c)=true->Ca fr ns l=some fr'->P fr->P fr'
 |[],[],_,_,_,e,hP=>by cases e;exact hP
 |x::ns,v::l,fr,fr',ha,e,hP=>by simp only[List.all_cons,Bool.and_eq_true]at ha;exact I6 up ha.2 e (up fr x v hP (by have:=ha.1;unfold AW at this;exact(Dp this)))
 |[],_::_,_,_,_,e,_=>by cases e
 |_::_,[],_,_,_,e,_=>by cases e
set_option tactic.hygienic true in
theorem Iy(e:names (t::r)=some ns):∃x p ns',t=.Name x p/\names r=some ns'/\ns=x::ns':=by
 cases t<;>first|cases e|skip
 rename_i x p;have e:(names r).map (x :: ·)=some ns:=e;cases q:names r with
 |none=>rw[q]at e;cases e
 |some ns'=>rw[q]at e;cases e;exact⟨x,p,ns',rfl,rfl,rfl⟩
theorem Kf:∀{xs:List Expr}{ns:List Str},names xs=some ns->(assignEach xs env).length=ns.length/\(assignEach xs env).findIdx? (·.1)=none
 |[],ns,e=>by cases e;exact⟨rfl,rfl⟩
 |t::r,ns,e=>by refine Jh (Iy e) λx p ns' eqq3 e' eqq5=>?_;subst eqq3;subst eqq5;refine AG (Kf (env:=env) e') λh1 h2=>?_;refine⟨by show(assignEach r env).length+1=_;rw[h1];rfl,?_⟩;show List.findIdx? _ ((false,assign (.Name x p) env)::assignEach r env)=none;rw[List.findIdx?_cons,h2];rfl
theorem Gw(ok:Γ.Ok)(nk:Γ.keep=none)(hk:∀x,c.kind x=Γ.env.kindOf x){xs:List Expr}{ns:List Str}{l:List V}{ys:List Value}{fr fr':Fm}{h:Heap}{tk:Nat}(e:names xs=some ns)(ha:ns.all (AW c)=true)(rs:Bo Γ.base κ l ys)(eu:Ca fr ns l=some fr')(ar:AR Γ κ Γ.env ex fr σ h)(k:∀h' tk',AR Γ κ Γ.env ex fr' σ h'->Q () (Γ.at h' tk')):wpAny Γ.M A (assignInOrder ((assignEach xs Γ.env).map (·.2)) ys) Q E (Γ.at h tk):=by
 cases xs with
 |nil=>
  cases e;cases l with
  |nil=>cases eu;exact assignInOrder_nil (k _ _ ar)
  |cons=>cases eu
 |cons t r=>
  refine Jh (Iy e) λx p ns' eqq3 e' eqq5=>?_;subst eqq3;subst eqq5;simp only[List.all_cons,Bool.and_eq_true]at ha;cases rs with
  |nil=>cases eu
  |@cons v y l ys ry rs=>have eu:Ca (Ac fr x v) ns' l=some fr':=eu;refine assignInOrder_cons (ts:=(assignEach r Γ.env).map (·.2)) (t:=assign (.Name x p) Γ.env) (wpAny_assign_Name (DF ok nk hk ha.1 ar ry λh' tk' ar'=>?_));exact Gw ok nk hk e' ha.2 rs eu ar' k
theorem MR(ok:Γ.Ok)(nk:Γ.keep=none)(hk:∀x,c.kind x=Γ.env.kindOf x){ns:List Str}{l:List V}{ys:List Value}{fr fr':Fm}{h:Heap}{tk:Nat}(ha:ns.all (AW c)=true)(rs:Bo Γ.base κ l ys)(eu:Ca fr ns l=some fr')(ar:AR Γ κ Γ.env ex fr σ h)(k:∀h' tk',AR Γ κ Γ.env ex fr' σ h'->Q () (Γ.at h' tk')):wpAny Γ.M A (assignInOrder (ns.map λn=>bindName Γ.env n) ys) Q E (Γ.at h tk):=by
 cases ns with
 |nil=>
  cases l with
  |nil=>cases eu;exact assignInOrder_nil (k _ _ ar)
  |cons=>cases eu
 |cons x ns=>
  simp only[List.all_cons,Bool.and_eq_true]at ha;cases rs with
  |nil=>cases eu
  |@cons v y l ys ry rs=>have eu:Ca (Ac fr x v) ns l=some fr':=eu;refine assignInOrder_cons (ts:=ns.map λn=>bindName Γ.env n) (t:=bindName Γ.env x) (wpAny_bindName (DF ok nk hk ha.1 ar ry λh' tk' ar'=>?_));exact MR ok nk hk ha.2 rs eu ar' k
theorem Et(ar:AR Γ κ ce ex fr σ h)(p:Pf Γ.base κ a (NI arr ep)):IsTup h a arr:=⟨_,ar.pf p,rfl,ep,rfl⟩
theorem Dy(ar:AR Γ κ ce ex fr σ h)(p:Pf Γ.base κ a (KP arr ep)):h.IsList a arr:=⟨_,ar.pf p,rfl,ep,rfl⟩
theorem OZ(S:E6 Γ c ex P X)(hA:Gb Γ A c.plain)(hP:P fr)(ar:AR Γ κ Γ.env ex fr σ h)(r:RV Γ.base κ v y)
  (o:Bf Γ ex κ P X (Aa (CS t v c fr) k σ) Q' E') (go:∀fr' h' tk',P fr'->AR Γ κ Γ.env ex fr' σ h'->Bf Γ ex κ P X (k fr' σ) Q' E'->Q () (Γ.at h' tk')):wpAny Γ.M A (assign t Γ.env y) Q E (Γ.at h tk):=by
 have C:=S.cc hA;cases e1:Ei t with
 |some x=>
  refine AP (Dr e1) λpos q=>?_;subst q;replace o:Bf Γ ex κ P X (Aa (if AW c x=true then ret (Ac fr x v) else AB) k σ) Q' E':=o;by_cases hm:AW c x=true;·rw[if_pos hm]at o;have hm':=hm;unfold AW at hm';exact wpAny_assign_Name (DF C.ok S.nk C.kind hm ar r λh' tk' ar'=>go _ _ _ (S.up _ _ _ hP (Dp hm')) ar' o)
  ·rw[if_neg hm]at o;exact o.elim
 |none=>
  cases e2:Fc t with
  |none=>unfold CS at o;rw[e1,e2]at o;exact o.elim
  |some xs=>
   refine KH (Gp e2) λn pos q=>?_;subst q;replace o:Bf Γ ex κ P X (Aa (match names xs,CL v with|some ns,some l=>D6 ns l c fr|_,_=>AB) k σ) Q' E':=o;cases en:names xs with
   |none=>rw[en]at o;exact o.elim
   |some ns=>
    cases el:CL v with
    |none=>rw[en,el]at o;exact o.elim
    |some l=>
     rw[en,el]at o;replace o:Bf Γ ex κ P X (Aa (D6 ns l c fr) k σ) Q' E':=o;unfold D6 at o;by_cases hg:(c.plain&&ns.all (AW c)&&ns.length==l.length)=true
     ·rw[if_pos hg]at o;simp only[Bool.and_eq_true,beq_iff_eq]at hg;obtain⟨⟨hp,ha⟩,hl⟩:=hg;cases eu:Ca fr ns l with
      |none=>rw[eu]at o;exact o.elim
      |some fr'=>
       rw[eu]at o;replace o:Bf Γ ex κ P X (k fr' σ) Q' E':=o;have hP':=I6 S.up ha eu hP;refine AG (Kf (env:=Γ.env) en) λn1 n2=>?_;rcases Qu el with rfl|rfl
       ·cases r.tt with
        |@mk a arr ep p rs=>refine assign_Tuple_tuple (hA.handled hp) (Et ar p) (by rw[n1,hl,rs.length];simp) n2 λh' he=>?_;exact Gw C.ok S.nk C.kind en ha rs eu (ar.ext he) λh'' tk'' ar''=>go fr' h'' tk'' hP' ar'' o
       ·cases r.ll with
        |@mk a arr ep p rs=>
         rw[assign_Tuple];refine wpAny_bind (wpAny_standAt ?_);unfold unpack;rw[n2];have e1:(assignEach xs Γ.env).length=arr.size:=by rw[n1,hl,rs.length];simp
         rw[e1];refine wpAny_bind (wpAny_holding (GP (hA.handled hp) (Dy ar p) λh' he=>?_));exact Gw C.ok S.nk C.kind en ha rs eu (ar.ext he) λh'' tk'' ar''=>go fr' h'' tk'' hP' ar'' o
     ·rw[if_neg hg]at o;exact o.elim
open Classical in
theorem SN(S:E6 Γ c ex P X)(hA:Gb Γ A c.plain)(hP:P fr)(ar:AR Γ κ Γ.env ex fr σ h)(r:RV Γ.base κ v y)
  (ea:CS t v c fr σ=.ok fr' σ) (go:∀h' tk',P fr'->AR Γ κ Γ.env ex fr' σ h'->Q () (Γ.at h' tk')):wpAny Γ.M A (assign t Γ.env y) Q E (Γ.at h tk):=by
 refine OZ S hA hP ar r (k:=λf=>if f=fr' then ret (.next f) else AB) (Q':=λ_ _=>True) (E':=λ_ _=>True) ?_ λf h' tk' hP' ar' o=>?_;·unfold Aa;rw[ea];simp only[if_true];exact λ_ _ _ _ _ _=>trivial
 ·by_cases e:f=fr';·subst e;exact go h' tk' hP' ar'
  ·rw[if_neg e]at o;exact o.elim
end
end
set_option backward.match.sparseCases true
section
structure HO:Prop where
 ev:∀(Γ:BG) (A:Around) (c:Cx) (ce:Env) (fr:Fm) (e:Expr),Ef Γ A c ce->Bd Γ A c ce fr e
 tst:∀(Γ:BG) (A:Around) (c:Cx) (ce:Env) (fr:Fm) (e:Expr),Ef Γ A c ce->C9 Γ A c ce fr e
section
variable{base g G B h₅:Heap}
theorem SH(K:Below A₀ base outer g)(F:Fr g L G m)(hf:env.frame=some L)(hBG:∀b o,G.get? b=some o->b∉(env::outer).filterMap (·.frame)->B.get? b=some o)(hBh:B.StaysIn h₅)(hsm:G.UpToSlots h₅):
  ∃g',KtsTurn (outer.filterMap (·.frame)) g g'/\Fr g' L h₅ m/\Below A₀ base outer g':=by
 obtain⟨T,S⟩:=kts_turn_at (h:=h₅) (fs:=outer.filterMap (·.frame)) (g:=g)
  (λb hb=>by refine AG (K.frames.mem hb) λ_ Hx=>?_;obtain⟨o,ho,_⟩:=Hx;exact⟨o,ho⟩)
  (λb o e nm=>hBh b o (hBG b o (F.keep b o e) (λhm=>by
   rcases Cf hm hf with z|z;·rw[z,kts_self F]at e;cases e
   ·exact nm z)))
  (λb o e hm=>by refine AG (K.frames.mem hm) λ_ Hx=>?_;obtain⟨o',ho',hd⟩:=Hx;rw[e]at ho';cases ho';exact hsm b o (F.keep b o e) hd)
 refine⟨_,T,⟨hsm.ns F.ns,S,by rw[T.size];exact F.above⟩,⟨K.stack,λb o e=>T.other b o (K.stays b o e) (λhm=>by rw[(K.frames.mem hm).1]at e;cases e),K.frames.of_keeps λb o e _=>?_⟩⟩;refine AP (T.up e) λsl hs=>?_;exact⟨_,hs,rfl⟩
end
section
theorem JQ(ok:Γ.Ok)(d:DN Γ κ ex σ hv g m led cel im)(b2:∀b o,hv.get? b=some o->b∉(Γ.env::Γ.outer).filterMap (·.frame)->B.get? b=some o)
  (fx:Dn B (Γ.env::Γ.outer) a (BN C (some dx) a0 ctx cau BP x5) fl h') (up:hv.UpToSlots h') (d1:B.get? dx=some od) (d3:hv.get? dx=none) (d4:hv.get? a=none) :
  ∃g' tb,DN Γ ((κ.put dx od).put a (BN C (some dx) a0 ctx cau BP x5 tb)) ex σ h' g' m led cel ((a,BN C (some dx) a0 ctx cau BP x5 tb)::(dx,od)::im):=by
 refine D9 (SH d.B d.F ok.frame b2 fx.1 up) λg' T F' B'=>?_;obtain⟨oL,_,_,hL,_⟩:=d.F.ns;obtain⟨j1,j2,j3,tb,oT,ts,j4,_⟩:=fx;have off:∀q∈led++cel++ex++im,q.1∉(Γ.env::Γ.outer).filterMap (·.frame):=λq hq hb=>by
  rcases Cf hb ok.frame with y|y;·exact(d.N q hq).2.1 y
  ·refine AG (d.B.frames.mem y) λ_ Hx=>?_;obtain⟨o,ho,_⟩:=Hx;rw[(d.N q hq).2.2]at ho;cases ho
 have nax:a≠dx:=λz=>by rw[<-z,j2]at d1;cases d1
 have n1:∀q∈led++cel++ex++im,q.1≠a:=λq hq z=>by have:=(d.N q hq).1;rw[z,d4]at this;cases this
 have n2:∀q∈led++cel++ex++im,q.1≠dx:=λq hq z=>by have:=(d.N q hq).1;rw[z,d3]at this;cases this
 refine⟨g',.ref tb,F',λq hq=>?_,B',d.G.turn T,(d.L.le Wd.put_le).le Wd.put_le,λq hq=>?_,λq hq=>⟨T.other _ _ (d.J q hq).1 (d.J q hq).2,(d.J q hq).2⟩,?_,d.T⟩
 ·have hq':q=(a,BN C (some dx) a0 ctx cau BP x5 (.ref tb))\/q=(dx,od)\/q∈led++cel++ex++im:=by
   simp only[List.mem_append,List.mem_cons]at hq⊢;rcases hq with ((hq|hq)|hq)|hq|hq|hq;·exact .inr (.inr (.inl (.inl (.inl hq))))
   ·exact .inr (.inr (.inl (.inl (.inr hq))))
   ·exact .inr (.inr (.inl (.inr hq)))
   ·exact .inl hq
   ·exact .inr (.inl hq)
   ·exact .inr (.inr (.inr hq))
  rcases hq' with rfl|rfl|hq';·exact⟨j4,λz=>(by rw[show a=Γ.env.locals from z,hL]at d4;cases d4),T.none_ _ (kts_none d.F.keep d4)⟩
  ·exact⟨j1 _ _ d1,λz=>(by rw[show dx=Γ.env.locals from z,hL]at d3;cases d3),T.none_ _ (kts_none d.F.keep d3)⟩
  ·exact⟨j1 _ _ (b2 _ _ (d.N q hq').1 (off q hq')),(d.N q hq').2.1,T.none_ _ (d.N q hq').2.2⟩
 ·rcases List.mem_cons.mp hq with rfl|hq;·exact .inl (.head _)
  ·rcases List.mem_cons.mp hq with rfl|hq;·exact .inl (.tail _ (.head _))
   ·exact(d.I q hq).imp (λz=>.tail _ (.tail _ z)) id
 ·have e1:=DE (o:=od) d.D n2 (pre:=led++cel++ex) (post:=im) rfl;have e2:∀q∈led++cel++ex++(dx,od)::im,q.1≠a:=λq hq=>by
   have hq':q=(dx,od)\/q∈led++cel++ex++im:=by
    simp only[List.mem_append,List.mem_cons]at hq⊢;rcases hq with ((hq|hq)|hq)|hq|hq;·exact .inr (.inl (.inl (.inl hq)))
    ·exact .inr (.inl (.inl (.inr hq)))
    ·exact .inr (.inl (.inr hq))
    ·exact .inl hq
    ·exact .inr (.inr hq)
   rcases hq' with rfl|hq';·exact Ne.symm nax
   ·exact n1 q hq'
  exact DE (o:=BN C (some dx) a0 ctx cau BP x5 (.ref tb)) e1 e2 (pre:=led++cel++ex) (post:=(dx,od)::im) rfl
noncomputable def UO(Γ:BG)(e:Ex)(t:Expr):Prop:=
 ∀(A:Around) (h:Heap) (tk:Nat) (a:Addr) (Q:Bool->Shared->Prop) (E:Value->Shared->Prop),Γ.base.StaysIn h->Looks Γ.M h (typeOf (.ref a)) (.ref (Bp e))->
  (∀h',(∀b o,h.get? b=some o->h'.get? b=some o)->Q true (Γ.at h' tk))->wpAny Γ.M A (eval t Γ.env) (λc s₁=>wpAny Γ.M A (excMatches (.ref a) c) Q E s₁) E (Γ.at h tk)
theorem HE(C:Ef Γ A c ce)(hg:Fx c x=some a)(hb:Γ.base.StaysIn h)(q:Q (.ref a) (Γ.at h tk)):wpAny Γ.M A' (eval (.Name x pos) ce) Q E (Γ.at h tk):=by
 refine AG (Mn hg) λhk e=>?_;refine D3 hk λhk hd=>?_;have hk':=(C.kind x).symm.trans (eq_of_beq hk);refine Au (C.glb x _ e) λy e' r=>?_;cases r.gg;refine wpAny_Name ?_ (by simpa using hd);rw[loadName_read C.env.kind hk'];rcases e' with e'|⟨e1,e2⟩
 ·exact Calls.loadGlobal_global (C.env.gl▸C.ok.gl.keeps λ_ _ z=>hb _ _ z) e' q
 ·exact Calls.loadGlobal_builtin (C.env.gl▸C.ok.gl.keeps λ_ _ z=>hb _ _ z) e1 (C.env.bl▸C.ok.bl.keeps λ_ _ z=>hb _ _ z) e2 q
theorem Qq(h:ZZ c xs=true):∃y p x q,xs = [.Name y p,.Name x q]/\Fx c y=some 71/\Fx c x=some 91:=by
 rcases xs with _|⟨a,_|⟨b,r⟩⟩
 ·cases h
 ·cases h
 ·refine D3 h λh1 h2=>?_;have hr:=List.isEmpty_iff.mp h1;cases e1:Ei a with
  |none=>rw[e1]at h2;cases h2
  |some y=>
   cases e2:Ei b with
   |none=>rw[e1,e2]at h2;cases h2
   |some x=>rw[e1,e2]at h2;refine D3 h2 λh3 h4=>?_;refine AP (Dr e1) λp eqq1=>?_;subst eqq1;refine AP (Dr e2) λq eqq1=>?_;subst eqq1;exact⟨y,p,x,q,by rw[hr],eq_of_beq h3,eq_of_beq h4⟩
theorem Qh(S:E6 Γ c ex P X)(C:Ef Γ A c Γ.env)(ht:Cu c t e=true):UO Γ e t:=by
 intro A' h tk a Q E hb LT q;have XH:Γ.K.In h:=C.ok.X.keeps hb;unfold Cu at ht;cases e1:Ei t with
 |some x=>
  rw[e1]at ht;refine AP (Dr e1) λp eqq1=>?_;subst eqq1;cases e with
  |bad=>cases ht
  |trap=>refine HE C (eq_of_beq ht) hb ?_;exact(exm_one (M:=Γ.M) XH LT S.exm.1).here (q h λ_ _ z=>z)
 |none=>
  rw[e1]at ht;cases e2:Fc t with
  |none=>rw[e2]at ht;cases ht
  |some xs=>rw[e2]at ht;refine KH (Gp e2) λn np eqq2=>?_;subst eqq2;refine hM (Qq ht) λy p x p' eqq4 h1 h2=>?_;subst eqq4;refine wpAny_Tuple ?_;refine wpAny_items_cons (HE C h1 hb ?_);refine wpAny_items_cons (HE C h2 hb ?_);refine wpAny_items_nil ⟨by size_fits,?_⟩;have kp:∀q o,h.get? q=some o->(h.push {cls:=.type "tuple",data:=.seq [Value.ref 71,Value.ref 91].toArray}).get? q=some o:=λ_ _ z=>Heap.get?_push_of_some _ z;exact(exm_tup2 (M:=Γ.M) (XH.keeps kp) (LT.keeps kp) (Heap.get?_push_size h rfl) (S.exm.2 e)).here (q _ kp)
end
end
section
theorem Gs(h:CU C vs=some e):C=Bp e/\e.d=0:=by cases Ln h<;>exact⟨rfl,rfl⟩
theorem Ex.up_cls(e:Ex)(n:Nat):Bp (e.up n)=Bp e/\Fz (e.up n)=Fz e/\(e.up n).d=n:=by cases e<;>exact⟨rfl,rfl,rfl⟩
theorem Ex.up_self(e:Ex):e.up e.d=e:=by cases e<;>rfl
inductive Tg(c:Cx)(fr:Fm)(σ:St)(κ:Wd)(X:Wd->St->Ex->Value->Shared->Prop)(E:Value->Shared->Prop)(n₀:Nat):Expr->Prop
 |mk (n:Str) (np:Pos) (args:List Expr) (cpos:Pos) (vs:List V) (σ':St) (e:Ex) (hc:c.calm=false) (ha:argsOk args=true) (hg:Fx c n=some (Bp e)) (he:GX args c fr σ=.ok vs σ') (hx:CU (Bp e) vs=some e)
   (k:∀κ' x s,κ.Le κ'->X κ' σ' (e.up n₀) x s->E x s):Tg c fr σ κ X E n₀ (.Call (.Name n np) args [] cpos)
theorem IZ(o:Bf Γ ex κ P X (BH n₀ x c fr σ) Q E):Tg c fr σ κ X E n₀ x:=by
 unfold BH at o;cases q1:Ie x with
 |none=>rw[q1]at o;exact o.elim
 |some q=>
  obtain⟨f,args,kw⟩:=q;rw[q1]at o;dsimp only at o;cases q2:Ei f with
  |none=>rw[q2]at o;exact o.elim
  |some n=>
   rw[q2]at o;dsimp only at o;by_cases q3:kw.isEmpty=true
   rotate_left
   ·rw[if_neg q3]at o;exact o.elim
   rw[if_pos q3]at o;refine AP (Og q1) λcpos eqq1=>?_;subst eqq1;refine AP (Dr q2) λnp eqq1=>?_;obtain rfl:=List.isEmpty_iff.mp q3;dsimp only at eqq1⊢;subst eqq1;clear q1 q2 q3;unfold Ku at o;by_cases hg:(!c.calm&&argsOk args)=true
   rotate_left
   ·rw[if_neg hg]at o;exact o.elim
   rw[if_pos hg]at o;refine D3 hg λg1 g2=>?_;cases e1:GX args c fr σ with
   |exc=>rw[Ao (ET e1)]at o;exact o.elim
   |stuck=>rw[Ao (CD e1)]at o;exact o.elim
   |ok vs σ'=>
    rw[Ae (Bk e1)]at o;cases e2:Fx c n with
    |none=>rw[e2]at o;exact o.elim
    |some C₀=>
     rw[e2]at o;replace o:Bf Γ ex κ P X (match CU C₀ vs with|some e=>.exc (e.up n₀) σ'|none=>.stuck) Q E:=o;cases e3:CU C₀ vs with
     |none=>rw[e3]at o;exact o.elim
     |some e=>rw[e3]at o;refine AG (Gs e3) λeqq0 _=>?_;subst eqq0;exact .mk n np args cpos vs σ' e ((Bool.not_eq_true' _).mp g1) g2 e2 e1 e3 o
theorem Iw(EV:HO)(C:Ef Γ A c Γ.env)(mkx:lZ Γ A)(ar:AR Γ κ Γ.env ex fr σ h)(ha:argsOk args=true)(hg:Fx c n=some (Bp e))(he:GX args c fr σ=.ok vs σ')(hx:CU (Bp e) vs=some e)
  (go:∀κ' g m led cel im x dx od a0 BP h' tk',κ.Le κ'->Lj Γ κ' Γ.env ex m cel fr->Ly Γ κ' ex σ' h' g m led cel im e x dx od a0 .none .none BP .none->Q (.ref x) (Γ.at h' tk')) :
  wpAny Γ.M A (eval (.Call (.Name n np) args [] cpos) Γ.env) Q E (Γ.at h tk):=by
 show wpAny Γ.M A (do callWith cpos (<-eval (.Name n np) Γ.env) [] (backTo cpos (starEach args Γ.env)) (backToKw cpos (keywordEach [] Γ.env))) Q E _;refine wpAny_bind (HE C hg (λ_ _ z=>ar.kept z) ?_);have kf:MB Γ (.ref (Bp e)):=by exact C.gkeep _ _ (Mn hg).2 (by cases e<;>rfl)
 refine D3 ha λhp _=>?_;refine En kf hp ((ES cpos args (λx _=>EV.ev _ _ _ _ _ x C) hp).use ar ?_);rw[he];intro κ' h' tk' xs q ar' rs;exact⟨C.ok.X.keeps λ_ _ z=>ar'.kept z,mkx _ e vs xs κ' ex fr σ' h' tk' Q E hx ar' rs λκ'' g m led cel im x dx od a0 BP h'' tk'' q' nm nx=>go κ'' g m led cel im x dx od a0 BP h'' tk'' (q.trans q') nm nx⟩
theorem RB(EV:HO)(S:E6 Γ c ex P X)(hA:Gb Γ A c.plain)(ar:AR Γ κ Γ.env ex fr σ h)(o:Bf Γ ex κ P X ((if c.plain=true then BH 0 x c fr else AB) σ) Q E):
  wpAny Γ.M A (exec (.Raise (some x) none pos) Γ.env) Q E (Γ.at h tk):=by
 by_cases hp:c.plain=true
 ·rw[if_pos hp]at o;obtain⟨n,np,args,cpos,vs,σ',e,hc,ha,hg,he,hx,k⟩:=IZ o;have C:=S.cc hA;refine MT (K:=Γ.K) (C:=Bp e) C.ok.X (hA.handled hp) (S.sub e).1 (S.sub e).2 (Iw EV C (S.mkx A _ hA) ar ha hg he hx λκ' g m led cel im x dx od a0 BP h' tk' q nm nx=>?_);refine⟨x,some dx,a0,BP,rfl,C.ok.X.keeps λ_ _ z=>nx.d.kept z,(nx.N _ (.head _)).1,k κ' _ _ q (S.ra hc _ _ _ _ _ ?_)⟩;have:e.up 0=e:=by rw[<-(Gs hx).2];exact e.up_self
  rw[this];exact VV C.ok nx
 ·rw[if_neg hp]at o;exact o.elim
theorem NK(EV:HO)(S:E6 Γ c ex P X)(hA:Gb Γ A false)(ar:AR Γ κ Γ.env ex fr σ h)(hh:A.handled=some (.ref b))
  (hb:Pf Γ.base κ b (BN C₁ (some dxb) b0 ctx cau BP x5 tb)) (hn:n₀<=1) (hd:Mm Γ.base κ n₀ b ctx) (o:Bf Γ ex κ P X (BH (n₀+1) x c.off fr σ) Q E) :
  wpAny Γ.M A (exec (.Raise (some x) (some (.Constant Const.none ck cp)) pos) Γ.env) Q (notedBy Γ.M A Γ.env (cameBackBy Γ.M A₂ Γ.env E)) (Γ.at h tk):=by
 obtain⟨n,np,args,cpos,vs,σ',e,hc,ha,hg,he,hx,k⟩:=IZ o;have C:=S.cok A false hA;have d0:=(Gs hx).2;refine NX (K:=Γ.K) (C:=Bp e) C.ok.X hh (S.sub e).1 (S.sub e).2 (Iw EV C (S.mkx A _ hA) ar ha hg he hx λκ' g m led cel im x dx od a0 sup₁ h' tk' q nm nx=>?_);have hx':=nx.N _ (.head _);have old:∀a o,Pf Γ.base κ' a o->a≠x:=λa o p z=>by
  subst z;rcases p with p|p;·rw[nx.d.B.stays _ _ p]at hx';exact nomatch hx'.2.2
  ·rcases nx.d.I _ p with y|y;·exact(nx.off (a,o) (by simp[y])).1 rfl
   ·have:=(nx.d.J _ y).1;rw[hx'.2.2]at this;cases this
 have hb':=hb.le q;have hbh:=nx.d.pf hb';have nK:Γ.K.lookup x=none:=by
  cases eK:Γ.K.lookup x with
  |none=>rfl
  |some o'=>exact absurd rfl (old x o' (.inl (C.ok.X _ _ eK)))
 refine⟨x,some dx,a0,sup₁,_,_,ctx,rfl,C.ok.X.keeps λ_ _ z=>nx.d.kept z,nK,hx'.1,old _ _ hb',hbh,rfl,rfl,?_,?_,λh'' g2 sb=>?_⟩
 ·rcases n₀ with _|_|n₀;·exact .inl hd
  ·obtain⟨e0,o0,vs0,c1,c2,c3,c4,c5⟩:=hd;exact .inr ⟨e0,o0,vs0,c1,c2,nx.d.pf (c3.le q),c4,c5⟩
  ·lia
 ·intro e0 ec;rcases n₀ with _|_|n₀;·rw[show ctx=Value.none from hd]at ec;cases ec
  ·obtain⟨e0',o0,vs0,c1,c2,c3,c4,c5⟩:=hd;rw[c1]at ec;cases ec;exact old _ _ (c3.le q)
  ·lia
 ·have u:=e.up_cls (n₀+1);have xL:x≠Γ.env.locals:=hx'.2.1;have F':Fr g Γ.env.locals h'' m:=⟨nx.d.F.ns.at' λo z=>sb.extBut _ o (Ne.symm xL) z,λa o z=>sb.extBut a o (λy=>by rw[y,hx'.2.2]at z;cases z) (nx.d.F.keep a o z),nx.d.F.above⟩
  have N':News g Γ.env.locals h'' (led++cel++ex++im):=λp hp=>⟨sb.extBut _ _ (nx.off p hp).1 (nx.d.N p hp).1,(nx.d.N p hp).2⟩
  have dxN:=nx.N _ (.tail _ (.head _));have nx':Ly Γ κ' ex σ' h'' g m led cel im (e.up (n₀+1)) x dx od a0 (.ref b) .none (.bool true) .none:={
   d:=nx.d.same F' N'
   N:=λp hp=>by
    rcases List.mem_cons.mp hp with rfl|hp;·rw[u.1];exact⟨g2,hx'.2⟩
    ·rcases List.mem_cons.mp hp with rfl|hp;·exact⟨sb.extBut _ _ nx.ne dxN.1,dxN.2⟩
     ·exact N' p hp
   ne:=nx.ne
   off:=nx.off
   P:=by rw[u.2.1];exact nx.P
   cd:=by
    rw[u.2.2];rcases n₀ with _|_|n₀;·rw[show ctx=Value.none from hd]at hb';exact⟨b,_,_,rfl,old _ _ hb',hb',rfl,rfl⟩
    ·trivial
    ·lia}
  exact SG (tk:=tk') C.ok nx' hA.frames λs xf=>k κ' _ _ q (S.ra hc _ _ _ _ _ xf)
end
section
theorem Mm.le(q:κ.Le κ')(x:Mm base κ d e ctx):Mm base κ' d e ctx:=by
 rcases d with _|_|d;·exact x
 ·obtain⟨e0,o0,vs0,c1,c2,c3,r⟩:=x;exact⟨e0,o0,vs0,c1,c2,c3.le q,r⟩
 ·trivial
theorem Nr(o:Bf Γ ex κ P X (BH n₀ x c fr σ) Q E):Bf Γ ex κ P X (BH n₀ x c fr σ) Q' E:=by
 cases e:BH n₀ x c fr σ with
 |ok f σ'=>exact(Ke e).elim
 |exc e σ'=>rw[e]at o;exact o
 |stuck=>rw[e]at o;exact o.elim
theorem YV(EV:HO)(S:E6 Γ c ex P X)(hA:Gb Γ A false)(ar:AR Γ κ Γ.env ex fr σ h)(hh:A.handled=some (.ref b))
  (hb:Pf Γ.base κ b (BN C₁ (some dxb) b0 ctx cau BP x5 tb)) (hd:Mm Γ.base κ n₀ b ctx) (o:Bf Γ ex κ P X (Eg n₀ suite c.off fr σ) Q E) :
  wpAny Γ.M A (execs suite Γ.env) Q (notedBy Γ.M A Γ.env (cameBackBy Γ.M A₂ Γ.env E)) (Γ.at h tk):=by
 have C:=S.cok A false hA;rcases suite with _|⟨st,r⟩
 ·exact o.elim
 replace o:Bf Γ ex κ P X ((if r.isEmpty=true then Pt n₀ st c.off fr else AB) σ) Q E:=o;by_cases hr:r.isEmpty=true
 rotate_left
 ·rw[if_neg hr]at o;exact o.elim
 rw[if_pos hr]at o;obtain rfl:=List.isEmpty_iff.mp hr;unfold Pt at o;cases q1:MF st with
 |some e=>rw[q1]at o;refine AP (JH q1) λpos eqq1=>?_;subst eqq1;refine wpAny_execs_cons (wpAny_Return_some ((EV.ev _ _ _ _ _ e C).use ar (Ma o λv σ₁ _ κ₁ h₁ tk₁ y q₁ ar₁ ry o₁=>?_)));exact o₁ κ₁ h₁ tk₁ y fr .refl ar₁ ry
 |none=>
  rw[q1]at o;dsimp only at o;cases q2:Ph st with
  |none=>rw[q2]at o;exact o.elim
  |some q=>
   obtain⟨x,y⟩:=q;rw[q2]at o;dsimp only at o;by_cases q3:UJ y=true
   rotate_left
   ·rw[if_neg q3]at o;exact o.elim
   rw[if_pos q3]at o;by_cases hn:n₀<=1
   rotate_left
   ·rw[if_neg hn]at o;exact o.elim
   rw[if_pos hn]at o;refine AP (Qp q2) λpos eqq1=>?_;subst eqq1;refine KH (Qe q3) λck cp ey=>?_;dsimp only at ey⊢;subst ey;refine wpAny_execs_cons (wpAny_mono (NK EV S (A₂:=A₂) hA ar hh hb hn hd (Q:=λ_ _=>False) (E:=E) (Nr o)) (λ_ _ z=>z.elim) λ_ _ z=>z)
theorem Uv(EV:HO)(S:E6 Γ c ex P X)(hA:Gb Γ A c.plain)(fl:IJ Γ κ Γ.env ex fr σ e x s)
  (o:Bf Γ ex κ P X (Jo (λσ=>.exc e σ) handlers c fr σ) Q E) :
  wpAny Γ.M A (noteFrame x Γ.env) (λ_ s₂=>wpAny Γ.M A (setFlight x none) (λ_ s₃=>wpAny Γ.M A (handleBy x Γ.env handlers) Q E s₃) E s₂) E s:=by
 rcases handlers with _|⟨⟨t,nm,suite,pos⟩,_|⟨h2,hr⟩⟩
 ·exact o.elim
 rotate_left
 ·cases t<;>cases nm<;>exact o.elim
 rcases t with _|t;·cases nm<;>exact o.elim
 have C:=S.cc hA;have ok:=C.ok;obtain⟨hv,h',tk,a,rfl,rfl,⟨g,m,led,cel,im,d,nn⟩,D⟩:=fl;obtain⟨B,a0,dx,od,ctx,cau,BP,x5,b1,b2,fx,up,d1,d2,d3,d4,okc⟩:=D;have hAm:∀v,Gb Γ (A.mark v) false:=λv=>⟨hA.frames,λz=>(by cases z),hA.depth,hA.units⟩
 have go:∀{t:Expr}{nm':Option Str}{suite:List Stmt}{pos:Pos},Cu c t e=true->
   (∀h₃ tk₃,Dn B (Γ.env::Γ.outer) a (BN (Bp e) (some dx) a0 ctx cau BP x5) .none h₃->hv.UpToSlots h₃->codeAny Γ.M (A.mark (some (.ref a))) (.handlers (.ref a) [.ExceptHandler none nm' suite pos] Γ.env) (λr s₂=>match r with
     |.ok f=>(match nm' with
      |none=>Q f s₂
      |some n=>wpAny Γ.M A (do bindName Γ.env n .none;unbindBehindTheSuite Γ.env n pos) (λ_ s₃=>Q f s₃) E s₂)
     |.error x=>cameBackBy Γ.M A Γ.env E x s₂) (Γ.at h₃ tk₃))->
   wpAny Γ.M A (noteFrame (.ref a) Γ.env) (λ_ s₂=>wpAny Γ.M A (setFlight (.ref a) none) (λ_ s₃=>wpAny Γ.M A (handleBy (.ref a) Γ.env [.ExceptHandler (some t) nm' suite pos]) Q E s₃) E s₂) E (Γ.at h' tk):=by
  intro t nm' suite pos ht k;refine Hf (s:=Γ.at h' tk) hA.frames ok.frame fx λh₁ f₁ u₁=>?_;refine Dg (s:=Γ.at h₁ tk) (v:=none) f₁ λh₂ f₂ u₂=>?_;have LT:Looks Γ.M h₂ (typeOf (.ref a)) (.ref (Bp e)):=by obtain⟨_,_,_,_,_,_,he,_⟩:=id f₂;exact(Looks.ld he).andThen .now
  refine wpAny_handleBy_cons (codeAny_handlers_test (Qh S C ht _ h₂ tk a _ _ (λb o e=>f₂.1 _ _ (b1 _ _ e)) LT λh₃ kp=>?_)) (by intro q;cases q);exact k h₃ tk (f₂.keeps kp) ((up.trans (u₁.trans u₂)).trans (Heap.UpToSlots.of_keeps kp))
 cases nm with
 |none=>
  replace o:Bf Γ ex κ P X (if Cu c t e=true then Eg e.d suite c.off fr σ else .stuck) Q E:=o;by_cases ht:Cu c t e=true
  ·rw[if_pos ht]at o;refine go ht λh₃ tk₃ f₃ u₃=>?_;cases suite with
   |nil=>exact o.elim
   |cons b₀ suite=>refine codeAny_handlers_suite (Dg (s:=Γ.at h₃ tk₃) (v:=none) f₃ λh₄ f₄ u₄=>?_);refine KH (JQ ok d b2 f₄ (u₃.trans u₄) d1 d3 d4) λg' tb d'=>?_;have q:κ.Le ((κ.put dx od).put a (BN (Bp e) (some dx) a0 ctx cau BP x5 tb)):=Wd.put_le.trans Wd.put_le;exact YV EV S (hAm _) ⟨g',m,led,cel,_,d',nn.le q⟩ rfl Wd.put_pf (okc.le q) (o.le q)
  ·rw[if_neg ht]at o;exact o.elim
 |some n=>
  cases e with
  |bad p dd=>exact o.elim
  |trap p v dd=>
   replace o:Bf Γ ex κ P X (if(Cu c t (.trap p v dd)&&c.kind n==some .local&&Om suite)=true then Eg 2 suite c.off (Ac fr n (.exn p v)) σ else .stuck) Q E:=o;by_cases ht:(Cu c t (.trap p v dd)&&c.kind n==some .local&&Om suite)=true
   ·rw[if_pos ht]at o;simp only[Bool.and_eq_true,beq_iff_eq]at ht;obtain⟨⟨ht,hk⟩,hr⟩:=ht;refine go ht λh₃ tk₃ f₃ u₃=>?_;have hk':Γ.env.kindOf n=some .local:=(C.kind n)▸hk;rcases suite with _|⟨st,sr⟩
    ·cases hr
    ·refine D3 hr λhr1 hr2=>?_;obtain rfl:=List.isEmpty_iff.mp hr1;refine AP (Option.isSome_iff_exists.mp hr2) λee q1=>?_;refine AP (JH q1) λrp eqq1=>?_;subst eqq1;refine codeAny_handlers_suite_as (Dg (s:=Γ.at h₃ tk₃) (v:=none) f₃ λh₄ f₄ u₄=>?_);refine KH (JQ ok d b2 f₄ (u₃.trans u₄) d1 d3 d4) λg' tb d'=>?_;have q:κ.Le ((κ.put dx od).put a (BN (Bp (.trap p v dd)) (some dx) a0 ctx cau BP x5 tb)):=Wd.put_le.trans Wd.put_le;have ar':AR Γ ((κ.put dx od).put a (BN (Bp (.trap p v dd)) (some dx) a0 ctx cau BP x5 tb)) Γ.env ex fr σ h₄:=⟨g',m,led,cel,_,d',nn.le q⟩
     have rx:RV Γ.base ((κ.put dx od).put a (BN (Bp (.trap p v dd)) (some dx) a0 ctx cau BP x5 tb)) (.exn p v) (.ref a):=.exn Wd.put_pf (Wd.put_pf.le Wd.put_le) d2;refine DF (c:={c with okn:=λ_=>true}) ok S.nk C.kind (by unfold AW;rw[show(({c with okn:=λ_=>true}:Cx).kind n)=some .local from hk];rfl) ar' rx λh₅ tk₅ ar₅=>?_;replace o:Bf Γ ex κ P X (Aa (Cs (ev ee c.off (Ac fr n (.exn p v)))) (λv=>ret (.rets v)) σ) Q E:=o;have C':=S.cok (A.mark (some (.ref a))) false (hAm _);refine wpAny_execs_cons (wpAny_Return_some ((EV.ev _ _ _ _ _ ee C').use ar₅ (Ma (o.le q) λy σ₁ _ κ₁ h₁ tk₁ y' q₁ ar₁ ry o₁=>?_)));obtain⟨g₁,m₁,led₁,cel₁,im₁,e₁,nm₁⟩:=ar₁;refine wpAny_nameGoes hk' e₁.F.ns (by rw[ok.kind];rfl) λh₆ m₆ hn₆ hs₆=>?_;have ar₆:AR Γ κ₁ Γ.env ex (λ_=>none) σ₁ h₆:=⟨g₁,m₆,led₁,cel₁,im₁,⟨e₁.F.set hn₆ hs₆,e₁.N.set hs₆,e₁.B,e₁.G,e₁.L,e₁.I,e₁.J,e₁.D,e₁.T⟩,⟨⟨m₆,.inl ⟨rfl,rfl⟩,λz u e _=>nomatch e⟩,λz kz=>by refine HP (nm₁.cell z kz) λb ob y c1 c2 c3 _=>?_;exact⟨b,ob,y,c1,c2,c3,λu e=>nomatch e⟩,λf e=>by rw[S.nk]at e;cases e⟩⟩
     exact o₁ κ₁ h₆ _ y' _ .refl ar₆ ry
   ·rw[if_neg ht]at o;exact o.elim
end
section
theorem Iz(h:(a::l).all BM=true):BM a=true/\l.all BM=true:=Bool.and_eq_true_iff.mp h
inductive Nf:V->Prop
 |int (i:Int):Nf (.int i)
 |str (s:Str):Nf (.str s)
theorem LH(h:BM a=true):Nf a:=(Bool.or_eq_true_iff.mp h).elim (λh=>V.int.elim (motive_1:=Nf) a (of_decide_eq_true h) .int) λh=>V.str.elim (motive_1:=Nf) a (of_decide_eq_true h) .str
theorem GC:∀{xs:List Value},Bo base κ l xs->l.all BM=true->ItemsAre (Dl prog w) (l.map Cd) xs:=by
 induction l with
 |nil=>intro xs rs h;cases rs.nn;exact .nil
 |cons v l ih=>
  intro xs rs h;refine AG (Iz h) λh1 h2=>?_;cases rs.cc with
  |mk r rt=>
   refine .cons ?_ (ih rt h2);cases LH h1 with
   |int i=>cases r.ii;exact decide_eq_true rfl
   |str s=>cases r.ss;exact decide_eq_true rfl
theorem Tf(h:BM a=true)(h':BM b=true)(e:Cd a=Cd b):a=b:=by
 cases LH h with
 |int i=>cases LH h' with
  |int j=>exact congrArg V.int (Gz.i.inj e)
  |str s=>exact absurd e nofun
 |str s=>cases LH h' with
  |int j=>exact absurd e nofun
  |str t=>exact congrArg V.str (Gz.s.inj e)
theorem I1:∀{l':List V},l.all BM=true->l'.all BM=true->l.map Cd=l'.map Cd->l=l':=by
 induction l with
 |nil=>
  intro l' h h' e;cases l' with
  |nil=>rfl
  |cons=>exact absurd e.symm (List.cons_ne_nil _ _)
 |cons a l ih=>
  intro l' h h' e;cases l' with
  |nil=>exact absurd e (List.cons_ne_nil _ _)
  |cons b l'=>refine AG (Iz h) λh1 h2=>?_;refine AG (Iz h') λk1 k2=>?_;replace e:Cd a::l.map Cd=Cd b::l'.map Cd:=e;rw[Tf h1 k1 (List.cons.inj e).1,ih h2 k2 (List.cons.inj e).2]
noncomputable def Bi(es:List (V×V))(k:V):Option Nat:=es.findIdx? λp=>Ay p.1 k
section
variable{Γ:BG}
theorem Eh.length(f:Eh base κ hsh es ds):es.length=ds.length:=by
 induction f with
 |nil=>rfl
 |cons _ _ _ ih=>simp[ih]
theorem Eh.get{base:Heap}{hsh:V->Int}{es:List (V×V)}{ds:List DictEntry}(f:Eh base κ hsh es ds){i:Nat}{p:V×V}(e:es[i]?=some p):∃x y,ds[i]?=some ⟨hsh p.1,x,y⟩/\RV base κ p.1 x/\RV base κ p.2 y:=by
 induction f generalizing i with
 |nil=>simp at e
 |cons a b _ ih=>
  cases i with
  |zero=>simp at e;subst e;exact⟨_,_,by simp,a,b⟩
  |succ i=>simp at e;refine CX (ih e) λx y h1 h2=>?_;exact⟨x,y,by simpa using h1,h2⟩
theorem Eh.mem(f:Eh base κ hsh es ds)(hm:e∈ds):∃p∈es,e.hash=hsh p.1/\RV base κ p.1 e.key/\RV base κ p.2 e.val:=by
 induction f with
 |nil=>cases hm
 |cons a b _ ih=>
  rcases List.mem_cons.mp hm with rfl|hm;·exact⟨_,.head _,rfl,a,b⟩
  ·refine Au (ih hm) λp hp r=>?_;exact⟨p,.tail _ hp,r⟩
theorem Eh.find(f:Eh base κ hsh es ds)(hp:∀(v:V×V) (e:DictEntry),v∈es->RV base κ v.1 e.key->p e=Ay v.1 k):ds.findIdx? p=Bi es k:=by
 induction f with
 |nil=>rfl
 |@cons a b x y es ds ra rb _ ih=>unfold Bi at ih⊢;rw[List.findIdx?_cons,List.findIdx?_cons,hp (a,b) _ (.head _) ra,ih λv e hm=>hp v e (.tail _ hm)]
set_option tactic.hygienic true in
theorem KI(hh:Γ.hsh=Lg Γ.prog Γ.w)(hu:A.units<cLine)(hk:B3 k=true)(r:RV Γ.base κ k x)(pf:∀a o,Pf Γ.base κ a o->h.get? a=some o)
  (q:∀tk',Q (Γ.hsh k) (Γ.at h tk')):wpAny Γ.M A (pyHash x) Q E (Γ.at h tk):=by
 rw[hh]at q;cases k<;>first|cases hk|skip
 ·cases r.ii;exact wpAny_pyHash_int (q _)
 ·rename_i l;cases r.tt with
  |@mk a arr ep p rs=>
   have:IsTupleKey (Dl Γ.prog Γ.w) h (l.map Cd) a:=⟨_,arr,ep,pf _ _ p,rfl,rfl,GC rs hk⟩
   exact wpAny_pyHash_tuple (s:=Γ.at h tk) hu this (q _)
set_option tactic.hygienic true in
theorem OS(h:E8 u=true):∃i,u=.int i:=V.int.elim (motive_1:=λu=>∃i,u=V.int i) u (of_decide_eq_true h) λi=>⟨i,rfl⟩
theorem Yr(h:LY u=true)(hk:B3 u=true):∃l,u=.tup l/\l.all BM=true:=V.tup.elim (motive_1:=λu=>B3 u=true->∃l,u=V.tup l/\l.all BM=true) u (of_decide_eq_true h) (λl hk=>⟨l,rfl,hk⟩) hk
theorem L7{es:List (V×V)}(nd:(es.map (·.1)).Nodup){i j:Nat}{k v w:V}(h1:es[i]?=some (k,v))(h2:es[j]?=some (k,w)):i=j:=by
 have a1:(es.map (·.1))[i]?=some k:=by rw[List.getElem?_map,h1];rfl
 have b1:(es.map (·.1))[j]?=some k:=by rw[List.getElem?_map,h2];rfl
 exact(List.getElem?_inj (List.getElem?_eq_some_iff.mp a1).1 nd).mp (a1.trans b1.symm)
theorem V9{es:List (V×V)}(nd:(es.map (·.1)).Nodup){j:Nat}{k v:V}(h:es[j]?=some (k,v)):Bi es k=some j:=by refine AP (List.getElem?_eq_some_iff.mp h) λhj ej=>?_;refine List.findIdx?_eq_some_iff_getElem.mpr ⟨hj,by rw[ej];exact BX _,λi hij e=>?_⟩;have hi:i<es.length:=Nat.lt_trans hij hj;refine absurd (L7 nd (i:=i) (v:=es[i].2) ?_ h) (Nat.ne_of_lt hij);rw[List.getElem?_eq_getElem hi,<-Cr e]
theorem Sm(h:∀(i:Nat) (v:V),es[i]?≠some (k,v)):Bi es k=none:=by
 refine List.findIdx?_eq_none_iff.mpr λp hp=>?_;cases e:Ay p.1 k with
 |false=>rfl
 |true=>refine AP (List.mem_iff_getElem?.mp hp) λi hi=>?_;exact absurd (by rw[hi,<-Cr e]) (h i p.2)
theorem Wf(hh:Γ.hsh=Lg Γ.prog Γ.w)(ho:h.get? a=some (dictOf ds n))(f:Eh Γ.base κ Γ.hsh es ds)
  (kk:es.all (λp=>E8 p.1)=true) (q:Q (Bi es (.int i)) (Γ.at h tk)):wpAny Γ.M A (dictFind a (.int i t) (Γ.hsh (.int i))) Q E (Γ.at h tk):=by
 have shape:∀p∈es,∃j,p.1=.int j:=λp hp=>OS (List.all_eq_true.mp kk p hp);have K:KeysOf (intKind Γ.prog Γ.w) ds.toArray:=λe he=>by refine pH (f.mem (by simpa using he)) λp hp h1 h2 _=>?_;refine AP (shape p hp) λj ej=>?_;rw[ej]at h1 h2;generalize e.key=y at h2;cases h2.ii;exact⟨j,decide_eq_true rfl,by rw[h1,hh];rfl⟩
 rw[show Γ.hsh (.int i)=(intKind Γ.prog Γ.w).hash i by rw[hh];rfl];refine wpAny_dictFind_of (s:=Γ.at h tk) (knd:=intKind Γ.prog Γ.w) (o:=dictOf ds n) (decide_eq_true rfl) ho rfl K ?_;rw[List.findIdx?_toArray,f.find λv e hm rv=>?_];·exact q
 refine AP (shape v hm) λj ej=>?_;rw[ej]at rv⊢;generalize e.key=y at rv;cases rv.ii;show _=decide (j=i);rw[Bool.eq_iff_iff,decide_eq_true_iff];simp[intKind,Value.isInt];try exact eq_comm
inductive jA(Γ:BG)(h:Heap)(es:List (V×V))(ds:List DictEntry):Prop
 |mk (xs:List (List Gz×Addr×Value)) (e1:ds=xs.map (entryOfKey (tupleKind (Dl Γ.prog Γ.w)))) (e2:∀y∈xs,IsTupleKey (Dl Γ.prog Γ.w) h y.1 y.2.1)
   (e3:∀(i:Nat) (l:List V) (v:V),es[i]?=some (.tup l,v)->∃p,xs[i]?=some (l.map Cd,p))
   (e4:∀(i:Nat) (l₁:List Gz) (p:Addr×Value),xs[i]?=some (l₁,p)->∃l v,es[i]?=some (.tup l,v)/\l.map Cd=l₁/\l.all BM=true):jA Γ h es ds
theorem kS(hh:Γ.hsh=Lg Γ.prog Γ.w)(f:Eh Γ.base κ Γ.hsh es ds)(shape:∀p∈es,∃l,p.1=.tup l/\l.all BM=true)(pf:∀a o,Pf Γ.base κ a o->h.get? a=some o):jA Γ h es ds:=by
 induction f with
 |nil=>exact⟨[],rfl,λ_ h=>(nomatch h),λ_ _ _ h=>(nomatch h),λ_ _ _ h=>(nomatch h)⟩
 |@cons a b x y es ds ra rb _ ih=>
  obtain⟨xs,e1,e2,e3,e4⟩:=ih λp hp=>shape p (.tail _ hp);refine Au (shape (a,b) (.head _)) λl₁ el hl₁=>?_;dsimp only at el;subst el;cases ra.tt with
  |@mk b' arr' ep' p' rs'=>
   refine⟨(l₁.map Cd,b',y)::xs,?_,?_,?_,?_⟩;·rw[List.map_cons,<-e1];congr 1;rw[hh];rfl
   ·intro z hz;rcases List.mem_cons.mp hz with rfl|hz;·exact⟨_,arr',ep',pf _ _ p',rfl,rfl,GC rs' hl₁⟩
    ·exact e2 z hz
   ·intro i l v h;cases i with
    |zero=>rw[<-V.tup.inj (congrArg Prod.fst (Option.some.inj h))];exact⟨_,rfl⟩
    |succ i=>exact e3 i l v h
   ·intro i l p h;cases i with
    |zero=>exact⟨l₁,b,rfl,congrArg Prod.fst (Option.some.inj h),hl₁⟩
    |succ i=>exact e4 i l p h
theorem Sz(hh:Γ.hsh=Lg Γ.prog Γ.w)(hu:A.units<cLine){a:Addr}{es:List (V×V)}{ds:List DictEntry}{n:Nat}(ho:h.get? a=some (dictOf ds n))(f:Eh Γ.base κ Γ.hsh es ds)(nd:(es.map (·.1)).Nodup)(shape:∀p∈es,∃l,p.1=.tup l/\l.all BM=true)
  {l:List V}{x:Value}(hk:l.all BM=true) (r:RV Γ.base κ (.tup l) x) (pf:∀a o,Pf Γ.base κ a o->h.get? a=some o) {Q:Option Nat->Shared->Prop}{E:Value->Shared->Prop}(q:Q (Bi es (.tup l)) (Γ.at h tk)):wpAny Γ.M A (dictFind a x (Γ.hsh (.tup l))) Q E (Γ.at h tk):=by
 cases r.tt with
 |@mk b arr ep p rs=>
  obtain⟨xs,e1,e2,e3,e4⟩:=kS hh f shape pf;rw[show Γ.hsh (.tup l)=(tupleKind (Dl Γ.prog Γ.w)).hash (l.map Cd) by rw[hh];rfl];have ndX:(xs.map (·.1)).Nodup:=by refine List.pairwise_iff_getElem.mpr λi j hi hj hij e=>?_;rw[List.length_map]at hi hj;rw[List.getElem_map,List.getElem_map]at e;refine Cz (e4 i _ _ (List.getElem?_eq_getElem hi)) λl1 v1 a1 a2 a3=>?_;refine Cz (e4 j _ _ (List.getElem?_eq_getElem hj)) λl2 v2 b1 b2 b3=>?_;rw[I1 a3 b3 (a2.trans (e.trans b2.symm))]at a1;exact absurd (L7 nd a1 b1) (Nat.ne_of_lt hij)
  refine wpAny_dictFind_heap (s:=Γ.at h tk) (knd:=tupleKind (Dl Γ.prog Γ.w)) (o:=dictOf ds n) (xs:=xs) hu ⟨_,arr,ep,pf _ _ p,rfl,rfl,GC rs hk⟩ ho rfl (by rw[<-e1]) e2 ndX (λhno=>?_) λj p hj=>?_;·rw[Sm λi v hi=>AP (e3 i l v hi) λp' hp'=>hno i p' hp']at q;exact q
  ·refine Cz (e4 j _ _ hj) λl' v b1 b2 b3=>?_;rw[I1 b3 hk b2]at b1;rw[V9 nd b1]at q;exact q
theorem KC(hh:Γ.hsh=Lg Γ.prog Γ.w)(hu:A.units<cLine)(ho:h.get? a=some (dictOf ds n))(f:Eh Γ.base κ Γ.hsh es ds)(ka:(es.map (·.1)).all B3=true)(nd:(es.map (·.1)).Nodup)
  (kk:As es k=true) (r:RV Γ.base κ k x) (pf:∀a o,Pf Γ.base κ a o->h.get? a=some o) (q:Q (Bi es k) (Γ.at h tk)):wpAny Γ.M A (dictFind a x (Γ.hsh k)) Q E (Γ.at h tk):=by
 refine D3 kk λhk kk1=>?_;cases k with
 |int i=>cases r.ii;exact Wf hh ho f kk1 q
 |tup l=>exact Sz hh hu ho f nd (λp hp=>Yr (List.all_eq_true.mp kk1 p hp) (List.all_eq_true.mp ka _ (List.mem_map_of_mem hp))) hk r pf q
 |_=>exact DA hk
end
end
section
noncomputable abbrev Ub(x y z:Value):Obj:={cls:=.type "slice",data:=.fields #[x,y,z]}
inductive mT(base:Heap)(κ:Wd):Ek->Value->Prop
 |item {k:V}{y:Value}:RV base κ k y->mT base κ (.item k) y
 |cut {a b d:V}{x y z:Value}{s:Addr}:Pf base κ s (Ub x y z)->RV base κ a x->RV base κ b y->RV base κ d z->mT base κ (.cut a b d) (.ref s)
section
variable{Γ:BG}
abbrev T9(Γ:BG)(A:Around)(c:Cx)(ce:Env)(fr:Fm)(e:Expr):Prop:=S0 Γ A ce fr (mT Γ.base) (eval e ce) (Yo e c fr)
theorem AR.push(ar:AR Γ κ ce ex fr σ h)(o:Obj)(hf:o.isFreed=false):AR Γ (κ.put h.objs.size o) ce ex fr σ (h.push o):=by obtain⟨g,m,led,cel,im,d,nm⟩:=ar;refine AR.put nm d (d.F.push _) (News.push d.F d.N _ hf) λq hq e=>?_;have:=Heap.lt_size (d.N q hq).1;rw[e]at this;exact absurd this (Nat.lt_irrefl _)
set_option tactic.hygienic true in
theorem Dj{value slice:Expr}{o i:Value}{T id:String}{s:Shared}{Q:Value->Shared->Prop}{E:Value->Shared->Prop}(hT:s.TypeIs o T)(hl:typeLookup (.type T) "__getitem__" = pure (some (.builtin id)))(hg:wpAny Γ.M A (getItem o i) Q E s):
  wpAny Γ.M A (subscriptTail value slice o i) Q E s:=by
 have:∃ops,subscripted slice false o i=operate ops (getItem o i):=by
  cases slice<;>first|exact⟨_,rfl⟩|skip
  rename_i st _;cases st<;>exact⟨_,rfl⟩
 refine AP this λops e=>?_;exact tail_any hT hl hg e
theorem D7(a v:V)(r:List (V×V))(k:V):Bi ((a,v)::r) k=if Ay a k=true then some 0 else(Bi r k).map λi=>i+1:=List.findIdx?_cons
theorem Ka(h:¬Ay a k=true)(e:Bi ((a,v)::r) k=some i):∃j,Bi r k=some j/\i=j+1:=by rw[D7,if_neg h]at e;refine Au (Option.map_eq_some_iff.mp e) λj e1 e2=>?_;exact⟨j,e1,e2.symm⟩
theorem Gy(h:Ay a k=true):Bi ((a,v)::r) k=some 0:=by rw[D7,if_pos h]
theorem Vv(e:Bi ((a,v)::r) k=none):¬Ay a k=true/\Bi r k=none:=by
 by_cases h:Ay a k=true;·rw[Gy h]at e;exact absurd e (Option.some_ne_none _)
 ·rw[D7,if_neg h]at e;exact⟨h,Option.map_eq_none_iff.mp e⟩
theorem Cy:∀{es:List (V×V)}{k:V},AI es k=(Bi es k).bind λi=>es[i]?.map (·.2)
 |[],k=>rfl
 |(a,v)::r,k=>by
  show(if Ay a k=true then some v else AI r k)=_;rw[D7];by_cases h:Ay a k=true;·rw[if_pos h,if_pos h];rfl
  ·rw[if_neg h,if_neg h,Cy];cases Bi r k<;>rfl
theorem Ki{u a b c:Nat}(h:u+b<c)(hab:a<=b):u+a<c:=Nat.lt_of_le_of_lt (Nat.add_le_add_left hab u) h
theorem Su(C:Ef Γ A c ce):A.units<cLine:=Ki (a:=0) C.units (Nat.zero_le _)
theorem IS(ok:Γ.Ok)(hu:A.units<cLine)(ar:AR Γ κ ce ex fr σ h)(e:σ[i]?=some (.dict es n))(r:RV Γ.base κ (.obj i) (.ref a))(kk:As es k=true)(rk:RV Γ.base κ k y)
  (q:∀tk' z,(∀v,AI es k=some v->∃u,z=some u/\RV Γ.base κ v u)->(AI es k=none->z=none)->Q z (Γ.at h tk')):wpAny Γ.M A (dictGet a y) Q E (Γ.at h tk):=by
 obtain⟨a',g,m,led,cel,im,ds,pre,post,ea,d,nm,f,ka,nd,e3,ho,L⟩:=Cj ar e r;cases ea;have hk:B3 k=true:=(Ct kk)
 unfold dictGet;try with_reducible refine wpAny_holding ?_
 refine wpAny_bind (KI ok.hash hu hk rk (λ_ _ p=>d.pf p) λtk'=>wpAny_bind (KC ok.hash hu ho f ka nd kk rk (λ_ _ p=>d.pf p) ?_));cases hp:Bi es k with
 |none=>exact wpAny_pure (q _ _ (λv ev=>by rw[Cy,hp]at ev;cases ev) λ_=>rfl)
 |some j=>
  refine wpAny_bind (wpAny_dictEntries (s:=Γ.at h tk') ho rfl (wpAny_pure ?_));have hj:j<es.length:=(List.findIdx?_eq_some_iff_getElem.mp hp).1;refine Cz (f.get (List.getElem?_eq_getElem hj)) λx u h1 h2 h3=>?_;have e1:(ds.toArray[j]?).map (·.val)=some u:=by simp[h1]
  rw[e1];have e2:AI es k=some (es[j].2):=by rw[Cy,hp];simp[List.getElem?_eq_getElem hj]
  refine q _ _ (λv ev=>?_) λev=>by rw[e2]at ev;cases ev
  rw[e2]at ev;cases ev;exact⟨u,rfl,h3⟩
theorem HT(ok:Γ.Ok)(d:DN Γ κ ex σ h g m led cel im)(hm:(a,o)∈led):(a==sysModules)=false:=by refine AP ok.sysm λos es=>?_;have:=(d.N (a,o) (by simp[hm])).2.2;refine beq_eq_false_iff_ne.mpr λq=>?_;dsimp only at this;rw[q,d.B.stays _ _ es]at this;cases this
theorem Bo.pick(rs:Bo base κ l xs):∀(is:List Nat),Bo base κ (is.filterMap (l[·]?)) (is.filterMap (xs[·]?))
 |[]=>.nil
 |i::is=>by
  rw[List.filterMap_cons,List.filterMap_cons];cases e:l[i]? with
  |none=>
   have:xs[i]?=none:=by rw[List.getElem?_eq_none_iff]at e⊢;rw[<-rs.length];exact e
   rw[this];exact Bo.pick rs is
  |some v=>refine Au (rs.get e) λx ex r=>?_;rw[ex];exact .cons r (Bo.pick rs is)
theorem Pd(o:Bq Γ ce fr κ ex (RV Γ.base) (IP l k σ) Q E)(rs:Bo Γ.base κ l xs): -(2^62)<=k/\k<2^62/\∃j v x,seqIndex? k l.length=some j/\xs[j]?=some x/\RV Γ.base κ v x/\Bq Γ ce fr κ ex (RV Γ.base) (.ok v σ) Q E:=by
 refine AG (Be o) λhb o=>?_;have hb:=of_decide_eq_true hb;cases hs:seqIndex? k l.length with
 |none=>rw[hs]at o;exact o.elim
 |some j=>rw[hs]at o;refine Au (Co o) λv ev o=>?_;refine Au (rs.get ev) λx ex r=>?_;exact⟨hb.1,hb.2,j,v,x,rfl,ex,r,o⟩
theorem Nv(e:seqIndex? k n=some j):(0<=k->k.toNat=j)/\(k<0-> -(n:Int)<=k/\(k+n).toNat=j):=by
 unfold seqIndex? at e;by_cases hk:k<0
 ·simp only[hk,if_true]at e;by_cases hc:(decide (0<=k+(n:Int))&&decide (k+(n:Int)<n))=true;·rw[if_pos hc]at e;simp only[Bool.and_eq_true,decide_eq_true_eq]at hc;simp only[Option.some.injEq]at e;exact⟨λh=>by lia,λ_=>⟨by lia,e⟩⟩
  ·rw[if_neg hc]at e;cases e
 ·simp only[hk,if_false]at e;by_cases hc:(decide (0<=k)&&decide (k<(n:Int)))=true;·rw[if_pos hc]at e;simp only[Option.some.injEq]at e;exact⟨λ_=>e,λh=>by lia⟩
  ·rw[if_neg hc]at e;cases e
end
end
open Builtin KBy in
theorem Lr(b:Array UInt8)(t:Tok)(a:Addr){l u v:Value}{lo hi st:Option Int}(hl:IsPart l lo)(hu:IsPart u hi)(hv:IsPart v st)(h0:st≠some 0):
  Meets («bytes.__getitem__» ⟨[.bytes b t,.ref a],[]⟩) (λ_ R s=>s.heap.IsSliceOf a l u v/\(H3 b lo hi st).size<=sizeLine/\∀t' k,R (.ok (.ret (.bytes (H3 b lo hi st) t'))) {s with toks:=k}):=by
 refine .of_wp λprog w A R s hS=>?_;obtain⟨⟨o,ho,hc,hd⟩,hsz,h⟩:=hS;have hT:s.TypeIs (.ref a) "slice" := ⟨o,ho,hc⟩
 show wpAny _ _ (Bytes.payload (.bytes b t) >>= λr=>_) _ _ s;refine wpAny_bind (wpAny_of_eq (a:=b) rfl ?_);show wpAny _ _ (Bytes.subscript? (.ref a) >>= λr=>_) _ _ s;refine wpAny_bind ?_;unfold Bytes.subscript?;refine wpAny_bind (wpAny_specialOf hT slice_no_index (wpAny_pure ?_));refine wpAny_bind (wpAny_typeOf hT ?_);show wpAny _ _ (Bytes.sliceParts (.ref a) >>= λr=>_) _ _ s;refine wpAny_bind ?_;unfold Bytes.sliceParts;have part:∀{x:Value}{p:Option Int}{Q:Value->Shared->Prop}{E:Value->Shared->Prop},IsPart x p->Q (rawPart p) s->wpAny (model prog w) A.in1 (do
   if x==.none then return .none
   if(<-specialOf x "__index__").isNone then
    rule "bytes.slice.part-no-index";raiseError "TypeError" "slice indices must be integers or None or have an __index__ method"
   return rawInt (<-asIndex x)) Q E s:=by
  intro x p Q E hp q;cases hp;·exact wpAny_of_eq (a:=Value.none) rfl q
  ·refine wpAny_ite (ite_no (show¬((Value.int _ _==Value.none)=true) from Bool.false_ne_true) ?_);refine wpAny_bind (wpAny_specialOf (T := "int") (typeIs_int _ _ _) F.slot_int_index.lookup ?_);refine wpAny_ite (ite_no (show¬(Option.isNone (some _)=true) from Bool.false_ne_true) ?_);exact wpAny_bind (wpAny_of_eq rfl (wpAny_pure q))
 have yes:∀{c:Prop} [Decidable c] {X Y:Prop},c->X->if c then X else Y:=λhc h=>by rw[if_pos hc];exact h
 refine wpAny_bind (wpAny_field (x:=v) ho hd rfl ?_);refine wpAny_bind (part hv ?_);have:¬((rawPart st==rawInt 0)=true):=by
  cases st with
  |none=>exact Bool.false_ne_true
  |some k=>intro e;have e:=eq_of_beq e;cases e;exact h0 rfl
 refine wpAny_ite (ite_no this ?_);refine wpAny_bind (wpAny_field (x:=l) ho hd rfl ?_);refine wpAny_bind (part hl ?_);refine wpAny_bind (wpAny_field (x:=u) ho hd rfl ?_);refine wpAny_bind (part hu ?_);refine wpAny_pure ?_;refine wpAny_bind (wpAny_of_eq (sliceIndices_raw lo hi st b.size h0) ?_);show wpAny _ _ (if((sliceBounds lo hi st b.size).1==0&&(sliceBounds lo hi st b.size).2.2==1&&(sliceBounds lo hi st b.size).2.1==b.size && !b.isEmpty)=true then _ else _) _ _ s;unfold H3 at hsz h;split;·rename_i hw;rw[if_pos hw]at h hsz;refine wpAny_bind (wpAny_typeOf (typeIs_bytes _ b t) ?_);refine wpAny_ite (yes rfl ?_);refine wpAny_bind (wpAny_rule ?_);exact wpAny_pure ⟨_,rfl,h _ _⟩
 ·rename_i hw;rw[if_neg hw]at h hsz;exact wpAny_bind (wpAny_mkBytes (wpAny_pure ⟨_,rfl,h _ _⟩) hsz)
set_option backward.match.sparseCases false
section
theorem It(e:De v=some p)(r:RV base κ v x):IsPart x p:=by
 cases v with
 |none=>cases Option.some.inj e;cases r.nn;exact .none
 |int i=>cases Option.some.inj e;cases r.ii;exact .int _ _
 |_=>exact Dm e
theorem NJ(rs:Bo base κ l arr.toList)(c:Int×Nat):Bo base κ (Eo l c) (Fn arr c):=by
 have e1:Eo l c=((List.range c.2).map λ(k:Nat)=>(c.1+(k:Int)*1).toNat).filterMap (l[·]?):=by unfold Eo;rw[List.filterMap_map];rfl
 have e2:Fn arr c=((List.range c.2).map λ(k:Nat)=>(c.1+(k:Int)*1).toNat).filterMap (arr.toList[·]?):=by unfold Fn;rw[List.filterMap_map];congr 1;funext k;simp
 rw[e1,e2];exact rs.pick _
theorem eX(ar:AR Γ κ ce ex fr σ h)(r:RV Γ.base κ (.tup l) x)(rk:RV Γ.base κ k y)
  (ot:Bq Γ ce fr κ ex (RV Γ.base) (Fj c (.tup l) k σ) Q E):wpAny Γ.M A (subscriptTail value slice x y) Q E (Γ.at h tk):=by
 cases k with
 |int k=>
  cases r.tt with
  |@mk a arr ep p rs=>
   cases rk.ii with
   |mk t=>
    refine B0 (Pd ot rs) λh1 h2 Hx=>?_;obtain⟨j,v,z,e1,e2,rz,o₂⟩:=Hx;have it:=Et ar p;have el:l.length=arr.size:=by rw[rs.length];simp
    exact Dj (s:=Γ.at h tk) it.typeIs slot_tuple_getitem.lookup (PyProof.Rows.getItem_tuple (s:=Γ.at h tk) it (by lia) (by lia) (el▸e1) (by simpa using e2) (AX o₂ .refl ar rz))
 |_=>exact ot.elim
theorem Z9(ar:AR Γ κ ce ex fr σ h)(r:RV Γ.base κ (.lst l) x)(rk:RV Γ.base κ k y)
  (ot:Bq Γ ce fr κ ex (RV Γ.base) (Fj c (.lst l) k σ) Q E):wpAny Γ.M A (subscriptTail value slice x y) Q E (Γ.at h tk):=by
 cases k with
 |int k=>
  cases r.ll with
  |@mk a arr ep p rs=>
   cases rk.ii with
   |mk t=>
    refine B0 (Pd ot rs) λh1 h2 Hx=>?_;obtain⟨j,v,z,e1,e2,rz,o₂⟩:=Hx;have it:=Dy ar p;have el:l.length=arr.size:=by rw[rs.length];simp
    refine AG (Nv e1) λn1 n2=>?_;refine Dj (s:=Γ.at h tk) it.typeIs slot_list_getitem.lookup ?_;by_cases hk:0<=k;·exact wpAny_getItem_list (s:=Γ.at h tk) it hk (by lia) (by rw[n1 hk];simpa using e2) (AX o₂ .refl ar rz)
    ·refine AG (n2 (by lia)) λn3 n4=>?_;exact wpAny_getItem_list_neg (s:=Γ.at h tk) it (by lia) (by rw[<-el];exact n3) (by lia) (by rw[<-el,n4];simpa using e2) (AX o₂ .refl ar rz)
 |_=>exact ot.elim
theorem X9(C:Ef Γ A c ce)(ar:AR Γ κ ce ex fr σ h){g x:Value}(r:RV Γ.base κ (.glob g) x){k:V}{y:Value}(rk:RV Γ.base κ k y){value slice:Expr}{Q:Value->Shared->Prop}{E:Value->Shared->Prop}
  (ot:Bq Γ ce fr κ ex (RV Γ.base) (Fj c (.glob g) k σ) Q E):wpAny Γ.M A (subscriptTail value slice x y) Q E (Γ.at h tk):=by
 cases g with
 |ref a=>
  cases k with
  |str s=>
   cases r.gg;cases rk.ss with
   |mk t=>
    refine Au (Co ot) λv ev o₂=>?_;cases e1:c.tab a s with
    |none=>rw[e1]at ev;cases ev
    |some n=>rw[e1]at ev;cases ev;refine CX (C.tab _ _ _ e1) λf tt hm hf=>?_;have hm:=hm h (C.ok.X.keeps λ_ _ z=>ar.kept z);exact Dj (s:=Γ.at h tk) hm.typeIs slot_dict_getitem.lookup (wpAny_getItem_of (s:=Γ.at h tk) (knd:=strKind Γ.prog Γ.w) (k:=s) (strKind_is _ _ _ _) hm hf (AX o₂ .refl ar (.int _ _)))
  |_=>exact ot.elim
 |_=>exact ot.elim
theorem dM(C:Ef Γ A c ce)(ar:AR Γ κ ce ex fr σ h)(r:RV Γ.base κ (.obj i) x)(rk:RV Γ.base κ k y)
  (ot:Bq Γ ce fr κ ex (RV Γ.base) (Fj c (.obj i) k σ) Q E):wpAny Γ.M A (subscriptTail value slice x y) Q E (Γ.at h tk):=by
 replace ot:Bq Γ ce fr κ ex (RV Γ.base) (match σ[i]? with
  |some (.dict es _)=>(match As es k,AI es k with|true,some v=>.ok v σ|_,_=>.stuck)
  |_=>.stuck) Q E:=ot
 cases e:σ[i]? with
 |none=>rw[e]at ot;exact ot.elim
 |some o=>
  rw[e]at ot;cases o with
  |inst=>exact ot.elim
  |list=>exact ot.elim
  |dict es n=>
   replace ot:Bq Γ ce fr κ ex (RV Γ.base) (match As es k,AI es k with|true,some v=>.ok v σ|_,_=>.stuck) Q E:=ot;cases ek:As es k with
   |false=>rw[ek]at ot;exact ot.elim
   |true=>
    cases eg:AI es k with
    |none=>rw[ek,eg]at ot;exact ot.elim
    |some v=>
     rw[ek,eg]at ot;cases r.oo with
     |@mk a hi=>
      have r':RV Γ.base κ (.obj i) (.ref a):=.obj hi;obtain⟨a',g,m,led,cel,im,ds,pre,post,ea,d,nm,f,ka,nd,e3,ho,L⟩:=Cj ar e r';cases ea;have ty:(Γ.at h tk).TypeIs (.ref a) "dict" := ⟨_,ho,rfl⟩
      refine Dj ty slot_dict_getitem.lookup ?_;unfold getItem;try with_reducible refine wpAny_holding ?_
      refine wpAny_bind (wpAny_sequenceKey ty (by decide) ?_);refine wpAny_bind (wpAny_callSpecial?_slot (name:=Str.ofString "__getitem__") ty slot_dict_getitem
       (wpAny_call_entry slot_dict_getitem ty entry_dict_getitem ?_ (args_dict_getitem _ _)))
      show wpAny _ _ (dictGet a y >>= _) _ _ _;refine wpAny_bind (IS C.ok (Ki C.units (by decide)) ar e r' ek rk λtk' z hs _=>?_);refine Au (hs v eg) λu eqq1 ru=>?_;subst eqq1;exact wpAny_pure ⟨u,rfl,wpAny_pure (AX ot .refl ar ru)⟩
theorem cQ(ar:AR Γ κ ce ex fr σ h){l:List V}{x:Value}(r:RV Γ.base κ (.tup l) x){x₁ y₁ z₁:Value}{sl:Addr}(hs:h.IsSliceOf sl x₁ y₁ z₁){lo hi:Option Int}(ra:IsPart x₁ lo)(rb:IsPart y₁ hi)(rd:IsPart z₁ none){value slice:Expr}{Q:Value->Shared->Prop}{E:Value->Shared->Prop}
  (ot:Bq Γ ce fr κ ex (RV Γ.base) (I8 l lo hi σ) Q E):wpAny Γ.M A (subscriptTail value slice x (.ref sl)) Q E (Γ.at h tk):=by
 refine AG (Be ot) λhg o₂=>?_;simp only[Bool.and_eq_true,decide_eq_true_eq]at hg;cases r.tt with
 |@mk a arr ep p rs=>
  have it:=Et ar p;have el:l.length=arr.size:=by rw[rs.length];simp
  cases rd;refine Dj (s:=Γ.at h tk) it.typeIs slot_tuple_getitem.lookup (H9 (s:=Γ.at h tk) it hs ra rb ?_ ?_ ?_);·have:=hg.1;rw[el]at this;exact(Bool.not_eq_true' _).mp this
  ·have:=hg.2;rw[el]at this;exact Nat.le_trans this (by rw[sizeLine_eq];decide)
  ·have rp:=NJ rs (Jz lo hi l.length);rw[el]at rp o₂;refine An o₂ Wd.put_le (ar.push _ rfl) (.tup (arr:=(Fn arr (Hi lo hi arr.size)).toArray) (ep:=0) Wd.put_pf ?_);have rp:Bo Γ.base κ (Eo l (Jz lo hi arr.size)) (Fn arr (Hi lo hi arr.size)):=rp;exact Bo.le Wd.put_le (by simpa using rp)
theorem Ws{arr:Array Value}(l:List Nat):l.filterMap (arr[·]?)=l.filterMap (arr.toList[·]?):=by congr 1;funext k;simp
theorem fM(ar:AR Γ κ ce ex fr σ h){l:List V}{x:Value}(r:RV Γ.base κ (.lst l) x){x₁ y₁ z₁:Value}{sl:Addr}(hs:h.IsSliceOf sl x₁ y₁ z₁){lo hi st:Option Int}(ra:IsPart x₁ lo)(rb:IsPart y₁ hi)(rd:IsPart z₁ st){value slice:Expr}{Q:Value->Shared->Prop}{E:Value->Shared->Prop}
  (ot:Bq Γ ce fr κ ex (RV Γ.base) (Iq l lo hi st σ) Q E):wpAny Γ.M A (subscriptTail value slice x (.ref sl)) Q E (Γ.at h tk):=by
 refine AG (Be ot) λhg o₂=>?_;have hg:=of_decide_eq_true hg;cases r.ll with
 |@mk a arr ep p rs=>
  have it:=Dy ar p;have el:l.length=arr.size:=by rw[rs.length];simp
  refine Dj (s:=Γ.at h tk) it.typeIs slot_list_getitem.lookup (wpAny_getItem_list_slice (s:=Γ.at h tk) it hs ra rb rd hg.1 ?_ (by rw[<-el];exact Nat.le_trans hg.2 (by rw[sizeLine_eq];decide)));refine An o₂ Wd.put_le (ar.push _ rfl) (.lst (arr:=slicePick arr lo hi st) (ep:=0) Wd.put_pf (Bo.le Wd.put_le ?_));unfold slicePick Ep;rw[el];simp only[Ws];exact rs.pick _
theorem cK(ar:AR Γ κ ce ex fr σ h){l:Array UInt8}{x:Value}(r:RV Γ.base κ (.byt l) x){x₁ y₁ z₁:Value}{sl:Addr}(hs:h.IsSliceOf sl x₁ y₁ z₁){lo hi st:Option Int}(ra:IsPart x₁ lo)(rb:IsPart y₁ hi)(rd:IsPart z₁ st){value slice:Expr}{Q:Value->Shared->Prop}{E:Value->Shared->Prop}
  (ot:Bq Γ ce fr κ ex (RV Γ.base) (Ss l lo hi st σ) Q E):wpAny Γ.M A (subscriptTail value slice x (.ref sl)) Q E (Γ.at h tk):=by
 refine AG (Be ot) λhg o₂=>?_;have hg:=of_decide_eq_true hg;cases r.yy with
 |mk t=>
  exact Dj (s:=Γ.at h tk) (typeIs_bytes _ _ _) FB.slot_bytes_getitem.lookup (getItem_meets (typeIs_bytes _ _ _) (by decide) FB.slot_bytes_getitem FB.entry_bytes_getitem (FB.args_bytes_getitem_2 _ _) (Lr l t sl ra rb rd hg.1)
   ⟨hs,Nat.le_trans hg.2 (by rw[sizeLine_eq];decide),λt' k=>An (R:=RV Γ.base) (κ':=κ) o₂ .refl ar (.byt _ _)⟩)
theorem YZ(C:Ef Γ A c ce)(ar:AR Γ κ ce ex fr σ h)(r:RV Γ.base κ o x)(rk:mT Γ.base κ k y)
  (ot:Bq Γ ce fr κ ex (RV Γ.base) (B9 c o k σ) Q E):wpAny Γ.M A (subscriptTail value slice x y) Q E (Γ.at h tk):=by
 cases rk with
 |@item k y rk=>
  cases o with
  |tup l=>exact eX ar r rk ot
  |lst l=>exact Z9 ar r rk ot
  |glob a=>exact X9 C ar r rk ot
  |obj i=>exact dM C ar r rk ot
  |_=>exact ot.elim
 |@cut a b d x₁ y₁ z₁ sl ps ra rb rd=>
  replace ot:Bq Γ ce fr κ ex (RV Γ.base) (iQ o (De a) (De b) (De d) σ) Q E:=ot;have hs:h.IsSliceOf sl x₁ y₁ z₁:=⟨_,ar.pf ps,rfl,rfl⟩
  cases e1:De a with
  |none=>rw[e1]at ot;exact ot.elim
  |some lo=>
  cases e2:De b with
  |none=>rw[e1,e2]at ot;exact ot.elim
  |some hi=>
  cases e3:De d with
  |none=>rw[e1,e2,e3]at ot;exact ot.elim
  |some st=>
  rw[e1,e2,e3]at ot;have ra:=It e1 ra;have rb:=It e2 rb;have rd:=It e3 rd;cases o with
  |tup l=>
   cases st with
   |some st=>exact ot.elim
   |none=>exact cQ ar r hs ra rb rd ot
  |byt b=>exact cK ar r hs ra rb rd ot
  |lst l=>exact fM ar r hs ra rb rd ot
  |_=>exact ot.elim
theorem Y1(C:Ef Γ A c ce)(ho:Bd Γ A c ce fr o)(hi:T9 Γ A c ce fr i):Bd Γ A c ce fr (.Subscript o i pos):=by intro κ ex σ h tk Q E ar ot;replace ot:Bq Γ ce fr κ ex (RV Γ.base) (Aa (ev o c fr) (λov=>Aa (Yo i c fr) λk=>B9 c ov k) σ) Q E:=ot;refine Subscript_ (ho.use ar (AA ot λu σ₁ _ κ₁ h₁ tk₁ x q₁ ar₁ rx o₁=>?_));exact hi.use ar₁ (AA o₁ λk σ₂ _ κ₂ h₂ tk₂ y q₂ ar₂ rk o₂=>YZ C ar₂ (rx.le q₂) rk o₂)
abbrev Qc(Γ:BG)(A:Around)(c:Cx)(ce:Env)(fr:Fm)(e:Option Expr):Prop:=S0 Γ A ce fr (RV Γ.base) (evalPart e ce) (YW e c fr)
theorem QQ{lo hi st:Option Expr}{pos:Pos}(h1:Qc Γ A c ce fr lo)(h2:Qc Γ A c ce fr hi)(h3:Qc Γ A c ce fr st):T9 Γ A c ce fr (.Slice lo hi st pos):=by intro κ ex σ h tk Q E ar ot;replace ot:Bq Γ ce fr κ ex (mT Γ.base) (Aa (YW lo c fr) (λa=>Aa (YW hi c fr) λb=>Aa (YW st c fr) λd=>ret (.cut a b d)) σ) Q E:=ot;refine wpAny_Slice (h1.use ar (AA ot λa σ₁ _ κ₁ h₁ tk₁ x q₁ ar₁ rx o₁=>?_));refine h2.use ar₁ (AA o₁ λb σ₂ _ κ₂ h₂ tk₂ y q₂ ar₂ ry o₂=>?_);refine h3.use ar₂ (AA o₂ λd σ₃ _ κ₃ h₃ tk₃ z q₃ ar₃ rz o₃=>?_);exact An o₃ Wd.put_le (ar₃.push (Ub x y z) rfl) (.cut Wd.put_pf ((rx.le (q₂.trans q₃)).le Wd.put_le) ((ry.le q₃).le Wd.put_le) (rz.le Wd.put_le))
theorem YM(he:Bd Γ A c ce fr e):Qc Γ A c ce fr (some e):=he
theorem Kv:Qc Γ A c ce fr none:=λκ ex σ h tk Q E ar o=>wpAny_pure (An o .refl ar .none)
theorem EB(he:S0 Γ A ce fr (RV Γ.base) (eval e ce) f)(hx:Yo e c fr=Aa f λk=>ret (.item k)):T9 Γ A c ce fr e:=by intro κ ex σ h tk Q E ar ot;rw[hx]at ot;exact he.use ar (AA ot λk σ₁ _ κ₁ h₁ tk₁ y q₁ ar₁ ry o₁=>An o₁ .refl ar₁ (.item ry))
end
section
section
variable{Γ:BG}
theorem EY:∀{es:List (V×V)}{k:V}{i:Nat},Bi es k=some i->Bl es k v=es.modify i λp=>(p.1,v)
 |[],k,i,e=>Dm e
 |(a,u)::r,k,i,e=>by
  show(if Ay a k=true then(a,v)::r else(a,u)::Bl r k v)=_;by_cases q:Ay a k=true;·rw[Gy q]at e;rw[if_pos q,<-Option.some.inj e];rfl
  ·refine Au (Ka q e) λj ej eqq=>?_;subst eqq;rw[if_neg q,EY ej];rfl
theorem E3:∀{es:List (V×V)}{k:V},Bi es k=none->Bl es k v=es++[(k,v)]
 |[],k,e=>rfl
 |(a,u)::r,k,e=>by show(if Ay a k=true then(a,v)::r else(a,u)::Bl r k v)=_;refine AG (Vv e) λq e=>?_;rw[if_neg q,E3 e];rfl
theorem aK(ds:List DictEntry)(n j:Nat)(f:DictEntry->DictEntry):(dictOf ds n).mapDict (λx=>x.modify j f)=dictOf (ds.modify j f) n:=by show({cls:=.type "dict",data:=.dict (ds.toArray.modify j f) n}:Obj)=_;rw[List.modify_toArray]
theorem YH(ds:List DictEntry)(n:Nat)(e:DictEntry):(dictOf ds n).mapDictKeys (λx=>x.push e)=dictOf (ds++[e]) (n+1):=by show({cls:=.type "dict",data:=.dict (ds.toArray.push e) (n+1)}:Obj)=_;rw[List.push_toArray]
theorem ED:(AI es k).isSome=(Bi es k).isSome:=by
 rw[Cy];cases e:Bi es k with
 |none=>rfl
 |some i=>have hi:i<es.length:=(List.findIdx?_eq_some_iff_getElem.mp e).1;simp[List.getElem?_eq_getElem hi]
theorem Eh.modify(f:Eh base κ hsh es ds)(r:RV base κ v y):∀(i:Nat),Eh base κ hsh (es.modify i λp=>(p.1,v)) (ds.modify i λe=>{e with val:=y}):=by
 induction f with
 |nil=>intro i;simp;exact .nil
 |@cons a b x z es ds ra rb f' ih=>
  intro i;cases i with
  |zero=>exact .cons ra r f'
  |succ i=>exact .cons ra rb (ih i)
theorem Eh.snoc(f:Eh base κ hsh es ds)(rk:RV base κ k x)(r:RV base κ v y):Eh base κ hsh (es++[(k,v)]) (ds++[⟨hsh k,x,y⟩]):=by
 induction f with
 |nil=>exact .cons rk r .nil
 |cons a b _ ih=>exact .cons a b ih
theorem GZ:∀(es:List (V×V)) (i:Nat),(es.modify i λp=>(p.1,v)).map (·.1)=es.map (·.1)
 |[],i=>by simp
 |p::es,0=>rfl
 |p::es,i+1=>by show p.1::(es.modify i λp=>(p.1,v)).map (·.1)=_;rw[GZ es i];rfl
theorem Ip(e:Bi es k=none):k∉es.map (·.1):=λhm=>by obtain⟨p,hp,rfl⟩:=List.mem_map.mp hm;have:=List.findIdx?_eq_none_iff.mp e p hp;rw[BX]at this;cases this
theorem GK(ka:(es.map (·.1)).all B3=true)(nd:(es.map (·.1)).Nodup)(hk:B3 k=true):((Bl es k v).map (·.1)).all B3=true/\((Bl es k v).map (·.1)).Nodup:=by
 cases e:Bi es k with
 |some i=>rw[EY e,GZ];exact⟨ka,nd⟩
 |none=>rw[E3 e,List.map_append,List.all_append,ka];refine⟨by simp[hk],?_⟩;rw[List.nodup_append];exact⟨nd,by simp,λa ha b hb q=>Ip e (by simp at hb;rw[<-hb,<-q];exact ha)⟩
theorem Fu(ok:Γ.Ok)(hu:A.units<cLine)(ho:h.get? a=some (dictOf ds n))(f:Eh Γ.base κ Γ.hsh es ds)(ka:(es.map (·.1)).all B3=true)(nd:(es.map (·.1)).Nodup)
  (kk:As es k=true) (hl:es.length<=4096) (rk:RV Γ.base κ k y) (rv:RV Γ.base κ v z) (pf:∀a o,Pf Γ.base κ a o->h.get? a=some o)
  (CA:∀(h':Heap) (ds':List DictEntry) (n' tk':Nat),Heap.SameBut a h h'->h'.get? a=some (dictOf ds' n')->Eh Γ.base κ Γ.hsh (Bl es k v) ds'->n'=(if(AI es k).isSome=true then n else n+1)->Q () (Γ.at h' tk')):wpAny Γ.M A (dictSet a y z) Q E (Γ.at h tk):=by
 have hk:B3 k=true:=(Ct kk)
 have dl:ds.length<=sizeLine:=by rw[<-f.length];exact Nat.le_trans hl (by rw[sizeLine_eq];decide)
 unfold dictSet;try with_reducible refine wpAny_holding ?_
 refine wpAny_bind (KI ok.hash hu hk rk pf λtk'=>?_);unfold dictSetHashed;try with_reducible refine wpAny_holding ?_
 refine wpAny_bind (KC ok.hash hu ho f ka nd kk rk pf ?_);cases hp:Bi es k with
 |some j=>
  refine wpAny_bind (wpAny_rule (wpAny_bind (wpAny_updateDict (s:=Γ.at h tk') ho rfl (wpAny_point (CA _ (ds.modify j λe=>{e with val:=z}) n tk' (Heap.SameBut.update ..) ?_ ?_ ?_)))));·refine(Heap.get?_update_self (Obj.mapDict λx=>x.modify j λe=>{e with val:=z}) ho rfl).trans (congrArg some ?_);exact aK ..
  ·rw[EY hp];exact f.modify rv j
  ·rw[ED,hp];rfl
 |none=>
  refine wpAny_bind (wpAny_rule (wpAny_updateDictKeys (hz:=by simpa using dl) (s:=Γ.at h tk') ho rfl (CA _ (ds++[⟨Γ.hsh k,y,z⟩]) (n+1) tk' (Heap.SameBut.update ..) ?_ ?_ ?_)));·refine(Heap.get?_update_self (Obj.mapDictKeys λx=>x.push ⟨Γ.hsh k,y,z⟩) ho rfl).trans (congrArg some ?_);exact YH ..
  ·rw[E3 hp];exact f.snoc rk rv
  ·rw[ED,hp];rfl
theorem Mv:(Bl es k v).length=if(AI es k).isSome=true then es.length else es.length+1:=by
 rw[ED];cases hp:Bi es k with
 |some j=>rw[EY hp];simp
 |none=>rw[E3 hp];simp
theorem Mc(C:Ef Γ A c ce)(ar:AR Γ κ ce ex fr σ h)(r:RV Γ.base κ o x)(rk:RV Γ.base κ k y)(rv:RV Γ.base κ v z)
  (ot:Bq Γ ce fr κ ex Jy (A8 o k v σ) Q E):wpAny Γ.M A (setItem x y z) Q E (Γ.at h tk):=by
 cases o with
 |obj i=>
  replace ot:Bq Γ ce fr κ ex Jy (match σ[i]? with
   |some (.dict es n)=>if(As es k&&decide (es.length<=4096)&&Ba v)=true then .ok () (σ.set i (.dict (Bl es k v) (if(AI es k).isSome=true then n else n+1))) else .stuck
   |_=>.stuck) Q E:=ot
  cases e:σ[i]? with
  |none=>rw[e]at ot;exact ot.elim
  |some w=>
   rw[e]at ot;cases w with
   |inst=>exact ot.elim
   |list=>exact ot.elim
   |dict es n=>
    dsimp only at ot;by_cases hg:(As es k&&decide (es.length<=4096)&&Ba v)=true
    ·rw[if_pos hg]at ot;refine D3 hg λhg _=>?_;refine D3 hg λkk hl=>?_;have hl:=of_decide_eq_true hl;cases r.oo with
     |@mk a hi=>
      obtain⟨a',g,m,led,cel,im,ds,pre,post,ea,d,nm,f,ka,nd,e3,ho,L⟩:=Cj ar e (.obj hi);cases ea;have ty:(Γ.at h tk).TypeIs (.ref a) "dict" := ⟨_,ho,rfl⟩
      refine AG (GK (v:=v) ka nd (Ct kk)) λk1 k2=>?_;unfold setItem;try with_reducible refine wpAny_holding ?_
      refine wpAny_bind (wpAny_sequenceKey ty (by decide) ?_);refine wpAny_bind (wpAny_callSpecial?_slot (name:=Str.ofString "__setitem__") ty slot_dict_setitem
       (wpAny_call_entry slot_dict_setitem ty entry_dict_setitem ?_ (args_dict_setitem _ _ _)))
      show wpAny _ _ (Builtin.Dict.notOrdered "__setitem__" ⟨[.ref a,y,z],[]⟩ >>= _) _ _ _;refine wpAny_bind (wpAny_notOrdered_dict ty ?_);show wpAny _ _ (dictSet a y z >>= _) _ _ _;have hu:A.in1.units<cLine:=Nat.lt_of_le_of_lt (Nat.add_le_add_left (by decide) _) C.units;refine wpAny_bind (Fu C.ok hu ho f ka nd kk hl rk rv (λ_ _ p=>d.pf p) λh' ds' n' tk' sb hg' f' en=>?_);refine AG (DY (o:=dictOf ds n) (pre:=pre) (post:=post++cel++ex++im) d.F d.N (by rw[e3];simp) d.D sb hg') λF' N'=>?_;exact wpAny_pure ⟨.none,rfl,wpAny_pure (ot κ h' tk' () .refl ⟨g,m,pre++[(a,dictOf ds' n')]++post,cel,im,d.turn F' (by simpa using N') (L _ _ (by rw[<-en];exact .dict f' k1 k2)) (by rw[e3];simp),nm⟩ trivial)⟩
    ·rw[if_neg hg]at ot;exact ot.elim
 |_=>exact ot.elim
end
end
set_option backward.match.sparseCases true
section
theorem Q7(hd:(d==sysModules)=false)(ho:s.heap.get? d=some (dictOf ds ep))
  (hQ:Q (.ref s.heap.objs.size) {s with heap:=s.heap.push {cls:=.type "dict_keyiterator",data:=.fields #[.ref d,.int 0 0,.int ds.length 0,.int ep 0]}}) :
  wpAny (model prog w) A (pyIter (.ref d)) Q E s:=by
 have hT:s.TypeIs (.ref d) "dict" := ⟨_,ho,rfl⟩
 refine wpAny_pyIter_slot hT PySem.F.slot_dict_iter (wpAny_call_entry PySem.F.slot_dict_iter hT PySem.F.entry_dict_iter ?_ (PySem.F.args_dict_iter_1 _));unfold Builtin.«dict.__iter__»;refine wpAny_bind ?_;unfold Builtin.Dict.dictSlotNone;refine wpAny_bind (wpAny_notOrdered_dict hT ?_);show wpAny _ _ (pure (Value.ref d)) _ _ s;refine wpAny_pure ?_;show wpAny _ _ (Builtin.Dict.showsAll d >>= _) _ _ s;unfold Builtin.Dict.showsAll;rw[if_neg (by rw[hd];exact Bool.false_ne_true)];refine wpAny_bind (wpAny_pure ?_);refine wpAny_bind (wpAny_dictEntries ho rfl ?_);refine wpAny_bind (wpAny_dictEpoch ho rfl ?_);refine wpAny_bind (wpAny_newObj_type (wpAny_pure ⟨_,rfl, "dict_keyiterator",_,⟨_,Heap.get?_push_size _ rfl,rfl⟩,PySem.F.slot_dict_keyiterator_next.lookup,?_⟩))
 simpa [rawInt] using hQ
theorem J3(hit:s.heap.IsKeyIter it d i ds.length ep)(hod:s.heap.get? d=some (dictOf ds ep))
  (hS:∀e,ds[i]?=some e->∀h',h'.IsKeyIter it d (i+1) ds.length ep->Heap.SameBut it s.heap h'->Q (some e.key) {s with heap:=h'})
  (hN:ds[i]?=none->A.handled=none/\∀h',Heap.ExtBut it s.heap h'->Q none {s with heap:=h'}):wpAny (model prog w) A (pyNext (.ref it)) Q E s:=by
 obtain⟨o,ho,hc,hd⟩:=id hit;unfold pyNext;refine wpAny_bind (wpAny_attempt (wpAny_callSpecial?_slot (name:=Str.ofString "__next__") hit.typeIs PySem.F.slot_dict_keyiterator_next
  (wpAny_call_entry PySem.F.slot_dict_keyiterator_next hit.typeIs PySem.F.entry_dict_keyiterator_next ?_ (PySem.F.args_dict_keyiterator_next_1 _))))
 refine wpAny_bind (wpAny_pure ?_);refine wpAny_bind ?_;refine wpAny_bind ?_;first|refine wpAny_bind (wpAny_typeNameOfWhole_keyiter hit.typeIs (wpAny_pure ?_))|refine wpAny_bind (wpAny_typeNameOf_keyiter hit.typeIs (wpAny_pure ?_))
 refine wpAny_bind (wpAny_fieldsOf ho hd ?_);rw[if_neg (show¬(Builtin.Dict_items.ownsTuple "dict_keyiterator" = true) by decide)];show wpAny _ _ (if(Value.ref d==Value.none)=true then _ else _) _ _ s;rw[if_neg (show¬((Value.ref d==Value.none)=true) from Bool.false_ne_true)];refine wpAny_bind (wpAny_pure ?_);refine wpAny_bind (wpAny_dictEntries hod rfl ?_);rw[if_neg (by simp)];refine wpAny_bind (wpAny_pure ?_);refine wpAny_bind (wpAny_dictEpoch hod rfl ?_);rw[if_neg (by simp)];refine wpAny_pure ?_;have hea:(if(i:Int)<0 then none else ds.toArray[(i:Int).toNat]?)=ds[i]?:=by rw[if_neg (Int.not_lt.mpr (Int.natCast_nonneg i)),Int.toNat_natCast];simp
 dsimp only;rw[hea];cases e:ds[i]? with
 |some e'=>
  refine wpAny_bind ?_;first|refine wpAny_bind (wpAny_typeNameOfWhole_keyiter hit.typeIs (wpAny_pure ?_))|refine wpAny_bind (wpAny_typeNameOf_keyiter hit.typeIs (wpAny_pure ?_))
  refine wpAny_bind (wpAny_isOneOf_keyiter hit.typeIs ?_);show wpAny _ _ (setField (.ref it) 1 (rawInt ((i:Int)+1)) >>= _) _ _ s;refine wpAny_bind (wpAny_setField ho hd (by simp) ?_);have hit':(s.heap.update it (Obj.mapFields (·.setIfInBounds 1 (rawInt ((i:Int)+1))))).IsKeyIter it d (i+1) ds.length ep:=⟨_,Heap.get?_update_self _ ho (Obj.isFreed_of_fields (Obj.data_mapFields hd _)),(Obj.cls_mapFields ..).trans hc,by rw[Obj.data_mapFields hd];simp[rawInt]⟩
  refine wpAny_bind (wpAny_holding ?_);refine wpAny_bind (wpAny_isOneOf_keyiter (s:={s with heap:=s.heap.update it (Obj.mapFields (·.setIfInBounds 1 (rawInt ((i:Int)+1))))}) hit'.typeIs ?_);show wpAny _ _ (pure e'.key) _ _ _;exact wpAny_pure (wpAny_pure ⟨_,rfl,wpAny_pure (hS _ e _ hit' (Heap.SameBut.update ..))⟩)
 |none=>
  refine AG (hN e) λhh hQ=>?_;refine wpAny_bind ?_;first|refine wpAny_bind (wpAny_typeNameOfWhole_keyiter hit.typeIs (wpAny_pure ?_))|refine wpAny_bind (wpAny_typeNameOf_keyiter hit.typeIs (wpAny_pure ?_))
  show wpAny _ _ (setField (.ref it) 0 .none >>= _) _ _ s;refine wpAny_bind (wpAny_setField ho hd (by simp) ?_);show wpAny _ _ (newExc (.type "StopIteration") [] >>= _) _ _ _;refine wpAny_bind ?_;simp only[newExc,newTuple];refine wpAny_bind (wpAny_newObj_type ?_ (by size_fits));refine wpAny_bind (m:=firstArgMember _ _) (wpAny_of_eq (a:=Value.none) (by first|rfl|(simp only[firstArgMember];rfl)) ?_);refine wpAny_newObj_type ?_ (by size_fits);unfold raiseNew;refine wpAny_bind (wpAny_handled ?_);rw[show A.in1.handled=none from hh];refine wpAny_bind (wpAny_pure (wpAny_throw ?_));refine wpAny_bind (wpAny_isInstance (T := "StopIteration") (b:=true) ⟨_,Heap.get?_push_size _ rfl,rfl⟩ isSubtype_stop ?_);exact wpAny_pure (hQ _ (((Heap.SameBut.update ..).extBut.push _).push _))
theorem Qk(hit:s.heap.IsKeyIter it d i ds.length ep)(hod:s.heap.get? d=some (dictOf ds ep))(hx:ds[i]?=some e)
  (hQ:∀h',h'.IsKeyIter it d (i+1) ds.length ep->Heap.SameBut it s.heap h'->Q (some e.key) {s with heap:=h'}) :
  wpAny (model prog w) A (pyNext (.ref it)) Q E s:=
 J3 hit hod (λe' h=>by rw[hx]at h;cases h;exact hQ) λh=>by rw[hx]at h;cases h
theorem Tv(hh:A.handled=none)(hit:s.heap.IsKeyIter it d ds.length ds.length ep)(hod:s.heap.get? d=some (dictOf ds ep))
  (hQ:∀h',Heap.ExtBut it s.heap h'->Q none {s with heap:=h'}):wpAny (model prog w) A (pyNext (.ref it)) Q E s:=
 J3 hit hod (λe h=>by rw[List.getElem?_eq_none (Nat.le_refl _)]at h;cases h) λ_=>⟨hh,hQ⟩
end
noncomputable def Fe(Γ:BG)(κ:Wd)(o:V)(σ₀:St)(oI:Obj)(i:Nat):Prop:=match o with
 |.lst l=>∃ax arr ep,Pf Γ.base κ ax (KP arr ep)/\Bo Γ.base κ l arr.toList/\oI.cls=.type "list_iterator" /\oI.data=.fields #[.ref ax,.int i 0]
 |.tup l=>∃ax arr ep,Pf Γ.base κ ax (NI arr ep)/\Bo Γ.base κ l arr.toList/\oI.cls=.type "tuple_iterator" /\oI.data=.fields #[.ref ax,.int i 0]
 |.rng n=>oI={cls:=.type "range_iterator",dict:=none,data:=.fields #[rawInt (i:Int),rawInt ((n:Int)-i),rawInt 1],slots := #[]}
 |.byt b=>∃t,oI.cls=.type "bytes_iterator" /\oI.data=.fields #[.bytes b t,.int i 0]
 |.obj j=>∃d,κ.ρ[j]?=some d/\match σ₀[j]? with
  |some (.dict es n)=>oI.cls=.type "dict_keyiterator" /\oI.data=.fields #[.ref d,.int i 0,.int es.length 0,.int n 0]
  |some (.list _)=>oI.cls=.type "list_iterator" /\oI.data=.fields #[.ref d,.int i 0]
  |_=>False
 |_=>False
section
theorem Fe.le(q:κ.Le κ')(x:Fe Γ κ o σ₀ oI i):Fe Γ κ' o σ₀ oI i:=by
 cases o<;>first|exact x.elim|skip
 all_goals unfold Fe at x⊢
 ·exact x
 ·exact x
 ·refine Jh x λa b c d e r=>?_;exact⟨a,b,c,d.le q,e.le q,r⟩
 ·refine Jh x λa b c d e r=>?_;exact⟨a,b,c,d.le q,e.le q,r⟩
 ·refine Au x λd e r=>?_;exact⟨d,q.at e,r⟩
theorem AR.own(ar:AR Γ κ ce ex fr σ h)(o:Obj)(hf:o.isFreed=false):AR Γ κ ce ((h.objs.size,o)::ex) fr σ (h.push o):=by
 obtain⟨g,m,led,cel,im,d,nm⟩:=ar;have N':=News.push d.F d.N o hf;have off:∀q∈led++cel++ex++im,q.1≠h.objs.size:=λq hq e=>by have:=Heap.lt_size (d.N q hq).1;rw[e]at this;exact absurd this (Nat.lt_irrefl _)
 refine⟨g,m,led,cel,im,⟨d.F.push _,λq hq=>N' q ?_,d.B,d.G,d.L,d.I,d.J,?_,d.T⟩,?_⟩
 ·simp only[List.mem_append,List.mem_cons]at hq⊢;rcases hq with ((q|q)|q|q)|q;·exact .inr (.inl (.inl (.inl q)))
  ·exact .inr (.inl (.inl (.inr q)))
  ·exact .inl q
  ·exact .inr (.inl (.inr q))
  ·exact .inr (.inr q)
 ·have:=DE (o:=o) d.D off (pre:=led++cel) (post:=ex++im) (by simp)
  simpa using this
 ·exact nm.sub λ_ a=>.tail _ a
theorem AR.turnOwn(ar:AR Γ κ ce ((I,oI)::ex) fr σ h)(hI:I≠ce.locals)(hs:Heap.SameBut I h h')(ho:h'.get? I=some oJ):AR Γ κ ce ((I,oJ)::ex) fr σ h':=by obtain⟨g,m,led,cel,im,d,nm⟩:=ar;refine AG (DY (o:=oI) (pre:=led++cel) (post:=ex++im) d.F d.N (by simp) d.D hs ho) λF' N'=>?_;refine⟨g,m,led,cel,im,⟨F',by simpa using N',d.B,d.G,d.L,d.I,d.J,by simpa using d.D,d.T⟩,?_⟩;exact nm.sub λ_ a=>.tail _ (DW hI a)
theorem AR.drop(ar:AR Γ κ ce ((I,oI)::ex) fr σ h)(hI:I≠ce.locals)(he:∀b o,b≠I->h.get? b=some o->h'.get? b=some o):AR Γ κ ce ex fr σ h':=by
 obtain⟨g,m,led,cel,im,d,nm⟩:=ar;have hN:=d.N (I,oI) (by simp);have D1:=d.D;have sub:(led++cel++ex++im).Sublist (led++cel++(I,oI)::ex++im):=by refine List.Sublist.append (List.Sublist.append (List.Sublist.refl _) (List.sublist_cons_self _ _)) (List.Sublist.refl _)
 have off:∀q∈led++cel++ex++im,q.1≠I:=λq hq e=>by
  have P:(led++cel++(I,oI)::ex++im).Perm ((I,oI)::(led++cel++ex++im)):=by rw[List.append_assoc (led++cel),List.cons_append,List.append_assoc (led++cel)];exact List.perm_middle
  have D2:=(P.map (·.1)).nodup_iff.mp D1;rw[List.map_cons,List.nodup_cons]at D2;exact D2.1 (List.mem_map.mpr ⟨q,hq,e⟩)
 refine⟨g,m,led,cel,im,⟨⟨d.F.ns.at' λo e=>he _ o (Ne.symm hN.2.1) e,λb o e=>he b o (λz=>by rw[z,hN.2.2]at e;cases e) (d.F.keep b o e),d.F.above⟩,λq hq=>⟨he _ _ (off q hq) (d.N q (sub.subset hq)).1,(d.N q (sub.subset hq)).2⟩,d.B,d.G,d.L,d.I,d.J,List.Nodup.sublist (sub.map _) D1,d.T⟩,?_⟩;exact nm.sub λ_ a=>DW hI a
theorem AR.locals_lt(ar:AR Γ κ ce ex fr σ h):ce.locals<h.objs.size:=by obtain⟨g,m,led,cel,im,d,nm⟩:=ar;refine Au nm.ns λcm n1 _=>?_;exact(Se d n1).lt
end
set_option backward.match.sparseCases false
section
inductive EJ(σ:St):V->List V->Prop
 |tup (l:List V):EJ σ (.tup l) l
 |lst (l:List V):EJ σ (.lst l) l
 |rng (n:Nat):EJ σ (.rng n) ((List.range n).map λ(i:Nat)=>V.int (i:Int))
 |byt (b:Array UInt8):EJ σ (.byt b) (b.toList.map λx=>V.int (x.toNat:Int))
 |dict (j:Nat) (es:List (V×V)) (n:Nat) (e:σ[j]?=some (.dict es n)):EJ σ (.obj j) (es.map (·.1))
 |list (j:Nat) (l:List V) (e:σ[j]?=some (.list l)):EJ σ (.obj j) l
inductive KN(σ:St)(o:V):C6 (List V)->Prop
 |ok (vs:List V) (h:EJ σ o vs):KN σ o (.ok vs σ)
 |no:KN σ o .stuck
theorem OH(o:V)(σ:St):KN σ o (A5 o σ):=by
 cases o with
 |tup l=>exact .ok _ (.tup l)
 |lst l=>exact .ok _ (.lst l)
 |rng n=>exact .ok _ (.rng n)
 |byt b=>exact .ok _ (.byt b)
 |obj j=>
  show KN σ _ (match σ[j]? with
   |some (.dict es _)=>.ok (es.map (·.1)) σ
   |some (.list l)=>.ok l σ
   |_=>.stuck)
  cases e:σ[j]? with
  |none=>exact .no
  |some w=>
   cases w with
   |inst=>exact .no
   |dict es n=>exact .ok _ (.dict j es n e)
   |list l=>exact .ok _ (.list j l e)
 |_=>exact .no
theorem Hy(h:A5 o σ=.ok vs σ'):EJ σ o vs:=by
 have:=OH o σ;rw[h]at this;cases this with
 |ok _ q=>exact q
theorem Ig(e0:σ₀[j]?=some (.dict es n))(h:stays (.obj j) σ₀ σ=true):∃es',σ[j]?=some (.dict es' n)/\es.map (·.1)=es'.map (·.1):=by
 replace h:(match σ₀[j]?,σ[j]? with
  |some (.dict es n),some (.dict es' n')=>decide (n=n')&&A6 (es.map (·.1)) (es'.map (·.1))
  |some (.list l),some (.list l')=>A6 l l'
  |_,_=>false)=true:=h
 rw[e0]at h;cases e1:σ[j]? with
 |none=>rw[e1]at h;exact DA h
 |some w=>
  rw[e1]at h;cases w with
  |dict es' n'=>refine D3 h λh1 h2=>?_;exact⟨es',by rw[of_decide_eq_true h1],C8 h2⟩
  |_=>exact DA h
theorem HV(e0:σ₀[j]?=some (.list l))(h:stays (.obj j) σ₀ σ=true):σ[j]?=some (.list l):=by
 replace h:(match σ₀[j]?,σ[j]? with
  |some (.dict es n),some (.dict es' n')=>decide (n=n')&&A6 (es.map (·.1)) (es'.map (·.1))
  |some (.list l),some (.list l')=>A6 l l'
  |_,_=>false)=true:=h
 rw[e0]at h;cases e1:σ[j]? with
 |none=>rw[e1]at h;exact DA h
 |some w=>
  rw[e1]at h;cases w with
  |list l'=>rw[C8 (show A6 l l'=true from h)]
  |_=>exact DA h
theorem M8{j:Nat}{es:List (V×V)}{n i:Nat}(e:σ₀[j]?=some (.dict es n))(it:Fe Γ κ (.obj j) σ₀ oI i):∃d,κ.ρ[j]?=some d/\oI.cls=.type "dict_keyiterator" /\oI.data=.fields #[.ref d,.int i 0,.int es.length 0,.int n 0]:=by refine Au it λd hd it=>?_;rw[e]at it;exact⟨d,hd,it⟩
theorem L5(e:σ₀[j]?=some (.list l))(it:Fe Γ κ (.obj j) σ₀ oI i):∃d,κ.ρ[j]?=some d/\oI.cls=.type "list_iterator" /\oI.data=.fields #[.ref d,.int i 0]:=by refine Au it λd hd it=>?_;rw[e]at it;exact⟨d,hd,it⟩
theorem Py{j:Nat}{d:Addr}{es:List (V×V)}{n i:Nat}(e:σ₀[j]?=some (.dict es n))(hd:κ.ρ[j]?=some d)(h1:oI.cls=.type "dict_keyiterator")(h2:oI.data=.fields #[.ref d,.int i 0,.int es.length 0,.int n 0]):Fe Γ κ (.obj j) σ₀ oI i:=by refine⟨d,hd,?_⟩;rw[e];exact⟨h1,h2⟩
theorem PY{j:Nat}{d:Addr}{l:List V}{i:Nat}(e:σ₀[j]?=some (.list l))(hd:κ.ρ[j]?=some d)(h1:oI.cls=.type "list_iterator")(h2:oI.data=.fields #[.ref d,.int i 0]):Fe Γ κ (.obj j) σ₀ oI i:=by refine⟨d,hd,?_⟩;rw[e];exact⟨h1,h2⟩
theorem Mi(n:Nat):Builtin.Range.rangeSize 0 (n:Int) 1=n:=by
 unfold Builtin.Range.rangeSize;by_cases h0:(n:Int)>0;·simp[h0];try lia
 ·have:n=0:=by lia
  subst this;rfl
theorem Sb{n:Nat}(hl:n<=4096):Builtin.Range.small 0 (n:Int) 1:=by unfold Builtin.Range.small;rw[Mi];unfold Builtin.Range.rangeFitsLong;simp;lia
theorem Ga(ok:Γ.Ok)(ar:AR Γ κ ce ex fr σ h){o:V}{x:Value}(r:RV Γ.base κ o x){vs:List V}(hv:A5 o σ=.ok vs σ)(hl:vs.length<=4096){Q:Value->Shared->Prop}{E:Value->Shared->Prop}
  (k:∀h' I oI,I≠ce.locals->AR Γ κ ce ((I,oI)::ex) fr σ h'->Fe Γ κ o σ oI 0->Q (.ref I) (Γ.at h' tk)):wpAny Γ.M A (pyIter x) Q E (Γ.at h tk):=by
 have nl:h.objs.size≠ce.locals:=Nat.ne_of_gt ar.locals_lt;cases Hy hv with
 |tup=>
  cases r.tt with
  |@mk a arr ep p rs=>exact iter_tuple (s:=Γ.at h tk) (Et ar p) (k _ _ _ nl (ar.own _ rfl) ⟨a,arr,ep,p,rs,rfl,rfl⟩)
 |lst=>
  cases r.ll with
  |@mk a arr ep p rs=>exact wpAny_pyIter_list (s:=Γ.at h tk) (Dy ar p) (k _ _ _ nl (ar.own _ rfl) ⟨a,arr,ep,p,rs,rfl,rfl⟩)
 |rng n=>
  rw[List.length_map,List.length_range]at hl;cases r.rr with
  |@mk a t u v p=>refine wpAny_pyIter_range (s:=Γ.at h tk) (ar.pf p) (Sb hl) ?_;rw[Mi];refine k _ _ _ nl (ar.own _ rfl) ?_;show _=_;simp
 |byt=>
  cases r.yy with
  |mk t=>exact KBw.pyIter_bytes (s:=Γ.at h tk) (k _ _ _ nl (ar.own _ rfl) ⟨t,rfl,rfl⟩)
 |dict j es n e=>
  cases r.oo with
  |@mk a hi=>obtain⟨a',g,m,led,cel,im,ds,pre,post,ea,d,nm,f,ka,nd,e3,ho,L⟩:=Cj ar e (.obj hi);cases ea;exact Q7 (s:=Γ.at h tk) (HT ok d (o:=dictOf ds n) (by rw[e3];simp)) ho (k _ _ _ nl (ar.own _ rfl) (Py e hi rfl (by rw[f.length];rfl)))
 |list j l e=>
  cases r.oo with
  |@mk a hi=>obtain⟨a',g,m,led,cel,im,xs,n,pre,post,ea,d,nm,f,e3,ho,L⟩:=FZ ar e (.obj hi);cases ea;exact wpAny_pyIter_list (s:=Γ.at h tk) (l:=a) (items:=xs.toArray) ⟨_,ho,rfl,n,rfl⟩ (k _ _ _ nl (ar.own _ rfl) (PY e hi rfl rfl))
noncomputable def ID(Γ:BG)(ce:Env)(fr:Fm)(κ:Wd)(ex:List (Addr×Obj))(σ:St)(I:Addr)(o:V)(σ₀:St)(i:Nat)(v:V)(Q:Option Value->Shared->Prop):Prop:=∀h' tk' oJ y,AR Γ κ ce ((I,oJ)::ex) fr σ h'->Fe Γ κ o σ₀ oJ (i+1)->RV Γ.base κ v y->(∀j,o=.lst j\/o=.tup j->∃ax,h'.IsListIter I ax (i+1)\/IsTupIter h' I ax (i+1))->Q (some y) (Γ.at h' tk')
theorem Du(ar:AR Γ κ ce ((I,oI)::ex) fr σ h):h.get? I=some oI:=by obtain⟨g,m,led,cel,im,d,nm⟩:=ar;exact(d.N (I,oI) (by simp)).1
section
theorem bQ(ar:AR Γ κ ce ((I,oI)::ex) fr σ h)(hI:I≠ce.locals)(it:Fe Γ κ (.byt b) σ₀ oI i)(e:(b.toList.map λx=>V.int (x.toNat:Int))[i]?=some v)(k:ID Γ ce fr κ ex σ I (.byt b) σ₀ i v Q):wpAny Γ.M A (pyNext (.ref I)) Q E (Γ.at h tk):=by refine Au it λt h1 h2=>?_;rw[List.getElem?_map,Option.map_eq_some_iff]at e;refine Au e λx ex' eqq=>?_;subst eqq;refine KBw.next_item (s:=Γ.at h tk) (b:=b) (t:=t) (i:=i) (c:=x) ⟨oI,Du ar,h1,h2⟩ (by simpa using ex') λh' it' hs=>?_;obtain⟨oJ,j1,j2,j3⟩:=it';exact k _ _ oJ _ (ar.turnOwn hI hs j1) ⟨t,j2,j3⟩ (.int _ _) λj hj=>by rcases hj with hj|hj<;>cases hj
theorem dP(ar:AR Γ κ ce ((I,oI)::ex) fr σ h)(hI:I≠ce.locals)(it:Fe Γ κ (.rng n) σ₀ oI i)(e:((List.range n).map λ(i:Nat)=>V.int (i:Int))[i]?=some v)(k:ID Γ ce fr κ ex σ I (.rng n) σ₀ i v Q):wpAny Γ.M A (pyNext (.ref I)) Q E (Γ.at h tk):=by
 rw[List.getElem?_map,Option.map_eq_some_iff]at e;refine Au e λx ex' eqq=>?_;subst eqq;have hin:i<n:=by
  have:=(List.getElem?_eq_some_iff.mp ex').1
  simpa using this
 rw[List.getElem?_range hin]at ex';have ei:x=i:=(Option.some.inj ex').symm;subst ei;have hIh:=Du ar;rw[show oI=_ from it]at hIh;refine wpAny_pyNext_range_item (s:=Γ.at h tk) (x:=(x:Int)) (left:=(n:Int)-x) (step:=1) hIh (by(clear hIh k it ar ex';lia)) λh' it' hs=>?_;refine k _ _ _ _ (ar.turnOwn hI hs it') ?_ (.int _ _) λj hj=>by rcases hj with hj|hj<;>cases hj
 show(_:Obj)=_;rw[show(n:Int)-((x+1:Nat):Int)=(n:Int)-x-1 by(clear hIh k it ar ex';lia),show((x+1:Nat):Int)=(x:Int)+1 from rfl]
theorem gP(ar:AR Γ κ ce ((I,oI)::ex) fr σ h)(hI:I≠ce.locals)(it:Fe Γ κ (.tup l) σ₀ oI i)(e:l[i]?=some v)(k:ID Γ ce fr κ ex σ I (.tup l) σ₀ i v Q):wpAny Γ.M A (pyNext (.ref I)) Q E (Γ.at h tk):=by obtain⟨ax,arr,ep,p,rs,h1,h2⟩:=it;refine Au (rs.get e) λy ey ry=>?_;refine next_tuple_item (s:=Γ.at h tk) (i:=i) (t:=ax) (items:=arr) ⟨oI,Du ar,h1,h2⟩ (Et ar p) (by simpa using ey) λh' it' hs=>?_;obtain⟨oJ,j1,j2,j3⟩:=id it';exact k _ _ oJ _ (ar.turnOwn hI hs j1) ⟨ax,arr,ep,p,rs,j2,j3⟩ ry λj hj=>⟨ax,.inr it'⟩
theorem dJ(ar:AR Γ κ ce ((I,oI)::ex) fr σ h)(hI:I≠ce.locals)(it:Fe Γ κ (.lst l) σ₀ oI i)(e:l[i]?=some v)(k:ID Γ ce fr κ ex σ I (.lst l) σ₀ i v Q):wpAny Γ.M A (pyNext (.ref I)) Q E (Γ.at h tk):=by obtain⟨ax,arr,ep,p,rs,h1,h2⟩:=it;refine Au (rs.get e) λy ey ry=>?_;refine wpAny_pyNext_list_item (s:=Γ.at h tk) (i:=i) (l:=ax) (items:=arr) ⟨oI,Du ar,h1,h2⟩ (Dy ar p) (by simpa using ey) λh' it' hs=>?_;obtain⟨oJ,j1,j2,j3⟩:=id it';exact k _ _ oJ _ (ar.turnOwn hI hs j1) ⟨ax,arr,ep,p,rs,j2,j3⟩ ry λj hj=>⟨ax,.inl it'⟩
theorem YF(ar:AR Γ κ ce ((I,oI)::ex) fr σ h)(hI:I≠ce.locals)(e0:σ₀[j]?=some (.dict es n))(hst:stays (.obj j) σ₀ σ=true)(it:Fe Γ κ (.obj j) σ₀ oI i)(e:(es.map (·.1))[i]?=some v)(k:ID Γ ce fr κ ex σ I (.obj j) σ₀ i v Q):wpAny Γ.M A (pyNext (.ref I)) Q E (Γ.at h tk):=by
 refine D9 (M8 e0 it) λd hd h1 h2=>?_;refine Au (Ig e0 hst) λes' e1 hk=>?_;obtain⟨a',g,m,led,cel,im,ds,pre,post,ea,dd,nm,f,ka,nd,e3,ho,L⟩:=Cj ar e1 (.obj hd);cases ea;have len:es.length=ds.length:=by rw[<-f.length,<-List.length_map (·.1),hk,List.length_map]
 rw[hk,List.getElem?_map,Option.map_eq_some_iff]at e;refine Au e λp ep' eqq=>?_;subst eqq;obtain⟨x,y,ed,rk,_⟩:=f.get ep';refine Qk (s:=Γ.at h tk) (i:=i) (d:=d) (ds:=ds) (ep:=n) (e:=⟨Γ.hsh p.1,x,y⟩) ⟨oI,Du ar,h1,by rw[h2,len]⟩ ho ed λh' it' hs=>?_;obtain⟨oJ,j1,j2,j3⟩:=it';exact k _ _ oJ _ (ar.turnOwn hI hs j1) (Py e0 hd j2 (by rw[j3,len])) rk λj hj=>by rcases hj with hj|hj<;>cases hj
theorem Y8(ar:AR Γ κ ce ((I,oI)::ex) fr σ h)(hI:I≠ce.locals)(e0:σ₀[j]?=some (.list l))(hst:stays (.obj j) σ₀ σ=true)(it:Fe Γ κ (.obj j) σ₀ oI i)(e:l[i]?=some v)(k:ID Γ ce fr κ ex σ I (.obj j) σ₀ i v Q):wpAny Γ.M A (pyNext (.ref I)) Q E (Γ.at h tk):=by refine D9 (L5 e0 it) λd hd h1 h2=>?_;obtain⟨a',g,m,led,cel,im,xs,n,pre,post,ea,dd,nm,f,e3,ho,L⟩:=FZ ar (HV e0 hst) (.obj hd);cases ea;refine Au (f.get e) λy ey ry=>?_;refine wpAny_pyNext_list_item (s:=Γ.at h tk) (i:=i) (l:=d) (items:=xs.toArray) ⟨oI,Du ar,h1,h2⟩ ⟨_,ho,rfl,n,rfl⟩ (by simpa using ey) λh' it' hs=>?_;obtain⟨oJ,j1,j2,j3⟩:=id it';exact k _ _ oJ _ (ar.turnOwn hI hs j1) (PY e0 hd j2 j3) ry λj hj=>by rcases hj with hj|hj<;>cases hj
theorem Hp(ar:AR Γ κ ce ((I,oI)::ex) fr σ h)(hI:I≠ce.locals)(hv:A5 o σ₀=.ok vs σ₀)(hst:stays o σ₀ σ=true)(it:Fe Γ κ o σ₀ oI i)(e:vs[i]?=some v)(k:ID Γ ce fr κ ex σ I o σ₀ i v Q):wpAny Γ.M A (pyNext (.ref I)) Q E (Γ.at h tk):=by
 cases Hy hv with
 |tup=>exact gP ar hI it e k
 |lst=>exact dJ ar hI it e k
 |rng=>exact dP ar hI it e k
 |byt=>exact bQ ar hI it e k
 |dict j es n e0=>exact YF ar hI e0 hst it e k
 |list j l e0=>exact Y8 ar hI e0 hst it e k
end
theorem K6(hh:A.handled=none)(ar:AR Γ κ ce ((I,oI)::ex) fr σ h)(hI:I≠ce.locals)(hv:A5 o σ₀=.ok vs σ₀)(hst:stays o σ₀ σ=true)(it:Fe Γ κ o σ₀ oI vs.length)
  (k:∀h' tk',AR Γ κ ce ex fr σ h'->Q none (Γ.at h' tk')):wpAny Γ.M A (pyNext (.ref I)) Q E (Γ.at h tk):=by
 have hIh:h.get? I=some oI:=Du ar;have CA:∀h',Heap.ExtBut I h h'->Q none (Γ.at h' tk):=λh' he=>k _ _ (ar.drop hI λb o hb e=>he b o hb e);cases Hy hv with
 |byt b=>refine Au it λt h1 h2=>?_;exact KBw.next_end (s:=Γ.at h tk) (b:=b) (t:=t) hh ⟨oI,hIh,h1,h2⟩ (by simp) CA
 |rng n=>have it:oI=_:=it;rw[it]at hIh;exact wpAny_pyNext_range_end (s:=Γ.at h tk) hh hIh (by simp) CA
 |tup l=>obtain⟨ax,arr,ep,p,rs,h1,h2⟩:=it;exact next_tuple_end (s:=Γ.at h tk) (t:=ax) (items:=arr) hh ⟨oI,hIh,h1,h2⟩ (Et ar p) (by rw[rs.length];simp) CA
 |lst l=>obtain⟨ax,arr,ep,p,rs,h1,h2⟩:=it;exact wpAny_pyNext_list_end (s:=Γ.at h tk) (l:=ax) (items:=arr) hh ⟨oI,hIh,h1,h2⟩ (Dy ar p) (by rw[rs.length];simp) CA
 |dict j es n e0=>
  refine D9 (M8 e0 it) λd hd h1 h2=>?_;refine Au (Ig e0 hst) λes' e1 hk=>?_;obtain⟨a',g,m,led,cel,im,ds,pre,post,ea,dd,nm,f,ka,nd,e3,ho,L⟩:=Cj ar e1 (.obj hd);cases ea;have len:es.length=ds.length:=by rw[<-f.length,<-List.length_map (·.1),hk,List.length_map]
  exact Tv (s:=Γ.at h tk) (d:=d) (ds:=ds) (ep:=n) hh ⟨oI,hIh,h1,by rw[h2,List.length_map,len]⟩ ho CA
 |list j l e0=>refine D9 (L5 e0 it) λd hd h1 h2=>?_;obtain⟨a',g,m,led,cel,im,xs,n,pre,post,ea,dd,nm,f,e3,ho,L⟩:=FZ ar (HV e0 hst) (.obj hd);cases ea;exact wpAny_pyNext_list_end (s:=Γ.at h tk) (l:=d) (items:=xs.toArray) hh ⟨oI,hIh,h1,h2⟩ ⟨_,ho,rfl,n,rfl⟩ (by rw[f.length];simp) CA
end
section
section
theorem D0(hv:A5 o σ=.ok vs σ):stays o σ σ=true:=by
 cases Hy hv with
 |dict j es n e=>
  show(match σ[j]?,σ[j]? with
   |some (.dict es n),some (.dict es' n')=>decide (n=n')&&A6 (es.map (·.1)) (es'.map (·.1))
   |some (.list l),some (.list l')=>A6 l l'
   |_,_=>false)=true
  rw[e];exact Bool.and_eq_true_iff.mpr ⟨decide_eq_true rfl,Bx _⟩
 |list j l e=>
  show(match σ[j]?,σ[j]? with
   |some (.dict es n),some (.dict es' n')=>decide (n=n')&&A6 (es.map (·.1)) (es'.map (·.1))
   |some (.list l),some (.list l')=>A6 l l'
   |_,_=>false)=true
  rw[e];exact Bx _
 |_=>rfl
theorem Gi(e:A5 o σ=r):(∃vs,r=.ok vs σ)\/r=.stuck:=by
 have q:=OH o σ;rw[e]at q;cases q with
 |ok vs _=>exact .inl ⟨vs,rfl⟩
 |no=>exact .inr rfl
theorem XY:(∃fr',D6 ns l c fr σ=.ok fr' σ)\/D6 ns l c fr σ=.stuck:=by
 unfold D6;by_cases hg:(c.plain&&ns.all (AW c)&&ns.length==l.length)=true
 ·rw[if_pos hg];cases Ca fr ns l with
  |none=>exact .inr rfl
  |some f=>exact .inl ⟨_,rfl⟩
 ·rw[if_neg hg];exact .inr rfl
theorem Xn:(∃fr',CS t v c fr σ=.ok fr' σ)\/CS t v c fr σ=.stuck:=by
 delta CS;cases Ei t with
 |some x=>
  dsimp only;by_cases hm:AW c x=true;·rw[if_pos hm];exact .inl ⟨_,rfl⟩
  ·rw[if_neg hm];exact .inr rfl
 |none=>
  cases Fc t with
  |none=>exact .inr rfl
  |some xs=>
   dsimp only;cases names xs with
   |none=>exact .inr rfl
   |some ns=>
    cases CL v with
    |none=>exact .inr rfl
    |some l=>exact XY
theorem CG(h:BL it=true):∀x,foldedSetIterable it ce x=pure x:=by intro x;cases it<;>first|rfl|cases h
theorem E6.inner(S:E6 Γ c ex P X)(ex':List (Addr×Obj)):E6 Γ c ex' P (λ_ _ _ _ _=>True):=⟨S.cok,S.up,λ_ _ _ _ _ _ _ _=>trivial,λ_ _ _ _ _ _ _=>trivial,S.all,S.nk,S.mkx,S.exm,S.sub⟩
theorem Rt(h:Em t src=true):(∃x p,t=.Name x p)\/∃xs n p l,t=.Tuple xs n p/\src=.lst l:=by
 rcases Bool.or_eq_true_iff.mp h with h|h;·exact .inl (Expr.Name.elim (motive_1:=λt=>∃x p,t=.Name x p) t (of_decide_eq_true h) λx p=>⟨x,p,rfl⟩)
 ·refine D3 h λh1 h2=>?_;refine .inr (Expr.Tuple.elim (motive_1:=λt=>∃xs n p l,t=.Tuple xs n p/\src=.lst l) t (of_decide_eq_true h1) λxs n p=>?_);exact V.lst.elim (motive_1:=λsrc=>∃xs' n' p' l,Expr.Tuple xs n p=.Tuple xs' n' p'/\src=.lst l) src (of_decide_eq_true h2) λl=>⟨xs,n,p,l,rfl,rfl⟩
noncomputable def He(t:Expr)(body:List Stmt)(c:Cx)(v:V)(fr:Fm):Mo Az:=Aa (CS t v c fr) λfr'=>Fv body c fr'
inductive NZ(Γ:BG)(ex:List (Addr×Obj))(P:Fm->Prop)(X:Wd->St->Ex->Value->Shared->Prop)(Q:Flow->Shared->Prop)(E:Value->Shared->Prop)(I:Addr)(f:V->Fm->Mo Az)(src:V)(σ₀:St)(vs:List V)(k:Nat)(s':Shared):Prop
 |mk (i:Nat) (h':Heap) (tk':Nat) (oI:Obj) (fr':Fm) (σ':St) (κ':Wd) (es:s'=Γ.at h' tk') (hP:P fr') (ar:AR Γ κ' Γ.env ((I,oI)::ex) fr' σ' h') (it:Fe Γ κ' src σ₀ oI i) (hs:stays src σ₀ σ'=true) (hi:i<=vs.length) (hk:k=vs.length+1-i) (o:Bf Γ ex κ' P X (BO src σ₀ f (vs.drop i) fr' σ') Q E):NZ Γ ex P X Q E I f src σ₀ vs k s'
noncomputable def jX(o:V)(σ₀:St)(f:V->Fm->Mo Az)(r:List V):Az->Mo Az
 |.rets v=>ret (.rets v)
 |.next fr'=>Aa (λσ=>if stays o σ₀ σ=true then .ok () σ else .stuck) λ_=>BO o σ₀ f r fr'
 |.cont fr'=>Aa (λσ=>if stays o σ₀ σ=true then .ok () σ else .stuck) λ_=>BO o σ₀ f r fr'
theorem Zo(o:V)(σ₀:St)(f:V->Fm->Mo Az)(a:V)(r:List V)(fr:Fm):BO o σ₀ f (a::r) fr=Aa (Cs (f a fr)) (jX o σ₀ f r):=by refine congrArg (Aa (Cs (f a fr))) (funext λq=>?_);cases q<;>rfl
noncomputable def jN(Nx:Shared->Prop)(Q:Flow->Shared->Prop)(f:Flow)(s₃:Shared):Prop:=match f with
 |.next|.cont=>Nx s₃
 |.brk=>Q .next s₃
 |.ret v=>Q (.ret v) s₃
theorem XS(e:f σ=.ok a σ'):Cs (Aa f k) σ=Cs (k a) σ':=by unfold Cs;rw[Ae e]
theorem aI{α β:Type}{f g:Mo α}{k:α->Mo β}{σ σ':St}(e:f σ=g σ'):Aa f k σ=Aa g k σ':=by unfold Aa;rw[e]
section
variable{Nx Rn:Shared->Prop}
theorem TB(S:E6 Γ c ex P X)(hA:Gb Γ A c.plain)(hP:P fr)
  (ih:∀ex' fr σ κ h tk Q E,E6 Γ c ex' P (λ_ _ _ _ _=>True)->P fr->AR Γ κ Γ.env ex' fr σ h->Bf Γ ex' κ P (λ_ _ _ _ _=>True) (Fv body c fr σ) Q E->wpAny Γ.M A (execs body Γ.env) Q E (Γ.at h tk))
  (hf:Em t src=true) (hI:I≠Γ.env.locals) (ar:AR Γ κ Γ.env ((I,oI)::ex) fr σ h) (it:Fe Γ κ src σ₀ oI i) (hv:A5 src σ₀=.ok vs σ₀) (hvi:vs[i]?=some v) (hst:stays src σ₀ σ=true)
  (o:Bf Γ ex κ P X (BO src σ₀ (He t body c) (v::vr) fr σ) Q E)
  (hN:∀oJ h₄ tk₄ fr₄ κ₄ σ₄,P fr₄->AR Γ κ₄ Γ.env ((I,oJ)::ex) fr₄ σ₄ h₄->Fe Γ κ₄ src σ₀ oJ (i+1)->stays src σ₀ σ₄=true->Bf Γ ex κ₄ P X (BO src σ₀ (He t body c) vr fr₄ σ₄) Q E->Nx (Γ.at h₄ tk₄)) :
  wpAny Γ.M A (pyNext (.ref I)) (λr s₁=>match r with
   |none=>Rn s₁
   |some v=>wpAny Γ.M A (letOwnedTupleGo t (.ref I) v) (λ_ s₁'=>wpAny Γ.M A (assign t Γ.env v) (λ_ s₂=>wpAny Γ.M A (execs body Γ.env) (jN Nx Q) EE s₂) EE s₁') EE s₁) EE (Γ.at h tk):=by
 refine Hp ar hI hv hst it hvi λh₂ tk₂ oJ y ar₂ it₂ ry hlist=>?_;have turn:wpAny Γ.M A (assign t Γ.env y) (λ_ s₂=>wpAny Γ.M A (execs body Γ.env) (jN Nx Q) EE s₂) EE (Γ.at h₂ tk₂):=by
  rw[Zo]at o;rcases Xn (t:=t) (v:=v) (c:=c) (fr:=fr) (σ:=σ) with ⟨fr'',ea⟩|ea
  rotate_left
  ·rw[Ao (CD (show He t body c v fr σ=.stuck from Ao ea))]at o;exact o.elim
  have S':=S.inner ((I,oJ)::ex);refine SN S' hA hP ar₂ ry ea λh₃ tk₃ hP₃ ar₃=>?_;rw[aI (show Cs (He t body c v fr) σ=Cs (Fv body c fr'') σ from XS ea)]at o;refine ih _ _ _ _ _ _ _ _ S' hP₃ ar₃ ?_;have again:∀fr₄ σ₄ κ₄ h₄ tk₄,κ.Le κ₄->P fr₄->AR Γ κ₄ Γ.env ((I,oJ)::ex) fr₄ σ₄ h₄->
    Bf Γ ex κ P X (Aa (λσ=>if stays src σ₀ σ=true then .ok () σ else .stuck) (λ_=>BO src σ₀ (He t body c) vr fr₄) σ₄) Q E->Nx (Γ.at h₄ tk₄):=by
   intro fr₄ σ₄ κ₄ h₄ tk₄ q₄ hP₄ ar₄ o₄;by_cases hs₄:stays src σ₀ σ₄=true;·rw[Ae (a:=()) (σ':=σ₄) (if_pos hs₄)]at o₄;exact hN _ _ _ _ _ _ hP₄ ar₄ (it₂.le q₄) hs₄ (o₄.le q₄)
   ·rw[Ao (if_neg hs₄)]at o₄;exact o₄.elim
  clear hN hlist;cases er:Fv body c fr'' σ with
  |stuck=>rw[Ao (CD er)]at o;exact o.elim
  |exc e σ₄=>rw[Ao (ET er)]at o;exact o.elim
  |ok q σ₄=>
   rw[Ae (Bk er)]at o;cases q with
   |next fr₄=>exact λκ₄ h₄ tk₄ q₄ hP₄ ar₄=>again fr₄ σ₄ κ₄ h₄ tk₄ q₄ hP₄ ar₄ o
   |cont fr₄=>exact λκ₄ h₄ tk₄ q₄ hP₄ ar₄=>again fr₄ σ₄ κ₄ h₄ tk₄ q₄ hP₄ ar₄ o
   |rets v=>exact λκ₄ h₄ tk₄ y₄ fr₄ q₄ ar₄ rv₄=>o κ₄ h₄ tk₄ y₄ fr₄ q₄ (ar₄.drop hI λ_ _ _ z=>z) rv₄
 clear o hN ih;rcases Rt hf with ⟨x,p,et⟩|⟨xs,n,p,l,et,es⟩
 ·exact wpAny_of_eq (a:=()) (by rw[et];rfl) turn
 ·rw[es]at it₂;obtain⟨ax,arr,ep,pp,rs,h1,h2⟩:=it₂;subst et;exact letGo_listiter (s':=Γ.at h₂ tk₂) (I:=I) (t:=ax) (i:=i+1) ⟨oJ,Du ar₂,h1,h2⟩ turn
end
theorem eO(EV:HO)(S:E6 Γ c ex P X)(hA:Gb Γ A c.plain)(hP:P fr)(ar:AR Γ κ Γ.env ex fr σ h)
  (ih:∀ex' fr σ κ h tk Q E,E6 Γ c ex' P (λ_ _ _ _ _=>True)->P fr->AR Γ κ Γ.env ex' fr σ h->Bf Γ ex' κ P (λ_ _ _ _ _=>True) (Fv body c fr σ) Q E->wpAny Γ.M A (execs body Γ.env) Q E (Γ.at h tk))
  (o:Bf Γ ex κ P X ((if(true&&c.plain&&BL it)=true then Aa (ev it c fr) λsrc σ=>Aa (A5 src) (λvs=>if(Em t src&&decide (vs.length<=4096))=true then BO src σ (λv fr=>Aa (CS t v c fr) λfr'=>Fv body c fr') vs fr else AB) σ else AB) σ) Q E) :
  wpAny Γ.M A (exec (.For t it body [] pos) Γ.env) Q E (Γ.at h tk):=by
 have C:=S.cc hA;by_cases hg:(true&&c.plain&&BL it)=true
 ·rw[if_pos hg]at o;refine D3 hg λhp hs=>?_;replace hp:c.plain=true:=hp;have hh:=hA.handled hp;refine wpAny_For ((EV.ev _ _ _ _ _ it C).use ar (BV S hP o λsrc σ₀ _ κ₀ h₀ tk₀ x q₀ ar₀ rx o₀=>?_)) (CG hs);replace o₀:Bf Γ ex κ₀ P X (Aa (A5 src) (λvs=>if(Em t src&&decide (vs.length<=4096))=true then BO src σ₀ (He t body c) vs fr else AB) σ₀) Q E:=o₀;rcases Gi (o:=src) (σ:=σ₀) rfl with ⟨vs,ev⟩|ev
  rotate_left
  ·rw[Ao ev]at o₀;exact o₀.elim
  rw[Ae ev]at o₀;by_cases hl:(Em t src&&decide (vs.length<=4096))=true
  rotate_left
  ·rw[if_neg hl]at o₀;exact o₀.elim
  rw[if_pos hl]at o₀;refine D3 hl λhf hl=>?_;refine Ga C.ok ar₀ rx ev (of_decide_eq_true hl) λh₁ I oI hI ar₁ it₁=>?_;refine codeAny_forLoop_any
   (NZ Γ ex P X Q E I (He t body c) src σ₀ vs) ?_ (vs.length+1)
   ⟨0,h₁,tk₀,oI,fr,σ₀,κ₀,rfl,hP,ar₁,it₁,D0 ev,Nat.zero_le _,rfl,by rw[List.drop_zero];exact o₀⟩
  rintro k s' ⟨i,h',tk',oI',fr',σ',κ',rfl,hP',ar',it',hst,hi,rfl,o'⟩
  by_cases hlt:i<vs.length;·have ed:vs.drop i=vs[i]::vs.drop (i+1):=List.drop_eq_getElem_cons hlt;rw[ed]at o';exact TB (Nx:=λs=>∃m,m<vs.length+1-i/\NZ Γ ex P X Q E I (He t body c) src σ₀ vs m s) S hA hP' ih hf hI ar' it' ev (List.getElem?_eq_getElem hlt) hst o' λoJ h₄ tk₄ fr₄ κ₄ σ₄ hP₄ ar₄ it₄ hs₄ o₄=>⟨vs.length+1-(i+1),Nat.sub_lt_sub_left (Nat.lt_succ_of_lt hlt) (Nat.lt_succ_self i),i+1,h₄,tk₄,oJ,fr₄,σ₄,κ₄,rfl,hP₄,ar₄,it₄,hs₄,hlt,rfl,o₄⟩
  ·obtain rfl:=Nat.le_antisymm hi (Nat.le_of_not_lt hlt);refine K6 hh ar' hI ev hst it' λh₂ tk₂ ar₂=>wpAny_execs_nil ?_;rw[List.drop_length]at o';exact o' κ' h₂ tk₂ .refl hP' ar₂
 ·rw[if_neg hg]at o;exact o.elim
end
end
set_option backward.match.sparseCases true
section
noncomputable abbrev Oh(ifs:List Expr)(env:Env):Sem Bool:=forIn ifs true λc r=>if r=true then do let ok<-isTrue c env (eval c env);pure (ForInStep.yield ok) else pure (ForInStep.yield r)
theorem Oc{elt:Expr}{gens:List Comprehension}{scope:Scope}{pos:Pos}{depth:Nat}{it acc:Value}{env:Env}{g:Comprehension}(hg:gens[depth]?=some g)(ha:g.is_async=0)
  (hn:∀g',gens[depth+1]?=some g'->g'.is_async=0/\∀x,foldedSetIterable g'.iter env x=pure x) (ht:∀v,letOwnedTupleGo g.target it v=pure ()) (I:Nat->Shared->Prop)
  (turn:∀n s,I n s->wpAny (model prog w) A (pyNext it) (λr s₁=>match r with
   |none=>R (.ok .next) s₁
   |some v=>wpAny (model prog w) A (assign g.target env v) (λ_ s₂=>wpAny (model prog w) A (Oh g.ifs env) (λok s₃=>
     if ok=true then(match gens[depth+1]? with
      |some g'=>wpAny (model prog w) A (eval g'.iter env) (λx s₄=>wpAny (model prog w) A (pyIter x) (λit' s₅=>
        codeAny (model prog w) A (.compStart (.ListComp elt gens scope pos) (depth+1) it' acc env) (λr s₆=>match r with
         |.ok _=>∃m,m<n/\I m s₆
         |.error x=>cameBackBy (model prog w) A env (notedBy (model prog w) A env λe s'=>R (.error e) s') x s₆) s₅)
        (notedBy (model prog w) A env λe s'=>R (.error e) s') s₄) (notedBy (model prog w) A env λe s'=>R (.error e) s') s₃
      |none=>wpAny (model prog w) A (eval elt env) (λx s₄=>wpAny (model prog w) A (call (.builtin "list.append") [acc,x]) (λ_ s₅=>∃m,m<n/\I m s₅)
        (notedBy (model prog w) A env λe s'=>R (.error e) s') s₄) (notedBy (model prog w) A env λe s'=>R (.error e) s') s₃)
     else∃m,m<n/\I m s₃) (notedBy (model prog w) A env λe s'=>R (.error e) s') s₂) (notedBy (model prog w) A env λe s'=>R (.error e) s') s₁) (notedBy (model prog w) A env λe s'=>R (.error e) s') s)
  (n:Nat) (h:I n s):codeAny (model prog w) A (.compLoop (.ListComp elt gens scope pos) depth it acc env) R s:=by
 refine codeAny_loop rfl I (λn s hI=>?_) n h;show wpAny _ A ((compTurn (.ListComp elt gens scope pos) depth it acc env).onRaise (λx=>do noteFrame x env;theTreesLotGoes x)) _ _ s;refine wpAny_noted ?_;unfold compTurn;dsimp only;rw[hg];dsimp only;rw[if_neg (by rw[ha];decide),if_neg (by rw[ha];decide)];refine wpAny_bind (wpAny_standAt (wpAny_bind (wpAny_mono (turn n s hI) (λr s₁ h₁=>?_) λ_ _ h'=>h')));cases r with
 |none=>exact wpAny_pure h₁
 |some v=>
  refine wpAny_bind (wpAny_of_eq (ht v) ?_);refine wpAny_bind (wpAny_mono h₁ (λ_ s₂ h₂=>wpAny_bind (wpAny_mono h₂ (λok s₃ h₃=>?_) λ_ _ h'=>h')) λ_ _ h'=>h');cases ok with
  |false=>exact wpAny_pure ⟨rfl,h₃⟩
  |true=>
   simp only[if_true]at h₃⊢;cases e:gens[depth+1]? with
   |none=>rw[e]at h₃;dsimp only at h₃⊢;exact wpAny_bind (wpAny_bind (wpAny_mono h₃ (λx s₄ h₄=>wpAny_bind (wpAny_mono h₄ (λ_ s₅ h₅=>wpAny_pure (wpAny_pure ⟨rfl,h₅⟩)) λ_ _ h'=>h')) λ_ _ h'=>h'))
   |some g'=>
    rw[e]at h₃;dsimp only at h₃⊢;obtain⟨a',f'⟩:=hn g' e;have no:¬((g'.is_async != 0)=true):=by rw[a'];decide
    refine wpAny_bind (wpAny_mono h₃ (λx s₄ h₄=>?_) λ_ _ h'=>h');refine wpAny_bind (wpAny_standAt ?_);rw[if_neg no];refine wpAny_bind (wpAny_of_eq (f' x) (wpAny_bind ?_));rw[if_neg no];refine wpAny_holding (wpAny_mono h₄ (λit' s₅ h₅=>?_) λ_ _ h'=>h');refine wpAny_bind (wpAny_runOwn (h:=none) ?_ (by intro x;cases x));refine codeAny_mono h₅ λr s₆ h₆=>?_;cases r with
    |ok f=>exact wpAny_pure ⟨rfl,h₆⟩
    |error x=>exact h₆
end
noncomputable def CQ(scope:Scope)(env:Env):List (Str×Addr):=(scope.names.filter λp=>p.2==.free).reverse.map λp=>(p.1,(env.cells.lookup p.1).getD 0)
theorem I3(env:Env):∀(names:List (Str×NameKind)) (cs:List (Str×Addr)),(∀p∈names,p.2=.free->∃a,env.cells.lookup p.1=some a)->
  (forIn names cs λ(x:Str×NameKind) (r:List (Str×Addr))=>if(x.2==NameKind.free)=true then(do let c<-cellOf env x.1;pure (ForInStep.yield ((x.1,c)::r))) else(pure (ForInStep.yield r):Sem _)) =
   pure (((names.filter λp=>p.2==.free).reverse.map λp=>(p.1,(env.cells.lookup p.1).getD 0))++cs)
 |[],cs,_=>rfl
 |(x,k)::r,cs,h=>by
  rw[List.forIn_cons];have ih:=λcs=>I3 env r cs λp hp=>h p (.tail _ hp);by_cases hk:(k==NameKind.free)=true
  ·refine AP (h (x,k) (.head _) (eq_of_beq hk)) λa ea=>?_;have:cellOf env x=pure a:=by unfold cellOf;rw[ea]
   simp only[hk,if_true,this];rw[show((do let c<-(pure a:Sem Addr);pure (ForInStep.yield ((x,c)::cs)):Sem _))=pure (ForInStep.yield ((x,a)::cs)) from rfl];refine Eq.trans (ih ((x,a)::cs)) ?_;simp[List.filter_cons,hk,ea]
  ·have hk':(k==NameKind.free)=false:=by simpa using hk
   simp only[hk',Bool.false_eq_true,if_false];refine Eq.trans (ih cs) ?_;simp[List.filter_cons,hk']
theorem Ff(h:∀p∈scope.names,p.2=.free->∃a,env.cells.lookup p.1=some a):closureFor scope env=pure (CQ scope env):=by have:=I3 env scope.names [] h;unfold closureFor;rw[List.append_nil]at this;exact(congrArg (λm:Sem (List (Str×Addr))=>m >>= pure) this)
theorem Zg{env:Env}:∀{names:List (Str×NameKind)}{x:Str}{a:Addr},names.lookup x=some .free->env.cells.lookup x=some a->(((names.filter λp=>p.2==.free).reverse.map λp=>(p.1,(env.cells.lookup p.1).getD 0))).lookup x=some a:=by
 intro names x a hx ha;have all:∀(l:List (Str×Addr)),(∀p∈l,p.1=x->p.2=a)->(∃p∈l,p.1=x)->l.lookup x=some a:=by
  intro l;induction l with
  |nil=>intro _ ⟨p,hp,_⟩;cases hp
  |cons q l ih=>
   intro h1 h2;obtain⟨y,b⟩:=q;rw[List.lookup_cons];by_cases e:x=y;·subst e;simp only[beq_self_eq_true];exact congrArg some (h1 (x,b) (.head _) rfl)
   ·have:(x==y)=false:=by simpa using e
    rw[this];refine ih (λp hp=>h1 p (.tail _ hp)) ?_;refine Au h2 λp hp ep=>?_;rcases List.mem_cons.mp hp with rfl|hp;·exact absurd ep.symm e
    ·exact⟨p,hp,ep⟩
 refine all _ (λp hp e=>?_) ?_;·refine Au (List.mem_map.mp hp) λq hq eqq2=>?_;subst eqq2;dsimp only at e⊢;rw[e,ha];rfl
 ·have hm:(x,NameKind.free)∈names:=by
   refine CX (List.lookup_eq_some_iff.mp hx) λl₁ l₂ e _=>?_;rw[e];simp
  exact⟨_,List.mem_map.mpr ⟨(x,.free),by simp[hm],rfl⟩,rfl⟩
theorem Ec{env:Env}{x:Str}:∀{names:List (Str×NameKind)},
  (names.map λ(n,k)=>if(k==NameKind.free&&env.scope.kind==.function&&env.kindOf n==some .cell) then(n,NameKind.cell) else(n,k)).lookup x =
   match names.lookup x with
   |some .free=>if env.scope.kind=.function/\env.kindOf x=some .cell then some .cell else some .free
   |q=>q
 |[]=>rfl
 |(n,k)::r=>by
  have ih:=@Ec env x r;show List.lookup x ((if(k==NameKind.free&&env.scope.kind==.function&&env.kindOf n==some .cell)=true then(n,NameKind.cell) else(n,k))::_)=_;by_cases e:x=n
  ·subst e;have e1:(x==x)=true:=by simp
   rw[List.lookup_cons (k:=x) (as:=r),e1];by_cases hc:(k==NameKind.free&&env.scope.kind==.function&&env.kindOf x==some .cell)=true;·rw[if_pos hc,List.lookup_cons,e1];simp only[Bool.and_eq_true,beq_iff_eq]at hc;obtain⟨⟨rfl,h1⟩,h2⟩:=hc;simp[h1,h2]
   ·rw[if_neg hc,List.lookup_cons,e1];cases k<;>first|rfl|skip
    dsimp only;rw[if_neg (λq=>hc (by simp[q.1,q.2]))]
  ·have e1:(x==n)=false:=by simpa using e
   rw[List.lookup_cons (k:=n) (as:=r),e1];by_cases hc:(k==NameKind.free&&env.scope.kind==.function&&env.kindOf n==some .cell)=true;·rw[if_pos hc,List.lookup_cons,e1];exact ih
   ·rw[if_neg hc,List.lookup_cons,e1];exact ih
theorem Eu{scope:Scope}{cl:List (Str×Addr)}{C:Addr}{env:Env}{c:Cx}(hk:∀x,c.kind x=env.kindOf x)(hf:env.scope.kind=.function)(x:Str):CN scope c.kind x=(compEnvC scope cl C env).kindOf x:=by
 show _=(relabel scope env).names.lookup x;unfold relabel CN;dsimp only;rw[Ec];rw[hk x];cases scope.names.lookup x with
 |none=>rfl
 |some k=>
  cases k<;>first|rfl|skip
  dsimp only;by_cases e:env.kindOf x=some .cell;·rw[if_pos e,if_pos ⟨hf,e⟩]
  ·rw[if_neg e,if_neg (λq=>e q.2)]
section
theorem AR.weak(ar:AR Γ κ ce ex fr σ h)(w:∀x v,fr' x=some v->fr x=some v):AR Γ κ ce ex fr' σ h:=by obtain⟨g,m,led,cel,im,d,⟨cm,h1,h2⟩,h3,h4⟩:=ar;refine⟨g,m,led,cel,im,d,⟨cm,h1,λx v e k=>h2 x v (w x v e) k⟩,λx k=>?_,h4⟩;refine HP (h3 x k) λa o y b1 b2 b3 b4=>?_;exact⟨a,o,y,b1,b2,b3,λv e=>b4 v (w x v e)⟩
theorem AR.chgEx(ar:AR Γ κ ce (pre++(a,o)::post) fr σ h)(na:a≠ce.locals)(hs:Heap.SameBut a h h')(ho:h'.get? a=some o'):AR Γ κ ce (pre++(a,o')::post) fr σ h':=by obtain⟨g,m,led,cel,im,d,nm⟩:=ar;refine AG (DY (o:=o) (pre:=led++cel++pre) (post:=post++im) d.F d.N (by simp) d.D hs ho) λF' N'=>?_;refine⟨g,m,led,cel,im,⟨F',by simpa using N',d.B,d.G,d.L,d.I,d.J,by simpa using d.D,d.T⟩,?_⟩;exact nm.sub λ_ x=>(List.mem_append.mp x).elim (List.mem_append_left _) λx=>List.mem_append_right _ (.tail _ (DW na x))
theorem Sh(hk:scope.kind=.function)(hx:(compEnvC scope cl a env).kindOf x=some .local)(na:a≠Γ.env.locals)
  (ar:AR Γ κ (compEnvC scope cl a env) (pre++(a,oC)::post) fr σ h) (r:RV Γ.base κ v y)
  (k:∀h' tk' oC',AR Γ κ (compEnvC scope cl a env) (pre++(a,oC')::post) (Ac fr x v) σ h'->Q () (Γ.at h' tk')):wpAny Γ.M A (assign (.Name x pos) (compEnvC scope cl a env) y) Q E (Γ.at h tk):=by
 obtain⟨g,m,led,cel,im,d,nm⟩:=ar;obtain⟨⟨cm,h1,h2⟩,h3,h4⟩:=nm;have ns:h.Ns a cm:=Se d h1;have h1':∃es ep,oC.data=.dict es ep/\StrKeys es/\∀n,nsFind es n=cm n:=by
  rcases h1 with ⟨e,_⟩|⟨oC',es,ep,hm,r⟩
  ·exact absurd e na
  ·have hm:(a,oC')∈pre++(a,oC)::post:=hm;have e1:=(d.N (a,oC') (by simp only[List.mem_append];exact .inl (.inr (List.mem_append.mp hm)))).1;have e2:=(d.N (a,oC) (by simp)).1;rw[e1]at e2;cases e2;exact⟨es,ep,r⟩
 refine wpAny_assign_Name (wpAny_storeName_local hx ns (λh' hn hs=>?_) (by rw[show(compEnvC scope cl a env).scope.kind=.function from hk];rfl));obtain⟨o',es',ep',g1,g2,g3,g4⟩:=hn;have g1:h'.get? a=some o':=g1;have hs:Heap.SameBut a h h':=hs;refine AG (DY (o:=oC) (pre:=led++cel++pre) (post:=post++im) d.F d.N (by simp) d.D hs g1) λF' N'=>?_;refine k h' _ o' ⟨g,m,led,cel,im,⟨F',by simpa using N',d.B,d.G,d.L,d.I,d.J,by simpa using d.D,d.T⟩,⟨_,.inr ⟨o',es',ep',by simp[compEnvC],g2,g3,g4⟩,λz u e kz=>?_⟩,λz kz=>?_,h4⟩
 ·unfold Ac at e;by_cases q:z=x;·rw[if_pos q]at e;cases e;exact⟨y,if_pos q,r⟩
  ·rw[if_neg q]at e;refine Au (h2 z u e kz) λy' e' r'=>?_;exact⟨y',(if_neg q).trans e',r'⟩
 ·refine HP (h3 z kz) λb ob y' b1 b2 b3 b4=>?_;refine⟨b,ob,y',b1,b2,b3,λu e=>b4 u ?_⟩;unfold Ac at e;rw[if_neg (λq=>by rw[q,hx]at kz;cases kz)]at e;exact e
end
section
theorem G8(hg:gens[depth]?=some g)(ha:g.is_async=0)
  (h0:codeAny (model prog w) A (.compLoop (.ListComp elt gens scope pos) depth it acc env) R s)
  (h:wpAny (model prog w) A (pyIter it) (λit' s'=>codeAny (model prog w) A (.compLoop (.ListComp elt gens scope pos) depth it' acc env) R s') (notedBy (model prog w) A env λx s'=>R (.error x) s') s) :
  codeAny (model prog w) A (.compStart (.ListComp elt gens scope pos) depth it acc env) R s:=by
 refine codeAny_of_tree ?_;show wpAny _ _ ((compStart (.ListComp elt gens scope pos) depth it acc env).onRaise (λx=>do noteFrame x env;standAt theWindowsPlace)) _ _ s;refine wpAny_notedAt ?_;unfold compStart;have e1:(clausesOf (.ListComp elt gens scope pos))[depth]?=some g:=hg;rw[e1];rw[if_neg (by show¬((g.is_async != 0)=true);rw[ha];decide)];refine wpAny_bind (wpAny_askSetting (wpAny_ite ?_));split
 ·first
   |exact wpAny_bind (wpAny_pure (wpAny_pure (And.intro rfl h0)))
   |exact wpAny_pure (And.intro rfl h0)
 ·refine wpAny_bind (wpAny_rule ?_);exact wpAny_bind (wpAny_standAt (wpAny_bind (wpAny_mono h (λit' s' h'=>wpAny_pure (And.intro rfl h')) λ_ _ x=>x)))
theorem Hb:∀(ifs:List Expr),(forIn ifs false λc r=>if r=true then do let ok<-isTrue c env (eval c env);pure (ForInStep.yield ok) else(pure (ForInStep.yield r):Sem _))=pure false
 |[]=>rfl
 |c::r=>by rw[List.forIn_cons];simp only[Bool.false_eq_true,if_false];exact Hb r
end
section
theorem IV:∀{ifs:List Expr}(_:∀e∈ifs,C9 Γ A c ce fr e),S0 Γ A ce fr Wx (Oh ifs ce) (GH ifs c fr)
 |[],_=>λκ ex σ h tk Q E ar o=>wpAny_pure (An o .refl ar rfl)
 |t::r,hs=>λκ ex σ h tk Q E ar o=>by
  have o:Bq Γ ce fr κ ex Wx (Aa (tst t c fr (ev t c fr)) (λq=>if q=true then GH r c fr else ret false) σ) Q E:=o;show wpAny Γ.M A (forIn (t::r) true _) Q E _;rw[List.forIn_cons];simp only[if_true];refine wpAny_bind (wpAny_bind ((hs t (.head _)).use ar (AA o λq σ₁ _ κ₁ h₁ tk₁ b q₁ ar₁ rb o₁=>wpAny_pure ?_)));have rb:q=b:=rb;subst rb;cases q with
  |true=>exact(IV (ifs:=r) λe he=>hs e (.tail _ he)).use ar₁ o₁
  |false=>dsimp only;rw[Hb];exact wpAny_pure (An o₁ .refl ar₁ rfl)
set_option tactic.hygienic true in
theorem Kq(ar:AR Γ κ ce ((I,oI)::ex) fr σ h)(it:Fe Γ κ o σ₀ oI i)(q:Q (.ref I) (Γ.at h tk)):wpAny Γ.M A (pyIter (.ref I)) Q E (Γ.at h tk):=by
 have hIh:h.get? I=some oI:=by obtain⟨g,m,led,cel,im,d,nm⟩:=id ar;exact(d.N (I,oI) (by simp)).1
 cases o<;>first|exact it.elim|skip
 ·obtain⟨t,h1,h2⟩:=it;exact KBw.pyIter_self (s:=Γ.at h tk) ⟨oI,hIh,h1,h2⟩ q
 ·have it:oI=_:=it;rw[it]at hIh;exact wpAny_pyIter_rangeiter (s:=Γ.at h tk) hIh q
 ·obtain⟨ax,arr,ep,p,rs,h1,h2⟩:=it;exact wpAny_pyIter_tupleiter (s:=Γ.at h tk) ⟨oI,hIh,h1,h2⟩ q
 ·obtain⟨ax,arr,ep,p,rs,h1,h2⟩:=it;exact wpAny_pyIter_listiter (s:=Γ.at h tk) ⟨oI,hIh,h1,h2⟩ q
 ·rename_i j;obtain⟨d,hd,it⟩:=it;cases e0:σ₀[j]? with
  |none=>rw[e0]at it;exact it.elim
  |some ao=>
   rw[e0]at it;cases ao with
   |inst=>exact it.elim
   |dict es n=>exact wpAny_pyIter_keyiter (s:=Γ.at h tk) ⟨oI,hIh,it.1,it.2⟩ q
   |list l=>exact wpAny_pyIter_listiter (s:=Γ.at h tk) ⟨oI,hIh,it.1,it.2⟩ q
noncomputable def FR(Γ:BG)(κ:Wd)(acc:List V)(oD:Obj):Prop:=∃ys n,oD=PySem.W.listOf ys.toArray n/\Bo Γ.base κ acc ys
noncomputable def DZ(Γ:BG)(ce:Env)(its:List (Addr×Obj))(D C:Addr)(ex0:List (Addr×Obj))(fr:Fm)(κ:Wd)(acc:List V)(r:C6 (List V))(Q:Shared->Prop):Prop:=match r with
 |.ok ys σ'=>∀κ' h tk oD oC,κ.Le κ'->AR Γ κ' ce (its++(D,oD)::(C,oC)::ex0) fr σ' h->FR Γ κ' (acc++ys) oD->Q (Γ.at h tk)
 |_=>False
theorem DZ.le(q:κ.Le κ')(o:DZ Γ ce its D C ex0 fr κ acc r Q):DZ Γ ce its D C ex0 fr κ' acc r Q:=by
 cases r with
 |ok ys σ=>exact λκ₂ h tk oD oC q'=>o κ₂ h tk oD oC (q.trans q')
 |exc=>exact o
 |stuck=>exact o
theorem O7(o:DZ Γ ce its D C ex0 fr κ acc (Aa f k σ) Q)
  (go:∀a σ',f σ=.ok a σ'->∀κ' h' tk' b,κ.Le κ'->AR Γ κ' ce ex fr' σ' h'->R κ' a b->DZ Γ ce its D C ex0 fr κ' acc (k a σ') Q->P₁ b (Γ.at h' tk')):Bq Γ ce fr' κ ex R (f σ) P₁ E:=by
 cases e:f σ with
 |ok a σ'=>rw[Ae e]at o;exact λκ' h' tk' b q ar r=>go a σ' e κ' h' tk' b q ar r (o.le q)
 |exc x σ'=>rw[AQ e]at o;exact o.elim
 |stuck=>rw[Ao e]at o;exact o.elim
theorem RF(o:DZ Γ ce its D C ex0 fr κ acc (Aa f (λy=>ret (x++y)) σ) Q):DZ Γ ce its D C ex0 fr κ (acc++x) (f σ) Q:=by
 cases e:f σ with
 |ok y σ'=>rw[Ae e]at o;intro κ' h tk oD oC q ar ac;rw[List.append_assoc]at ac;exact o κ' h tk oD oC q ar ac
 |exc x σ'=>rw[AQ e]at o;exact o.elim
 |stuck=>rw[Ao e]at o;exact o.elim
theorem FR.le(q:κ.Le κ')(a:FR Γ κ acc oD):FR Γ κ' acc oD:=let⟨ys,n,e,r⟩:=a;⟨ys,n,e,r.le q⟩
theorem M0(hx:(fr x).isSome=false):∀z u,fr z=some u->Ac fr x v z=some u:=λz u e=>by unfold Ac;rw[if_neg (λq=>by rw[q]at e;rw[e]at hx;cases hx)];exact e
end
section
structure MM(ce:Env)(g:Comprehension):Prop where
 name:∃x px,g.target=.Name x px/\ce.kindOf x=some .local
 sync:g.is_async=0
 folded:BL g.iter=true
theorem VE{g:Comprehension}{x:Str}{px:Pos}(e:g.target=.Name x px):Ei g.target=some x:=by rw[e];rfl
noncomputable abbrev Bb(g:Comprehension)(gs:List Comprehension)(c:Cx)(fr:Fm)(x:Str)(c0:Cx)(fr0:Fm)(k:Fm->Mo (List V)):V->Mo (List V):=λv=>Aa (GH g.ifs c (Ac fr x v)) λq=>if q=true then gen gs false c (Ac fr x v) c0 fr0 k else ret []
theorem IK:gen (g::gs) first c fr c0 fr0 k=(match Ei g.target with
  |none=>AB
  |some x=>if(fr x).isSome=true then AB else Aa (if first=true then ev g.iter c0 fr0 else ev g.iter c fr) λsrc=>Bt src (Bb g gs c fr x c0 fr0 k)):=by
 cases g;rfl
noncomputable def E1(Γ:BG)(A:Around)(elt:Expr)(gens:List Comprehension)(scope:Scope)(pos:Pos)(depth:Nat)(ce:Env)(D:Addr)(E:Value->Shared->Prop)(Qn:Shared->Prop)(s:Shared):Prop:=match gens[depth+1]? with
 |some g'=>wpAny Γ.M A (eval g'.iter ce) (λx s₄=>wpAny Γ.M A (pyIter x) (λit' s₅=>codeAny Γ.M A (.compStart (.ListComp elt gens scope pos) (depth+1) it' (.ref D) ce) (λr s₆=>match r with
   |.ok _=>Qn s₆
   |.error x=>cameBackBy Γ.M A ce E x s₆) s₅) E s₄) E s
 |none=>wpAny Γ.M A (eval elt ce) (λx s₄=>wpAny Γ.M A (call (.builtin "list.append") [.ref D,x]) (λ_ s₅=>Qn s₅) E s₄) E s
section
variable{K:Fm->Mo (List V)}
inductive Oi(Γ:BG)(ce:Env)(its:List (Addr×Obj))(D C I:Addr)(ex0:List (Addr×Obj))(fr:Fm)(src:V)(σ₀:St)(vs acc:List V)(f:V->Mo (List V))(Q:Shared->Prop)(k:Nat)(s':Shared):Prop
 |mk (i:Nat) (h':Heap) (tk':Nat) (oI oD oC:Obj) (κ':Wd) (σ':St) (acc':List V) (es:s'=Γ.at h' tk') (ar:AR Γ κ' ce ((I,oI)::its++(D,oD)::(C,oC)::ex0) fr σ' h') (it:Fe Γ κ' src σ₀ oI i) (hs:stays src σ₀ σ'=true) (ac:FR Γ κ' acc' oD) (hi:i<=vs.length) (hk:k=vs.length+1-i)
   (hl:acc'.length<=acc.length+256*i) (o:DZ Γ ce its D C ex0 fr κ' acc' (Cg src σ₀ f (vs.drop i) σ') Q):Oi Γ ce its D C I ex0 fr src σ₀ vs acc f Q k s'
theorem ML(hce:ce=compEnvC scope cl a env)(hk:scope.kind=.function)(hx:ce.kindOf x=some .local)(na:a≠Γ.env.locals)
  (ar:AR Γ κ ce (pre++(a,oC)::post) fr σ h) (r:RV Γ.base κ v y)
  (k:∀h' tk' oC',AR Γ κ ce (pre++(a,oC')::post) (Ac fr x v) σ h'->Q () (Γ.at h' tk')):wpAny Γ.M A (assign (.Name x pos) ce y) Q E (Γ.at h tk):=by
 subst hce;exact Sh hk hx na ar r k
theorem Qt{ce:Env}(hce:ce=compEnvC scope cl C env)(hk:scope.kind=.function)(hC:C≠Γ.env.locals){g:Comprehension}{gs:List Comprehension}{depth:Nat}(hif:∀fr,∀e∈g.ifs,C9 Γ A c ce fr e)
  (inner:∀κ σ h tk fr its acc oD oC Qn E,acc.length+1048576*gs.length<=sizeLine->(∀p∈its,p.1≠C)->AR Γ κ ce (its++(D,oD)::(C,oC)::ex0) fr σ h->FR Γ κ acc oD->DZ Γ ce its D C ex0 fr κ acc (gen gs false c fr c0 fr0 K σ) Qn->
   E1 Γ A elt gens scope pos depth ce D E Qn (Γ.at h tk))
  {y:Str}{py:Pos}(ety:g.target=.Name y py) (hyk:ce.kindOf y=some .local) {its:List (Addr×Obj)}{κ:Wd}{σ:St}{h:Heap}{tk:Nat}{fr:Fm}{I:Addr}{oI:Obj}{src:V}{σ₀:St}{vs acc:List V}{v:V}{vr:List V}{i:Nat}{oD oC:Obj}{EE:Value->Shared->Prop}{Rq Rn Nx:Shared->Prop}
  (hf:(fr y).isSome=false) (hIl:I≠ce.locals) (hI:I≠C) (hits:∀p∈its,p.1≠C) (hb:acc.length+1048576*gs.length<=sizeLine) (ar:AR Γ κ ce ((I,oI)::(its++(D,oD)::(C,oC)::ex0)) fr σ h)
  (it:Fe Γ κ src σ₀ oI i) (hv:A5 src σ₀=.ok vs σ₀) (hvi:vs[i]?=some v) (hst:stays src σ₀ σ=true) (ac:FR Γ κ acc oD)
  (o:DZ Γ ce its D C ex0 fr κ acc (Aa (Bb g gs c fr y c0 fr0 K v) (λx=>Aa (λσ=>if(stays src σ₀ σ&&decide (x.length<=256))=true then .ok () σ else .stuck) λ_=>Aa (Cg src σ₀ (Bb g gs c fr y c0 fr0 K) vr) λz=>ret (x++z)) σ) Rq)
  (hN:∀(xs:List V) oJ h₄ tk₄ oD₄ oC₄ κ₄ σ₄,xs.length<=256->AR Γ κ₄ ce ((I,oJ)::its++(D,oD₄)::(C,oC₄)::ex0) fr σ₄ h₄->Fe Γ κ₄ src σ₀ oJ (i+1)->stays src σ₀ σ₄=true->FR Γ κ₄ (acc++xs) oD₄->DZ Γ ce its D C ex0 fr κ₄ (acc++xs) (Cg src σ₀ (Bb g gs c fr y c0 fr0 K) vr σ₄) Rq->Nx (Γ.at h₄ tk₄)) :
  wpAny Γ.M A (pyNext (.ref I)) (λr s₁=>match r with
   |none=>Rn s₁
   |some v=>wpAny Γ.M A (assign g.target ce v) (λ_ s₂=>wpAny Γ.M A (Oh g.ifs ce) (λok s₃=>if ok=true then E1 Γ A elt gens scope pos depth ce D EE Nx s₃ else Nx s₃) EE s₂) EE s₁) EE (Γ.at h tk):=by
 refine Hp ar hIl hv hst it hvi λh₂ tk₂ oJ v₂ ar₂ it₂ ry _=>?_;dsimp only;rw[ety];refine ML (pre:=(I,oJ)::its++[(D,oD)]) (post:=ex0) (oC:=oC) hce hk hyk hC (by simpa using ar₂) ry λh₃ tk₃ oC₃ ar₃=>?_;have again:∀(xs:List V) κ₄ σ₄ h₄ tk₄ oD₄ oC₄,κ.Le κ₄->AR Γ κ₄ ce ((I,oJ)::(its++(D,oD₄)::(C,oC₄)::ex0)) (Ac fr y v) σ₄ h₄->FR Γ κ₄ (acc++xs) oD₄->
   DZ Γ ce its D C ex0 fr κ acc (Aa (λσ=>if(stays src σ₀ σ&&decide (xs.length<=256))=true then .ok () σ else .stuck) (λ_=>Aa (Cg src σ₀ (Bb g gs c fr y c0 fr0 K) vr) λz=>ret (xs++z)) σ₄) Rq->Nx (Γ.at h₄ tk₄):=by
  intro xs κ₄ σ₄ h₄ tk₄ oD₄ oC₄ q₄ ar₄ ac₄ o₄;by_cases hs₄:(stays src σ₀ σ₄&&decide (xs.length<=256))=true;·rw[Ae (a:=()) (σ':=σ₄) (if_pos hs₄)]at o₄;refine D3 hs₄ λhs hx=>?_;exact hN xs _ _ _ _ _ _ _ (of_decide_eq_true hx) (ar₄.weak (M0 hf)) (it₂.le q₄) hs ac₄ (RF (o₄.le q₄))
  ·rw[Ao (if_neg hs₄)]at o₄;exact o₄.elim
 clear hN;have ar₃:AR Γ κ ce ((I,oJ)::(its++(D,oD)::(C,oC₃)::ex0)) (Ac fr y v) σ h₃:=by simpa using ar₃
 refine(IV (hif (Ac fr y v))).use ar₃ ?_;cases et:GH g.ifs c (Ac fr y v) σ with
 |stuck=>rw[Ao (Ao et)]at o;exact o.elim
 |exc e σ₁=>rw[AQ (AQ et)]at o;exact o.elim
 |ok q σ₁=>
  have ec:Bb g gs c fr y c0 fr0 K v σ=(if q=true then gen gs false c (Ac fr y v) c0 fr0 K else ret []) σ₁:=Ae et;intro κ₄ h₄ tk₄ b q₄ ar₄ rb;have rb:q=b:=rb;subst rb;cases q with
  |false=>rw[Ae (a:=[]) (σ':=σ₁) ec]at o;exact again [] κ₄ σ₁ h₄ tk₄ oD oC₃ q₄ ar₄ (by rw[List.append_nil];exact ac.le q₄) o
  |true=>
   replace ec:Bb g gs c fr y c0 fr0 K v σ=gen gs false c (Ac fr y v) c0 fr0 K σ₁:=ec;rw[if_pos rfl];refine inner κ₄ σ₁ h₄ tk₄ (Ac fr y v) ((I,oJ)::its) acc oD oC₃ Nx EE hb (λp hp=>(List.mem_cons.mp hp).elim (λe=>by rw[e];exact hI) (hits p)) ar₄ (ac.le q₄) ?_;cases eg:gen gs false c (Ac fr y v) c0 fr0 K σ₁ with
   |stuck=>rw[Ao (ec.trans eg)]at o;exact o.elim
   |exc e σ₂=>rw[AQ (ec.trans eg)]at o;exact o.elim
   |ok xs σ₂=>rw[Ae (ec.trans eg)]at o;exact λκ₅ h₅ tk₅ oD₅ oC₅ q₅ ar₅ ac₅=>again xs κ₅ σ₂ h₅ tk₅ oD₅ oC₅ (q₄.trans q₅) ar₅ ac₅ o
theorem lK{i:Nat}{acc acc' xs:List V}(hb:acc'.length<=acc.length+256*i)(hx:xs.length<=256):(acc'++xs).length<=acc.length+256*(i+1):=by rw[List.length_append,Nat.mul_succ,<-Nat.add_assoc];exact Nat.add_le_add hb hx
theorem bU(hb:y<=x+256*i)(hi:i<=n)(hl:n<=4096)(h:x+1048576*(z+1)<=sizeLine):y+1048576*z<=sizeLine:=by rw[Nat.mul_succ,Nat.add_comm (1048576*z),<-Nat.add_assoc]at h;exact Nat.le_trans (Nat.add_le_add_right (Nat.le_trans hb (Nat.add_le_add_left (Nat.mul_le_mul_left 256 (Nat.le_trans hi hl)) x)) _) h
theorem JZ(hh:A.handled=none)(hk:scope.kind=.function)(hC:C≠Γ.env.locals){g:Comprehension}{gs:List Comprehension}{depth:Nat}(hg:gens[depth]?=some g)(ht:∀g∈gens,MM (compEnvC scope cl C env) g)
  (hif:∀fr,∀e∈g.ifs,C9 Γ A c (compEnvC scope cl C env) fr e)
  (inner:∀κ σ h tk fr its acc oD oC Qn E,acc.length+1048576*gs.length<=sizeLine->(∀p∈its,p.1≠C)->AR Γ κ (compEnvC scope cl C env) (its++(D,oD)::(C,oC)::ex0) fr σ h->FR Γ κ acc oD->DZ Γ (compEnvC scope cl C env) its D C ex0 fr κ acc (gen gs false c fr c0 fr0 K σ) Qn->
   E1 Γ A elt gens scope pos depth (compEnvC scope cl C env) D E Qn (Γ.at h tk))
  {x:Str}{its:List (Addr×Obj)}{κ:Wd}{σ:St}{h:Heap}{tk:Nat}{fr:Fm}{I:Addr}{oI:Obj}{src:V}{σ₀:St}{vs acc:List V}{oD oC:Obj}{R:Result->Shared->Prop}
  (hx:Ei g.target=some x) (hf:(fr x).isSome=false) (hI:I≠C) (hits:∀p∈its,p.1≠C) (hl:vs.length<=4096) (hb:acc.length+1048576*(gs.length+1)<=sizeLine) (ar:AR Γ κ (compEnvC scope cl C env) ((I,oI)::its++(D,oD)::(C,oC)::ex0) fr σ h)
  (it:Fe Γ κ src σ₀ oI 0) (hv:A5 src σ₀=.ok vs σ₀) (hst:stays src σ₀ σ=true) (ac:FR Γ κ acc oD)
  (o:DZ Γ (compEnvC scope cl C env) its D C ex0 fr κ acc (Cg src σ₀ (Bb g gs c fr x c0 fr0 K) vs σ) (R (.ok .next))) :
  codeAny Γ.M A (.compLoop (.ListComp elt gens scope pos) depth (.ref I) (.ref D) (compEnvC scope cl C env)) R (Γ.at h tk):=by
 obtain⟨⟨y,py,ety,hyk⟩,ha,hfold⟩:=ht g (List.mem_of_getElem? hg);obtain rfl:y=x:=by rw[VE ety]at hx;exact Option.some.inj hx
 refine Oc hg ha (λg' e=>⟨(ht g' (List.mem_of_getElem? e)).sync,CG (ht g' (List.mem_of_getElem? e)).folded⟩) (by rw[ety];exact λ_=>rfl)
  (Oi Γ (compEnvC scope cl C env) its D C I ex0 fr src σ₀ vs acc (Bb g gs c fr y c0 fr0 K) (R (.ok .next))) ?_ (vs.length+1)
  ⟨0,h,tk,oI,oD,oC,κ,σ,acc,rfl,ar,it,hst,ac,Nat.zero_le _,rfl,Nat.le_refl _,by rw[List.drop_zero];exact o⟩
 rintro k s' ⟨i,h',tk',oI',oD',oC',κ',σ',acc',rfl,ar',it',hst',ac',hi,rfl,hb',o'⟩
 by_cases hlt:i<vs.length;·have ed:vs.drop i=vs[i]::vs.drop (i+1):=List.drop_eq_getElem_cons hlt;rw[ed]at o';exact Qt (Nx:=λs=>∃m,m<vs.length+1-i/\Oi Γ (compEnvC scope cl C env) its D C I ex0 fr src σ₀ vs acc (Bb g gs c fr y c0 fr0 K) (R (.ok .next)) m s) rfl hk hC hif inner ety hyk hf hI hI hits (bU hb' hi hl hb) ar' it' hv (List.getElem?_eq_getElem hlt) hst' ac' o' λxs oJ h₄ tk₄ oD₄ oC₄ κ₄ σ₄ hx ar₄ it₄ hs₄ ac₄ o₄=>⟨vs.length+1-(i+1),Nat.sub_lt_sub_left (Nat.lt_succ_of_lt hlt) (Nat.lt_succ_self i),i+1,h₄,tk₄,oJ,oD₄,oC₄,κ₄,σ₄,acc'++xs,rfl,ar₄,it₄,hs₄,ac₄,hlt,rfl,lK hb' hx,o₄⟩
 ·obtain rfl:=Nat.le_antisymm hi (Nat.le_of_not_lt hlt);refine K6 hh ar' hI hv hst' it' λh₂ tk₂ ar₂=>?_;rw[List.drop_length]at o';exact o' κ' h₂ tk₂ oD' oC' .refl ar₂ (by rw[List.append_nil];exact ac')
end
end
section
noncomputable abbrev Je(elt:Expr)(c:Cx):Fm->Mo (List V):=λfr'=>Aa (ev elt c fr') λy=>ret [y]
theorem Q2(x:DZ Γ ce its D C ex0 fr κ acc (Bt o f σ) Q):
  ∃vs,A5 o σ=.ok vs σ/\vs.length<=4096/\DZ Γ ce its D C ex0 fr κ acc (Cg o σ f vs σ) Q:=by
 unfold Bt at x;rcases Gi (o:=o) (σ:=σ) rfl with ⟨vs,ev⟩|ev
 ·rw[Ae ev]at x;by_cases hl:vs.length<=4096;·rw[if_pos hl]at x;exact⟨vs,ev,hl,x⟩
  ·rw[if_neg hl]at x;exact x.elim
 ·rw[Ao ev]at x;exact x.elim
theorem jH(hC:C≠Γ.env.locals)(hDC:D≠C)(hn:gens[depth+1]?=none)(helt:∀fr,Bd Γ A c (compEnvC scope cl C env) fr elt)
  (hb:acc.length<=sizeLine) (ar:AR Γ κ (compEnvC scope cl C env) (its++(D,oD)::(C,oC)::ex0) fr σ h) (ac:FR Γ κ acc oD) (o:DZ Γ (compEnvC scope cl C env) its D C ex0 fr κ acc (Je elt c fr σ) Qn) :
  E1 Γ A elt gens scope pos depth (compEnvC scope cl C env) D E Qn (Γ.at h tk):=by
 unfold E1;rw[hn];dsimp only;refine(helt fr).use ar (O7 o λy σ₁ _ κ₁ h₁ tk₁ z q₁ ar₁ rz o₁=>?_);obtain⟨ys,n,rfl,rs⟩:=ac.le q₁;have hD:h₁.PlainList D ys.toArray:=by obtain⟨g,m,led,cel,im,d,nm⟩:=id ar₁;exact⟨n,(d.N (D,PySem.W.listOf ys.toArray n) (by simp)).1⟩
 refine wpAny_list_append_plain (s:=Γ.at h₁ tk₁) hD (λh₂ hl₂ hs₂=>?_) (by rw[List.size_toArray,<-rs.length];exact hb);obtain⟨n',hd'⟩:=hl₂;refine o₁ κ₁ h₂ tk₁ _ oC .refl (ar₁.chgEx hDC hs₂ hd') ⟨ys++[z],n',by simp[PySem.W.listOf],rs.append (.cons rz .nil)⟩
theorem Gf{α:Type}{l:List α}{n:Nat}{a:α}{r:List α}(e:l.drop n=a::r):l[n]?=some a/\l.drop (n+1)=r:=by
 have h1:(l.drop n)[0]?=some a:=by rw[e];rfl
 rw[List.getElem?_drop]at h1;refine⟨by simpa using h1,?_⟩;rw[<-List.drop_drop,e];rfl
theorem pJ(ok:Γ.Ok)(hh:A.handled=none)(hk:scope.kind=.function)(hDC:D≠C)(hC:C≠Γ.env.locals)(ht:∀g∈gens,MM (compEnvC scope cl C env) g)
  (hit:∀g∈gens,∀fr,Bd Γ A c (compEnvC scope cl C env) fr g.iter) (hif:∀g∈gens,∀fr,∀e∈g.ifs,C9 Γ A c (compEnvC scope cl C env) fr e) (helt:∀fr,Bd Γ A c (compEnvC scope cl C env) fr elt) :
  ∀(gs:List Comprehension) (g:Comprehension) (depth:Nat),gens.drop depth=g::gs->
  ∀{x:Str}{its:List (Addr×Obj)}{κ:Wd}{σ:St}{h:Heap}{tk:Nat}{fr:Fm}{I:Addr}{oI:Obj}{src:V}{σ₀:St}{vs acc:List V}{oD oC:Obj}{R:Result->Shared->Prop},
   Ei g.target=some x->(fr x).isSome=false->I≠C->(∀p∈its,p.1≠C)->vs.length<=4096->acc.length+1048576*(gs.length+1)<=sizeLine->
   AR Γ κ (compEnvC scope cl C env) ((I,oI)::its++(D,oD)::(C,oC)::ex0) fr σ h->Fe Γ κ src σ₀ oI 0->A5 src σ₀=.ok vs σ₀->stays src σ₀ σ=true->FR Γ κ acc oD->
   DZ Γ (compEnvC scope cl C env) its D C ex0 fr κ acc (Cg src σ₀ (Bb g gs c fr x c0 fr0 (Je elt c)) vs σ) (R (.ok .next))->
   codeAny Γ.M A (.compLoop (.ListComp elt gens scope pos) depth (.ref I) (.ref D) (compEnvC scope cl C env)) R (Γ.at h tk):=by
 intro gs;induction gs with
 |nil=>
  intro g depth hd x its κ σ h tk fr I oI src σ₀ vs acc oD oC R hx hf hI hits hl hb ar it hv hst ac o;refine AG (Gf hd) λhg hr=>?_;have hn:gens[depth+1]?=none:=by
   have:(gens.drop (depth+1))[0]?=none:=by rw[hr];rfl
   rw[List.getElem?_drop]at this
   simpa using this
  refine JZ hh hk hC hg ht (hif g (List.mem_of_getElem? hg)) (λκ σ h tk fr its acc oD oC Qn E hb hits ar ac o=>?_) hx hf hI hits hl hb ar it hv hst ac o;exact jH hC hDC hn helt (by simpa using hb) ar ac o
 |cons g' gs ih=>
  intro g depth hd x its κ σ h tk fr I oI src σ₀ vs acc oD oC R hx hf hI hits hl hb ar it hv hst ac o;refine AG (Gf hd) λhg hr=>?_;refine AG (Gf hr) λhg' _=>?_;have hm':=List.mem_of_getElem? hg';refine JZ hh hk hC hg ht (hif g (List.mem_of_getElem? hg)) (λκ σ h tk fr its acc oD oC Qn E hb hits ar ac o=>?_) hx hf hI hits hl hb ar it hv hst ac o;unfold E1;rw[hg'];dsimp only;rw[IK]at o;cases et:Ei g'.target with
  |none=>rw[et]at o;exact o.elim
  |some x'=>
   rw[et]at o;dsimp only at o;by_cases hf':(fr x').isSome=true;·rw[if_pos hf']at o;exact o.elim
   ·rw[if_neg hf']at o;have hf':(fr x').isSome=false:=by simpa using hf'
    replace o:DZ Γ (compEnvC scope cl C env) its D C ex0 fr κ acc (Aa (ev g'.iter c fr) (λsrc=>Bt src (Bb g' gs c fr x' c0 fr0 (Je elt c))) σ) Qn:=o;refine(hit g' hm' fr).use ar (O7 o λsrc' σ₁ _ κ₁ h₁ tk₁ y q₁ ar₁ ry o₁=>?_);refine D9 (Q2 o₁) λvs' hv' hl' o₂=>?_;refine Ga ok ar₁ ry hv' hl' λh₂ I' oI' hI' ar₂ it₂=>?_;have go:∀{R':Result->Shared->Prop},(R'=λr s₆=>match r with|.ok _=>Qn s₆|.error x=>cameBackBy Γ.M A (compEnvC scope cl C env) E x s₆)->codeAny Γ.M A (.compLoop (.ListComp elt gens scope pos) (depth+1) (.ref I') (.ref D) (compEnvC scope cl C env)) R' (Γ.at h₂ tk₁):=by
     rintro _ rfl
     exact ih g' (depth+1) hr et hf' hI' hits hl' (by simp only[List.length_cons]at hb;omega) ar₂ it₂ hv' (D0 hv') (ac.le q₁) o₂
    exact G8 hg' (ht g' hm').sync (go rfl) (Kq ar₂ it₂ (go rfl))
end
section
theorem AR.perm(ar:AR Γ κ ce ex fr σ h)(P:ex.Perm ex'):AR Γ κ ce ex' fr σ h:=by obtain⟨g,m,led,cel,im,d,nm⟩:=ar;have PP:(led++cel++ex++im).Perm (led++cel++ex'++im):=(P.append_left _).append_right _;refine⟨g,m,led,cel,im,⟨d.F,λq hq=>d.N q (PP.mem_iff.mpr hq),d.B,d.G,d.L,d.I,d.J,((PP.map _).nodup_iff).mp d.D,d.T⟩,?_⟩;exact nm.sub λ_ x=>P.mem_iff.mp x
theorem AR.freeze(ar:AR Γ κ ce ((a,o)::ex) fr σ h)(na:a≠ce.locals):AR Γ (κ.put a o) ce ex fr σ h:=by
 obtain⟨g,m,led,cel,im,d,nm⟩:=ar;have PP:(led++cel++(a,o)::ex++im).Perm (led++cel++ex++(a,o)::im):=by rw[List.append_assoc (led++cel),List.append_assoc (led++cel)];exact List.Perm.append_left _ (by rw[List.cons_append];exact List.perm_middle.symm)
 refine⟨g,m,led,cel,(a,o)::im,⟨d.F,λq hq=>d.N q (PP.mem_iff.mpr hq),d.B,d.G,d.L.le Wd.put_le,λq hq=>?_,d.J,((PP.map _).nodup_iff).mp d.D,d.T⟩,?_⟩
 ·rcases List.mem_cons.mp hq with rfl|hq;·exact .inl (.head _)
  ·exact(d.I q hq).imp (λz=>.tail _ z) id
 ·exact(nm.le Wd.put_le).sub λ_ x=>DW na x
end
set_option backward.match.sparseCases false
section
section
variable{c:Cx}{scope:Scope}
noncomputable def BG.inC(Γ:BG)(fr:Fm):BG:={Γ with keep:=some fr}
theorem EC(C₀:Ef Γ A c Γ.env)(hk:scope.kind=.function)(cl:List (Str×Addr))(C:Addr)(fr:Fm):Ef (Γ.inC fr) A (C5 c scope) (compEnvC scope cl C Γ.env) where
 ok:=⟨C₀.ok.frame,C₀.ok.kind,C₀.ok.X,C₀.ok.gl,C₀.ok.bl,C₀.ok.nolimit,C₀.ok.genv,C₀.ok.benv,C₀.ok.st,C₀.ok.R,C₀.ok.hash,C₀.ok.sysm,C₀.ok.cinj⟩
 kind:=Eu C₀.kind C₀.ok.kind
 glb:=C₀.glb
 env:=⟨hk,C₀.ok.genv,C₀.ok.benv⟩
 comp:=λe=>nomatch e
 nk:=.inr rfl
 around:=⟨C₀.around.frames,C₀.around.handled,C₀.around.depth,C₀.around.units⟩
 units:=C₀.units
 meth:=C₀.meth
 own:=C₀.own
 exn:=C₀.exn
 gkeep:=C₀.gkeep
 tab:=C₀.tab
 call:=λhp kp ce' fr' f vs xs κ ex σ h tk Q E ek=>C₀.call hp kp ce' fr' f vs xs κ ex σ h tk Q E ⟨ek.kind,ek.gl,ek.bl⟩
theorem VM(e:XW o=true):o=some .local:=by
 cases o with
 |none=>exact DA e
 |some k=>cases k<;>first|rfl|exact DA e
theorem Xv{k:ScopeKind}:(match k with|.function=>true|_=>false)=true->k=.function:=by intro h;cases k<;>first|rfl|exact DA h
theorem aG{g:Comprehension}:(BL g.iter&&g.is_async==0&&(match Ei g.target with|some x=>XW (scope.names.lookup x)|none=>false))=true->BL g.iter=true/\g.is_async=0/\∃x,Ei g.target=some x/\scope.names.lookup x=some .local:=by
 intro h;refine D3 h λh d=>?_;refine D3 h λa b=>?_;refine⟨a,eq_of_beq b,?_⟩;cases e:Ei g.target with
 |none=>rw[e]at d;exact DA d
 |some x=>rw[e]at d;exact⟨x,rfl,VM d⟩
theorem Ce(hc:CF c scope gens=true):c.plain=true/\c.comp=false/\scope.kind=.function/\(∀p∈scope.names,p.2≠.cell)/\(∀p∈scope.names,p.2=.free->c.kind p.1=some .cell)/\(∀p∈scope.names,p.2=.local->scope.names.lookup p.1=some .local)/\(0<gens.length/\gens.length<=8)/\
  ∀g∈gens,BL g.iter=true/\g.is_async=0/\∃x,Ei g.target=some x/\scope.names.lookup x=some .local:=by
 refine D3 hc λhc h6=>?_;refine D3 hc λhc h5=>?_;refine D3 hc λhc h4=>?_;refine D3 hc λhc h3=>?_;refine D3 hc λh1 h2=>?_;have h4:=List.all_eq_true.mp h4;refine⟨h1,(Bool.not_eq_true' _).mp h2,Xv h3,λp hp e=>?_,λp hp e=>?_,λp hp e=>?_,of_decide_eq_true h5,λg hg=>aG (List.all_eq_true.mp h6 g hg)⟩;·have:=h4 p hp;rw[e]at this;exact DA this
 ·have:=h4 p hp;rw[e]at this;exact eq_of_beq this
 ·have:=h4 p hp;rw[e]at this;exact VM this
theorem IA(e:Bh scope fr x=some v):scope.names.lookup x=some .free/\fr x=some v:=by
 delta Bh at e;cases el:scope.names.lookup x with
 |none=>rw[el]at e;exact Dm e
 |some k=>rw[el]at e;cases k<;>first|exact Dm e|exact⟨rfl,e⟩
theorem Fl(el:scope.names.lookup x=some .free):CN scope k x=if k x=some .cell then some .cell else some .free:=by delta CN;rw[el]
theorem Js(e:CN scope k x=some .cell):scope.names.lookup x=some .cell\/(scope.names.lookup x=some .free/\k x=some .cell):=by
 cases el:scope.names.lookup x with
 |none=>delta CN at e;rw[el]at e;exact Dm e
 |some kd=>
  by_cases hf:kd=.free
  ·subst hf;rw[Fl el]at e;by_cases hk:k x=some .cell;·exact .inr ⟨rfl,hk⟩
   ·rw[if_neg hk]at e;cases e
  ·refine .inl ?_;delta CN at e;rw[el]at e;cases kd<;>first|exact e|exact absurd rfl hf
theorem YA(C₀:Ef Γ A c Γ.env)(hc:CF c scope gens=true)(hC:C≠Γ.env.locals)(hd:oC.data=.dict es ep)(hs:StrKeys es)(hn:∀n,nsFind es n=none)(hm:(C,oC)∈ex)
  (ar:AR Γ κ Γ.env ex fr σ h):AR (Γ.inC fr) κ (compEnvC scope (CQ scope Γ.env) C Γ.env) ex (Bh scope fr) σ h:=by
 obtain⟨g,m,led,cel,im,d,⟨cm,h1,h2⟩,h3,_⟩:=ar;have e1:cm=m:=by
  rcases h1 with ⟨_,e⟩|⟨oC',_,_,hm',_⟩
  ·exact e
  ·exact absurd rfl (d.N (Γ.env.locals,oC') (by simp[hm'])).2.1
 subst e1;refine⟨g,cm,led,cel,im,⟨d.F,d.N,d.B,d.G,d.L,d.I,d.J,d.D,d.T⟩,⟨λ_=>none,.inr ⟨oC,es,ep,hm,hd,hs,hn⟩,λx v e k=>?_⟩,λx k=>?_,λf e=>?_⟩
 ·rw[<-Eu (scope:=scope) C₀.kind C₀.ok.kind,Fl (IA e).1]at k;by_cases hk:c.kind x=some .cell;·rw[if_pos hk]at k;cases k
  ·rw[if_neg hk]at k;cases k
 ·rw[<-Eu (scope:=scope) C₀.kind C₀.ok.kind]at k;rcases Js k with el|⟨el,ek⟩
  ·refine absurd rfl ((Ce hc).2.2.2.1 (x,.cell) ?_);refine CX (List.lookup_eq_some_iff.mp el) λl₁ l₂ e' _=>?_;rw[e'];exact List.mem_append_right _ (.head _)
  ·rw[C₀.kind]at ek;refine HP (h3 x ek) λb ob y b1 b2 b3 b4=>?_;exact⟨b,ob,y,Zg el b1,b2,b3,λv e=>b4 v (IA e).2⟩
 ·rw[<-Option.some.inj e];exact⟨h2,h3⟩
theorem HM(ar:AR (Γ.inC fr) κ ce' ex fr' σ h)(nk:Γ.keep=none):AR Γ κ Γ.env ex fr σ h:=by obtain⟨g,m,led,cel,im,d,_,_,h4⟩:=ar;obtain⟨k1,k2⟩:=h4 fr rfl;exact⟨g,m,led,cel,im,⟨d.F,d.N,d.B,d.G,d.L,d.I,d.J,d.D,d.T⟩,⟨m,.inl ⟨rfl,rfl⟩,k1⟩,k2,λf e=>by rw[nk]at e;cases e⟩
theorem IT(kd:∀x,c.kind x=Γ.env.kindOf x)(ar:AR Γ κ Γ.env ex fr σ h)(n2:∀p∈scope.names,p.2=.free->c.kind p.1=some .cell):∀p∈scope.names,p.2=.free->∃a,Γ.env.cells.lookup p.1=some a:=λp hp e=>by obtain⟨g,m,led,cel,im,d,nm⟩:=ar;exact iK (nm.cell p.1 ((kd p.1).symm.trans (n2 p hp e))) λa o y b1 _=>⟨a,b1⟩
theorem MC(e:Bt src F σ=.ok ys σ₂):∃vs,A5 src σ=.ok vs σ/\vs.length<=4096/\Cg src σ F vs σ=.ok ys σ₂:=by
 unfold Bt at e;rcases Gi (o:=src) (σ:=σ) rfl with ⟨vs,ev⟩|ev
 ·rw[Ae ev]at e;by_cases hl:vs.length<=4096;·rw[if_pos hl]at e;exact⟨vs,ev,hl,e⟩
  ·rw[if_neg hl]at e;cases e
 ·rw[Ao ev]at e;cases e
inductive Zx(Γ:BG)(κ:Wd)(scope:Scope)(ex:List (Addr×Obj))(fr:Fm)(σ:St)(h h₃:Heap)(I:Addr)(oI oD:Obj):Prop
 |mk (D C:Addr) (oC:Obj) (eD:h.objs.size=D) (eC:(h.push oD).objs.size=C) (lC:C≠Γ.env.locals) (lD:D≠Γ.env.locals) (hDC:D≠C) (hIC:I≠C)
   (ar:AR (Γ.inC fr) κ (compEnvC scope (CQ scope Γ.env) C Γ.env) ((I,oI)::(D,oD)::(C,oC)::ex) (Bh scope fr) σ h₃):Zx Γ κ scope ex fr σ h h₃ I oI oD
theorem Mt(C₀:Ef Γ A c Γ.env)(hc:CF c scope gens=true)(fD:oD.isFreed=false)(ar:AR Γ κ Γ.env ((I,oI)::ex) fr σ h)(hns:h₃.Ns (h.push oD).objs.size (λ_=>none))
  (hsb:Heap.SameBut (h.push oD).objs.size ((h.push oD).push {cls:=.type "dict",data:=.dict #[]}) h₃):Zx Γ κ scope ex fr σ h h₃ I oI oD:=by
 have lD:=Nat.ne_of_gt ar.locals_lt;have ar₃:=ar.own oD fD;have lC:=Nat.ne_of_gt ar₃.locals_lt;have ar₄:=ar₃.own {cls:=.type "dict",data:=.dict #[]} rfl;have hDC:h.objs.size≠(h.push oD).objs.size:=by rw[Heap.size_push];exact Nat.ne_of_lt (Nat.lt_succ_self _)
 have hIC:I≠(h.push oD).objs.size:=by obtain⟨g,m,led,cel,im,d,nm⟩:=id ar₃;exact Nat.ne_of_lt (Heap.lt_size (d.N (I,oI) (by simp)).1)
 generalize eC:(h.push oD).objs.size=C at hns hsb lC hDC hIC ar₄;generalize eD:h.objs.size=D at lD hDC ar₄;obtain⟨oC,es,ep,c1,c2,c3,c4⟩:=hns;have ar₅:=(ar₄.turnOwn lC hsb c1).perm (ex':=(I,oI)::(D,oD)::(C,oC)::ex) (by refine(List.Perm.swap _ _ _).trans ?_;refine((List.Perm.swap (I,oI) (C,oC) ex).cons (D,_)).trans ?_;exact(List.Perm.swap (I,oI) (D,_) ((C,oC)::ex)));exact⟨D,C,oC,eD,eC,lC,lD,hDC,hIC,YA C₀ hc lC c2 c3 c4 (.tail _ (.tail _ (.head _))) ar₅⟩
theorem Fh(C₀:Ef Γ A c Γ.env)(hit1:Bd Γ A c Γ.env fr gi)
  (hit:∀g∈(⟨gt,gi,gf,0⟩::gs:List Comprehension),∀(C:Addr) fr',Bd (Γ.inC fr) A (C5 c scope) (compEnvC scope (CQ scope Γ.env) C Γ.env) fr' g.iter) (hif:∀g∈(⟨gt,gi,gf,0⟩::gs:List Comprehension),∀(C:Addr) fr',∀e∈g.ifs,C9 (Γ.inC fr) A (C5 c scope) (compEnvC scope (CQ scope Γ.env) C Γ.env) fr' e)
  (helt:∀(C:Addr) fr',Bd (Γ.inC fr) A (C5 c scope) (compEnvC scope (CQ scope Γ.env) C Γ.env) fr' elt) (ar:AR Γ κ Γ.env ex fr σ h)
  (hc:CF c scope (⟨gt,gi,gf,0⟩::gs)=true) (hr:gen (⟨gt,gi,gf,0⟩::gs) true (C5 c scope) (Bh scope fr) c fr (Je elt (C5 c scope)) σ=.ok ys σ₂)
  (CA:∀κ' h' tk' D C oD oC',κ.Le κ'->AR (Γ.inC fr) κ' (compEnvC scope (CQ scope Γ.env) C Γ.env) ((D,oD)::(C,oC')::ex) (Bh scope fr) σ₂ h'->FR (Γ.inC fr) κ' ys oD->D≠Γ.env.locals->C≠Γ.env.locals->D≠C->compPost Γ.M A E use Q (.ref D) C (.ok .next) (Γ.at h' tk')) :
  wpAny Γ.M A (comprehension (.ListComp elt (⟨gt,gi,gf,0⟩::gs) scope pos) scope Γ.env pos' (newList []) false (eval gi Γ.env) use) Q E (Γ.at h tk):=by
 refine X4 (Ce hc) λhp hcm hk n1 n2 n3 h8 hg=>?_;have hh:=C₀.around.handled hp;refine B0 (hg _ (.head _)) λhs ha Hx=>?_;obtain⟨x,hx,hxl⟩:=Hx;rw[IK]at hr;dsimp only at hx hs;rw[show Ei (Comprehension.mk gt gi gf 0).target=some x from hx]at hr;dsimp only at hr;have hfx:(Bh scope fr x).isSome=false:=by unfold Bh;rw[hxl];rfl
 rw[if_neg (by rw[hfx];exact Bool.false_ne_true)]at hr;simp only[if_true]at hr;replace hr:Aa (ev gi c fr) (λsrc=>Bt src (Bb ⟨gt,gi,gf,0⟩ gs (C5 c scope) (Bh scope fr) x c fr (Je elt (C5 c scope)))) σ=.ok ys σ₂:=hr;refine wpAny_comprehension_free (use:=use) (g:=⟨gt,gi,gf,0⟩) (gs:=gs) rfl (CG hs) (Ff (IT C₀.kind ar n2)) hk n3 ?_;refine hit1.use ar ?_;cases e1:ev gi c fr σ with
 |stuck=>rw[Ao e1]at hr;cases hr
 |exc e σ₁=>rw[AQ e1]at hr;cases hr
 |ok src σ₁=>
  intro κ₁ h₁ tk₁ y q₁ ar₁ ry;rw[Ae e1]at hr;refine D9 (MC hr) λvs hv hl e4=>?_;refine Ga C₀.ok ar₁ ry hv hl λh₂ I oI hI ar₂ it₂=>?_;refine wpAny_newObj_type (hd:=by size_fits) (wpAny_newFunctionEnv n1 (by intro y hy;simp at hy) (λh₃ hns hsb=>?_) hk);obtain⟨D,C,oC,eD,eC,lC,lD,hDC,hIC,ar₇⟩:=Mt (oD:=PySem.W.listOf ([]:List Value).toArray 0) C₀ hc rfl ar₂ hns hsb;clear hns hsb;replace ar₇:AR (Γ.inC fr) κ₁ (compEnvC scope (CQ scope Γ.env) C Γ.env) ((I,oI)::[]++(D,PySem.W.listOf ([]:List Value).toArray 0)::(C,oC)::ex) (Bh scope fr) σ₁ h₃:=ar₇;have ht:∀g∈(Comprehension.mk gt gi gf 0)::gs,MM (compEnvC scope (CQ scope Γ.env) C Γ.env) g:=λg hgm=>by refine B0 (hg g hgm) λa1 a2 Hx=>?_;obtain⟨x',a3,a4⟩:=Hx;refine⟨?_,a2,a1⟩;obtain⟨t,i',f,as⟩:=g;dsimp only at a3⊢;refine AP (Dr a3) λq eq=>?_;exact⟨_,_,eq,lookup_relabel_local a4⟩
  have loop:∀tk₃,codeAny Γ.M A (.compLoop (.ListComp elt (⟨gt,gi,gf,0⟩::gs) scope pos) 0 (.ref I) (.ref D) (compEnvC scope (CQ scope Γ.env) C Γ.env)) (compPost Γ.M A E use Q (.ref D) C) ((Γ.inC fr).at h₃ tk₃):=λtk₃=>by
   refine pJ (Γ:=Γ.inC fr) (c:=C5 c scope) (c0:=c) (fr0:=fr) (EC C₀ hk (CQ scope Γ.env) C fr).ok hh hk hDC lC ht (λg hg'=>hit g hg' C) (λg hg'=>hif g hg' C) (helt C) gs ⟨gt,gi,gf,0⟩ 0 rfl hx hfx hIC (λp hp=>by cases hp) hl ?_ ar₇ ?_ hv (D0 hv) ⟨[],0,rfl,.nil⟩ ?_;·simp only[List.length_nil,List.length_cons]at h8⊢;have:=sizeLine_eq;lia
   ·exact it₂
   ·rw[e4];exact λκ' h' tk' oD oC' q' ar' ac'=>CA κ' h' tk' D C oD oC' (q₁.trans q') ar' (by simpa using ac') lD lC hDC
  show codeAny Γ.M A (.compStart (.ListComp elt (⟨gt,gi,gf,0⟩::gs) scope pos) 0 (.ref I) (.ref h₂.objs.size) (compEnvC scope (CQ scope Γ.env) (h₂.push (PySem.W.listOf ([]:List Value).toArray 0)).objs.size Γ.env))
   (compPost Γ.M A E use Q (.ref h₂.objs.size) (h₂.push (PySem.W.listOf ([]:List Value).toArray 0)).objs.size) _
  rw[eC,eD];exact G8 (g:=⟨gt,gi,gf,0⟩) rfl rfl (loop _) (Kq (Γ:=Γ.inC fr) ar₇ it₂ (loop _))
theorem KD(C₀:Ef Γ A c ce)(nk:Γ.keep=none\/c.comp=true)(hit1:∀g gs,gens=g::gs->Bd Γ A c ce fr g.iter)
  (hit:∀g∈gens,∀(C:Addr) fr',Bd (Γ.inC fr) A (C5 c scope) (compEnvC scope (CQ scope ce) C ce) fr' g.iter) (hif:∀g∈gens,∀(C:Addr) fr',∀e∈g.ifs,C9 (Γ.inC fr) A (C5 c scope) (compEnvC scope (CQ scope ce) C ce) fr' e)
  (helt:∀(C:Addr) fr',Bd (Γ.inC fr) A (C5 c scope) (compEnvC scope (CQ scope ce) C ce) fr' elt):Bd Γ A c ce fr (.ListComp elt gens scope pos):=by
 intro κ ex σ h tk Q E ar ot;replace ot:Bq Γ ce fr κ ex (RV Γ.base) ((if CF c scope gens=true then Aa (Cs (gen gens true (C5 c scope) (Bh scope fr) c fr (Je elt (C5 c scope)))) (λl=>ret (.lst l)) else AB) σ) Q E:=ot;by_cases hc:CF c scope gens=true
 ·rw[if_pos hc]at ot;refine X4 (Ce hc) λhp hcm hk n1 n2 n3 h8 hg=>?_;have nk:Γ.keep=none:=nk.resolve_right (by rw[hcm];exact Bool.false_ne_true);have:=C₀.comp hcm;subst this;cases gens with
  |nil=>exact absurd h8.1 (by decide)
  |cons g gs=>
   obtain⟨gt,gi,gf,ga⟩:=g;have ha:ga=0:=(hg _ (.head _)).2.1;subst ha;cases hr:gen (⟨gt,gi,gf,0⟩::gs) true (C5 c scope) (Bh scope fr) c fr (Je elt (C5 c scope)) σ with
   |stuck=>rw[Ao (CD hr)]at ot;exact ot.elim
   |exc e σ₁=>rw[Ao (ET hr)]at ot;exact ot.elim
   |ok ys σ₂=>
    rw[Ae (Bk hr)]at ot;rw[eval_ListComp];refine Fh (pos:=pos) C₀ (hit1 _ _ rfl) hit hif helt ar hc hr λκ' h' tk' D C oD oC' q' ar' ac' lD lC hDC=>?_;obtain⟨zs,n,rfl,rz⟩:=ac';have hnsC:∃m,h'.Ns C m:=by obtain⟨g,m,led,cel,im,d,nm⟩:=id ar';refine Au nm.ns λcm n1 _=>?_;exact⟨cm,Se d n1⟩
    refine AP hnsC λm hm=>?_;refine⟨m,hm,λh'' hs''=>?_⟩;have ar₈:AR Γ κ' Γ.env ((C,oC')::(D,PySem.W.listOf zs.toArray n)::ex) fr σ₂ h':=(HM ar' nk).perm (List.Perm.swap _ _ _);have ar₉:=(ar₈.drop lC λb o hb e=>hs''.extBut b o hb e).freeze lD;exact An ot (q'.trans Wd.put_le) ar₉ (.lst (arr:=zs.toArray) (ep:=n) Wd.put_pf (Bo.le Wd.put_le (show Bo Γ.base κ' ys (zs.toArray.toList) from by rw[List.toList_toArray];exact rz)))
 ·rw[if_neg hc]at ot;exact ot.elim
end
end
theorem D5:∀(a b:List V) (es:List (V×V)),AZ (a++b) es=(AZ a es).bind (AZ b)
 |[],b,es=>rfl
 |v::r,b,es=>by
  show(match Ee v with
   |some q=>if(As es q.1&&decide (es.length<=4096))=true then AZ (r++b) (Bl es q.1 q.2) else none
   |none=>none)=(match Ee v with
   |some q=>if(As es q.1&&decide (es.length<=4096))=true then AZ r (Bl es q.1 q.2) else none
   |none=>none).bind (AZ b)
  cases Ee v with
  |none=>rfl
  |some q=>
   dsimp only;by_cases h:(As es q.1&&decide (es.length<=4096))=true;·rw[if_pos h,if_pos h];exact D5 r b _
   ·rw[if_neg h,if_neg h];rfl
theorem Wj(e:AZ acc []=some es)(hp:(AZ (acc++[V.tup [kv,vv]]) []).isSome=true):As es kv=true/\es.length<=4096/\AZ (acc++[V.tup [kv,vv]]) []=some (Bl es kv vv):=by
 rw[D5,e]at hp⊢;replace hp:((if(As es kv&&decide (es.length<=4096))=true then AZ [] (Bl es kv vv) else none)).isSome=true:=hp;show _/\_/\(if(As es kv&&decide (es.length<=4096))=true then AZ [] (Bl es kv vv) else none)=_;by_cases hc:(As es kv&&decide (es.length<=4096))=true;·rw[if_pos hc];exact⟨(Ct hc),of_decide_eq_true (Dp hc),rfl⟩
 ·rw[if_neg hc]at hp;exact DA hp
noncomputable def Jf(Γ:BG)(κ:Wd)(acc:List V)(oD:Obj):Prop:=∃es ds,AZ acc []=some es/\oD=dictOf ds es.length/\Eh Γ.base κ Γ.hsh es ds/\(es.map (·.1)).all B3=true/\(es.map (·.1)).Nodup
theorem Jf.le(q:κ.Le κ')(a:Jf Γ κ acc oD):Jf Γ κ' acc oD:=let⟨es,ds,e,eo,f,r⟩:=a;⟨es,ds,e,eo,f.le q,r⟩
noncomputable def Jm(Γ:BG)(ce:Env)(D C:Addr)(ex0:List (Addr×Obj))(fr:Fm)(κ:Wd)(acc:List V)(r:C6 (List V))(Q:Shared->Prop):Prop:=match r with
 |.ok ys σ'=>(AZ (acc++ys) []).isSome=true/\∀κ' h tk oD oC,κ.Le κ'->AR Γ κ' ce ((D,oD)::(C,oC)::ex0) fr σ' h->Jf Γ κ' (acc++ys) oD->Q (Γ.at h tk)
 |_=>False
section
theorem Jm.le(q:κ.Le κ')(o:Jm Γ ce D C ex0 fr κ acc r Q):Jm Γ ce D C ex0 fr κ' acc r Q:=by
 cases r with
 |ok ys σ=>exact⟨o.1,λκ₂ h tk oD oC q'=>o.2 κ₂ h tk oD oC (q.trans q')⟩
 |exc=>exact o
 |stuck=>exact o
theorem Rz(o:Jm Γ ce D C ex0 fr κ acc (Aa f (λy=>ret (x++y)) σ) Q):Jm Γ ce D C ex0 fr κ (acc++x) (f σ) Q/\(AZ (acc++x) []).isSome=true:=by
 cases e:f σ with
 |ok y σ'=>
  rw[Ae e]at o;have o1:(AZ (acc++(x++y)) []).isSome=true:=o.1;rw[<-List.append_assoc]at o1;refine⟨⟨o1,λκ' h tk oD oC q ar ac=>?_⟩,?_⟩;·rw[List.append_assoc]at ac;exact o.2 κ' h tk oD oC q ar ac
  ·rw[D5]at o1;cases e:AZ (acc++x) [] with
   |none=>rw[e]at o1;cases o1
   |some _=>rfl
 |exc x σ'=>rw[AQ e]at o;exact o.elim
 |stuck=>rw[Ao e]at o;exact o.elim
inductive kT(Γ:BG)(ce:Env)(D C I:Addr)(ex0:List (Addr×Obj))(fr:Fm)(src:V)(σ₀:St)(vs:List V)(f:V->Mo (List V))(Q:Shared->Prop)(k:Nat)(s':Shared):Prop
 |mk (i:Nat) (h':Heap) (tk':Nat) (oI oD oC:Obj) (κ':Wd) (σ':St) (acc':List V) (es:s'=Γ.at h' tk') (ar:AR Γ κ' ce ((I,oI)::(D,oD)::(C,oC)::ex0) fr σ' h') (it:Fe Γ κ' src σ₀ oI i) (hs:stays src σ₀ σ'=true) (ac:Jf Γ κ' acc' oD) (hi:i<=vs.length) (hk:k=vs.length+1-i)
   (o:Jm Γ ce D C ex0 fr κ' acc' (Cg src σ₀ f (vs.drop i) σ') Q):kT Γ ce D C I ex0 fr src σ₀ vs f Q k s'
theorem QD{scope:Scope}{cl:List (Str×Addr)}{env:Env}{c0:Cx}{fr0:Fm}{kx vx gi:Expr}{gf:List Expr}(ok:Γ.Ok)(hu:A.units<cLine)(hce:ce=compEnvC scope cl C env)(hk:scope.kind=.function)(hDC:D≠C)(hC:C≠Γ.env.locals)
  (hif:∀fr,∀e∈gf,C9 Γ A c ce fr e) (hkx:∀fr,Bd Γ A c ce fr kx) (hvx:∀fr,Bd Γ A c ce fr vx)
  {y:Str}{py:Pos}{I:Addr}{oI oD oC:Obj}{src:V}{σ₀:St}{v:V}{vr:List V}{i:Nat}{vs:List V}{K:Fm->Mo (List V)}(hK:K=λfr'=>Aa (ev kx c fr') λk=>Aa (ev vx c fr') λy=>ret [V.tup [k,y]]) (hyk:ce.kindOf y=some .local) (hf:(fr y).isSome=false) (hIl:I≠ce.locals)
  (ar:AR Γ κ ce ((I,oI)::(D,oD)::(C,oC)::ex0) fr σ h) (it:Fe Γ κ src σ₀ oI i) (hv:A5 src σ₀=.ok vs σ₀) (hvi:vs[i]?=some v) (hst:stays src σ₀ σ=true) (ac:Jf Γ κ acc oD) {Rq Rn:Shared->Prop}{EE:Value->Shared->Prop}{Nx:Shared->Prop}
  (o:Jm Γ ce D C ex0 fr κ acc (Aa (Bb ⟨.Name y py,gi,gf,0⟩ [] c fr y c0 fr0 K v) (λx=>Aa (λσ=>if(stays src σ₀ σ&&decide (x.length<=256))=true then .ok () σ else .stuck) λ_=>Aa (Cg src σ₀ (Bb ⟨.Name y py,gi,gf,0⟩ [] c fr y c0 fr0 K) vr) λz=>ret (x++z)) σ) Rq)
  (hN:∀oJ h₄ tk₄ oD₄ oC₄ κ₅ σ₄ acc',AR Γ κ₅ ce ((I,oJ)::(D,oD₄)::(C,oC₄)::ex0) fr σ₄ h₄->Fe Γ κ₅ src σ₀ oJ (i+1)->stays src σ₀ σ₄=true->Jf Γ κ₅ acc' oD₄->Jm Γ ce D C ex0 fr κ₅ acc' (Cg src σ₀ (Bb ⟨.Name y py,gi,gf,0⟩ [] c fr y c0 fr0 K) vr σ₄) Rq->Nx (Γ.at h₄ tk₄)) :
  wpAny Γ.M A (pyNext (.ref I)) (λr s₁=>match r with
   |none=>Rn s₁
   |some v=>wpAny Γ.M A (assign (.Name y py) ce v) (λ_ s₂=>
     wpAny Γ.M A (forIn gf true λc r=>if r=true then do let ok<-isTrue c ce (eval c ce);pure (ForInStep.yield ok) else pure (ForInStep.yield r)) (λok s₃=>
      if ok=true then wpAny Γ.M A (eval kx ce) (λkv s₄=>wpAny Γ.M A (eval vx ce) (λvv s₅=>wpAny Γ.M A (dictSet D kv vv) (λ_ s₆=>Nx s₆) EE s₅) EE s₄) EE s₃
      else Nx s₃) EE s₂) EE s₁) EE (Γ.at h tk):=by
 refine Hp ar hIl hv hst it hvi λh₂ tk₂ oJ v₂ ar₂ it₂ ry _=>?_;dsimp only;refine ML (pre:=[(I,oJ),(D,oD)]) (post:=ex0) (oC:=oC) hce hk hyk hC ar₂ ry λh₃ tk₃ oC₃ ar₃=>?_;have next:∀(xs:List V) κ₄ σ₄,κ.Le κ₄->
   Jm Γ ce D C ex0 fr κ acc (Aa (λσ=>if(stays src σ₀ σ&&decide (xs.length<=256))=true then .ok () σ else .stuck) (λ_=>Aa (Cg src σ₀ (Bb ⟨.Name y py,gi,gf,0⟩ [] c fr y c0 fr0 K) vr) λz=>ret (xs++z)) σ₄) Rq->
   (AZ (acc++xs) []).isSome=true/\∀h₄ tk₄ oD₄ oC₄ κ₅,κ₄.Le κ₅->AR Γ κ₅ ce ((I,oJ)::(D,oD₄)::(C,oC₄)::ex0) (Ac fr y v) σ₄ h₄->Jf Γ κ₅ (acc++xs) oD₄->Nx (Γ.at h₄ tk₄):=by
  intro xs κ₄ σ₄ q₄ o₄;by_cases hs₄:(stays src σ₀ σ₄&&decide (xs.length<=256))=true;·rw[Ae (a:=()) (σ':=σ₄) (if_pos hs₄)]at o₄;refine AG (Rz o₄) λo₅ pre=>?_;exact⟨pre,λh₄ tk₄ oD₄ oC₄ κ₅ q₅ ar₄ ac₄=>hN _ _ _ _ _ _ _ _ (ar₄.weak (M0 hf)) (it₂.le (q₄.trans q₅)) (Ct hs₄) ac₄ (o₅.le (q₄.trans q₅))⟩
  ·rw[Ao (if_neg hs₄)]at o₄;exact o₄.elim
 clear hN;cases et:GH gf c (Ac fr y v) σ with
 |stuck=>rw[Ao (Ao et)]at o;exact o.elim
 |exc e σ₁=>rw[AQ (AQ et)]at o;exact o.elim
 |ok q σ₁=>
  have ec:Bb ⟨.Name y py,gi,gf,0⟩ [] c fr y c0 fr0 K v σ=(if q=true then K (Ac fr y v) else ret []) σ₁:=Ae et;refine(IV (hif (Ac fr y v))).use ar₃ ?_;rw[et];intro κ₄ h₄ tk₄ b q₄ ar₄ rb;have rb:q=b:=rb;subst rb;cases q with
  |false=>rw[Ae (a:=[]) (σ':=σ₁) ec]at o;refine AG (next [] κ₄ σ₁ q₄ o) λ_ go=>?_;exact go h₄ tk₄ oD oC₃ κ₄ .refl ar₄ (by rw[List.append_nil];exact ac.le q₄)
  |true=>
   replace ec:Bb ⟨.Name y py,gi,gf,0⟩ [] c fr y c0 fr0 K v σ=K (Ac fr y v) σ₁:=ec;rw[hK]at ec;rw[<-hK]at ec;rw[if_pos rfl];refine(hkx _).use ar₄ ?_;cases e1:ev kx c (Ac fr y v) σ₁ with
   |stuck=>rw[Ao (ec.trans (by rw[hK];exact Ao e1))]at o;exact o.elim
   |exc e σ₂=>rw[AQ (ec.trans (by rw[hK];exact AQ e1))]at o;exact o.elim
   |ok kv σ₂=>
    intro κ₅ h₅ tk₅ kw q₅ ar₅ rkw;refine(hvx _).use ar₅ ?_;cases e2:ev vx c (Ac fr y v) σ₂ with
    |stuck=>rw[Ao (ec.trans (by rw[hK];exact(Ae e1).trans (Ao e2)))]at o;exact o.elim
    |exc e σ₃=>rw[AQ (ec.trans (by rw[hK];exact(Ae e1).trans (AQ e2)))]at o;exact o.elim
    |ok vv σ₃=>
     intro κ₆ h₆ tk₆ vw q₆ ar₆ rvw;rw[Ae (ec.trans (by rw[hK];exact(Ae e1).trans (Ae e2)))]at o;refine AG (next [V.tup [kv,vv]] κ₆ σ₃ (q₄.trans (q₅.trans q₆)) o) λhp go=>?_;clear next o ec
     obtain⟨es,ds,ed',rfl,f,ka,nd⟩:=ac.le (q₄.trans (q₅.trans q₆));have hstep:=Wj ed' hp;refine B0 hstep λkk hl e3=>?_;have hD:h₆.get? D=some (dictOf ds es.length):=by obtain⟨g,m,led,cel,im,d,nm⟩:=id ar₆;exact(d.N (D,dictOf ds es.length) (by simp)).1
     refine Fu ok hu hD f ka nd kk hl (rkw.le q₆) rvw (λ_ _ p=>ar₆.pf p) λh₇ ds' n' tk₇ sb hg' f' en=>?_;refine AG (GK (v:=vv) ka nd (Ct kk)) λk1 k2=>?_;exact go h₇ tk₇ _ oC₃ κ₆ .refl (ar₆.chgEx (pre:=[(I,oJ)]) (by rw[hce];exact hDC) sb hg') ⟨_,ds',e3,by rw[Mv,en],f',k1,k2⟩
theorem nT{scope:Scope}{cl:List (Str×Addr)}{env:Env}{c0:Cx}{fr0:Fm}{kx vx gt gi:Expr}{gf:List Expr}{pos:Pos}(ok:Γ.Ok)(hu:A.units<cLine)(hh:A.handled=none)(hk:scope.kind=.function)(hDC:D≠C)(hC:C≠Γ.env.locals)(ht:MM (compEnvC scope cl C env) ⟨gt,gi,gf,0⟩)
  (hif:∀fr,∀e∈gf,C9 Γ A c (compEnvC scope cl C env) fr e) (hkx:∀fr,Bd Γ A c (compEnvC scope cl C env) fr kx) (hvx:∀fr,Bd Γ A c (compEnvC scope cl C env) fr vx)
  {x:Str}{I:Addr}{oI:Obj}{src:V}{σ₀:St}{vs:List V}{oD oC:Obj}{R:Result->Shared->Prop}(hx:Ei gt=some x) (hf:(fr x).isSome=false) (hI:I≠C)
  (ar:AR Γ κ (compEnvC scope cl C env) ((I,oI)::(D,oD)::(C,oC)::ex0) fr σ h) (it:Fe Γ κ src σ₀ oI 0) (hv:A5 src σ₀=.ok vs σ₀) (hst:stays src σ₀ σ=true) (ac:Jf Γ κ acc oD)
  (o:Jm Γ (compEnvC scope cl C env) D C ex0 fr κ acc (Cg src σ₀ (Bb ⟨gt,gi,gf,0⟩ [] c fr x c0 fr0 (λfr'=>Aa (ev kx c fr') λk=>Aa (ev vx c fr') λy=>ret [.tup [k,y]])) vs σ) (R (.ok .next))) :
  codeAny Γ.M A (.compLoop (.DictComp kx vx [⟨gt,gi,gf,0⟩] scope pos) 0 (.ref I) (.ref D) (compEnvC scope cl C env)) R (Γ.at h tk):=by
 obtain⟨⟨y,py,ety,hyk⟩,ha,hfold⟩:=ht;have ety:gt=.Name y py:=ety;subst ety;obtain rfl:y=x:=Option.some.inj hx;refine codeAny_compLoop_testsD
  (kT Γ (compEnvC scope cl C env) D C I ex0 fr src σ₀ vs (Bb ⟨.Name y py,gi,gf,0⟩ [] c fr y c0 fr0 (λfr'=>Aa (ev kx c fr') λk=>Aa (ev vx c fr') λy=>ret [.tup [k,y]])) (R (.ok .next))) ?_ (vs.length+1)
  ⟨0,h,tk,oI,oD,oC,κ,σ,acc,rfl,ar,it,hst,ac,Nat.zero_le _,rfl,by rw[List.drop_zero];exact o⟩ (λ_=>rfl)
 rintro k s' ⟨i,h',tk',oI',oD',oC',κ',σ',acc',rfl,ar',it',hst',ac',hi,rfl,o'⟩
 by_cases hlt:i<vs.length;·have ed:vs.drop i=vs[i]::vs.drop (i+1):=List.drop_eq_getElem_cons hlt;rw[ed]at o';exact QD ok hu rfl hk hDC hC hif hkx hvx rfl hyk hf hI ar' it' hv (List.getElem?_eq_getElem hlt) hst' ac' o' λoJ h₄ tk₄ oD₄ oC₄ κ₅ σ₄ acc₄ ar₄ it₄ hs₄ ac₄ o₄=>⟨vs.length+1-(i+1),Nat.sub_lt_sub_left (Nat.lt_succ_of_lt hlt) (Nat.lt_succ_self i),i+1,h₄,tk₄,oJ,oD₄,oC₄,κ₅,σ₄,acc₄,rfl,ar₄,it₄,hs₄,ac₄,hlt,rfl,o₄⟩
 ·obtain rfl:=Nat.le_antisymm hi (Nat.le_of_not_lt hlt);refine K6 hh ar' hI hv hst' it' λh₂ tk₂ ar₂=>?_;rw[List.drop_length]at o';exact o'.2 κ' h₂ tk₂ oD' oC' .refl ar₂ (by rw[List.append_nil];exact ac')
end
set_option backward.match.sparseCases true
section
theorem AR.thaw(ar:AR Γ κ ce ((a,o)::ex) fr σ h)(na:a≠ce.locals)(x:OL Γ.base (κ.add a) Γ.hsh ao a [(a,o)]):AR Γ (κ.add a) ce ex fr (σ++[ao]) h/\RV Γ.base (κ.add a) (.obj σ.length) (.ref a):=by
 obtain⟨g,m,led,cel,im,d,nm⟩:=ar;have PP:(led++cel++(a,o)::ex++im).Perm (led++[(a,o)]++cel++ex++im):=by rw[List.append_assoc led cel,List.append_assoc led,List.append_assoc led [_] cel,List.append_assoc led,List.append_assoc led];refine List.Perm.append_left led ?_;rw[List.append_assoc,List.append_assoc,List.append_assoc];exact List.perm_middle
 refine⟨⟨g,m,led++[(a,o)],cel,im,⟨d.F,λq hq=>d.N q (PP.mem_iff.mpr hq),d.B,d.G,(d.L.le Wd.add_le).snoc x,d.I,d.J,((PP.map _).nodup_iff).mp d.D,λq hq=>by simp[d.T q hq]⟩,?_⟩,.obj (Wd.add_at d.L.length)⟩;exact(nm.le Wd.add_le).sub λ_ y=>DW na y
theorem RO:Bd Γ A c ce fr (.Dict [] [] pos):=by intro κ ex σ h tk Q E ar o;replace o:Bq Γ ce fr κ ex (RV Γ.base) (Ej (.dict [] 0) σ) Q E:=o;refine AG ((ar.own (dictOf [] 0) rfl).thaw (Nat.ne_of_gt ar.locals_lt) (ao:=.dict [] 0) (.dict .nil rfl .nil)) λar' rv=>?_;refine wpAny_Dict_empty ?_;exact o _ _ _ _ Wd.add_le ar' rv
theorem LP(C₀:Ef Γ A c ce)(nk:Γ.keep=none\/c.comp=true)(hit1:∀g gs,gens=g::gs->Bd Γ A c ce fr g.iter)
  (hif:∀g∈gens,∀(C:Addr) fr',∀e∈g.ifs,C9 (Γ.inC fr) A (C5 c scope) (compEnvC scope (CQ scope ce) C ce) fr' e)
  (hkx:∀(C:Addr) fr',Bd (Γ.inC fr) A (C5 c scope) (compEnvC scope (CQ scope ce) C ce) fr' kx) (hvx:∀(C:Addr) fr',Bd (Γ.inC fr) A (C5 c scope) (compEnvC scope (CQ scope ce) C ce) fr' vx):Bd Γ A c ce fr (.DictComp kx vx gens scope pos):=by
 intro κ ex σ h tk Q E ar ot;replace ot:Bq Γ ce fr κ ex (RV Γ.base) ((if(CF c scope gens&&decide (gens.length=1))=true then Aa (Cs (gen gens true (C5 c scope) (Bh scope fr) c fr (λfr'=>Aa (ev kx (C5 c scope) fr') λk=>Aa (ev vx (C5 c scope) fr') λy=>ret [.tup [k,y]]))) (λl=>Ew l []) else AB) σ) Q E:=ot;by_cases hc:(CF c scope gens&&decide (gens.length=1))=true
 ·rw[if_pos hc]at ot;refine D3 hc λhc h1=>?_;have h1:=of_decide_eq_true h1;refine X4 (Ce hc) λhp hcm hk n1 n2 n3 h8 hg=>?_;have nk:Γ.keep=none:=nk.resolve_right (by rw[hcm];exact Bool.false_ne_true);have:=C₀.comp hcm;subst this;have hh:=C₀.around.handled hp;obtain⟨⟨gt,gi,gf,ga⟩,rfl⟩:=List.length_eq_one_iff.mp h1;refine B0 (hg _ (.head _)) λhs ha Hx=>?_;obtain⟨x,hx,hxl⟩:=Hx;have ha:ga=0:=ha;subst ha;rw[IK]at ot;dsimp only at hx hs;rw[show Ei (Comprehension.mk gt gi gf 0).target=some x from hx]at ot;dsimp only at ot;have hfx:(Bh scope fr x).isSome=false:=by unfold Bh;rw[hxl];rfl
  rw[if_neg (by rw[hfx];exact Bool.false_ne_true)]at ot;simp only[if_true]at ot;generalize hKK:(λfr'=>Aa (ev kx (C5 c scope) fr') λk=>Aa (ev vx (C5 c scope) fr') λy=>ret [V.tup [k,y]]:Fm->Mo (List V))=KK at ot;replace ot:Bq Γ Γ.env fr κ ex (RV Γ.base) (Aa (Cs (Aa (ev gi c fr) λsrc=>Bt src (Bb ⟨gt,gi,gf,0⟩ [] (C5 c scope) (Bh scope fr) x c fr KK))) (λl=>Ew l []) σ) Q E:=ot;rw[arm_eval_DictComp];refine wpAny_comprehension_free (use:=none) (g:=⟨gt,gi,gf,0⟩) (gs:=[]) rfl (CG hs) (Ff (IT C₀.kind ar n2)) hk n3 ?_;refine(hit1 _ _ rfl).use ar ?_;cases e1:ev gi c fr σ with
  |stuck=>rw[Ao (CD (Ao e1))]at ot;exact ot.elim
  |exc e σ₁=>rw[Ao (ET (AQ e1))]at ot;exact ot.elim
  |ok src σ₁=>
   intro κ₁ h₁ tk₁ y q₁ ar₁ ry;have e2:=Ae (g:=λsrc=>Bt src (Bb ⟨gt,gi,gf,0⟩ [] (C5 c scope) (Bh scope fr) x c fr KK)) e1;cases e3:Bt src (Bb ⟨gt,gi,gf,0⟩ [] (C5 c scope) (Bh scope fr) x c fr KK) σ₁ with
   |stuck=>rw[Ao (CD (e2.trans e3))]at ot;exact ot.elim
   |exc e σ₂=>rw[Ao (ET (e2.trans e3))]at ot;exact ot.elim
   |ok ys σ₂=>
    rw[Ae (Bk (e2.trans e3))]at ot;refine D9 (MC e3) λvs hv hl e4=>?_;clear e2 e3;unfold Ew at ot;cases ed:AZ ys [] with
    |none=>rw[ed]at ot;exact ot.elim
    |some es=>
    rw[ed]at ot;replace ot:Bq Γ Γ.env fr κ ex (RV Γ.base) (Ej (.dict es es.length) σ₂) Q E:=ot;refine Ga C₀.ok ar₁ ry hv hl λh₂ I oI hI ar₂ it₂=>?_;refine wpAny_newObj_type (hd:=by size_fits) (wpAny_newFunctionEnv n1 (by intro y hy;simp at hy) (λh₃ hns hsb=>?_) hk);obtain⟨D,C,oC,eD,eC,lC,lD,hDC,hIC,ar₇⟩:=Mt (oD:=dictOf [] 0) C₀ hc rfl ar₂ hns hsb;clear hns hsb;have ht:MM (compEnvC scope (CQ scope Γ.env) C Γ.env) ⟨gt,gi,gf,0⟩:=by refine⟨?_,rfl,hs⟩;dsimp only;refine AP (Dr hx) λp eg=>?_;exact⟨_,_,eg,lookup_relabel_local hxl⟩
    have CA:∀κ' h' tk' oD oC',κ₁.Le κ'->AR (Γ.inC fr) κ' (compEnvC scope (CQ scope Γ.env) C Γ.env) ((D,oD)::(C,oC')::ex) (Bh scope fr) σ₂ h'->Jf (Γ.inC fr) κ' ([]++ys) oD->
      compPost Γ.M A E none Q (.ref D) C (.ok .next) (Γ.at h' tk'):=by
     intro κ' h' tk' oD oC' q' ar' ac';obtain⟨es',ds,e5,rfl,f,ka,nd⟩:=ac';have:es'=es:=by rw[List.nil_append,ed]at e5;exact(Option.some.inj e5).symm
     subst this;have hnsC:∃m,h'.Ns C m:=by obtain⟨g,m,led,cel,im,d,nm⟩:=id ar';refine Au nm.ns λcm n1 _=>?_;exact⟨cm,Se d n1⟩
     refine AP hnsC λm hm=>?_;refine⟨m,hm,λh'' hs''=>?_⟩;have ar₈:AR Γ κ' Γ.env ((C,oC')::(D,dictOf ds es'.length)::ex) fr σ₂ h':=(HM ar' nk).perm (List.Perm.swap _ _ _);refine AG ((ar₈.drop lC λb o hb e=>hs''.extBut b o hb e).thaw lD (ao:=.dict es' es'.length) (.dict (Eh.le Wd.add_le f) ka nd)) λar₉ rv=>?_;exact ot _ _ _ _ (q₁.trans (q'.trans Wd.add_le)) ar₉ rv
    have loop:∀tk₃,codeAny Γ.M A (.compLoop (.DictComp kx vx [⟨gt,gi,gf,0⟩] scope pos) 0 (.ref I) (.ref D) (compEnvC scope (CQ scope Γ.env) C Γ.env)) (compPost Γ.M A E none Q (.ref D) C) ((Γ.inC fr).at h₃ tk₃):=λtk₃=>by
     refine nT (Γ:=Γ.inC fr) (c:=C5 c scope) (c0:=c) (fr0:=fr) (acc:=[]) (EC C₀ hk (CQ scope Γ.env) C fr).ok (Su C₀) hh hk hDC lC ht (λfr' e he=>hif _ (.head _) C fr' e he) (hkx C) (hvx C) hx hfx hIC ar₇ ?_ hv (D0 hv) ⟨[],[],rfl,rfl,.nil,rfl,.nil⟩ ?_;·exact it₂
     ·rw[hKK,e4];exact⟨by rw[List.nil_append,ed];rfl,λκ' h' tk' oD oC' q' ar' ac'=>CA κ' h' tk' oD oC' q' ar' ac'⟩
    show codeAny Γ.M A (.compStart (.DictComp kx vx [⟨gt,gi,gf,0⟩] scope pos) 0 (.ref I) (.ref h₂.objs.size) (compEnvC scope (CQ scope Γ.env) (h₂.push (dictOf [] 0)).objs.size Γ.env))
     (compPost Γ.M A E none Q (.ref h₂.objs.size) (h₂.push (dictOf [] 0)).objs.size) _
    rw[eC,eD];exact codeAny_compStart_dict (loop _) (Kq (Γ:=Γ.inC fr) ar₇ it₂ (loop _))
 ·rw[if_neg hc]at ot;exact ot.elim
end
section
inductive QX:Expr->Prop
 |bool (op:BoolOp) (xs:List Expr) (p:Pos):QX (.BoolOp op xs p)
 |not (x:Expr) (p:Pos):QX (.UnaryOp .Not x p)
 |cmp (l:Expr) (ops:List CmpOp) (rs:List Expr) (p:Pos):QX (.Compare l ops rs p)
 |no (e:Expr) (h:∀c fr whole,tst e c fr whole=AB):QX e
 |any (e:Expr) (h1:∀ce whole,isTrue e ce whole=(do let v<-whole;standAt e.pos;holding [v] (truthy v))) (h2:∀c fr whole,tst e c fr whole=Aa whole BS):QX e
theorem kA(e:Expr):QX e:=by
 cases e with
 |BoolOp op xs p=>exact .bool op xs p
 |UnaryOp op x p=>
  cases op with
  |Not=>exact .not x p
  |_=>exact .any _ (λ_ _=>rfl) λ_ _ _=>rfl
 |Compare l ops rs p=>exact .cmp l ops rs p
 |IfExp t a b p=>exact .no _ λ_ _ _=>rfl
 |_=>exact .any _ (λ_ _=>rfl) λ_ _ _=>rfl
section
theorem eE(he:Bd Γ A c ce fr e)(hb:∀op xs p,e=.BoolOp op xs p->∀x∈xs,C9 Γ A c ce fr x)(hn:∀x p,e=.UnaryOp .Not x p->C9 Γ A c ce fr x)
  (hc:∀l ops rs p,e=.Compare l ops rs p->C9 Γ A c ce fr e):C9 Γ A c ce fr e:=by
 cases kA e with
 |bool op xs p=>exact Sx (hb _ _ _ rfl)
 |not x p=>exact WT (hn _ _ rfl)
 |cmp l ops rs p=>exact hc _ _ _ _ rfl
 |no _ h=>exact λκ ex σ h' tk Q E ar o=>by rw[h]at o;exact o.elim
 |any _ h1 h2=>exact XN he (h1 ce) (h2 c fr)
theorem FA(h:ev e c fr=AB):Bd Γ A c ce fr e:=λκ ex σ h' tk Q E ar o=>by rw[h]at o;exact o.elim
theorem VY(h:Yo e c fr=AB):T9 Γ A c ce fr e:=λκ ex σ h' tk Q E ar o=>by rw[h]at o;exact o.elim
end
section
variable{n:Nat}{a b d:Expr}{xs:List Expr}
theorem dl(h:x+y<n):x<n:=Nat.lt_of_le_of_lt (Nat.le_add_right x y) h
theorem la(hz:1<=z)(h:z+y<n+1):y<n:=Nat.lt_of_succ_lt_succ (Nat.lt_of_le_of_lt (by rw[Nat.add_comm z];exact Nat.add_le_add_left hz y) h)
theorem o0:1<=1:=Nat.le_refl 1
theorem oa(h:1<=x):1<=x+y:=Nat.le_trans h (Nat.le_add_right x y)
theorem S4(h:sizeOf (Expr.BoolOp op xs p)<n+1):sizeOf xs<n+1:=by rw[Expr.BoolOp.sizeOf_spec]at h;exact Nat.lt_succ_of_lt (la (oa o0) (dl h))
theorem Z0(h:sizeOf (Expr.BinOp a op b p)<n+1):sizeOf a<n/\sizeOf b<n:=by rw[Expr.BinOp.sizeOf_spec]at h;exact⟨la o0 (dl (dl (dl h))),la (oa (oa o0)) (dl h)⟩
theorem kQ(h:sizeOf (Expr.UnaryOp op a p)<n+1):sizeOf a<n:=by rw[Expr.UnaryOp.sizeOf_spec]at h;exact la (oa o0) (dl h)
theorem fU(h:sizeOf (Expr.IfExp a b d p)<n+1):sizeOf a<n/\sizeOf b<n/\sizeOf d<n:=by rw[Expr.IfExp.sizeOf_spec]at h;exact⟨la o0 (dl (dl (dl h))),la (oa o0) (dl (dl h)),la (oa (oa o0)) (dl h)⟩
theorem P4(h:sizeOf (Expr.Compare a ops xs p)<n+1):sizeOf a<n/\sizeOf xs<n+1:=by rw[Expr.Compare.sizeOf_spec]at h;exact⟨la o0 (dl (dl (dl h))),Nat.lt_succ_of_lt (la (oa (oa o0)) (dl h))⟩
theorem SS(h:sizeOf (Expr.Call a xs kw p)<n+1):sizeOf a<n+1/\sizeOf xs<n+1:=by rw[Expr.Call.sizeOf_spec]at h;exact⟨Nat.lt_succ_of_lt (la o0 (dl (dl (dl h)))),Nat.lt_succ_of_lt (la (oa o0) (dl (dl h)))⟩
theorem T5(h:sizeOf (Expr.Attribute a x p)<n+1):sizeOf a<n:=by rw[Expr.Attribute.sizeOf_spec]at h;exact la o0 (dl (dl h))
theorem Zw(h:sizeOf (Expr.Subscript a b p)<n+1):sizeOf a<n/\sizeOf b<n:=by rw[Expr.Subscript.sizeOf_spec]at h;exact⟨la o0 (dl (dl h)),la (oa o0) (dl h)⟩
theorem eP(h:sizeOf (Expr.List xs p)<n+1):sizeOf xs<n+1:=by rw[Expr.List.sizeOf_spec]at h;exact Nat.lt_succ_of_lt (la o0 (dl h))
theorem jP(h:sizeOf (Expr.Tuple xs m p)<n+1):sizeOf xs<n+1:=by rw[Expr.Tuple.sizeOf_spec]at h;exact Nat.lt_succ_of_lt (la o0 (dl (dl h)))
theorem mK(h:sizeOf (Expr.ListComp a gens scope p)<n+1):sizeOf a<n/\sizeOf gens<n:=by rw[Expr.ListComp.sizeOf_spec]at h;exact⟨la o0 (dl (dl (dl h))),la (oa o0) (dl (dl h))⟩
theorem eN(h:sizeOf (Expr.DictComp a b gens scope p)<n+1):sizeOf a<n/\sizeOf b<n/\sizeOf gens<n:=by rw[Expr.DictComp.sizeOf_spec]at h;exact⟨la o0 (dl (dl (dl (dl h)))),la (oa o0) (dl (dl (dl h))),la (oa (oa o0)) (dl (dl h))⟩
theorem Z2(h:sizeOf (Expr.Slice x y z p)<n+1):sizeOf x<n+1/\sizeOf y<n+1/\sizeOf z<n+1:=by rw[Expr.Slice.sizeOf_spec]at h;exact⟨Nat.lt_succ_of_lt (la o0 (dl (dl (dl h)))),Nat.lt_succ_of_lt (la (oa o0) (dl (dl h))),Nat.lt_succ_of_lt (la (oa (oa o0)) (dl h))⟩
theorem gQ(h:sizeOf (some a)<n+1):sizeOf a<n:=by rw[Option.some.sizeOf_spec]at h;exact la o0 h
theorem H5(hm:x∈xs)(hs:sizeOf xs<n+1):sizeOf x<n:=Nat.lt_of_lt_of_le (List.sizeOf_lt_of_mem hm) (Nat.le_of_lt_succ hs)
theorem qK{gens:List Comprehension}{g:Comprehension}(hg:g∈gens)(hs:sizeOf gens<n):sizeOf g.iter<n/\∀e∈g.ifs,sizeOf e<n:=by
 have h1:=Nat.lt_succ_of_lt (Nat.lt_trans (List.sizeOf_lt_of_mem hg) hs);cases g with
 |mk t it ifs ia=>rw[Comprehension.mk.sizeOf_spec]at h1;exact⟨la (oa o0) (dl (dl h1)),λe he=>Nat.lt_trans (List.sizeOf_lt_of_mem he) (la (oa (oa o0)) (dl h1))⟩
end
noncomputable def Ou(e:Expr):Prop:=∀(Γ:BG) (A:Around) (c:Cx) (ce:Env) (fr:Fm),Ef Γ A c ce->Bd Γ A c ce fr e
noncomputable def Yg(e:Expr):Prop:=∀(Γ:BG) (A:Around) (c:Cx) (ce:Env) (fr:Fm),Ef Γ A c ce->C9 Γ A c ce fr e
noncomputable def eT(e:Expr):Prop:=∀(Γ:BG) (A:Around) (c:Cx) (ce:Env) (fr:Fm),Ef Γ A c ce->T9 Γ A c ce fr e
theorem iI{n:Nat}{e:Expr}(h:sizeOf e<n+1)(ih:∀x,sizeOf x<n->Ou x)(iht:∀x,sizeOf x<n->Yg x)(ihi:∀x,sizeOf x<n->eT x):Ou e:=by
 intro Γ A c ce fr C;cases e with
 |Constant k m p=>exact Sj
 |Name x p=>exact MZ C
 |BoolOp op xs p=>exact To C λx hx=>ih x (H5 hx (S4 h)) _ _ _ _ _ C
 |BinOp l op r p=>exact Xu (ih l (Z0 h).1 _ _ _ _ _ C) (ih r (Z0 h).2 _ _ _ _ _ C)
 |UnaryOp op x p=>exact gR (ih x (kQ h) _ _ _ _ _ C)
 |IfExp t a b p=>exact aN (iht t (fU h).1 _ _ _ _ _ C) (ih a (fU h).2.1 _ _ _ _ _ C) (ih b (fU h).2.2 _ _ _ _ _ C)
 |Compare l ops rs p=>exact Yi C (ih l (P4 h).1 _ _ _ _ _ C) λx hx=>ih x (H5 hx (P4 h).2) _ _ _ _ _ C
 |Call f xs kw p=>refine Vq C (λx hx=>ih x (H5 hx (SS h).2) _ _ _ _ _ C) λo name ap ef=>?_;subst ef;exact ih o (T5 (SS h).1) _ _ _ _ _ C
 |Attribute o name p=>exact U7 C (ih o (T5 h) _ _ _ _ _ C)
 |Subscript o i p=>exact Y1 C (ih o (Zw h).1 _ _ _ _ _ C) (ihi i (Zw h).2 _ _ _ _ _ C)
 |List xs p=>exact Un λx hx=>ih x (H5 hx (eP h)) _ _ _ _ _ C
 |Tuple xs m p=>exact QE λx hx=>ih x (H5 hx (jP h)) _ _ _ _ _ C
 |Dict ks vs p=>
  cases ks with
  |cons=>exact FA rfl
  |nil=>
   cases vs with
   |cons=>exact FA rfl
   |nil=>exact RO
 |ListComp elt gens scope p=>
  have hg:=λg (hg:g∈gens)=>qK hg (mK h).2;by_cases hc:CF c scope gens=true;·refine GO (Ce hc) λ_ hcm hk _=>?_;have:=C.comp hcm;subst this;have CC:=λ(Cc:Addr)=>EC (A:=A) C hk (CQ scope Γ.env) Cc fr;exact KD C C.nk (λg gs e=>ih _ (hg g (by rw[e];exact .head _)).1 _ _ _ _ _ C) (λg hg' Cc fr'=>ih _ (hg g hg').1 _ _ _ _ _ (CC Cc)) (λg hg' Cc fr' e he=>iht e ((hg g hg').2 e he) _ _ _ _ _ (CC Cc)) λCc fr'=>ih elt (mK h).1 _ _ _ _ _ (CC Cc)
  ·exact FA (if_neg hc)
 |DictComp kx vx gens scope p=>
  have hg:=λg (hg:g∈gens)=>qK hg (eN h).2.2;by_cases hc:CF c scope gens=true;·refine GO (Ce hc) λ_ hcm hk _=>?_;have:=C.comp hcm;subst this;have CC:=λ(Cc:Addr)=>EC (A:=A) C hk (CQ scope Γ.env) Cc fr;exact LP C C.nk (λg gs e=>ih _ (hg g (by rw[e];exact .head _)).1 _ _ _ _ _ C) (λg hg' Cc fr' e he=>iht e ((hg g hg').2 e he) _ _ _ _ _ (CC Cc)) (λCc fr'=>ih kx (eN h).1 _ _ _ _ _ (CC Cc)) λCc fr'=>ih vx (eN h).2.1 _ _ _ _ _ (CC Cc)
  ·exact FA (if_neg (λq=>hc (Ct q)))
 |_=>exact FA rfl
theorem kO(h:sizeOf e<n+1)(ih:∀x,sizeOf x<n->Ou x)(iht:∀x,sizeOf x<n->Yg x)(he:Ou e):Yg e:=by
 intro Γ A c ce fr C;refine eE (he Γ A c ce fr C) (λop xs p ee x hx=>?_) (λx p ee=>?_) λl ops rs p ee=>?_;·subst ee;exact iht x (H5 hx (S4 h)) _ _ _ _ _ C
 ·subst ee;exact iht x (kQ h) _ _ _ _ _ C
 ·subst ee;exact YO C (ih l (P4 h).1 _ _ _ _ _ C) λx hx=>ih x (H5 hx (P4 h).2) _ _ _ _ _ C
theorem kP(h:sizeOf e<n+1)(ih:∀x,sizeOf x<n->Ou x)(he:Ou e):eT e:=by
 intro Γ A c ce fr C;have E:=he Γ A c ce fr C;cases e with
 |Slice lo hi st p=>
  have o:∀(x:Option Expr),sizeOf x<n+1->Qc Γ A c ce fr x:=λx hx=>by
   cases x with
   |none=>exact Kv
   |some x=>exact YM (ih x (gQ hx) _ _ _ _ _ C)
  exact QQ (o lo (Z2 h).1) (o hi (Z2 h).2.1) (o st (Z2 h).2.2)
 |Constant k m p=>exact EB E rfl
 |Name x p=>exact EB E rfl
 |BinOp l op r p=>exact EB E Si.symm
 |UnaryOp op x p=>exact EB E B1.symm
 |Subscript o i p=>exact EB E Si.symm
 |_=>exact VY rfl
theorem PH(n:Nat):∀e:Expr,sizeOf e<n->Ou e/\Yg e/\eT e:=by
 induction n with
 |zero=>exact λ_ h=>absurd h (Nat.not_lt_zero _)
 |succ n ih=>intro e h;have he:=iI h (λx hx=>(ih x hx).1) (λx hx=>(ih x hx).2.1) λx hx=>(ih x hx).2.2;exact⟨he,kO h (λx hx=>(ih x hx).1) (λx hx=>(ih x hx).2.1) he,kP h (λx hx=>(ih x hx).1) he⟩
theorem BU:HO where
 ev:=λΓ A c ce fr e C=>(PH _ e (Nat.lt_succ_self _)).1 Γ A c ce fr C
 tst:=λΓ A c ce fr e C=>(PH _ e (Nat.lt_succ_self _)).2.1 Γ A c ce fr C
end
section
theorem HN{env:Env}(hk:env.scope.kind=.function):env.blockKind=.function:=by unfold Env.blockKind;rw[hk];rfl
theorem NU{env:Env}(hk:env.scope.kind=.function)(kd:∀x,c.kind x=env.kindOf x){x:Str}{pos:Pos}{v:Expr}{line:Nat}(hp:BE (.Name x pos) v c=true):swapsWith v (some (.Name x pos)) line env=pure false:=by
 have CA:∀(b d:Bool) (names:List (Str×NameKind)),(!(c.kind x==some .local&&b && !(names.any λ(n,k)=>n==x&&(k==.local||k==.cell))))=true->
   (pure (true&&env.kindOf x==some .local&&b && !(names.any λ(n,k)=>n==x&&(k==.local||k==.cell))):Sem Bool)=pure false:=by
  intro b d names hq;rw[kd]at hq;have:(env.kindOf x==some .local&&b && !(names.any λ(n,k)=>n==x&&(k==.local||k==.cell)))=false:=(Bool.not_eq_true' _).mp hq;rw[Bool.true_and,this]
 cases v<;>first|rfl|(cases hp;done)|skip
 all_goals
  unfold swapsWith;dsimp only;rw[HN hk];exact CA _ true _ hp
theorem NP{env:Env}(hk:env.scope.kind=.function)(kd:∀x,c.kind x=env.kindOf x){x:Str}{pos p:Pos}{elt:Expr}{gens:List Comprehension}{scope:Scope}{line:Nat}(hp:¬BE (.Name x pos) (.ListComp elt gens scope p) c=true):swapsWith (.ListComp elt gens scope p) (some (.Name x pos)) line env=pure true:=by
 have e2:BE (.Name x pos) (.ListComp elt gens scope p) c = !(c.kind x==some .local&&pos.line==(Expr.ListComp elt gens scope p).pos.line && !(scope.names.any λ(n,k)=>n==x&&(k==.local||k==.cell))):=rfl;rw[e2,kd]at hp;unfold swapsWith;dsimp only;rw[HN hk];have:(env.kindOf x==some .local&&pos.line==(Expr.ListComp elt gens scope p).pos.line && !(scope.names.any λ(n,k)=>n==x&&(k==.local||k==.cell)))=true:=by simpa using hp
 show pure (true&&env.kindOf x==some .local&&pos.line==(Expr.ListComp elt gens scope p).pos.line && !(scope.names.any λ(n,k)=>n==x&&(k==.local||k==.cell)))=_;rw[Bool.true_and,this]
theorem kK(ht:Ei t=none):swapsWith (.ListComp elt gens scope p) (some t) line env=pure false:=by unfold swapsWith;cases t<;>first|rfl|exact Dm ht.symm
theorem mS(ht:Ei t=none):swapsWith (.DictComp k v gens scope p) (some t) line env=pure false:=by unfold swapsWith;cases t<;>first|rfl|exact Dm ht.symm
theorem F5(ht:Ei t=none)(hp:BE t v c=true):swapsWith v (some t) line env=pure false:=by cases v<;>first|rfl|exact DA hp|exact kK ht|exact mS ht
theorem Xf(ht:∀x p,t≠.Name x p):Ei t=none:=by
 cases e:Ei t with
 |none=>rfl
 |some x=>exact AP (Dr e) λp q=>absurd q (ht x p)
theorem ZO(ht:∀x p,t≠.Name x p)(hp:BE t v c=true):swapsWith v (some t) line env=pure false:=F5 (Xf ht) hp
theorem Ml(h:Fc v=none):swappedStores [.Tuple xs n p] v env=pure none:=by cases v<;>first|rfl|exact Dm h.symm
theorem eU{a z s k d e f:Bool}{names:List Str}{r:Option (List Str)}{u:Sem (Option (List Str))}(hz:z=false)(hs:k=true->s=false)
  (h:(if a=true then some none else if(!k)=true then none else if d=true then some none else if e=true then some none else if f=true then none else some (some names))=some r) :
  (if(a||z)=true then pure none else if s=true then pure none else if d=true then pure none else if e=true then pure none else if f=true then u else pure (some names):Sem (Option (List Str)))=pure r:=by
 subst hz;rw[Bool.or_false];cases a with
 |true=>exact congrArg pure (Option.some.inj h)
 |false=>
  cases k with
  |false=>exact Dm h
  |true=>
   rw[hs rfl];cases d with
   |true=>exact congrArg pure (Option.some.inj h)
   |false=>
    cases e with
    |true=>exact congrArg pure (Option.some.inj h)
    |false=>
     cases f with
     |true=>exact Dm h
     |false=>exact congrArg pure (Option.some.inj h)
theorem Ux{env:Env}(hk:env.scope.kind=.function)(kd:∀x,c.kind x=env.kindOf x){xs:List Expr}{n:Nat}{p:Pos}{v:Expr}{r:Option (List Str)}(h:Nn c xs v=some r):swappedStores [.Tuple xs n p] v env=pure r:=by
 unfold Nn at h;cases e:Fc v with
 |none=>rw[e]at h;rw[Ml e,Option.some.inj h]
 |some vs=>rw[e]at h;refine KH (Gp e) λm q eqq=>?_;subst eqq;replace h:oY c.kind xs vs=some r:=h;rw[show c.kind=env.kindOf from funext kd]at h;unfold oY at h;unfold swappedStores;dsimp only at h⊢;rw[HN hk];refine eU rfl (λc2=>List.any_eq_false.mpr λx hx=>?_) h;have q:=List.all_eq_true.mp (Ct c2) x hx;clear h hx c2 e;cases x<;>first|exact Bool.false_ne_true|exact DA q
end
section
theorem Bo.reverse(h:Bo base κ l r):Bo base κ l.reverse r.reverse:=by
 induction l generalizing r with
 |nil=>cases h.nn;exact .nil
 |cons a l ih=>
  cases h.cc with
  |mk x y=>rw[List.reverse_cons,List.reverse_cons];exact(ih y).append (.cons x .nil)
theorem Wl(S:E6 Γ c ex P X)(hA:Gb Γ A c.plain)(hP:P fr)(ar:AR Γ κ Γ.env ex fr σ h)
  (hn:¬BE (.Name x px) (.ListComp elt gens scope lp) c=true) (o:Bf Γ ex κ P X (Aa (ev (.ListComp elt gens scope lp) c fr) (λu=>Aa (HL (.Name x px) u (.ListComp elt gens scope lp) c fr) λfr'=>ret (.next fr')) σ) Q E) :
  wpAny Γ.M A (exec (.Assign [.Name x px] (.ListComp elt gens scope lp) pos) Γ.env) Q E (Γ.at h tk):=by
 have C:=S.cc hA;by_cases hc:CF c scope gens=true
 ·have ee:ev (.ListComp elt gens scope lp) c fr=Aa (Cs (gen gens true (C5 c scope) (Bh scope fr) c fr (Je elt (C5 c scope)))) (λl=>ret (.lst l)):=if_pos hc;rw[ee]at o;refine X4 (Ce hc) λhp hcm hk n1 n2 n3 h8 hg=>?_;cases gens with
  |nil=>exact absurd h8.1 (by decide)
  |cons g gs=>
   obtain⟨gt,gi,gf,ga⟩:=g;have ha:ga=0:=(hg _ (.head _)).2.1;subst ha;cases hr:gen (⟨gt,gi,gf,0⟩::gs) true (C5 c scope) (Bh scope fr) c fr (Je elt (C5 c scope)) σ with
   |stuck=>rw[Ao (Ao (CD hr))]at o;exact o.elim
   |exc e σ₁=>rw[Ao (Ao (ET hr))]at o;exact o.elim
   |ok ys σ₂=>
    rw[Ae (show Aa (Cs (gen (⟨gt,gi,gf,0⟩::gs) true (C5 c scope) (Bh scope fr) c fr (Je elt (C5 c scope)))) (λl=>ret (V.lst l)) σ=.ok (.lst ys) σ₂ from Ae (Bk hr))]at o;replace o:Bf Γ ex κ P X (Aa (if AW c x=true then ret (Ac fr x (.lst ys)) else AB) (λfr'=>ret (.next fr')) σ₂) Q E:=o;by_cases hm:AW c x=true
    ·rw[if_pos hm]at o;replace o:Bf Γ ex κ P X (.ok (.next (Ac fr x (.lst ys))) σ₂) Q E:=o;rw[exec_Assign_Name_used _ _ _ _ (NP C.ok.kind C.kind hn)];refine wpAny_bind (wpAny_standAt (wpAny_bind ?_));show wpAny _ A (do let _<-comprehension (.ListComp elt (⟨gt,gi,gf,0⟩::gs) scope lp) scope Γ.env _ (newList []) false (eval gi Γ.env) (some (assign (.Name x px) Γ.env))) _ _ _;have CC:=λ(Cc:Addr)=>EC (A:=A) C hk (CQ scope Γ.env) Cc fr;refine wpAny_bind (wpAny_mono (Fh (pos:=lp) (Q:=λ_ s'=>Q .next s') C (BU.ev _ _ _ _ _ _ C) (λg _ Cc fr'=>BU.ev _ _ _ _ _ _ (CC Cc)) (λg _ Cc fr' e _=>BU.tst _ _ _ _ _ _ (CC Cc)) (λCc fr'=>BU.ev _ _ _ _ _ _ (CC Cc)) ar hc hr λκ' h' tk' D Cc oD oC' q' ar' ac' lD lC hDC=>?_) (λ_ s' hq=>wpAny_pure (wpAny_pure hq)) λ_ _ e=>e);obtain⟨zs,n,rfl,rz⟩:=ac';obtain⟨g,m,led,cel,im,d,nm⟩:=id ar';refine Au nm.ns λcm n1' _=>?_;have nsC:h'.Ns Cc cm:=Se d n1';have hC:h'.get? Cc=some oC':=(d.N (Cc,oC') (by simp)).1;have ar₈:AR Γ κ' Γ.env ((Cc,oC')::(D,PySem.W.listOf zs.toArray n)::ex) fr σ₂ h':=(HM ar' S.nk).perm (List.Perm.swap _ _ _);have ar₉:=(ar₈.perm (List.Perm.swap _ _ _)).freeze lD;have rv:RV Γ.base (κ'.put D (PySem.W.listOf zs.toArray n)) (.lst ys) (.ref D):=.lst (arr:=zs.toArray) (ep:=n) Wd.put_pf (Bo.le Wd.put_le (show Bo Γ.base κ' ys (zs.toArray.toList) from by rw[List.toList_toArray];exact rz));refine wpAny_assign_Name (DF C.ok S.nk C.kind hm ar₉ rv λh₂ tk₂ ar₁=>?_);have hC₂:h₂.get? Cc=some oC':=by
      obtain⟨g,m,led,cel,im,d,nm⟩:=id ar₁;exact(d.N (Cc,oC') (by simp)).1
     have nsC₂:h₂.Ns Cc cm:=nsC.at' λo e=>by rw[hC]at e;cases e;exact hC₂
     refine⟨cm,nsC₂,λh₃ hs₃=>?_⟩;have hm':=hm;unfold AW at hm';exact o _ h₃ _ (q'.trans Wd.put_le) (S.up _ _ _ hP (Dp hm')) (ar₁.drop lC λb o hb e=>hs₃.extBut b o hb e)
    ·rw[if_neg hm]at o;exact o.elim
 ·have ee:ev (.ListComp elt gens scope lp) c fr=AB:=if_neg hc;rw[ee]at o;exact o.elim
inductive K5:Expr->Prop
 |att (o:Expr) (n:Str) (p:Pos):K5 (.Attribute o n p)
 |sub (o i:Expr) (p:Pos):K5 (.Subscript o i p)
 |nam (x:Str) (p:Pos):K5 (.Name x p)
 |tup (xs:List Expr) (n:Nat) (p:Pos):K5 (.Tuple xs n p)
theorem Xd(h:qW t=true):K5 t:=by
 rcases Bool.or_eq_true_iff.mp h with h|h;·exact Expr.Name.elim (motive_1:=K5) t (of_decide_eq_true h) λ_ _=>.nam _ _
 rcases Bool.or_eq_true_iff.mp h with h|h;·exact Expr.Attribute.elim (motive_1:=K5) t (of_decide_eq_true h) λ_ _ _=>.att _ _ _
 rcases Bool.or_eq_true_iff.mp h with h|h;·exact Expr.Subscript.elim (motive_1:=K5) t (of_decide_eq_true h) λ_ _ _=>.sub _ _ _
 ·exact Expr.Tuple.elim (motive_1:=K5) t (of_decide_eq_true h) λ_ _ _=>.tup _ _ _
inductive bA:Expr->Prop
 |mk (e:Expr) (g:List Comprehension) (s:Scope) (p:Pos):bA (.ListComp e g s p)
theorem Oj(h:V3 (.Name x p) v=true):bA v:=Expr.ListComp.elim (motive_1:=bA) v (of_decide_eq_true (Dp h)) .mk
theorem pO{α β γ δ ε:Type}{f:Mo α}{g:α->Mo β}{h:α->β->Mo γ}{k:α->β->γ->Mo δ}{l:δ->Mo ε}:Aa (Aa f λa=>Aa (g a) λb=>Aa (h a b) (k a b)) l=Aa f λa=>Aa (g a) λb=>Aa (h a b) λq=>Aa (k a b q) l:=by rw[B1];exact congrArg (Aa f) (funext λb=>Si)
section
theorem Xc(S:E6 Γ c ex P X)(hA:Gb Γ A c.plain)(hP:P fr)(ar:AR Γ κ Γ.env ex fr σ h)(hp:BE (.Attribute ob name pa) v c=true)
  (o:Bf Γ ex κ P X (Aa (ev v c fr) (λu=>Aa (HL (.Attribute ob name pa) u v c fr) λfr'=>ret (.next fr')) σ) Q E):wpAny Γ.M A (exec (.Assign [.Attribute ob name pa] v pos) Γ.env) Q E (Γ.at h tk):=by
 have C:=S.cc hA;refine plainObj_wpAny_Assign_Attribute ((BU.ev _ _ _ _ _ v C).use ar (BV S hP o λu σ₁ _ κ₁ h₁ tk₁ y q₁ ar₁ ry o₁=>?_)) (F5 rfl hp);rw[show Aa (HL (.Attribute ob name pa) u v c fr) (λfr'=>ret (Az.next fr'))=Aa (ev ob c fr) λov=>Aa (Cp c ov name u) λ_=>ret (.next fr) from Si]at o₁;refine(BU.ev _ _ _ _ _ ob C).use ar₁ (BV S hP o₁ λov σ₂ _ κ₂ h₂ tk₂ x q₂ ar₂ rx o₂=>?_);exact MN C ar₂ rx (ry.le q₂) (BV (R:=Jy) S hP o₂ λ_ σ₃ _ κ₃ h₃ tk₃ _ q₃ ar₃ _ o₃=>o₃ κ₃ h₃ tk₃ .refl hP ar₃)
theorem Zi{ob i:Expr}{pa:Pos}(S:E6 Γ c ex P X)(hA:Gb Γ A c.plain)(hP:P fr)(ar:AR Γ κ Γ.env ex fr σ h)(hp:BE (.Subscript ob i pa) v c=true)
  (o:Bf Γ ex κ P X (Aa (ev v c fr) (λu=>Aa (HL (.Subscript ob i pa) u v c fr) λfr'=>ret (.next fr')) σ) Q E):wpAny Γ.M A (exec (.Assign [.Subscript ob i pa] v pos) Γ.env) Q E (Γ.at h tk):=by
 have C:=S.cc hA;refine wpAny_Assign_Subscript ((BU.ev _ _ _ _ _ v C).use ar (BV S hP o λu σ₁ _ κ₁ h₁ tk₁ y q₁ ar₁ ry o₁=>?_)) (F5 rfl hp);rw[show Aa (HL (.Subscript ob i pa) u v c fr) (λfr'=>ret (Az.next fr'))=Aa (ev ob c fr) λov=>Aa (ev i c fr) λk=>Aa (A8 ov k u) λ_=>ret (.next fr) from pO]at o₁;refine(BU.ev _ _ _ _ _ ob C).use ar₁ (BV S hP o₁ λov σ₂ _ κ₂ h₂ tk₂ x q₂ ar₂ rx o₂=>?_);refine(BU.ev _ _ _ _ _ i C).use ar₂ (BV S hP o₂ λkv σ₃ _ κ₃ h₃ tk₃ z q₃ ar₃ rz o₃=>?_);exact Mc C ar₃ (rx.le q₃) rz (ry.le (q₂.trans q₃)) (BV (R:=Jy) S hP o₃ λ_ σ₄ _ κ₄ h₄ tk₄ _ q₄ ar₄ _ o₄=>o₄ κ₄ h₄ tk₄ .refl hP ar₄)
theorem WN(S:E6 Γ c ex P X)(hA:Gb Γ A c.plain)(hP:P fr)(ar:AR Γ κ Γ.env ex fr σ h)(hp:BE (.Name x px) v c=true)
  (o:Bf Γ ex κ P X (Aa (ev v c fr) (λu=>Aa (if AW c x=true then ret (Ac fr x u) else AB) λfr'=>ret (.next fr')) σ) Q E):wpAny Γ.M A (exec (.Assign [.Name x px] v pos) Γ.env) Q E (Γ.at h tk):=by
 have C:=S.cc hA;refine wpAny_Assign_Name ((BU.ev _ _ _ _ _ v C).use ar (BV S hP o λu σ₁ _ κ₁ h₁ tk₁ y q₁ ar₁ ry o₁=>?_)) (NU C.ok.kind C.kind hp);by_cases hm:AW c x=true;·rw[if_pos hm]at o₁;exact DF C.ok S.nk C.kind hm ar₁ ry λh₂ tk₂ ar₂=>o₁ κ₁ h₂ tk₂ .refl (S.up _ _ _ hP (Dp hm)) ar₂
 ·rw[if_neg hm]at o₁;exact o₁.elim
theorem Y0(S:E6 Γ c ex P X)(hA:Gb Γ A c.plain)(hP:P fr)(ar:AR Γ κ Γ.env ex fr σ h)(hp:BE (.Tuple xs n pa) v c=true)(es:Nn c xs v=some none)
  (o:Bf Γ ex κ P X (Aa (ev v c fr) (λu=>Aa (CS (.Tuple xs n pa) u c fr) λfr'=>ret (.next fr')) σ) Q E):wpAny Γ.M A (exec (.Assign [.Tuple xs n pa] v pos) Γ.env) Q E (Γ.at h tk):=by
 have C:=S.cc hA;exact Assign_Tuple ((BU.ev _ _ _ _ _ v C).use ar (BV S hP o λu σ₁ _ κ₁ h₁ tk₁ y q₁ ar₁ ry o₁=>OZ S hA hP ar₁ ry o₁ λfr' h₂ tk₂ hP' ar₂ o₂=>o₂ κ₁ h₂ tk₂ .refl hP' ar₂)) (show swapsWithSole [.Tuple xs n pa] v pos.line Γ.env=pure false from F5 (env:=Γ.env) (line:=pos.line) rfl hp) (Ux C.ok.kind C.kind es)
theorem Zn(S:E6 Γ c ex P X)(hA:Gb Γ A c.plain)(hP:P fr)(ar:AR Γ κ Γ.env ex fr σ h)(hp:BE (.Tuple xs n pa) v c=true)(es:Nn c xs v=some (some ns))
  (o:Bf Γ ex κ P X (Aa (ev v c fr) (λu=>Aa (Fo ns u c fr) λfr'=>ret (.next fr')) σ) Q E):wpAny Γ.M A (exec (.Assign [.Tuple xs n pa] v pos) Γ.env) Q E (Γ.at h tk):=by
 have C:=S.cc hA;refine Assign_Tuple_swapped ((BU.ev _ _ _ _ _ v C).use ar (BV S hP o λu σ₁ _ κ₁ h₁ tk₁ y q₁ ar₁ ry o₁=>?_)) (show swapsWithSole [.Tuple xs n pa] v pos.line Γ.env=pure false from F5 (env:=Γ.env) (line:=pos.line) rfl hp) (Ux C.ok.kind C.kind es);cases u with
 |tup l=>
  replace o₁:Bf Γ ex κ₁ P X (Aa (if(ns.length==l.length)=true then D6 ns.reverse l.reverse c fr else AB) (λfr'=>ret (.next fr')) σ₁) Q E:=o₁;by_cases hl:(ns.length==l.length)=true
  ·rw[if_pos hl]at o₁;have hl:=eq_of_beq hl;unfold D6 at o₁;by_cases hq:(c.plain&&ns.reverse.all (AW c)&&ns.reverse.length==l.reverse.length)=true
   ·rw[if_pos hq]at o₁;refine D3 hq λhq _=>?_;refine D3 hq λhq ha=>?_;cases eu:Ca fr ns.reverse l.reverse with
    |none=>rw[eu]at o₁;exact o₁.elim
    |some fr'=>
     rw[eu]at o₁;replace o₁:Bf Γ ex κ₁ P X (.ok (.next fr') σ₁) Q E:=o₁;cases ry.tt with
     |@mk a arr ep p rs=>
      have hz:ns.length=arr.size:=by rw[hl,rs.length];simp
      rw[hz];refine unpackItems_tuple (s:=Γ.at h₁ tk₁) (hA.handled hq) (Et ar₁ p) λh₂ he=>?_;exact MR C.ok S.nk C.kind ha rs.reverse eu (ar₁.ext he) λh₃ tk₃ ar₃=>o₁ κ₁ h₃ tk₃ .refl (I6 S.up ha eu hP) ar₃
   ·rw[if_neg hq]at o₁;exact o₁.elim
  ·rw[if_neg hl]at o₁;exact o₁.elim
 |_=>exact o₁.elim
theorem NW(S:E6 Γ c ex P X)(hA:Gb Γ A c.plain)(hP:P fr)(ar:AR Γ κ Γ.env ex fr σ h)
  (o:Bf Γ ex κ P X ((if OR t v c=true then Aa (ev v c fr) λu=>Aa (HL t u v c fr) λfr'=>ret (.next fr') else AB) σ) Q E):wpAny Γ.M A (exec (.Assign [t] v pos) Γ.env) Q E (Γ.at h tk):=by
 by_cases hg:OR t v c=true
 ·rw[if_pos hg]at o;refine D3 hg λht hg=>?_;refine D3 ht λht hsw=>?_;have hp:=Bool.or_eq_true_iff.mp hg;clear hg;cases Xd ht with
  |att ob name pa=>exact Xc S hA hP ar (hp.resolve_right nofun) o
  |sub ob i pa=>exact Zi S hA hP ar (hp.resolve_right nofun) o
  |nam x px=>
   by_cases hq:BE (.Name x px) v c=true;·exact WN S hA hP ar hq o
   ·cases Oj (hp.resolve_left hq);exact Wl S hA hP ar hq o
  |tup xs n pa=>
   have hp:=hp.resolve_right nofun;replace hsw:(Nn c xs v).isSome=true:=hsw;replace o:Bf Γ ex κ P X (Aa (ev v c fr) (λu=>Aa (match Nn c xs v with|some none=>CS (.Tuple xs n pa) u c fr|some (some ns)=>Fo ns u c fr|none=>AB) λfr'=>ret (.next fr')) σ) Q E:=o;cases es:Nn c xs v with
   |none=>rw[es]at hsw;exact DA hsw
   |some r=>
    rw[es]at o;cases r with
    |none=>exact Y0 S hA hP ar hp es o
    |some ns=>exact Zn S hA hP ar hp es o
 ·rw[if_neg hg]at o;exact o.elim
end
end
set_option backward.match.sparseCases false
theorem U5(S:E6 Γ c ex P X)(fr:Fm):E6 Γ (c.cl fr) ex (λf=>∀x v,fr x=some v->f x=some v) (λκ σ e x s=>IJ Γ κ Γ.env ex fr σ e x s) where
 cok:=λA p hA=>by have C:=S.cok A p hA;exact⟨C.ok,C.kind,C.glb,C.env,C.comp,C.nk,C.around,C.units,C.meth,C.own,C.exn,C.gkeep,C.tab,C.call⟩
 up:=λf x v hf hx z u e=>by have hx:(fr x).isNone=true:=hx;unfold Ac;rw[if_neg (λq=>by rw[q]at e;rw[e]at hx;cases hx)];exact hf z u e
 fl:=λf κ σ e x s hf ⟨hv,h',tk,a,e1,e2,ar,r⟩=>⟨hv,h',tk,a,e1,e2,ar.weak hf,r⟩
 ra:=λh=>nomatch h
 all:=λh=>nomatch h
 nk:=S.nk
 mkx:=S.mkx
 exm:=S.exm
 sub:=S.sub
noncomputable def pD(s:Stmt):Prop:=∀(Γ:BG) (c:Cx) (ex:List (Addr×Obj)) (P:Fm->Prop) (X:Wd->St->Ex->Value->Shared->Prop) (A:Around) (κ:Wd) (fr:Fm) (σ:St) (h:Heap) (tk:Nat) (Q:Flow->Shared->Prop) (E:Value->Shared->Prop),
 E6 Γ c ex P X->Gb Γ A c.plain->P fr->AR Γ κ Γ.env ex fr σ h->Bf Γ ex κ P X (Ny s c fr σ) Q E->wpAny Γ.M A (exec s Γ.env) Q E (Γ.at h tk)
noncomputable def aC(ss:List Stmt):Prop:=∀(Γ:BG) (c:Cx) (ex:List (Addr×Obj)) (P:Fm->Prop) (X:Wd->St->Ex->Value->Shared->Prop) (A:Around) (κ:Wd) (fr:Fm) (σ:St) (h:Heap) (tk:Nat) (Q:Flow->Shared->Prop) (E:Value->Shared->Prop),
 E6 Γ c ex P X->Gb Γ A c.plain->P fr->AR Γ κ Γ.env ex fr σ h->Bf Γ ex κ P X (Fv ss c fr σ) Q E->wpAny Γ.M A (execs ss Γ.env) Q E (Γ.at h tk)
theorem XK(hc:FQ e=true):swapsWith e none line env=pure false:=by cases e<;>first|rfl|exact DA hc
section
theorem Yu(S:E6 Γ c ex P X)(hA:Gb Γ A c.plain)(hP:P fr)(ar:AR Γ κ Γ.env ex fr σ h)(o:Bf Γ ex κ P X (Ny (.Return e pos) c fr σ) Q E):wpAny Γ.M A (exec (.Return e pos) Γ.env) Q E (Γ.at h tk):=by
 cases e with
 |none=>exact wpAny_Return_none (o κ h tk .none fr .refl ar .none)
 |some e=>replace o:Bf Γ ex κ P X (Aa (ev e c fr) (λv=>ret (.rets v)) σ) Q E:=o;exact wpAny_Return_some ((BU.ev _ _ _ _ _ e (S.cc hA)).use ar (BV S hP o λv σ₁ _ κ₁ h₁ tk₁ y q₁ ar₁ ry o₁=>o₁ κ₁ h₁ tk₁ y fr .refl ar₁ ry))
theorem gG(ha:aC a)(hb:aC b)(S:E6 Γ c ex P X)(hA:Gb Γ A c.plain)(hP:P fr)(ar:AR Γ κ Γ.env ex fr σ h)(o:Bf Γ ex κ P X (Ny (.If t a b pos) c fr σ) Q E):wpAny Γ.M A (exec (.If t a b pos) Γ.env) Q E (Γ.at h tk):=by
 replace o:Bf Γ ex κ P X (Aa (tst t c fr (ev t c fr)) (λq=>if q=true then Fv a c fr else Fv b c fr) σ) Q E:=o;refine wpAny_If ((BU.tst _ _ _ _ _ t (S.cc hA)).use ar (BV S hP o λq σ₁ _ κ₁ h₁ tk₁ y q₁ ar₁ ry o₁=>?_));have ry:q=y:=ry;subst ry;cases q with
 |true=>exact ha _ _ _ _ _ _ _ _ _ _ _ _ _ S hA hP ar₁ o₁
 |false=>exact hb _ _ _ _ _ _ _ _ _ _ _ _ _ S hA hP ar₁ o₁
theorem YC(hb:aC body)(S:E6 Γ c ex P X)(hA:Gb Γ A c.plain)(ar:AR Γ κ Γ.env ex fr σ h)(o:Bf Γ ex κ P X (Ny (.Try body hdl orelse CA pos) c fr σ) Q E):wpAny Γ.M A (exec (.Try body hdl orelse CA pos) Γ.env) Q E (Γ.at h tk):=by
 replace o:Bf Γ ex κ P X ((if(orelse.isEmpty&&CA.isEmpty && !c.calm&&c.plain && !hdl.isEmpty)=true then Jo (Fv body (c.cl fr) fr) hdl c fr else AB) σ) Q E:=o;by_cases hg:(orelse.isEmpty&&CA.isEmpty && !c.calm&&c.plain && !hdl.isEmpty)=true
 ·rw[if_pos hg]at o;simp only[Bool.and_eq_true,Bool.not_eq_true',List.isEmpty_iff]at hg;obtain⟨⟨⟨⟨rfl,rfl⟩,hcalm⟩,hp⟩,hne⟩:=hg;cases hdl with
  |nil=>exact DA hne.symm
  |cons h₀ hs₀=>
   refine wpAny_Try_except (hb _ _ _ _ _ _ _ _ _ _ _ _ _ (U5 S fr) hA (λ_ _ z=>z) ar ?_);unfold Jo at o;cases e:Fv body (c.cl fr) fr σ with
   |stuck=>rw[e]at o;exact o.elim
   |ok f σ₁=>
    rw[e]at o;cases f with
    |next fr'=>exact λκ₁ h₁ tk₁ q₁ _ ar₁=>wpAny_execs_nil (o κ₁ h₁ tk₁ q₁ (S.all hcalm fr') ar₁)
    |cont fr'=>exact λκ₁ h₁ tk₁ q₁ _ ar₁=>o κ₁ h₁ tk₁ q₁ (S.all hcalm fr') ar₁
    |rets v=>exact o
   |exc e' σ₁=>rw[e]at o;exact λκ₁ x s q₁ fl=>Uv BU S hA fl (Bf.le q₁ o)
 ·rw[if_neg hg]at o;exact o.elim
theorem VH(S:E6 Γ c ex P X)(hA:Gb Γ A c.plain)(hP:P fr)(ar:AR Γ κ Γ.env ex fr σ h)(o:Bf Γ ex κ P X (Ny (.Expr e pos) c fr σ) Q E):wpAny Γ.M A (exec (.Expr e pos) Γ.env) Q E (Γ.at h tk):=by
 have C:=S.cc hA;replace o:Bf Γ ex κ P X ((if FQ e=true then Aa (ev e c fr) λv=>(match v with|.none|.int _=>ret (.next fr)|_=>AB) else AB) σ) Q E:=o;by_cases hc:FQ e=true
 ·rw[if_pos hc]at o;refine wpAny_Expr ((BU.ev _ _ _ _ _ e C).use ar (BV S hP o λv σ₁ _ κ₁ h₁ tk₁ y q₁ ar₁ ry o₁=>?_)) (by unfold interactive;rw[C.ok.kind];rfl) (XK hc);cases v with
  |none=>cases ry.nn;exact o₁ κ₁ h₁ tk₁ .refl hP ar₁
  |int=>cases ry.ii;exact o₁ κ₁ h₁ tk₁ .refl hP ar₁
  |_=>exact o₁.elim
 ·rw[if_neg hc]at o;exact o.elim
end
theorem lL(h:sizeOf (Stmt.For t it b o p)<n+1):sizeOf b<n:=by rw[Stmt.For.sizeOf_spec]at h;exact la (oa (oa o0)) (dl (dl h))
theorem ZL(h:sizeOf (Stmt.If t a b p)<n+1):sizeOf a<n/\sizeOf b<n:=by rw[Stmt.If.sizeOf_spec]at h;exact⟨la (oa o0) (dl (dl h)),la (oa (oa o0)) (dl h)⟩
theorem mW(q:sizeOf (Stmt.Try b h o f p)<n+1):sizeOf b<n:=by rw[Stmt.Try.sizeOf_spec]at q;exact la o0 (dl (dl (dl (dl q))))
theorem UL{n:Nat}{s:Stmt}{r:List Stmt}(h:sizeOf (s::r)<n+1):sizeOf s<n/\sizeOf r<n:=by rw[List.cons.sizeOf_spec]at h;exact⟨la o0 (dl h),la (oa o0) h⟩
theorem iR(ih:∀ss:List Stmt,sizeOf ss<n->aC ss)(hs:sizeOf s<n+1):pD s:=by
 intro Γ c ex P X A κ fr σ h tk Q E S hA hP ar o;cases s with
 |Return e pos=>exact Yu S hA hP ar o
 |Assign ts v pos=>
  cases ts with
  |nil=>exact o.elim
  |cons t r=>
   cases r with
   |nil=>exact NW S hA hP ar o
   |cons=>exact o.elim
 |For t it body orelse pos=>
  cases orelse with
  |cons=>exact o.elim
  |nil=>exact eO BU S hA hP ar (λex' fr σ κ h tk Q E S' hP' ar' o'=>ih body (lL hs) Γ c ex' P _ A κ fr σ h tk Q E S' hA hP' ar' o') o
 |If t a b pos=>exact gG (ih a (ZL hs).1) (ih b (ZL hs).2) S hA hP ar o
 |Raise x cause pos=>
  cases x with
  |none=>exact o.elim
  |some x=>
   cases cause with
   |some=>exact o.elim
   |none=>exact RB BU S hA ar o
 |Try body hdl orelse CA pos=>exact YC (ih body (mW hs)) S hA ar o
 |Expr e pos=>exact VH S hA hP ar o
 |Pass pos=>exact wpAny_Pass (o κ h tk .refl hP ar)
 |Continue pos=>exact wpAny_Continue (o κ h tk .refl hP ar)
 |_=>exact o.elim
theorem mR(hs:pD s)(hr:aC r):aC (s::r):=by
 intro Γ c ex P X A κ fr σ h tk Q E S hA hP ar o;replace o:Bf Γ ex κ P X (Aa (Ny s c fr) (λq=>match q with|.next fr'=>Fv r c fr'|q=>ret q) σ) Q E:=o;refine wpAny_execs_cons (hs Γ c ex P X A κ fr σ h tk _ _ S hA hP ar ?_);cases e:Ny s c fr σ with
 |stuck=>rw[Ao e]at o;exact o.elim
 |exc x σ₁=>rw[AQ e]at o;exact o
 |ok f σ₁=>
  rw[Ae e]at o;cases f with
  |next fr'=>exact λκ₁ h₁ tk₁ q₁ hP₁ ar₁=>hr Γ c ex P X A κ₁ fr' σ₁ h₁ tk₁ Q E S hA hP₁ ar₁ (Bf.le q₁ o)
  |cont fr'=>exact o
  |rets v=>exact o
theorem PV(n:Nat):(∀s:Stmt,sizeOf s<n->pD s)/\∀ss:List Stmt,sizeOf ss<n->aC ss:=by
 induction n with
 |zero=>exact⟨λ_ h=>absurd h (Nat.not_lt_zero _),λ_ h=>absurd h (Nat.not_lt_zero _)⟩
 |succ n ih=>
  refine⟨λs hs=>iR ih.2 hs,λss hs=>?_⟩;cases ss with
  |nil=>exact λΓ c ex P X A κ fr σ h tk Q E S hA hP ar o=>wpAny_execs_nil (o κ h tk .refl hP ar)
  |cons s r=>exact mR (ih.1 s (UL hs).1) (ih.2 r (UL hs).2)
set_option backward.match.sparseCases true
section
theorem AR.grow(ar:AR Γ κ ce ex fr σ h)(k:∀b o,h.get? b=some o->h'.get? b=some o):AR Γ κ ce ex fr σ h':=by obtain⟨g,m,led,cel,im,d,nm⟩:=ar;exact⟨g,m,led,cel,im,d.same ⟨d.F.ns.at' λo e=>k _ o e,λb o e=>k b o (d.F.keep b o e),d.F.above⟩ λq hq=>⟨k _ _ (d.N q hq).1,(d.N q hq).2⟩,nm⟩
section
abbrev BB(Γ:BG)(ce:Env)(fr:Fm)(κ:Wd)(ex:List (Addr×Obj))(r:C6 V)(Q:Value->Shared->Prop)(E:Value->Shared->Prop):Prop:=Bq Γ ce fr κ ex (RV Γ.base) r Q E
theorem B7(rs:Bo Γ.base κ vs xs)(o:BB Γ ce fr κ ex (GN vs F σ) Q E):∃v x,xs = [x]/\RV Γ.base κ v x/\BB Γ ce fr κ ex (F v σ) Q E:=by
 cases rs with
 |nil=>exact o.elim
 |cons a b=>cases b with
  |nil=>exact⟨_,_,rfl,a,o⟩
  |cons=>exact o.elim
theorem FL(rs:Bo Γ.base κ vs xs)(o:BB Γ ce fr κ ex (Nw vs F σ) Q E):∃v x u y,xs = [x,y]/\RV Γ.base κ v x/\RV Γ.base κ u y/\BB Γ ce fr κ ex (F v u σ) Q E:=by
 cases rs with
 |nil=>exact o.elim
 |cons a b=>refine Cz (B7 b o) λu y eqq2 r o=>?_;subst eqq2;exact⟨_,_,u,y,rfl,a,r,o⟩
theorem Nd(rs:Bo Γ.base κ vs xs)(o:BB Γ ce fr κ ex (Vi vs F σ) Q E):∃v x u y t z,xs = [x,y,z]/\RV Γ.base κ v x/\RV Γ.base κ u y/\RV Γ.base κ t z/\BB Γ ce fr κ ex (F v u t σ) Q E:=by
 cases rs with
 |nil=>exact o.elim
 |cons a b=>refine Hm (FL b o) λu y t z eqq4 r r' o=>?_;subst eqq4;exact⟨_,_,u,y,t,z,rfl,a,r,r',o⟩
theorem FH(r:RV Γ.base κ v x)(o:BB Γ ce fr κ ex (G0 v F σ) Q E):∃n t,x=.int n t/\BB Γ ce fr κ ex (F n σ) Q E:=by cases r<;>first|exact o.elim|exact⟨_,_,rfl,o⟩
theorem U9(r:RV Γ.base κ v x)(o:BB Γ ce fr κ ex (K8 v F σ) Q E):∃n,x=.bool n/\BB Γ ce fr κ ex (F n σ) Q E:=by cases r<;>first|exact o.elim|exact⟨_,rfl,o⟩
theorem LM(r:RV Γ.base κ v x)(o:BB Γ ce fr κ ex (J5 v F σ) Q E):∃l a arr ep,x=.ref a/\Pf Γ.base κ a (KP arr ep)/\Bo Γ.base κ l arr.toList/\BB Γ ce fr κ ex (F l σ) Q E:=by cases r<;>first|exact o.elim|exact⟨_,_,_,_,rfl,by assumption,by assumption,o⟩
theorem EZ(r:RV Γ.base κ v x)(o:BB Γ ce fr κ ex (FG v F σ) Q E):∃i a,x=.ref a/\RV Γ.base κ (.obj i) (.ref a)/\BB Γ ce fr κ ex (F i σ) Q E:=by cases r<;>first|exact o.elim|exact⟨_,_,rfl,.obj (by assumption),o⟩
theorem IY(o:BB Γ ce fr κ ex (CB l F σ) Q E):∃ns,CI l=some ns/\BB Γ ce fr κ ex (F ns σ) Q E:=by
 unfold CB at o;cases e:CI l with
 |none=>rw[e]at o;exact o.elim
 |some ns=>rw[e]at o;exact⟨ns,rfl,o⟩
theorem Er(o:BB Γ ce fr κ ex (BJ i F σ) Q E):∃es n,σ[i]?=some (.dict es n)/\BB Γ ce fr κ ex (F es n σ) Q E:=by
 unfold BJ at o;cases e:σ[i]? with
 |none=>rw[e]at o;exact o.elim
 |some ao=>rw[e]at o;cases ao<;>first|exact o.elim|exact⟨_,_,rfl,o⟩
theorem S9(o:BB Γ ce fr κ ex (Ft i F σ) Q E):∃l,σ[i]?=some (.list l)/\BB Γ ce fr κ ex (F l σ) Q E:=by
 unfold Ft at o;cases e:σ[i]? with
 |none=>rw[e]at o;exact o.elim
 |some ao=>rw[e]at o;cases ao<;>first|exact o.elim|exact⟨_,rfl,o⟩
theorem cP(ar:AR Γ κ ce ex fr σ h)(rs:Bo Γ.base κ vs xs)(o:BB Γ ce fr κ ex (kM vs σ) Q E):wpAny Γ.M A (PySem.call (.builtin "abs") xs) Q E (Γ.at h tk):=by refine Cz (B7 rs o) λv x eqq2 r o=>?_;subst eqq2;refine CX (FH r o) λn t eqq2 o=>?_;subst eqq2;exact PyProof.Rows.call_abs_int (s:=Γ.at h tk) λu tk'=>An o .refl ar (.int _ u)
theorem Z6(hh:A.handled=none)(ar:AR Γ κ ce ex fr σ h)(rs:Bo Γ.base κ vs xs)(o:BB Γ ce fr κ ex (nC vs σ) Q E):wpAny Γ.M A (PySem.call (.builtin "max") xs) Q E (Γ.at h tk):=by
 refine Hm (FL rs o) λv x u y eqq4 r r' o=>?_;subst eqq4;refine CX (FH r o) λa t eqq2 o=>?_;subst eqq2;refine CX (FH r' o) λb t' eqq2 o=>?_;subst eqq2;refine max_two_ints (s:=Γ.at h tk) hh λh' tk' k=>?_;split<;>rename_i hc;·rw[if_pos hc]at o;exact An o .refl (ar.grow k) (.int _ _)
 ·rw[if_neg hc]at o;exact An o .refl (ar.grow k) (.int _ _)
theorem cT(ar:AR Γ κ ce ex fr σ h)(rs:Bo Γ.base κ vs xs)(o:BB Γ ce fr κ ex (kY vs σ) Q E):wpAny Γ.M A (PySem.call (.type "int") xs) Q E (Γ.at h tk):=by refine Cz (B7 rs o) λv x eqq2 r o=>?_;subst eqq2;refine Au (U9 r o) λb eqq1 o=>?_;subst eqq1;exact call_int_bool (s:=Γ.at h tk) (An o .refl ar (.int _ _))
theorem fK(ar:AR Γ κ ce ex fr σ h)(rs:Bo Γ.base κ vs xs)(o:BB Γ ce fr κ ex (nA vs σ) Q E):wpAny Γ.M A (PySem.call (.type "bool") xs) Q E (Γ.at h tk):=by refine Cz (B7 rs o) λv x eqq2 r o=>?_;subst eqq2;refine CX (FH r o) λb t eqq2 o=>?_;subst eqq2;exact call_bool_int (s:=Γ.at h tk) (An o .refl ar (.bool _))
theorem bH(ar:AR Γ κ ce ex fr σ h)(rs:Bo Γ.base κ vs xs)(o:BB Γ ce fr κ ex (nD vs σ) Q E):wpAny Γ.M A (PySem.call (.type "range") xs) Q E (Γ.at h tk):=by refine Cz (B7 rs o) λv x eqq2 r o=>?_;subst eqq2;refine CX (FH r o) λn t eqq2 o=>?_;subst eqq2;refine AG (Be o) λhg o=>?_;have hg:=of_decide_eq_true hg;refine call_range_1 (s:=Γ.at h tk) ?_;refine An o Wd.put_le (ar.push _ rfl) (.rng (t:=(Γ.at h tk).toks) (u:=t) (v:=(Γ.at h tk).toks+1) ?_);rw[Int.toNat_of_nonneg hg.1];exact Wd.put_pf
theorem WO(hd:(d==sysModules)=false)(ho:s.heap.get? d=some (dictOf ds n))(hfit:(ds.length:Int)<2^63)
  (q:∀t tk,Q (.int ds.length t) {s with toks:=tk}):wpAny (model prog w) A (PySem.call (.builtin "len") [.ref d]) Q E s:=by
 have ty:s.TypeIs (.ref d) "dict" := ⟨_,ho,rfl⟩
 have mt:MeetsIn prog w (Builtin.«dict.__len__» ⟨[.ref d],[]⟩) (λ_ R s=>s.heap.get? d=some (dictOf ds n)/\R (.ok (.ret (.int ds.length s.toks))) {s with toks:=s.toks+1}):=.of_wp λA R s ⟨ho,h⟩=>by
  show wpAny _ _ (dictSize d >>= _) _ _ s;unfold dictSize;refine wpAny_bind (wpAny_bind (wpAny_dictEntries ho rfl (wpAny_pure ?_)));show wpAny _ _ (Builtin.Dict.pendingCount d >>= _) _ _ s;refine wpAny_bind (wpAny_pendingCount_other hd ?_);refine wpAny_ret_mkInt ?_
  simpa using h
 refine Calls.call_function_entry kind_len plain_len entry_len (args_len1 _) ?_;unfold Builtin.«len»;refine wpAny_bind (m:=oneArg "len" _) (wpAny_pure ?_);refine wpAny_bind (m:=callSpecial? (.ref d) (Str.ofString "__len__")) (wpAny_callSpecial?_slot (name:=Str.ofString "__len__") ty F.slot_dict_len
  (call_meetsIn F.slot_dict_len ty F.entry_dict_len (F.args_dict_len_1 _) mt ⟨ho,?_⟩))
 refine wpAny_bind (wpAny_holding (wpAny_pure ?_));refine wpAny_bind (wpAny_letGo ?_);show wpAny _ _ (if((ds.length:Nat):Int)<0 then _ else _) _ _ _;rw[if_neg (by lia)];show wpAny _ _ (if((ds.length:Nat):Int)≥2^63 then _ else _) _ _ _;rw[if_neg (by lia)];exact wpAny_bind (wpAny_mkInt (wpAny_pure ⟨_,rfl,q _ _⟩))
theorem fV(ok:Γ.Ok)(ar:AR Γ κ ce ex fr σ h)(rs:Bo Γ.base κ vs xs)(o:BB Γ ce fr κ ex (jO vs σ) Q E):wpAny Γ.M A (PySem.call (.builtin "len") xs) Q E (Γ.at h tk):=by refine Cz (B7 rs o) λv x eqq2 r o=>?_;subst eqq2;obtain⟨i,a,rfl,r,o⟩:=EZ r o;obtain⟨es,n,e,o⟩:=Er o;obtain⟨hg,o⟩:=Be o;have hg:=of_decide_eq_true hg;obtain⟨a',g,m,led,cel,im,ds,pre,post,ea,dd,nm,f',ka,nd,e3,ho,L⟩:=Cj ar e r;cases ea;rw[f'.length]at o hg;exact WO (s:=Γ.at h tk) (HT ok dd (o:=dictOf ds n) (by rw[e3];simp)) ho (by lia) λt tk=>An o .refl ar (.int _ _)
theorem aZ(ok:Γ.Ok)(hu:A.units+64<cLine)(ar:AR Γ κ ce ex fr σ h)(rs:Bo Γ.base κ vs xs)(o:BB Γ ce fr κ ex (N9 vs σ) Q E):wpAny Γ.M A (PySem.call (.builtin "dict.get") xs) Q E (Γ.at h tk):=by
 have hu1:A.in1.units<cLine:=Ki hu (by decide);have key:∀{i:Nat}{es:List (V×V)}{n:Nat}{a:Addr}{k d:V}{y z:Value}{rest:List Value},σ[i]?=some (.dict es n)->RV Γ.base κ (.obj i) (.ref a)->As es k=true->RV Γ.base κ k y->RV Γ.base κ d z->
   BB Γ ce fr κ ex (.ok ((AI es k).getD d) σ) Q E->PySem.argsOk "dict.get" ⟨.ref a::y::rest,[]⟩->(∃K,Builtin.«dict.get» ⟨.ref a::y::rest,[]⟩=(dictGet a y >>= K)/\(∀u,K (some u)=(PySem.ret u:Sem Fin))/\∃K',K none=(Builtin.Dict.missed a y >>= K')/\K' none=PySem.ret z)->
   wpAny Γ.M A (PySem.call (.builtin "dict.get") (.ref a::y::rest)) Q E (Γ.at h tk):=by
  intro i es n a k d y z rest e r kk rk rd o hargs ⟨K,ht,ht1,K',ht2,ht3⟩;obtain⟨a',g,m,led,cel,im,ds,pre,post,ea,dd,nm,f',ka,nd,e3,ho,L⟩:=Cj ar e r;cases ea;have ty:(Γ.at h tk).TypeIs (.ref a) "dict" := ⟨_,ho,rfl⟩
  refine wpAny_call_entry PySem.F.slot_dict_get ty PySem.F.entry_dict_get ?_ hargs;rw[ht];refine wpAny_bind (IS ok hu1 ar e r kk rk λtk' z' hs hn=>?_);cases eg:AI es k with
  |some v=>rw[eg]at o;refine Au (hs v eg) λu eqq1 ru=>?_;subst eqq1;rw[ht1];exact wpAny_pure ⟨u,rfl,AX o .refl ar ru⟩
  |none=>rw[eg]at o;rw[hn eg,ht2];refine wpAny_bind (wpAny_missed_other (HT ok dd (o:=dictOf ds n) (by rw[e3];simp)) ?_);rw[ht3];exact wpAny_pure ⟨z,rfl,AX o .refl ar rd⟩
 unfold N9 at o;by_cases hl:vs.length=2;·rw[if_pos hl]at o;refine Hm (FL rs o) λv x u y eqq4 r r' o=>?_;subst eqq4;obtain⟨i,a,rfl,r,o⟩:=EZ r o;obtain⟨es,n,e,o⟩:=Er o;obtain⟨kk,o⟩:=Be o;exact key e r kk r' .none o (PySem.F.args_dict_get_2 _ _) ⟨_,rfl,λ_=>rfl,_,rfl,rfl⟩
 ·rw[if_neg hl]at o;refine iP (Nd rs o) λv x u y t z eqq6 r r' r'' o=>?_;subst eqq6;obtain⟨i,a,rfl,r,o⟩:=EZ r o;obtain⟨es,n,e,o⟩:=Er o;obtain⟨kk,o⟩:=Be o;exact key e r kk r' r'' o (PySem.F.args_dict_get_3 _ _ _) ⟨_,rfl,λ_=>rfl,_,rfl,rfl⟩
theorem aT(ar:AR Γ κ ce ex fr σ h)(rs:Bo Γ.base κ vs xs)(o:BB Γ ce fr κ ex (X6 vs σ) Q E):wpAny Γ.M A (PySem.call (.builtin "list.append") xs) Q E (Γ.at h tk):=by
 refine Hm (FL rs o) λv x u y eqq4 r r' o=>?_;subst eqq4;obtain⟨i,a,rfl,r,o⟩:=EZ r o;obtain⟨l,e,o⟩:=S9 o;obtain⟨hl,o⟩:=Be o;have hl:=of_decide_eq_true hl;obtain⟨a',g,m,led,cel,im,xs,n,pre,post,ea,d,nm,f',e3,ho,L⟩:=FZ ar e r;cases ea;refine wpAny_list_append_plain (s:=Γ.at h tk) (l:=a) (items:=xs.toArray) ⟨n,ho⟩ (λh' hp hs=>?_) (by rw[List.size_toArray,<-f'.length,sizeLine_eq];lia);obtain⟨n',hg⟩:=hp;have hg':h'.get? a=some (PySem.W.listOf (xs++[y]).toArray n'):=by rw[hg];simp[PySem.W.listOf]
 refine AG (DY (o:=PySem.W.listOf xs.toArray n) (pre:=pre) (post:=post++cel++ex++im) d.F d.N (by rw[e3];simp) d.D hs hg') λF' N'=>?_;exact AX o .refl ⟨g,m,pre++[(a,PySem.W.listOf (xs++[y]).toArray n')]++post,cel,im,d.turn F' (by simpa using N') (L _ _ (.list (f'.append (.cons r' .nil)))) (by rw[e3];simp),nm⟩ .none
end
end
set_option tactic.hygienic true
section
theorem TQ:typeLookup (.type "bytes") "__bytes__" = pure (some (.builtin "bytes.__bytes__")):=by rw[typeLookup_type,builtinLookup_eq_fast];kernel_rfl
theorem Ua(hQ:Q (.bytes b t) s):codeAny (model prog w) A (.call (.builtin "bytes.__new__") ⟨[.type "bytes",.bytes b t],[]⟩) (wants Q E) s:=by refine codeAny_of_tree ?_;show wpAny _ A.in1 (do checkBuiltinCall "bytes.__new__" ⟨[.type "bytes",.bytes b t],[]⟩;again (.builtin "bytes.__new__" ⟨[.type "bytes",.bytes b t],[]⟩)) _ _ s;refine wpAny_bind (wpAny_of_eq (F.bm_newCall _) (wpAny_pure ⟨plainId_quiet F.bm_plain _,codeAny_builtin F.bm_entry ?_⟩));rw[Around.under_plainId F.bm_plain _];unfold Builtin.«bytes.__new__»;refine wpAny_bind (wpAny_of_eq (a:=true) rfl ?_);refine bm_if_false rfl ?_;refine wpAny_bind (wpAny_of_eq F.bm_sub ?_);refine bm_if_false rfl ?_;refine wpAny_bind (wpAny_of_eq (F.bm_bind _) ?_);refine wpAny_bind (wpAny_of_eq (a:=()) rfl ?_);refine wpAny_bind (wpAny_of_eq (a:=()) rfl ?_);refine bm_if_false rfl ?_;refine wpAny_bind (wpAny_of_eq (KBy.special_eq TQ) ?_);dsimp only;refine wpAny_bind (wpAny_rule ?_);refine wpAny_bind (wpAny_of_eq (a:=Value.type "bytes") rfl ?_);refine bm_if_true (by decide +kernel) ?_;exact wpAny_pure hQ
theorem Qr(hQ:Q (.bytes b t) s):wpAny (model prog w) A (PySem.call (.type "bytes") [.bytes b t]) Q E s:=by
 refine callType_codes (Q₁:=λobj s₁=>s₁.TypeIs obj "bytes" /\Q obj s₁) F.bm_called (F.bm_typeCall _) F.entry_object_init
  (Ua ⟨PySem.W.typeIs_bytes _ _ _,hQ⟩) λobj s₁ h₁=>?_
 exact⟨h₁.1,F.args_object_init_2 obj _,object_init_meets F.bm_called.init.lookup F.bm_called.made (by decide) prog w A.in1 _ s₁ ⟨h₁.1,rfl,h₁.2⟩⟩
end
set_option tactic.hygienic false
section
theorem gF(hh:A.handled=none)(ar:AR Γ κ ce ex fr σ h)(rs:Bo Γ.base κ vs xs)(o:BB Γ ce fr κ ex (kU vs σ) Q E):wpAny Γ.M A (PySem.call (.builtin "sum") xs) Q E (Γ.at h tk):=by
 refine Cz (B7 rs o) λv x eqq2 r o=>?_;subst eqq2;refine Hm (LM r o) λl a arr ep eqq4 p rl o=>?_;subst eqq4;refine Au (IY o) λns e o=>?_;have hi:=GA rl e;refine AP hi.allInts.items λys hy=>?_;have ha:arr=intItems ys:=by rw[<-hy]
 subst ha;refine sum_intListG (s:=Γ.at h tk) hh (Dy ar p) λh' tk' t' hk=>?_;have en:=hi.numsOf;rw[nums_intItems]at en;rw[preSum_eq,List.take_of_length_le (by simp),en];exact An o .refl (ar.grow hk) (.int _ _)
theorem hG(v:V):(∃b,v=.byt b)\/∀m,XG v m=m:=by
 cases v with
 |byt b=>exact .inl ⟨b,rfl⟩
 |_=>exact .inr λ_=>rfl
theorem aX(hh:A.handled=none)(ar:AR Γ κ ce ex fr σ h)(rs:Bo Γ.base κ vs xs)(o:BB Γ ce fr κ ex (iH vs σ) Q E):wpAny Γ.M A (PySem.call (.type "bytes") xs) Q E (Γ.at h tk):=by
 refine Cz (B7 rs o) λv x eqq2 r o=>?_;subst eqq2;rcases hG v with ⟨b,rfl⟩|hv;·cases r.yy;exact Qr (An o .refl ar (.byt _ _))
 rw[hv]at o;refine Hm (LM r o) λl a arr ep eqq4 p rl o=>?_;subst eqq4;refine Au (IY o) λns e o=>?_;refine AG (Be o) λhg o=>?_;simp only[Bool.and_eq_true,decide_eq_true_eq,List.all_eq_true]at hg;have hi:=GA rl e;have hl:=Dy ar p;refine call_bytes_ints (s:=Γ.at h tk) (vs:=arr.toList) (by rw[Array.toArray_toList];exact hl) hi hg.2 (by rw[hi.length,sizeLine_eq];lia) hh λh' t k hk=>?_;exact An o .refl (ar.grow hk) (.byt _ _)
theorem JL:∀{es:List (V×V)}{k:V}{i:Nat},Bi es k=some i->EK es k=es.eraseIdx i
 |[],k,i,e=>Dm e
 |(a,u)::r,k,i,e=>by
  show(if Ay a k=true then r else(a,u)::EK r k)=_;by_cases q:Ay a k=true;·rw[Gy q]at e;rw[if_pos q,<-Option.some.inj e];rfl
  ·refine Au (Ka q e) λj ej eqq=>?_;subst eqq;rw[if_neg q,JL ej];rfl
theorem Uc(n:Nat)(hj:j<ds.length):(dictOf ds n).mapDictKeys (λx=>x.eraseIdxIfInBounds j)=dictOf (ds.eraseIdx j) (n+1):=by show({cls:=.type "dict",data:=.dict (ds.toArray.eraseIdxIfInBounds j) (n+1)}:Obj)=_;simp[Array.eraseIdxIfInBounds,hj]
theorem Eh.erase(f:Eh base κ hsh es ds):∀i,Eh base κ hsh (es.eraseIdx i) (ds.eraseIdx i):=by
 induction f with
 |nil=>intro i;exact .nil
 |cons a b f ih=>
  intro i;cases i with
  |zero=>exact f
  |succ i=>exact .cons a b (ih i)
theorem Nt{es:List (V×V)}{i:Nat}(ka:(es.map (·.1)).all B3=true)(nd:(es.map (·.1)).Nodup):((es.eraseIdx i).map (·.1)).all B3=true/\((es.eraseIdx i).map (·.1)).Nodup:=by have s:List.Sublist ((es.eraseIdx i).map (·.1)) (es.map (·.1)):=(List.eraseIdx_sublist es i).map _;exact⟨List.all_eq_true.mpr λx hx=>List.all_eq_true.mp ka x (s.subset hx),s.nodup nd⟩
theorem T7(ds:List DictEntry)(j:Nat):(ds.toArray.eraseIdxIfInBounds j).size<=ds.toArray.size+1:=by unfold Array.eraseIdxIfInBounds;split<;>simp<;>(have:=List.length_eraseIdx_le ds j;lia)
theorem fA(ok:Γ.Ok)(hu:A.units+64<cLine)(ar:AR Γ κ ce ex fr σ h)(rs:Bo Γ.base κ vs xs)(o:BB Γ ce fr κ ex (Ts vs σ) Q E):wpAny Γ.M A (PySem.call (.builtin "dict.pop") xs) Q E (Γ.at h tk):=by
 have hu1:A.in1.units<cLine:=Ki hu (by decide);refine iP (Nd rs o) λv x u y d z eqq6 r r' r'' o=>?_;subst eqq6;obtain⟨i,a,rfl,r,o⟩:=EZ r o;obtain⟨es,n,e,o⟩:=Er o;obtain⟨hg,o⟩:=Be o;simp only[Bool.and_eq_true,decide_eq_true_eq]at hg;obtain⟨⟨kk,hi⟩,hl⟩:=hg;have hk:B3 u=true:=(Ct kk)
 obtain⟨a',g,m,led,cel,im,ds,pre,post,ea,dd,nm,f',ka,nd,e3,ho,L⟩:=Cj ar e r;cases ea;have ty:(Γ.at h tk).TypeIs (.ref a) "dict" := ⟨_,ho,rfl⟩
 refine wpAny_call_entry PySem.F.slot_dict_pop ty PySem.F.entry_dict_pop ?_ (PySem.F.args_dict_pop_3 _ _ _);refine AP (OS hi) λkey eqq=>?_;subst eqq;cases r'.ii with
 |mk kt=>
 unfold Builtin.«dict.pop»;refine wpAny_bind ?_;unfold Builtin.Dict.keyAndDefault;refine wpAny_bind (wpAny_notOrdered_dict ty ?_)
 skip
 refine wpAny_pure ?_
 skip
 refine wpAny_bind (wpAny_pure ?_);dsimp only;rw[if_neg Bool.false_ne_true];have dl:ds.length<=sizeLine:=by rw[<-f'.length];exact Nat.le_trans hl (by rw[sizeLine_eq];decide)
 have pf:∀a o,Pf Γ.base κ a o->h.get? a=some o:=λ_ _ p=>ar.pf p;refine wpAny_bind ?_;unfold Builtin.Dict.takeOut;try with_reducible refine wpAny_holding ?_
 refine wpAny_bind (KI ok.hash hu1 hk (.int key kt) pf λtk'=>?_);refine wpAny_bind (KC ok.hash hu1 ho f' ka nd kk (.int key kt) pf ?_);cases hp:Bi es (.int key) with
 |none=>
  have eg:AI es (.int key)=none:=by rw[Cy,hp];rfl
  rw[eg]at o;refine wpAny_pure ?_;rw[if_pos (show Option.isNone (none:Option DictEntry)=true from rfl)];refine wpAny_bind (wpAny_missedRemoval_other (HT ok dd (o:=dictOf ds n) (by rw[e3];simp)) ?_)
  skip
  exact wpAny_bind (wpAny_rule (wpAny_pure ⟨z,rfl,An o .refl ar r''⟩))
 |some j=>
  have hj:j<es.length:=(List.findIdx?_eq_some_iff_getElem.mp hp).1;refine Cz (f'.get (List.getElem?_eq_getElem hj)) λx y ed rk rv=>?_;have eg:AI es (.int key)=some es[j].2:=by rw[Cy,hp];simp[List.getElem?_eq_getElem hj]
  rw[eg]at o;refine wpAny_bind (wpAny_dictEntries (s:=Γ.at h tk') ho rfl ?_);have ed':ds.toArray[j]?=some ⟨Γ.hsh es[j].1,x,y⟩:=by simpa using ed
  rw[ed'];dsimp only;refine wpAny_bind (wpAny_updateDictKeys (s:=Γ.at h tk') ho rfl ?_ (by simpa using dl) (T7 ds j));refine wpAny_pure ?_;rw[if_neg (show¬Option.isNone (some _)=true from Bool.false_ne_true)];refine wpAny_bind (wpAny_letGo ?_);refine wpAny_pure ⟨y,rfl,?_⟩;have hg:(h.update a (Obj.mapDictKeys λx=>x.eraseIdxIfInBounds j)).get? a=some (dictOf (ds.eraseIdx j) (n+1)):=by refine(Heap.get?_update_self (Obj.mapDictKeys λx=>x.eraseIdxIfInBounds j) ho rfl).trans (congrArg some ?_);exact Uc _ (by rw[<-f'.length];exact hj)
  refine AG (DY (o:=dictOf ds n) (pre:=pre) (post:=post++cel++ex++im) dd.F dd.N (by rw[e3];simp) dd.D (Heap.SameBut.update ..) hg) λF' N'=>?_;refine AG (Nt (i:=j) ka nd) λk1 k2=>?_;rw[JL hp]at o;exact AX o .refl ⟨g,m,pre++[(a,dictOf (ds.eraseIdx j) (n+1))]++post,cel,im,dd.turn F' (show News g Γ.env.locals (h.update a (Obj.mapDictKeys λx=>x.eraseIdxIfInBounds j)) _ by simpa using N') (L _ _ (.dict (f'.erase j) k1 k2)) (by rw[e3];simp),nm⟩ rv
theorem FD:∀{ns:List Int},(ns.map V.int).Nodup->ns.Nodup
 |[],_=>.nil
 |n::r,h=>by rw[List.map_cons,List.nodup_cons]at h;exact List.nodup_cons.mpr ⟨λm=>h.1 (List.mem_map_of_mem m),FD h.2⟩
theorem N5(f:Eh base κ (Lg prog w) es ds):∀{ns:List Int},es.map (·.1)=ns.map .int->
  ∃kvs:List (Int×Value),kvs.map (·.1)=ns/\Pairs (intKind prog w) ds kvs/\∀e∈ds,∃k,(intKind prog w).is k e.key=true/\e.hash=(intKind prog w).hash k:=by
 induction f with
 |nil=>intro ns e;cases ns with
  |nil=>exact⟨[],rfl,.nil,λ_ h=>nomatch h⟩
  |cons=>exact absurd e.symm (List.cons_ne_nil _ _)
 |@cons k v x y es ds rk rv f ih=>
  intro ns e;cases ns with
  |nil=>exact absurd e (List.cons_ne_nil _ _)
  |cons n ns=>
   replace e:k::es.map (·.1)=.int n::ns.map .int:=e;obtain rfl:=(List.cons.inj e).1;refine D9 (ih (List.cons.inj e).2) λkvs e1 e2 e3=>?_;cases rk.ii with
   |mk t=>
    refine⟨(n,y)::kvs,congrArg (n :: ·) e1,.cons (intKind_is _ _ _ _) rfl e2,λd hd=>?_⟩;rcases List.mem_cons.mp hd with rfl|hd;·exact⟨n,intKind_is _ _ _ _,rfl⟩
    ·exact e3 d hd
theorem N6:∀{ns:List Int},xs.length=ns.length->(∀(j:Nat) (v:Value),xs[j]?=some v->∃n t,ns[j]?=some n/\v=.int n t)->IntsAre xs ns:=by
 induction xs with
 |nil=>
  intro ns hl h;cases ns with
  |nil=>exact .nil
  |cons=>exact absurd hl (Nat.succ_ne_zero _).symm
 |cons x xs ih=>
  intro ns hl h;cases ns with
  |nil=>exact absurd hl (Nat.succ_ne_zero _)
  |cons n ns=>refine CX (h 0 x rfl) λm t e eqq3=>?_;subst eqq3;cases Option.some.inj e;exact .cons _ _ (ih (Nat.succ.inj hl) λj v e=>h (j+1) v e)
theorem L8(h:IntsAre xs ns):Bo base κ (ns.map .int) xs:=by
 induction h with
 |nil=>exact .nil
 |cons n t r ih=>exact .cons (.int n t) ih
theorem Xp(ok:Γ.Ok)(hh:A.handled=none)(ar:AR Γ κ ce ex fr σ h)(rs:Bo Γ.base κ vs xs)(o:BB Γ ce fr κ ex (Zs vs σ) Q E):wpAny Γ.M A (PySem.call (.builtin "sorted") xs) Q E (Γ.at h tk):=by
 refine Cz (B7 rs o) λv x eqq2 r o=>?_;subst eqq2;obtain⟨i,a,rfl,r,o⟩:=EZ r o;obtain⟨es,n,e,o⟩:=Er o;obtain⟨ns,en,o⟩:=IY o;obtain⟨hg,o⟩:=Be o;have hg:=of_decide_eq_true hg;obtain⟨a',g,m,led,cel,im,ds,pre,post,ea,d,nm,f',ka,nd,e3,ho,L⟩:=Cj ar e r;cases ea;have em:=JI en;refine D9 (N5 (ok.hash▸f') em) λkvs e1 e2 e4=>?_;have hat:h.DictAt (intKind Γ.prog Γ.w) a kvs n:=⟨_,ds.toArray,ho,⟨rfl,rfl,rfl⟩,rfl,λe he=>e4 e (by simpa using he),by simpa using e2,by rw[e1];rw[em]at nd;exact FD nd⟩
 have hlen:kvs.length=ns.length:=by rw[<-e1];simp
 refine kdu_sorted (s:=Γ.at h tk) (kdl_dict (knd:=intKind Γ.prog Γ.w) (kvs:=kvs) (ep:=n) (HT ok d (o:=dictOf ds n) (by rw[e3];simp))) hh d.F d.N hat (by rw[hlen,sizeLine_eq];lia) λD h' tk' ys F' N' l1 hl hv=>?_;have hi:IntsAre ys ns:=N6 (by rw[hl,hlen]) λj v ev=>by refine CX (hv j v ev) λk x hx hk=>?_;refine AP (Value.isInt_shape hk) λt eqq1=>?_;subst eqq1;exact⟨k,t,by rw[<-e1,List.getElem?_map,hx];rfl,rfl⟩
 refine ksk_lsort (s:={Γ.at h tk with heap:=h',toks:=tk'}) F' N' (λo=>.head λq hq e=>absurd (l1 q hq) (by rw[e];exact Nat.lt_irrefl _)) (by simp) hi hg λys' ns' c h'' F'' N'' hi' _ hp hP _=>?_;have:ns'=ns.mergeSort (· <= ·):=lks_uniq (hp.trans (List.mergeSort_perm _ _).symm) hP (by
  have:=List.pairwise_mergeSort (le:=λa b:Int=>decide (a<=b)) (λa b c=>by simp;lia) (λa b=>by simp;lia) ns
  simpa using this)
 subst this;refine An o Wd.put_le (AR.put nm d F'' N'' λp hp q=>absurd (l1 p hp) (by rw[q];exact Nat.lt_irrefl _)) (.lst (arr:=ys'.toArray) (ep:=c) Wd.put_pf ?_)
 simpa using L8 hi'
end
set_option tactic.hygienic true
section
open Sem (wp)
namespace G
theorem lk_list_keys:typeLookup (.type "list") (Str.ofString "keys")=pure none:=by rw[typeLookup_type,builtinLookup_eq_fast];kernel_rfl
theorem lk_list_ga:typeLookup (.type "list") (Str.ofString "__getattr__")=pure none:=by rw[typeLookup_type,builtinLookup_eq_fast];kernel_rfl
end G
section
variable{os:OsState}
theorem Tn:isSubtype (.type "AttributeError") (.type "AttributeError")=pure true:=by rw[isSubtype_type];kernel_rfl
theorem N8(hh:A.handled=none)(hm:msg.length<=sizeLine)(q:∀h' t' e oe,(∀b o,h.get? b=some o->h'.get? b=some o)->h'.get? e=some oe->oe.cls=.type "AttributeError" ->E (.ref e) ⟨h',g,d,t',os⟩):
  wpAny (model prog w) A (raiseAttrError (.ref a) nm msg:Sem α) Q E ⟨h,g,d,t,os⟩:=by
 unfold raiseAttrError;refine wpAny_bind (wpAny_mkStr' ?_ hm);refine wpAny_bind ?_;unfold newExc newTuple;refine wpAny_bind (wpAny_newObj_type ?_ (by show(1:Nat)<=sizeLine;rw[sizeLine_eq];decide));refine wpAny_bind (m:=firstArgMember _ _) (wpAny_of_eq (a:=Value.none) rfl ?_);refine wpAny_newObj_type ?_;have hge:((h.push {cls:=.type "tuple",data:=.seq [Value.str msg t].toArray}).push {cls:=.type "AttributeError",data:=.fields #[.ref h.objs.size,.none,.none,.none,.bool false,.none,.int 0 0,.int 0 0]}).get? (h.objs.size+1) =
   some {cls:=.type "AttributeError",data:=.fields #[.ref h.objs.size,.none,.none,.none,.bool false,.none,.int 0 0,.int 0 0]}:=by heap_get
 have hT:(⟨(h.push {cls:=.type "tuple",data:=.seq [Value.str msg t].toArray}).push {cls:=.type "AttributeError",data:=.fields #[.ref h.objs.size,.none,.none,.none,.bool false,.none,.int 0 0,.int 0 0]},g,d,t+1,os⟩:Shared).TypeIs (.ref (h.objs.size+1)) "AttributeError" := ⟨_,hge,rfl⟩
 have hsz:(h.push {cls:=.type "tuple",data:=.seq [Value.str msg t].toArray}).objs.size=h.objs.size+1:=Heap.size_push ..;rw[hsz];generalize hH:(h.push {cls:=.type "tuple",data:=.seq [Value.str msg t].toArray}).push {cls:=.type "AttributeError",data:=.fields #[.ref h.objs.size,.none,.none,.none,.bool false,.none,.int 0 0,.int 0 0]}=H at hge hT;refine wpAny_bind (m:=mkText nm) ?_;unfold mkText;show wpAny _ _ _ _ _ ⟨(h.push {cls:=.type "tuple",data:=.seq [Value.str msg t].toArray}).push {cls:=.type "AttributeError",data:=.fields #[.ref h.objs.size,.none,.none,.none,.bool false,.none,.int 0 0,.int 0 0]},g,d,t+1,os⟩;rw[hH];refine wpAny_bind (wpAny_fresh' (wpAny_pure ?_));have hT:(⟨H,g,d,t+1+1,os⟩:Shared).TypeIs (.ref (h.objs.size+1)) "AttributeError" := ⟨_,hge,rfl⟩
 refine wpAny_bind ?_;unfold noteAttr;refine wpAny_bind ?_;unfold lacksNameAndObj;refine wpAny_bind (wpAny_isInstance hT Tn ?_);rw[if_neg (show¬(!true)=true from Bool.false_ne_true)];refine wpAny_bind (wpAny_load' hge ?_);refine wpAny_of_eq (a:=true) (by kernel_rfl) ?_;rw[if_pos rfl];refine wpAny_bind (wpAny_rule ?_);refine wpAny_bind (wpAny_typeOf hT ?_);show wpAny _ _ (layMembers (h.objs.size+1) 6 #[Value.str nm (t+1),Value.ref a]) _ _ _;unfold layMembers;refine wpAny_bind (wpAny_load' hge ?_);refine wpAny_update' hge ?_;refine wpAny_raiseNew_none hh ?_;refine q _ _ _ _ (λb o eb=>?_) (Heap.get?_update_self _ hge rfl) rfl;have:b≠h.objs.size+1:=Nat.ne_of_lt (Nat.lt_succ_of_lt (Heap.lt_size eb));rw[Heap.get?_update_other _ _ (Ne.symm this),<-hH];exact Heap.get?_push_of_some _ (Heap.get?_push_of_some _ eb)
theorem Hl(hh:A.handled=none)(hx:h.get? a=some {cls:=.type "list",data:=.seq arr ep})
  (q:∀h' t' e oe,(∀b o,h.get? b=some o->h'.get? b=some o)->h'.get? e=some oe->oe.cls=.type "AttributeError" ->E (.ref e) ⟨h',g,d,t',os⟩) :
  wpAny (model prog w) A (Builtin.«object.__getattribute__» ⟨[.ref a,.str (Str.ofString "keys") tk],[]⟩) Q E ⟨h,g,d,t,os⟩:=by
 have hT:(⟨h,g,d,t,os⟩:Shared).TypeIs (.ref a) "list" := ⟨_,hx,rfl⟩
 have f4:=G.lk_list_keys;repeat (any_goals (first|assumption|wp_step))
 refine N8 hh (by decide +kernel) q
theorem Iv(hh:A.handled=none)(hx:h.get? a=some {cls:=.type "list",data:=.seq arr ep})
  (q:∀h' t' e oe,(∀b o,h.get? b=some o->h'.get? b=some o)->h'.get? e=some oe->oe.cls=.type "AttributeError" ->R (.error (.ref e)) ⟨h',g,d,t',os⟩) :
  codeAny (model prog w) A (.call (.builtin "list.__getattribute__") ⟨[.ref a,.str (Str.ofString "keys") tk],[]⟩) R ⟨h,g,d,t,os⟩:=
 codeAny_call_builtin F.slot_list_getattribute.plain F.entry_list_ga (F.slot_list_getattribute.check _ _ _ _ _ _ _ _ (show(⟨h,g,d,t,os⟩:Shared).TypeIs (.ref a) "list" from⟨_,hx,rfl⟩) (F.args_list_getattribute_2 _ _) (Hl hh hx q))
theorem Io(hh:A.handled=none)(hx:h.get? a=some {cls:=.type "list",data:=.seq arr ep})
  (q:∀h' t',(∀b o,h.get? b=some o->h'.get? b=some o)->Q none ⟨h',g,d,t',os⟩):wpAny (model prog w) A (getAttr? (.ref a) (Str.ofString "keys")) Q E ⟨h,g,d,t,os⟩:=by
 have hT:(⟨h,g,d,t+1,os⟩:Shared).TypeIs (.ref a) "list" := ⟨_,hx,rfl⟩
 have f2:=F.slot_list_getattribute.lookup;have f3:=F.slot_list_getattribute.bind (.ref a);unfold getAttr? getAttrBy?;repeat (any_goals (first|assumption|wp_step))
 refine Iv hh hx λh' t' e oe hk he hc=>?_;have hT':(⟨h',g,d,t',os⟩:Shared).TypeIs (.ref e) "AttributeError" := ⟨_,he,hc⟩
 have s1:=Tn;have f5:=G.lk_list_ga;repeat (any_goals (first|assumption|wp_step))
 exact q h' t' hk
end
end
set_option tactic.hygienic false
section
theorem AR.inst(ar:AR Γ κ ce ((x,instObj C dx)::(dx,dictOf [] 0)::ex) fr σ h)(nx:x≠ce.locals)(nd:dx≠ce.locals):AR Γ (κ.add x) ce ex fr (σ++[.inst C []]) h/\RV Γ.base (κ.add x) (.obj σ.length) (.ref x):=by
 obtain⟨g,m,led,cel,im,d,nm⟩:=ar;have PP:(led++cel++(x,instObj C dx)::(dx,dictOf [] 0)::ex++im).Perm (led++[(x,instObj C dx),(dx,dictOf [] 0)]++cel++ex++im):=by
  have:∀(a b e f:List (Addr×Obj)) (p q:Addr×Obj),(a++b++p::q::e++f).Perm (a++[p,q]++b++e++f):=λa b e f p q=>by refine List.Perm.append_right f ?_;rw[List.append_assoc a b,List.append_assoc (a++[p,q]),List.append_assoc a [p,q]];refine List.Perm.append_left a ?_;exact(List.perm_middle (a:=p) (l₁:=b) (l₂:=q::e)).trans ((List.perm_middle (a:=q) (l₁:=b) (l₂:=e)).cons p)
  exact this _ _ _ _ _ _
 refine⟨⟨g,m,led++[(x,instObj C dx),(dx,dictOf [] 0)],cel,im,⟨d.F,λq hq=>d.N q (PP.mem_iff.mpr hq),d.B,d.G,(d.L.le Wd.add_le).snoc (.inst .nil),d.I,d.J,((PP.map _).nodup_iff).mp d.D,λq hq=>by simp[d.T q hq]⟩,?_⟩,.obj (Wd.add_at d.L.length)⟩;exact(nm.le Wd.add_le).sub λ_ y=>DW nd (DW nx y)
end
namespace G
theorem entry_dict_update_loop:entryFor table "dict.update.loop" = some Builtin.«dict.update.loop»:=entryFor_of_tree (by kernel_rfl)
theorem plain_dict_update_loop:plainId "dict.update.loop" = true:=by decide +kernel
end G
section
theorem Ob(hp:(AZ (v::l) es).isSome=true):∃k u,v=.tup [k,u]/\As es k=true/\es.length<=4096/\AZ (v::l) es=AZ l (Bl es k u):=by
 cases e:Ee v with
 |none=>
  replace hp:(match Ee v with
   |some q=>if(As es q.1&&decide (es.length<=4096))=true then AZ l (Bl es q.1 q.2) else none
   |none=>none).isSome=true:=hp
  rw[e]at hp;exact DA hp
 |some q=>
  rw[RC e]at hp⊢;replace hp:(if(As es q.1&&decide (es.length<=4096))=true then AZ l (Bl es q.1 q.2) else none).isSome=true:=hp;by_cases hc:(As es q.1&&decide (es.length<=4096))=true;·exact⟨q.1,q.2,rfl,(Ct hc),of_decide_eq_true (Dp hc),if_pos hc⟩
  ·rw[if_neg hc]at hp;exact DA hp
theorem Uw(ok:Γ.Ok)(hu:A.units+8<cLine)(hh:A.handled=none)(hD:D≠ce.locals)(hI:I≠ce.locals)(hfin:AZ l []=some CA)
  (k:∀h' tk' ds,AR Γ κ ce ((D,dictOf ds CA.length)::ex) fr σ h'->Eh Γ.base κ Γ.hsh CA ds->(CA.map (·.1)).all B3=true->(CA.map (·.1)).Nodup->R (.ok (.ret .none)) (Γ.at h' tk')) :
  ∀(n i:Nat) (h:Heap) (tk:Nat) (oI:Obj) (es:List (V×V)) (ds:List DictEntry) (t:Tok),l.length-i=n->i<=l.length->AR Γ κ ce ((I,oI)::(D,dictOf ds es.length)::ex) fr σ h->Fe Γ κ (.lst l) σ oI i->
   AZ (l.drop i) es=some CA->Eh Γ.base κ Γ.hsh es ds->(es.map (·.1)).all B3=true->(es.map (·.1)).Nodup->
   codeAny Γ.M A (.builtin "dict.update.loop" ⟨[.ref D,.ref I,.int i t,.none],[]⟩) R (Γ.at h tk):=by
 have hv:A5 (.lst l) σ=.ok l σ:=rfl;have hst:stays (.lst l) σ σ=true:=rfl;intro n;induction n with
 |zero=>intro i h tk oI es ds t hn hi ar it hd f ka nd;have:i=l.length:=Nat.le_antisymm hi (Nat.sub_eq_zero_iff_le.mp hn);subst this;rw[List.drop_length]at hd;cases hd;refine codeAny_builtin G.entry_dict_update_loop ?_;rw[Around.under_plainId G.plain_dict_update_loop _];show wpAny _ A.in1 (pyNext (.ref I) >>= _) _ _ _;refine wpAny_bind (K6 (A:=A.in1) hh ar hI hv hst it λh' tk' ar'=>?_);exact wpAny_pure (k h' tk' ds ar' f ka nd)
 |succ n ih=>
  intro i h tk oI es ds t hn hi ar it hd f ka nd;have hlt:i<l.length:=Nat.lt_of_sub_eq_succ hn;refine codeAny_builtin G.entry_dict_update_loop ?_;rw[Around.under_plainId G.plain_dict_update_loop _];show wpAny _ A.in1 (pyNext (.ref I) >>= _) _ _ _;refine wpAny_bind (Hp (A:=A.in1) ar hI hv hst it (List.getElem?_eq_getElem hlt) λh₁ tk₁ oJ y ar₁ it₁ ry _=>?_);rw[List.drop_eq_getElem_cons hlt]at hd;refine Sp (Ob (by rw[hd];rfl)) λkv u ev kk hl e5=>?_;rw[e5]at hd;rw[ev]at ry;cases ry.tt with
  |@mk a arr ep p rs=>
   obtain⟨x,z,ex',rx,rz⟩:∃x z,arr.toList = [x,z]/\RV Γ.base κ kv x/\RV Γ.base κ u z:=by
    generalize arr.toList=xs at rs;cases rs.cc with
    |mk r1 r2=>cases r2 with
     |cons r2 r3=>cases r3;exact⟨_,_,rfl,r1,r2⟩
   have it2:=Et ar₁ p;show wpAny _ A.in1 (holding [Value.ref a] _ >>= _) _ _ _;refine wpAny_bind (wpAny_holding (wpAny_bind (wpAny_tryCatch ?_)));unfold Builtin.Dict.pairItems;refine wpAny_bind (wpAny_typeOf (s:=Γ.at h₁ tk₁) it2.typeIs ?_);show wpAny _ A.in1 (seqItems? (.ref a) >>= _) _ _ _;obtain⟨o2,g1,g2,ep2,g3⟩:=it2;refine wpAny_bind (wpAny_seqItems (s:=Γ.at h₁ tk₁) g1 g3 (wpAny_pure ?_));show wpAny _ A.in1 (match arr.toList with|[k,v]=>_|l=>_) _ _ _;rw[ex'];have hDo:h₁.get? D=some (dictOf ds es.length):=by obtain⟨g,m,led,cel,im,d,nm⟩:=id ar₁;exact(d.N (D,dictOf ds es.length) (by simp)).1
   refine wpAny_holding (Fu (A:=A.in1) ok (Ki hu (by decide)) hDo f ka nd kk hl rx rz (λ_ _ p=>ar₁.pf p) λh₂ ds' n' tk₂ sb hg' f' en=>?_);refine AG (GK (v:=u) ka nd (Ct kk)) λk1 k2=>?_;refine wpAny_pure ⟨plainId_quiet G.plain_dict_update_loop _,?_⟩;rw[show n'=(Bl es kv u).length by rw[Mv,en]]at hg';exact ih (i+1) h₂ tk₂ oJ _ ds' _ (by rw[Nat.sub_add_eq,hn];rfl) hlt (ar₁.chgEx (pre:=[(I,oJ)]) hD sb hg') it₁ hd f' k1 k2
theorem cM(ok:Γ.Ok)(hu:A.units+64<cLine)(hh:A.handled=none)(ar:AR Γ κ ce ex fr σ h)(rs:Bo Γ.base κ vs xs)(o:BB Γ ce fr κ ex (mZ vs σ) Q E):wpAny Γ.M A (PySem.call (.type "dict") xs) Q E (Γ.at h tk):=by
 refine Cz (B7 rs o) λv x eqq2 r o=>?_;subst eqq2;refine Hm (LM r o) λl a arr ep eqq4 p rl o=>?_;subst eqq4;refine AG (Be o) λhg o=>?_;have hg:=of_decide_eq_true hg;have hl:=Dy ar p;unfold Ew at o;cases ed:AZ l [] with
 |none=>rw[ed]at o;exact o.elim
 |some CA=>
 rw[ed]at o;replace o:BB Γ ce fr κ ex (Ej (.dict CA CA.length) σ) Q E:=o;refine callType_codes (s:=Γ.at h tk) (Q₁:=λobj s₁=>obj=.ref h.objs.size/\s₁={Γ.at h tk with heap:=h.push {cls:=.type "dict",data:=.dict #[]}}) F.kt_called_dict (F.kt_typeCall_dict_1 _) F.entry_dict_init (kt_code_dict_new _ ⟨rfl,rfl⟩) ?_
 rintro obj s₁ ⟨rfl,rfl⟩
 have nl:h.objs.size≠ce.locals:=Nat.ne_of_gt ar.locals_lt;have ar₁:=ar.own (dictOf [] 0) rfl;have ty:({Γ.at h tk with heap:=h.push {cls:=.type "dict",data:=.dict #[]}}:Shared).TypeIs (.ref h.objs.size) "dict" := ⟨_,Heap.get?_push_size _ rfl,rfl⟩
 refine⟨ty,F.args_dict_init_2 _ _,?_⟩;unfold Builtin.«dict.__init__»;refine wpAny_bind ?_;unfold Builtin.Dict.selfAndRest;refine wpAny_bind (wpAny_notOrdered_dict ty ?_);show wpAny _ _ (pure (h.objs.size,[Value.ref a])) _ _ _;refine wpAny_pure ?_;show wpAny _ _ (Builtin.Dict.updateFrom "dict.__init__" h.objs.size (.ref a) [] .none) _ _ _;unfold Builtin.Dict.updateFrom;have hl₁:=Dy ar₁ p;refine wpAny_bind (wpAny_typeOf (s:=Γ.at (h.push (dictOf [] 0)) tk) hl₁.typeIs ?_);rw[if_pos (by decide)];refine wpAny_bind (Io (A:=A.in1.in1) hh (ar₁.pf p) λh₂ tk₂ hk=>?_);have ar₂:AR Γ κ ce ((h.objs.size,dictOf [] 0)::ex) fr σ h₂:=ar₁.grow hk;simp only[Option.isNone_none,if_true];refine wpAny_bind (wpAny_rule ?_);refine wpAny_bind (Ga (A:=A.in1.in1) (tk:=tk₂) ok ar₂ (.lst p rl:RV Γ.base κ (.lst l) (.ref a)) rfl hg λh₃ I oI hI ar₃ it₃=>?_);refine wpAny_pure ⟨plainId_quiet G.plain_dict_update_loop _,?_⟩;refine Uw (A:=A.in1) ok (by show A.units+1+8<cLine;rw[Nat.add_assoc];exact Ki hu (by decide)) hh nl hI ed (λh' tk' ds ar' f ka nd=>?_) l.length 0 h₃ tk₂ oI [] [] 0 rfl (Nat.zero_le _) ar₃ it₃ ed .nil rfl .nil;refine AG (ar'.thaw nl (ao:=.dict CA CA.length) (.dict (Eh.le Wd.add_le f) ka nd)) λar₉ rv=>?_;exact⟨rfl,o _ _ _ _ Wd.add_le ar₉ rv⟩
end
set_option genSizeOf false in
set_option genInjectivity false in
set_option genCtorIdx false in
structure LW where
 glb:Str->Option V
 meth:Addr->Str->Option Value
 tab:Addr->Str->Option Int
 own:Addr->Str->Bool
 fn:Addr->Nat->Option BQ
 cls:Addr->Option Addr
noncomputable def LW.cx(T:LW)(scope:Scope)(call:Value->List V->Mo V):Cx where
 glb:=T.glb
 meth:=T.meth
 tab:=T.tab
 own:=T.own
 call:=call
 kind:=λx=>scope.names.lookup x
 plain:=true
 calm:=false
 okn:=λ_=>true
 comp:=false
noncomputable def GQ(T:LW)(call:Value->List V->Mo V)(fe:BQ)(vs:List V):Mo V:=F7 (Fv fe.body (T.cx fe.scope call) (A9 fe vs))
noncomputable def Yp(T:LW)(call:Value->List V->Mo V)(C init:Addr)(vs:List V):Mo V:=match T.fn init (vs.length+1) with
 |some fe=>λσ=>Aa (GQ T call fe (.obj σ.length::vs)) (λr=>match r with
  |.none=>ret (.obj σ.length)
  |_=>AB) (σ++[.inst C []])
 |none=>AB
noncomputable def MA(T:LW)(call:Value->List V->Mo V)(a:Addr)(vs:List V):Mo V:=match T.fn a vs.length with
 |some fe=>GQ T call fe vs
 |none=>match T.cls a with
  |some init=>Yp T call a init vs
  |none=>AB
noncomputable def Ab(T:LW):Nat->Value->List V->Mo V
 |0,_,_=>AB
 |n+1,f,vs=>match f with
  |.builtin f=>iG f vs
  |.type f=>hY f vs
  |.ref a=>MA T (Ab T n) a vs
  |_=>AB
structure iD(prog:Program)(w:World)(K:Frag)(base:Heap)(mg mb:Str->Option Value)(T:LW):Prop where
 glb:∀x v,T.glb x=some v->∃y,(mg x=some y\/(mg x=none/\mb x=some y))/\RV base ⟨[],[]⟩ v y
 meth:∀C name f,T.meth C name=some f->∃a,f=.ref a/\plainGet K C name=true/\findIn K (.ref C) name=some (some (.ref a))/\isFn K (.ref a)=true/\keepIn K f=true
 own:∀C name,T.own C name=true->plainGet K C name=true/\hasDictIn K C=true/\(∃at_,findIn K (.ref C) name=some at_/\noGet K at_=true)/\
  findIn K (.ref C) "__setattr__" = some (some (.builtin "object.__setattr__"))/\plainOver K C=true/\takerIn K C name=some none
 exn:∀name,name=("cause" : Str)\/name=("value" : Str)->subIn K (.ref 91) (.type "BaseException")=some true/\findIn K (.ref 91) "__getattribute__" = some (some (.builtin "BaseException.__getattribute__"))/\
  findIn K (.ref 91) "__getattr__" = some none/\hasDictIn K 91=true/\findIn K (.ref 91) name=some none
 gkeep:∀x g,T.glb x=some (.glob g)->Hc g=false->keepIn K g=true\/∀a,g≠.ref a
 tab:∀a s n,T.tab a s=some n->∃(f:Str->Option Value) (t:Tok),(∀h:Heap,K.In h->h.MapOf (strKind prog w) a f)/\f s=some (.int n t)
 fn:∀a k fe,T.fn a k=some fe->fe.f=a/\fe.n=k/\AS K fe
 cls:∀C init,T.cls C=some init->makesIn K C=true/\findIn K (.ref C) "__init__" = some (some (.ref init))/\isFn K (.ref init)=true
 exm:exmOne K (.ref 91) (.ref 91)=some true/\∀e,exmAny K (.ref (Bp e)) [.ref 71,.ref 91]=some true
 sub:∀e,subIn K (.ref (Bp e)) (.type "BaseException")=some true/\typeIn K (.ref (Bp e))=some (.type "type")
 mkx:∀(Γ:BG) (A:Around),Γ.prog=prog->Γ.w=w->Γ.K=K->Γ.base=base->Γ.Ok->A.frames=some (Γ.env::Γ.outer)->A.depth+8<recursionLimit->A.units+64<cLine->lZ Γ A
section
theorem jV(ok:Γ.Ok)(hu:A.units+64<cLine)(hh:A.handled=none)(ar:AR Γ κ ce ex fr σ h)(rs:Bo Γ.base κ vs xs)(o:BB Γ ce fr κ ex (iG f vs σ) Q E):wpAny Γ.M A (PySem.call (.builtin f) xs) Q E (Γ.at h tk):=by
 unfold iG at o;by_cases e:f = "abs";·subst e;rw[if_pos rfl]at o;exact cP ar rs o
 rw[if_neg e]at o;clear e;by_cases e:f = "max";·subst e;rw[if_pos rfl]at o;exact Z6 hh ar rs o
 rw[if_neg e]at o;clear e;by_cases e:f = "len";·subst e;rw[if_pos rfl]at o;exact fV ok ar rs o
 rw[if_neg e]at o;clear e;by_cases e:f = "sum";·subst e;rw[if_pos rfl]at o;exact gF hh ar rs o
 rw[if_neg e]at o;clear e;by_cases e:f = "sorted";·subst e;rw[if_pos rfl]at o;exact Xp ok hh ar rs o
 rw[if_neg e]at o;clear e;by_cases e:f = "dict.get";·subst e;rw[if_pos rfl]at o;exact aZ ok hu ar rs o
 rw[if_neg e]at o;clear e;by_cases e:f = "dict.pop";·subst e;rw[if_pos rfl]at o;exact fA ok hu ar rs o
 rw[if_neg e]at o;clear e;by_cases e:f = "list.append";·subst e;rw[if_pos rfl]at o;exact aT ar rs o
 rw[if_neg e]at o;exact o.elim
theorem jZ(ok:Γ.Ok)(hu:A.units+64<cLine)(hh:A.handled=none)(ar:AR Γ κ ce ex fr σ h)(rs:Bo Γ.base κ vs xs)(o:BB Γ ce fr κ ex (hY f vs σ) Q E):wpAny Γ.M A (PySem.call (.type f) xs) Q E (Γ.at h tk):=by
 unfold hY at o;by_cases e:f = "int";·subst e;rw[if_pos rfl]at o;exact cT ar rs o
 rw[if_neg e]at o;clear e;by_cases e:f = "bool";·subst e;rw[if_pos rfl]at o;exact fK ar rs o
 rw[if_neg e]at o;clear e;by_cases e:f = "range";·subst e;rw[if_pos rfl]at o;exact bH ar rs o
 rw[if_neg e]at o;clear e;by_cases e:f = "dict";·subst e;rw[if_pos rfl]at o;exact cM ok hu hh ar rs o
 rw[if_neg e]at o;clear e;by_cases e:f = "bytes";·subst e;rw[if_pos rfl]at o;exact aX hh ar rs o
 rw[if_neg e]at o;exact o.elim
noncomputable def Kp(T:LW)(n:Nat)(call:Value->List V->Mo V):Prop:=
 ∀(Γ:BG) (A:Around) (κ:Wd) (ce:Env) (ex:List (Addr×Obj)) (fr:Fm) (σ:St) (h:Heap) (tk:Nat) (f:Value) (vs:List V) (xs:List Value) (Q:Value->Shared->Prop) (E:Value->Shared->Prop),iD Γ.prog Γ.w Γ.K Γ.base Γ.mg Γ.mb T->Γ.Ok->A.frames=some (Γ.env::Γ.outer)->
  A.handled=none->A.depth+4*n+16<recursionLimit->A.units+16*n+64<cLine->AR Γ κ ce ex fr σ h->Bo Γ.base κ vs xs->BB Γ ce fr κ ex (call f vs σ) Q E->wpAny Γ.M A (PySem.call f xs) Q E (Γ.at h tk)
theorem Pk{T:LW}{n:Nat}{call:Value->List V->Mo V}(CO:Kp T n call){scope:Scope}(t:iD Γ.prog Γ.w Γ.K Γ.base Γ.mg Γ.mb T)(ok:Γ.Ok)(ek:hW Γ Γ.env)(hk:∀x,Γ.env.kindOf x=scope.names.lookup x)(nk:Γ.keep=none)
  (hd:Γ.dp+4*n+16<recursionLimit) (hu:Γ.un+16*n+64<cLine):E6 Γ (T.cx scope call) [] (λ_=>True) (XF Γ):=by
 refine⟨λA' p hA'=>?_,λ_ _ _ _ _=>trivial,λfr κ σ e x s _ fl=>Ui ok fl,λ_ κ σ e x s z=>z,λ_ _=>trivial,nk,λA' p hA'=>?_,t.exm,t.sub⟩;·have d1:A'.depth=Γ.dp:=hA'.depth;have d2:A'.units=Γ.un:=hA'.units;refine⟨ok,λx=>(hk x).symm,t.glb,ek,λ_=>rfl,.inl nk,hA',by(clear d1 hA' hd nk hk ek ok t CO;lia),t.meth,t.own,t.exn,t.gkeep,t.tab,λhp kp ce' fr' f vs xs κ₂ ex σ h tk Q E ek' ar' rs' o'=>?_⟩;exact CO {Γ with keep:=kp} A' κ₂ ce' ex fr' σ h tk f vs xs Q E t ⟨ok.frame,ok.kind,ok.X,ok.gl,ok.bl,ok.nolimit,ok.genv,ok.benv,ok.st,ok.R,ok.hash,ok.sysm,ok.cinj⟩ hA'.frames (hA'.handled hp) (by(clear o' rs' ar' ek' hp d2 hA' hu nk hk ek ok t CO;lia)) (by(clear o' rs' ar' ek' hp d1 hA' hd nk hk ek ok t CO;lia)) ar' rs' o'
 ·have d1:A'.depth=Γ.dp:=hA'.depth;have d2:A'.units=Γ.un:=hA'.units;exact t.mkx Γ A' rfl rfl rfl rfl ok hA'.frames (by(clear d2 hA' hu nk hk ek ok t CO;lia)) (by(clear d1 hA' hd nk hk ek ok t CO;lia))
theorem Vj{T:LW}{n:Nat}{call:Value->List V->Mo V}(CO:Kp T n call)(t:iD Γ.prog Γ.w Γ.K Γ.base Γ.mg Γ.mb T)(ok:Γ.Ok){fe:BQ}(fo:AS Γ.K fe)(hA:A.frames=some (Γ.env::Γ.outer))(hh:A.handled=none)
  (hd:A.depth+4*n+18<recursionLimit) (hu:A.units+16*n+72<cLine) (ar:AR Γ κ ce ex fr σ h) (rs:Bo Γ.base κ vs xs) (hn:vs.length=fe.n)
  {R₀:Result->Shared->Prop}(o:Bq Γ ce fr κ ex (RV Γ.base) (GQ T call fe vs σ) (λv s=>R₀ (.ok (.ret v)) s) (λe s=>R₀ (.error e) s)) :
  codeAny Γ.M A (.call (.ref fe.f) ⟨xs,[]⟩) R₀ (Γ.at h tk):=by
 refine QY ok fo hA (by(clear o hn rs ar hu hh hA fo ok t CO;lia)) ar rs hn o λh₀ led L' cdv h₁ tk₁ Q E ok' ek ar₁ o₁=>?_;have aok:Gb (Γ.inner A κ h₀ led (envOfC fe.qual fe.scope L' fe.f cdv)) (A.deeper (envOfC fe.qual fe.scope L' fe.f cdv)) true:=⟨Around.frames_deeper hA,λ_=>hh,rfl,rfl⟩
 exact(PV _).2 fe.body (Nat.lt_succ_self _) (Γ.inner A κ h₀ led (envOfC fe.qual fe.scope L' fe.f cdv)) (T.cx fe.scope call) [] (λ_=>True) (XF (Γ.inner A κ h₀ led (envOfC fe.qual fe.scope L' fe.f cdv))) _ κ _ σ h₁ tk₁ Q E
  (Pk CO t ok' ek (λ_=>rfl) rfl (by show A.depth+1+4*n+16<recursionLimit;(clear aok o₁ ar₁ ek ok' o hn rs ar hu hh hA fo ok t CO;lia)) (by show A.units+3+16*n+64<cLine;(clear aok o₁ ar₁ ek ok' o hn rs ar hd hh hA fo ok t CO;lia))) aok trivial ar₁ o₁
theorem AR.own2(nm:Lj Γ κ ce ex m cel fr)(d:DN Γ κ ex σ h g m led cel im)(F:Fr g Γ.env.locals h' m)(N:News g Γ.env.locals h' ((x,ox)::(dx,od)::(led++cel++ex++im)))
  (l1:∀p∈led++cel++ex++im,p.1<dx) (l2:dx<x):AR Γ κ ce ((x,ox)::(dx,od)::ex) fr σ h':=by
 have PP:((x,ox)::(dx,od)::(led++cel++ex++im)).Perm (led++cel++((x,ox)::(dx,od)::ex)++im):=by rw[List.append_assoc (led++cel),List.append_assoc (led++cel)];exact((List.perm_middle (a:=(x,ox)) (l₁:=led++cel) (l₂:=(dx,od)::(ex++im))).trans ((List.perm_middle (a:=(dx,od)) (l₁:=led++cel) (l₂:=ex++im)).cons _)).symm
 refine⟨g,m,led,cel,im,⟨F,λq hq=>N q (PP.mem_iff.mpr hq),d.B,d.G,d.L,d.I,d.J,?_,d.T⟩,?_⟩
 ·refine((PP.map _).nodup_iff).mp ?_;rw[List.map_cons,List.map_cons,List.nodup_cons,List.nodup_cons];refine⟨λhm=>?_,λhm=>?_,d.D⟩
  ·rcases List.mem_cons.mp hm with e|hm;·exact absurd e (Nat.ne_of_gt l2)
   ·refine Au (List.mem_map.mp hm) λq hq e=>?_;exact absurd e (Nat.ne_of_lt (Nat.lt_trans (l1 q hq) l2))
  ·refine Au (List.mem_map.mp hm) λq hq e=>?_;exact absurd e (Nat.ne_of_lt (l1 q hq))
 ·exact nm.sub λ_ y=>.tail _ (.tail _ y)
theorem Mg(A:Around)(C:Addr)(xs:List Value):(A.under (.builtin "type.__call__" ⟨.ref C::xs,[]⟩)).frames=A.frames/\(A.under (.builtin "type.__call__" ⟨.ref C::xs,[]⟩)).depth<=A.depth+2/\
  (A.under (.builtin "type.__call__" ⟨.ref C::xs,[]⟩)).units<=A.units+8/\(A.under (.builtin "type.__call__" ⟨.ref C::xs,[]⟩)).handled=A.handled:=by
 obtain⟨hd,dp,fr,gd,un⟩:=A;refine⟨?_,?_,?_,rfl⟩;·cases fr<;>rfl
 ·show dp+Code.weight _<=dp+2;have:Code.weight (.builtin "type.__call__" ⟨.ref C::xs,[]⟩)<=2:=Nat.le_of_ble_eq_true (by kernel_rfl);lia
 ·show un+Code.cUnits _<=un+8;have:Code.cUnits (.builtin "type.__call__" ⟨.ref C::xs,[]⟩)<=8:=Nat.le_of_ble_eq_true (by kernel_rfl);lia
theorem Z3{T:LW}{n:Nat}{call:Value->List V->Mo V}(CO:Kp T n call)(t:iD Γ.prog Γ.w Γ.K Γ.base Γ.mg Γ.mb T)(ok:Γ.Ok){C init:Addr}(hc:T.cls C=some init)(hA:A.frames=some (Γ.env::Γ.outer))(hh:A.handled=none)
  (hd:A.depth+4*n+20<recursionLimit) (hu:A.units+16*n+80<cLine) (ar:AR Γ κ ce ex fr σ h) (rs:Bo Γ.base κ vs xs) (o:BB Γ ce fr κ ex (Yp T call C init vs σ) Q E):wpAny Γ.M A (PySem.call (.ref C) xs) Q E (Γ.at h tk):=by
 refine B0 (t.cls _ _ hc) λhm hi hf=>?_;unfold Yp at o;cases ef:T.fn init (vs.length+1) with
 |none=>rw[ef]at o;exact o.elim
 |some fe=>
  rw[ef]at o;replace o:BB Γ ce fr κ ex (Aa (GQ T call fe (.obj σ.length::vs)) (λr=>match r with|.none=>ret (.obj σ.length)|_=>AB) (σ++[.inst C []])) Q E:=o;refine B0 (t.fn _ _ _ ef) λe1 e2 fo=>?_;obtain⟨g,m,led,cel,im,d,nm⟩:=id ar;refine call_cls (s:=Γ.at h tk) d.F (ok.X.keeps λ_ _ z=>d.B.stays _ _ z) d.N hm hi hf λx dx h' F' N' l1 l2=>?_;have ar₁:AR Γ κ ce ((x,instObj C dx)::(dx,dictOf [] 0)::ex) fr σ h':=AR.own2 nm d F' N' l1 l2;have hl:x≠ce.locals/\dx≠ce.locals:=by
   refine Au nm.ns λcm h1 _=>?_;rcases h1 with ⟨e,_⟩|⟨oC,es,ep,hm,_⟩
   ·rw[e];exact⟨(N' _ (.head _)).2.1,(N' _ (.tail _ (.head _))).2.1⟩
   ·have:=l1 (ce.locals,oC) (by simp[hm]);exact⟨Nat.ne_of_gt (Nat.lt_trans this l2),Nat.ne_of_gt this⟩
  refine AG (ar₁.inst hl.1 hl.2) λar₂ rv=>?_;subst e1;refine GO (Mg A C xs) λu1 u2 u3 u4=>?_;refine Vj (A:=A.under (.builtin "type.__call__" ⟨.ref C::xs,[]⟩)) CO t ok fo (u1.trans hA) (u4.trans hh) (by(clear u4 u3 u1 ef hf hi hc rv ar₂ hl ar₁ l2 l1 N' F' nm d fo e2 o hm rs ar hu hh hA ok t CO;lia)) (by(clear u4 u2 u1 ef hf hi hc rv ar₂ hl ar₁ l2 l1 N' F' nm d fo e2 o hm rs ar hd hh hA ok t CO;lia)) ar₂ (.cons rv (Bo.le Wd.add_le rs)) (by simp[e2]) ?_;cases er:GQ T call fe (.obj σ.length::vs) (σ++[.inst C []]) with
  |stuck=>rw[Ao er]at o;exact o.elim
  |exc e σ₁=>rw[AQ er]at o;exact λκ' x' s q fl=>o κ' x' s (Wd.add_le.trans q) fl
  |ok v σ₁=>
   rw[Ae er]at o;intro κ' h₂ tk₂ y q ar₃ rv';cases v<;>first|exact o.elim|skip
   cases rv'.nn;exact⟨rfl,o κ' h₂ tk₂ _ (Wd.add_le.trans q) ar₃ (rv.le q)⟩
theorem Pj{T:LW}:∀n,Kp T n (Ab T n)
 |0=>λ_ _ _ _ _ _ _ _ _ _ _ _ _ _ _ _ _ _ _ _ _ _ o=>o.elim
 |n+1=>λΓ A κ ce ex fr σ h tk f vs xs Q E t ok hA hh hd hu ar rs o=>by
  have CO:=Pj (T:=T) n;cases f with
  |builtin f=>exact jV ok (by(clear o CO rs ar hd hh hA ok t;lia)) hh ar rs o
  |type f=>exact jZ ok (by(clear o CO rs ar hd hh hA ok t;lia)) hh ar rs o
  |ref a=>
   replace o:BB Γ ce fr κ ex (MA T (Ab T n) a vs σ) Q E:=o;unfold MA at o;cases ef:T.fn a vs.length with
   |some fe=>rw[ef]at o;refine B0 (t.fn _ _ _ ef) λeqq0 e2 fo=>?_;subst eqq0;exact wpAny_call (Vj CO t ok fo hA hh (by(clear ef o fo e2 CO rs ar hu hh hA ok t;lia)) (by(clear ef o fo e2 CO rs ar hd hh hA ok t;lia)) ar rs e2.symm o)
   |none=>
    rw[ef]at o;cases ec:T.cls a with
    |some init=>rw[ec]at o;exact Z3 CO t ok ec hA hh (by(clear ec o ef CO rs ar hu hh hA ok t;lia)) (by(clear ec o ef CO rs ar hd hh hA ok t;lia)) ar rs o
    |none=>rw[ec]at o;exact o.elim
  |_=>exact o.elim
end
noncomputable section
noncomputable abbrev pw:Program:=PySem.Challenge.pw_nu0094_01
noncomputable def S(i:Nat):Stmt:=pw.main.body.getD i (.Pass ⟨0,0,0,0⟩)
noncomputable def cB(s:Stmt):List Stmt:=match s with
 |.ClassDef _ _ _ b _ _ _ _ _ _ _=>b
 |_=>[]
noncomputable def M_(i j:Nat):Stmt:=(cB (S i)).getD j (.Pass ⟨0,0,0,0⟩)
noncomputable def fN(s:Stmt):Str:=match s with
 |.FunctionDef n _ _ _ _ _ _ _ _ _=>n
 |.ClassDef n _ _ _ _ _ _ _ _ _ _=>n
 |_=>Str.empty
noncomputable def fP(s:Stmt):Arguments:=match s with
 |.FunctionDef _ a _ _ _ _ _ _ _ _=>a
 |_=>{posonlyargs:=[],args:=[],vararg:=none,kwonlyargs:=[],kw_defaults:=[],kwarg:=none,defaults:=[]}
noncomputable def fB(s:Stmt):List Stmt:=match s with
 |.FunctionDef _ _ b _ _ _ _ _ _ _=>b
 |.ClassDef _ _ _ b _ _ _ _ _ _ _=>b
 |_=>[]
noncomputable def Lb:Scope:={kind:=.function,names:=[],isGenerator:=false,isCoroutine:=false}
noncomputable def fS(s:Stmt):Scope:=match s with
 |.FunctionDef _ _ _ _ _ _ s _ _ _=>s
 |.ClassDef _ _ _ _ _ _ s _ _ _ _=>s
 |_=>Lb
noncomputable def fn(c:Value)(s:Stmt)(q:Str)(g:Addr)(d m k:Value):Obj:={cls:=c,data:=.func {name:=fN s,qualname:=q,params:=fP s,body:=.stmts (fB s),scope:=fS s,globals:=g,closure:=[],defaults:=d,kwdefaults:=.none,pyModule:=m,code:=k}}
noncomputable def tu(l:List Value):Obj:={cls:=.type "tuple",data:=.seq ⟨l⟩}
noncomputable def fl(c:Value)(l:List Value):Obj:={cls:=c,data:=.fields ⟨l⟩}
noncomputable def di(c:Value)(l:List DictEntry)(n:Nat):Obj:={cls:=c,data:=.dict ⟨l⟩ n}
noncomputable def en(P:Params)(s:Str)(t:Nat)(v:Value):DictEntry:=⟨PyData.keyHash P s,.str s t,v⟩
noncomputable def pl(c:Value)(d:Option Addr)(l:List (Option Value)):Obj:={cls:=c,dict:=d,slots:=⟨l⟩}
noncomputable def cl(n:Str)(b m:List Value)(a:Addr)(s:List Value)(l:List (Option Value)):Obj:={cls:=.type "type",data:=.cls {name:=n,bases:=b,mro:=m,ns:=a,qualname:=n,subclasses:=s},slots:=⟨l⟩}
noncomputable def co(a:Str)(ta:Nat)(b:Str)(tb tc l n f r1:Nat)(bo:Bool)(r2:Nat)(x1 x2 x3:Value)(k t2:Nat):Obj:=fl (.type "code")
 [.str a ta,.str b tb,.str "/claim/cut.py" tc,.int l 0,.int n 0,.int 0 0,.int 0 0,.int f 0,.ref r1,.bool bo,.int 181 0,.ref r2,.none,x1,x2,x3,.int k 0,.int l 0,.str "/claim/cut.py" t2]
noncomputable def mE:Value:=.str "pipeboard.errors" 194
noncomputable def mP:Value:=.str "pipeboard.paging" 321
noncomputable def mM:Value:=.str "pipeboard.memory" 660
noncomputable def mL:Value:=.str "law_nu0094_01" 1137
noncomputable def mm:Value:=.str "__main__" 164
noncomputable def pp:Obj:=fl (.type "builtin_function_or_method") [(.builtin "type.__prepare__"),(.type "type")]
noncomputable def Vm(a:Nat):Obj:=fl (.type "builtin_function_or_method") [(.builtin "object.__init_subclass__"),(.ref a)]
noncomputable def BP(a:Nat):Obj:=fl (.type "super") [(.ref a),(.ref a),(.ref a)]
noncomputable def cU(t a:Nat):Obj:=fl (.type "getset_descriptor") [(.str "__dict__" t),(.ref a),(.builtin "function.__dict__"),(.builtin "function.__dict__#set")]
noncomputable def ZG(t a:Nat):Obj:=fl (.type "getset_descriptor") [(.str "__weakref__" t),(.ref a),(.builtin "ExceptionGroup.__weakref__"),.none]
noncomputable def dd:List DictEntry->Nat->Obj:=di (.type "dict")
noncomputable def xl(b:Nat):List Nat->List Value
 |x::y::r=>.int (Int.ofNat x) 0::.int (Int.ofNat b) 0::.ref y::xl b r
 |_=>[]
noncomputable def sq(l:List Str):Nat->List Value:=l.rec (λ_=>[]) λx _ ih t=>.str x t::ih (t+1)
noncomputable def fb(m:Value)(A t l n:Nat)(s:Stmt)(a q:Str)(c:List Value)(v:List Str)(d:Value):List Obj:=[tu c,fl .none [],tu (sq v (t+3)),tu [],fn .none s q 0 .none .none .none,co a t q (t+1) (t+2) l n 3 A true (A+1) (.ref (A+2)) (.ref (A+3)) (.ref (A+4)) (t+3+v.length) (t+4+v.length),fn (.type "function") s q 3 d m (.ref (A+5))]
noncomputable def gb(m:Value)(A t l n:Nat)(s:Stmt)(a q:Str)(c:List Value)(d:Value):List Obj:=[tu c,fl .none [],fn .none s q 0 .none .none .none,co a t q (t+1) (t+2) l n 3 A true (A+1) .none .none (.ref (A+2)) (t+3) (t+4),fn (.type "function") s q 3 d m (.ref (A+3))]
noncomputable def cA(m:Value)(A t l:Nat)(a:Str)(x:List Nat):List Obj:=[tu [],fl .none (xl 4 x),co a t a (t+1) (t+2) l 0 0 A false (A+1) .none .none .none (t+3) (t+4),pl (.type "frame") none [some (.ref (A+2)),some (.ref 3),some (.ref (A-1)),none,some m,none,some (.ref 0)]]
noncomputable def alt(b:Bool)(l:List Obj):List Obj:=match l with
 |[]=>[]
 |a::r=>match b with
  |true=>a::alt false r
  |false=>alt true r
noncomputable def pM(n:Nat)(l:List Obj):BT:=match n with
 |0=>.nil
 |n+1=>match l with
  |[]=>.nil
  |a::r=>.node a (pM n (alt true r)) (pM n (alt false r))
noncomputable def tr(l:List Obj):BT:=pM 12 l
noncomputable def oF(P:Params):List Obj:=[boot_o_0 P,boot_o_1 P,boot_o_2 P,boot_o_3 P,boot_o_4 P,boot_o_5 P,boot_o_6 P,boot_o_7 P,boot_o_8 P,boot_o_9 P,boot_o_10 P]
noncomputable def N0(P:Params):List Obj:=[tu [],
 fl .none [],
 co "<module>" 182 "<module>" 183 184 1 0 0 11 false 12 .none .none .none 185 186,
 pl (.type "frame") none [some (.ref 13),some (.ref 3),some (.ref 3),none,some mm,none,some (.ref 0)]]
noncomputable def L0(P:Params):List Obj:=(oF P)++N0 P
noncomputable def qS(P:Params):List DictEntry:=[en P "__doc__" 166 .none,en P "__package__" 167 .none,en P "__loader__" 168 (.builtin "__main__.__loader__#opaque"),en P "__spec__" 169 .none,en P "__annotations__" 170 (.ref 6),en P "__builtins__" 171 (.ref 4),en P "__file__" 173 (.str "/claim/cut.py" 172),en P "__cached__" 174 .none,en P "_wall" 193 (.ref 21),en P "BoardError" 223 (.ref 39),en P "BadArgument" 239 (.ref 52)]
noncomputable def qQ:List Value:=xl 0 [1,20,5,27,10,48]
noncomputable def rT(P:Params):List Obj:=fb mm 15 187 1 1 (S 0) "_wall" "_wall" [] ["k"] .none ++
 ([tu [(.type "ValueError")],
 pp,
 dd [en P "__module__" 203 mE,en P "__qualname__" 205 (.str "BoardError" 204),en P "__firstlineno__" 207 (.int 5 206),en P "__init__" 216 (.ref 36),en P "__static_attributes__" 218 (.ref 37)] 5] ++
 (cA mE 25 198 5 "BoardError" [7,35] ++
 ([tu [(.str "" 208)]] ++
 (fb mE 30 209 7 2 (M_ 2 0) "__init__" "BoardError.__init__" [] ["self", "reason"] (.ref 29) ++
 ([tu [(.str "reason" 217)],
 dd [en P "__module__" 203 mE,en P "__firstlineno__" 207 (.int 5 206),en P "__init__" 216 (.ref 36),en P "__static_attributes__" 218 (.ref 37),en P "__weakref__" 220 (.ref 40),en P "__doc__" 221 .none] 3,
 cl "BoardError" [(.type "ValueError")] [(.ref 39),(.type "ValueError"),(.type "Exception"),(.type "BaseException"),(.type "object")] 38 [(.ref 52)] [some (.ref 22),none,some (.str "BoardError" 196),some (.str "BoardError" 204),some (.builtin "ValueError.__new__"),some (.bool true)],
 ZG 219 39,
 BP 39,
 Vm 39,
 tu [(.ref 39)],
 pp,
 dd [en P "__module__" 231 mE,en P "__qualname__" 233 (.str "BadArgument" 232),en P "__firstlineno__" 235 (.int 10 234),en P "__static_attributes__" 236 (.ref 50)] 4] ++
 (cA mE 46 226 10 "BadArgument" [] ++
 ([tu [],
 dd [en P "__module__" 231 mE,en P "__firstlineno__" 235 (.int 10 234),en P "__static_attributes__" 236 (.ref 50),en P "__doc__" 237 .none] 2,
 cl "BadArgument" [(.ref 39)] [(.ref 52),(.ref 39),(.type "ValueError"),(.type "Exception"),(.type "BaseException"),(.type "object")] 51 [] [some (.ref 43),none,some (.str "BadArgument" 224),some (.str "BadArgument" 232),some (.builtin "ValueError.__new__"),some (.bool true)],
 BP 52,
 Vm 52])))))))
noncomputable def nZ(P:Params):List Obj:=(((L0 P).set 3 (dd (en P "__name__" 165 mE::qS P) 12)).set 12 (fl .none qQ))++rT P
noncomputable def G1(P:Params):List DictEntry:=qS P++[en P "BadAddress" 264 (.ref 71),en P "Trap" 320 (.ref 91),en P "ENTRY" 324 (.int 4 323),en P "VALID" 326 (.int 1 325),en P "READ" 328 (.int 2 327),en P "WRITE" 330 (.int 4 329),en P "EXECUTE" 332 (.int 8 331),en P "USER" 334 (.int 16 333),en P "ACCESSED" 336 (.int 64 335),en P "DIRTY" 338 (.int 128 337),en P "LEAF" 340 (.int 10 339),en P "FLAG_BITS" 342 (.int 10 341),en P "FETCH" 344 (.str "fetch" 343),en P "LOAD" 346 (.str "load" 345),en P "STORE" 348 (.str "store" 347)]
noncomputable def C1:List Value:=qQ++xl 0 [12,60,17,79]
noncomputable def N1(P:Params):List Obj:=[tu [(.ref 39)],
 pp,
 dd [en P "__module__" 247 mE,en P "__qualname__" 249 (.str "BadAddress" 248),en P "__firstlineno__" 251 (.int 12 250),en P "__init__" 259 (.ref 68),en P "__static_attributes__" 261 (.ref 69)] 5] ++
 (cA mE 58 242 12 "BadAddress" [14,67] ++
 (fb mE 62 252 14 2 (M_ 4 0) "__init__" "BadAddress.__init__" [] ["self", "address"] .none ++
 ([tu [(.str "address" 260)],
 dd [en P "__module__" 247 mE,en P "__firstlineno__" 251 (.int 12 250),en P "__init__" 259 (.ref 68),en P "__static_attributes__" 261 (.ref 69),en P "__doc__" 262 .none] 2,
 cl "BadAddress" [(.ref 39)] [(.ref 71),(.ref 39),(.type "ValueError"),(.type "Exception"),(.type "BaseException"),(.type "object")] 70 [] [some (.ref 55),none,some (.str "BadAddress" 240),some (.str "BadAddress" 248),some (.builtin "ValueError.__new__"),some (.bool true)],
 BP 71,
 Vm 71,
 tu [(.ref 39)],
 pp,
 dd [en P "__module__" 272 mE,en P "__qualname__" 274 (.str "Trap" 273),en P "__firstlineno__" 276 (.int 17 275),en P "FETCH_MISALIGNED" 278 (.int 0 277),en P "FETCH_ACCESS" 280 (.int 1 279),en P "ILLEGAL" 282 (.int 2 281),en P "BREAKPOINT" 284 (.int 3 283),en P "LOAD_MISALIGNED" 286 (.int 4 285),en P "LOAD_ACCESS" 288 (.int 5 287),en P "STORE_MISALIGNED" 290 (.int 6 289),en P "STORE_ACCESS" 292 (.int 7 291),en P "CALL_FROM_USER" 294 (.int 8 293),en P "CALL_FROM_SUPERVISOR" 296 (.int 9 295),en P "CALL_FROM_MACHINE" 298 (.int 11 297),en P "FETCH_PAGE" 300 (.int 12 299),en P "LOAD_PAGE" 302 (.int 13 301),en P "STORE_PAGE" 304 (.int 15 303),en P "__init__" 314 (.ref 88),en P "__static_attributes__" 317 (.ref 89)] 19] ++
 (cA mE 77 267 17 "Trap" [33,87] ++
 ([tu [(.int 0 305)]] ++
 (fb mE 82 306 33 3 (M_ 5 14) "__init__" "Trap.__init__" [] ["self", "cause", "value"] (.ref 81) ++
 ([tu [(.str "cause" 315),(.str "value" 316)],
 dd [en P "__module__" 272 mE,en P "__firstlineno__" 276 (.int 17 275),en P "FETCH_MISALIGNED" 278 (.int 0 277),en P "FETCH_ACCESS" 280 (.int 1 279),en P "ILLEGAL" 282 (.int 2 281),en P "BREAKPOINT" 284 (.int 3 283),en P "LOAD_MISALIGNED" 286 (.int 4 285),en P "LOAD_ACCESS" 288 (.int 5 287),en P "STORE_MISALIGNED" 290 (.int 6 289),en P "STORE_ACCESS" 292 (.int 7 291),en P "CALL_FROM_USER" 294 (.int 8 293),en P "CALL_FROM_SUPERVISOR" 296 (.int 9 295),en P "CALL_FROM_MACHINE" 298 (.int 11 297),en P "FETCH_PAGE" 300 (.int 12 299),en P "LOAD_PAGE" 302 (.int 13 301),en P "STORE_PAGE" 304 (.int 15 303),en P "__init__" 314 (.ref 88),en P "__static_attributes__" 317 (.ref 89),en P "__doc__" 318 .none] 2,
 cl "Trap" [(.ref 39)] [(.ref 91),(.ref 39),(.type "ValueError"),(.type "Exception"),(.type "BaseException"),(.type "object")] 90 [] [some (.ref 74),none,some (.str "Trap" 265),some (.str "Trap" 273),some (.builtin "ValueError.__new__"),some (.bool true)],
 BP 91,
 Vm 91])))))))
noncomputable def L1(P:Params):List Obj:=((((nZ P).set 3 (dd (en P "__name__" 165 mP::G1 P) 27)).set 12 (fl .none C1)).set 39 (cl "BoardError" [(.type "ValueError")] [(.ref 39),(.type "ValueError"),(.type "Exception"),(.type "BaseException"),(.type "object")] 38 [(.ref 52),(.ref 71),(.ref 91)] [some (.ref 22),none,some (.str "BoardError" 196),some (.str "BoardError" 204),some (.builtin "ValueError.__new__"),some (.bool true)]))++N1 P
noncomputable def qJ(P:Params):List DictEntry:=G1 P++[en P "PAGE_FAULTS" 355 (.ref 94),en P "ACCESS_FAULTS" 362 (.ref 95),en P "USER_MODE" 364 (.int 0 363)]
noncomputable def rB(P:Params):List Obj:=[dd [en P "fetch" 343 (.int 12 299),en P "load" 345 (.int 13 301),en P "store" 347 (.int 15 303)] 3,
 dd [en P "fetch" 343 (.int 1 279),en P "load" 345 (.int 5 287),en P "store" 347 (.int 7 291)] 3]
noncomputable def nF(P:Params):List Obj:=((L1 P).set 3 (dd (en P "__name__" 165 mP::qJ P) 30))++rB P
noncomputable def G2(P:Params):List DictEntry:=qJ P++[en P "Layout" 469 (.ref 170)]
noncomputable def C2:List Value:=C1++xl 0 [54,101]
noncomputable def N2(P:Params):List Obj:=[tu [],
 pp,
 dd [en P "__module__" 372 mP,en P "__qualname__" 374 (.str "Layout" 373),en P "__firstlineno__" 376 (.int 54 375),en P "__init__" 385 (.ref 110),en P "parts" 394 (.ref 117),en P "address" 405 (.ref 125),en P "down" 413 (.ref 132),en P "up" 421 (.ref 139),en P "is_begin" 429 (.ref 146),en P "pages_in" 438 (.ref 153),en P "entry" 447 (.ref 160),en P "physical" 455 (.ref 167),en P "__static_attributes__" 462 (.ref 168)] 13] ++
 (cA mP 99 367 54 "Layout" [56,109,66,116,72,124,75,131,78,138,81,145,84,152,87,159,90,166] ++
 ([tu [(.int 12 377)]] ++
 (fb mP 104 378 56 2 (M_ 23 0) "__init__" "Layout.__init__" [] ["self", "page_bits"] (.ref 103) ++
 (fb mP 111 386 66 2 (M_ 23 1) "parts" "Layout.parts" [] ["self", "address", "number"] .none ++
 ([tu [(.int 0 395)]] ++
 (fb mP 119 396 72 4 (M_ 23 2) "address" "Layout.address" [] ["self", "first", "second", "offset"] (.ref 118) ++
 (fb mP 126 406 75 2 (M_ 23 3) "down" "Layout.down" [] ["self", "address"] .none ++
 (fb mP 133 414 78 2 (M_ 23 4) "up" "Layout.up" [] ["self", "address"] .none ++
 (fb mP 140 422 81 2 (M_ 23 5) "is_begin" "Layout.is_begin" [] ["self", "address"] .none ++
 (fb mP 147 430 84 3 (M_ 23 6) "pages_in" "Layout.pages_in" [] ["self", "begin", "end"] .none ++
 (fb mP 154 439 87 3 (M_ 23 7) "entry" "Layout.entry" [] ["self", "physical", "flags"] .none ++
 (fb mP 161 448 90 2 (M_ 23 8) "physical" "Layout.physical" [] ["self", "entry"] .none ++
 ([tu [(.str "end" 456),(.str "entries" 457),(.str "large" 458),(.str "level_bits" 459),(.str "page" 460),(.str "page_bits" 461)],
 dd [en P "__module__" 372 mP,en P "__firstlineno__" 376 (.int 54 375),en P "__init__" 385 (.ref 110),en P "parts" 394 (.ref 117),en P "address" 405 (.ref 125),en P "down" 413 (.ref 132),en P "up" 421 (.ref 139),en P "is_begin" 429 (.ref 146),en P "pages_in" 438 (.ref 153),en P "entry" 447 (.ref 160),en P "physical" 455 (.ref 167),en P "__static_attributes__" 462 (.ref 168),en P "__dict__" 464 (.ref 171),en P "__weakref__" 466 (.ref 172),en P "__doc__" 467 .none] 4,
 cl "Layout" [(.type "object")] [(.ref 170),(.type "object")] 169 [] [none,none,some (.str "Layout" 365),some (.str "Layout" 373),some (.builtin "object.__new__"),some (.bool true)],
 cU 463 170,
 ZG 465 170,
 BP 170,
 Vm 170])))))))))))))
noncomputable def L2(P:Params):List Obj:=(((nF P).set 3 (dd (en P "__name__" 165 mP::G2 P) 31)).set 12 (fl .none C2))++N2 P
noncomputable def qH(P:Params):List DictEntry:=G2 P++[en P "is_leaf" 476 (.ref 181),en P "is_sound" 483 (.ref 188),en P "may" 494 (.ref 195),en P "Walker" 601 (.ref 249)]
noncomputable def qC:List Value:=C2++xl 0 [92,180,94,187,96,194,106,201]
noncomputable def rI(P:Params):List Obj:=fb mP 175 470 92 1 (S 24) "is_leaf" "is_leaf" [] ["entry"] .none ++
 (fb mP 182 477 94 1 (S 25) "is_sound" "is_sound" [] ["entry"] .none ++
 (fb mP 189 484 96 5 (S 26) "may" "may" [] ["entry", "kind", "mode", "sum_bit", "mxr"] .none ++
 ([tu [],
 pp,
 dd [en P "__module__" 502 mP,en P "__qualname__" 504 (.str "Walker" 503),en P "__firstlineno__" 506 (.int 106 505),en P "__init__" 515 (.ref 209),en P "translate" 533 (.ref 217),en P "entry_at" 544 (.ref 224),en P "large_page" 559 (.ref 231),en P "mark" 571 (.ref 238),en P "probe" 591 (.ref 246),en P "__static_attributes__" 594 (.ref 247)] 10] ++
 (cA mP 199 497 106 "Walker" [108,208,112,216,127,223,136,230,143,237,151,245] ++
 (fb mP 203 507 108 3 (M_ 27 0) "__init__" "Walker.__init__" [] ["self", "bus", "layout"] .none ++
 ([tu [(.int 0 516),(.int 0 517)]] ++
 (fb mP 211 518 112 7 (M_ 27 1) "translate" "Walker.translate" [] ["self", "root", "address", "kind", "mode", "sum_bit", "mxr", "parts", "place", "entry"] (.ref 210) ++
 (fb mP 218 534 127 4 (M_ 27 2) "entry_at" "Walker.entry_at" [] ["self", "place", "address", "kind", "entry"] .none ++
 (fb mP 225 545 136 8 (M_ 27 3) "large_page" "Walker.large_page" [] ["self", "place", "entry", "address", "kind", "mode", "sum_bit", "mxr", "physical"] .none ++
 (fb mP 232 560 143 5 (M_ 27 4) "mark" "Walker.mark" [] ["self", "place", "entry", "address", "kind", "due"] .none ++
 ([tu [(.int 0 572),(.int 0 573)]] ++
 (fb mP 240 574 151 7 (M_ 27 5) "probe" "Walker.probe" [] ["self", "root", "address", "kind", "mode", "sum_bit", "mxr", "parts", "entry", "size", "trap", "physical"] (.ref 239) ++
 ([tu [(.str "bus" 592),(.str "layout" 593)],
 dd [en P "__module__" 502 mP,en P "__firstlineno__" 506 (.int 106 505),en P "__init__" 515 (.ref 209),en P "translate" 533 (.ref 217),en P "entry_at" 544 (.ref 224),en P "large_page" 559 (.ref 231),en P "mark" 571 (.ref 238),en P "probe" 591 (.ref 246),en P "__static_attributes__" 594 (.ref 247),en P "__dict__" 596 (.ref 250),en P "__weakref__" 598 (.ref 251),en P "__doc__" 599 .none] 4,
 cl "Walker" [(.type "object")] [(.ref 249),(.type "object")] 248 [] [none,none,some (.str "Walker" 495),some (.str "Walker" 503),some (.builtin "object.__new__"),some (.bool true)],
 cU 595 249,
 ZG 597 249,
 BP 249,
 Vm 249])))))))))))))
noncomputable def pV(P:Params):List Obj:=(((L2 P).set 3 (dd (en P "__name__" 165 mP::qH P) 35)).set 12 (fl .none qC))++rI P
noncomputable def G3(P:Params):List DictEntry:=qH P++[en P "Quick" 659 (.ref 285),en P "WORD" 663 (.int 4 662),en P "MASK" 669 (.int 4294967295 668),en P "SPACE" 673 (.int 4294967296 672),en P "SIZES" 677 (.ref 290),en P "need_size" 684 (.ref 297),en P "need_stretch" 692 (.ref 304)]
noncomputable def C3:List Value:=qC++xl 0 [167,259,199,296,202,303]
noncomputable def N3(P:Params):List Obj:=[tu [],
 pp,
 dd [en P "__module__" 609 mP,en P "__qualname__" 611 (.str "Quick" 610),en P "__firstlineno__" 613 (.int 167 612),en P "__init__" 623 (.ref 268),en P "translate" 641 (.ref 276),en P "forget" 647 (.ref 282),en P "__static_attributes__" 652 (.ref 283)] 7] ++
 (cA mP 257 604 167 "Quick" [169,267,177,275,188,281] ++
 ([tu [(.int 16 614)]] ++
 (fb mP 262 615 169 3 (M_ 28 0) "__init__" "Quick.__init__" [] ["self", "walker", "room"] (.ref 261) ++
 ([tu [(.int 0 624),(.int 0 625)]] ++
 (fb mP 270 626 177 7 (M_ 28 1) "translate" "Quick.translate" [] ["self", "root", "address", "kind", "mode", "sum_bit", "mxr", "key", "begin", "physical"] (.ref 269) ++
 ([tu [.none]] ++
 (gb mP 278 642 188 2 (M_ 28 2) "forget" "Quick.forget" [] (.ref 277) ++
 ([tu [(.str "known" 648),(.str "layout" 649),(.str "room" 650),(.str "walker" 651)],
 dd [en P "__module__" 609 mP,en P "__firstlineno__" 613 (.int 167 612),en P "__init__" 623 (.ref 268),en P "translate" 641 (.ref 276),en P "forget" 647 (.ref 282),en P "__static_attributes__" 652 (.ref 283),en P "__dict__" 654 (.ref 286),en P "__weakref__" 656 (.ref 287),en P "__doc__" 657 .none] 4,
 cl "Quick" [(.type "object")] [(.ref 285),(.type "object")] 284 [] [none,none,some (.str "Quick" 602),some (.str "Quick" 610),some (.builtin "object.__new__"),some (.bool true)],
 cU 653 285,
 ZG 655 285,
 BP 285,
 Vm 285,
 tu [(.int 1 674),(.int 2 675),(.int 4 676)]] ++
 (fb mM 291 678 199 1 (S 34) "need_size" "need_size" [] ["size"] .none ++
 (fb mM 298 685 202 2 (S 35) "need_stretch" "need_stretch" [] ["begin", "end"] .none))))))))))
noncomputable def L3(P:Params):List Obj:=(((pV P).set 3 (dd (en P "__name__" 165 mM::G3 P) 42)).set 12 (fl .none C3))++N3 P
noncomputable def qG(P:Params):List DictEntry:=G3 P++[en P "Memory" 930 (.ref 474)]
noncomputable def qM:List Value:=C3++xl 0 [205,310]
noncomputable def rE(P:Params):List Obj:=[tu [],
 pp,
 dd [en P "__module__" 700 mM,en P "__qualname__" 702 (.str "Memory" 701),en P "__firstlineno__" 704 (.int 205 703),en P "__init__" 714 (.ref 319),en P "holds" 723 (.ref 326),en P "need" 732 (.ref 333),en P "need_aligned" 741 (.ref 340),en P "word" 749 (.ref 347),en P "put_word" 758 (.ref 354),en P "keep" 767 (.ref 361),en P "half" 775 (.ref 368),en P "put_half" 784 (.ref 375),en P "octet" 792 (.ref 382),en P "put_octet" 801 (.ref 389),en P "put_part" 813 (.ref 396),en P "get" 822 (.ref 403),en P "put" 832 (.ref 410),en P "load" 846 (.ref 417),en P "store" 861 (.ref 424),en P "zero" 870 (.ref 431),en P "fill" 880 (.ref 438),en P "copy" 890 (.ref 445),en P "used" 897 (.ref 452),en P "rows" 903 (.ref 457),en P "twin" 910 (.ref 464),en P "alike" 918 (.ref 471),en P "__static_attributes__" 923 (.ref 472)] 27] ++
 (cA mM 308 695 205 "Memory" [207,318,214,325,217,332,221,339,225,346,229,353,233,360,239,367,243,374,247,381,251,388,255,395,260,402,268,409,277,416,288,423,303,430,306,437,309,444,312,451,315,456,318,463,321,470] ++
 ([tu [(.int 0 705)]] ++
 (fb mM 313 706 207 3 (M_ 36 0) "__init__" "Memory.__init__" [] ["self", "size", "begin"] (.ref 312) ++
 (fb mM 320 715 214 3 (M_ 36 1) "holds" "Memory.holds" [] ["self", "address", "count"] .none ++
 (fb mM 327 724 217 3 (M_ 36 2) "need" "Memory.need" [] ["self", "address", "count"] .none ++
 (fb mM 334 733 221 3 (M_ 36 3) "need_aligned" "Memory.need_aligned" [] ["self", "address", "size"] .none ++
 (fb mM 341 742 225 2 (M_ 36 4) "word" "Memory.word" [] ["self", "address"] .none ++
 (fb mM 348 750 229 3 (M_ 36 5) "put_word" "Memory.put_word" [] ["self", "address", "value"] .none ++
 (fb mM 355 759 233 3 (M_ 36 6) "keep" "Memory.keep" [] ["self", "index", "value"] .none ++
 (fb mM 362 768 239 2 (M_ 36 7) "half" "Memory.half" [] ["self", "address"] .none ++
 (fb mM 369 776 243 3 (M_ 36 8) "put_half" "Memory.put_half" [] ["self", "address", "value"] .none ++
 (fb mM 376 785 247 2 (M_ 36 9) "octet" "Memory.octet" [] ["self", "address"] .none ++
 (fb mM 383 793 251 3 (M_ 36 10) "put_octet" "Memory.put_octet" [] ["self", "address", "value"] .none ++
 (fb mM 390 802 255 4 (M_ 36 11) "put_part" "Memory.put_part" [] ["self", "address", "ones", "value", "shift", "old"] .none ++
 (fb mM 397 814 260 3 (M_ 36 12) "get" "Memory.get" [] ["self", "address", "size"] .none ++
 (fb mM 404 823 268 4 (M_ 36 13) "put" "Memory.put" [] ["self", "address", "size", "value"] .none ++
 (fb mM 411 833 277 3 (M_ 36 14) "load" "Memory.load" [] ["self", "address", "count", "found", "place", "end", "word", "turn"] .none ++
 (fb mM 418 847 288 3 (M_ 36 15) "store" "Memory.store" [] ["self", "address", "octets", "place", "at", "end", "size", "value", "octet"] .none ++
 (fb mM 425 862 303 3 (M_ 36 16) "zero" "Memory.zero" [] ["self", "address", "count"] .none ++
 (fb mM 432 871 306 4 (M_ 36 17) "fill" "Memory.fill" [] ["self", "address", "count", "octet"] .none ++
 (fb mM 439 881 309 4 (M_ 36 18) "copy" "Memory.copy" [] ["self", "source", "target", "count"] .none ++
 (fb mM 446 891 312 1 (M_ 36 19) "used" "Memory.used" [] ["self"] .none ++
 (gb mM 453 898 315 1 (M_ 36 20) "rows" "Memory.rows" [] .none ++
 (fb mM 458 904 318 1 (M_ 36 21) "twin" "Memory.twin" [] ["self"] .none ++
 (fb mM 465 911 321 2 (M_ 36 22) "alike" "Memory.alike" [] ["self", "other"] .none ++
 ([tu [(.str "begin" 919),(.str "end" 920),(.str "size" 921),(.str "words" 922)],
 dd [en P "__module__" 700 mM,en P "__firstlineno__" 704 (.int 205 703),en P "__init__" 714 (.ref 319),en P "holds" 723 (.ref 326),en P "need" 732 (.ref 333),en P "need_aligned" 741 (.ref 340),en P "word" 749 (.ref 347),en P "put_word" 758 (.ref 354),en P "keep" 767 (.ref 361),en P "half" 775 (.ref 368),en P "put_half" 784 (.ref 375),en P "octet" 792 (.ref 382),en P "put_octet" 801 (.ref 389),en P "put_part" 813 (.ref 396),en P "get" 822 (.ref 403),en P "put" 832 (.ref 410),en P "load" 846 (.ref 417),en P "store" 861 (.ref 424),en P "zero" 870 (.ref 431),en P "fill" 880 (.ref 438),en P "copy" 890 (.ref 445),en P "used" 897 (.ref 452),en P "rows" 903 (.ref 457),en P "twin" 910 (.ref 464),en P "alike" 918 (.ref 471),en P "__static_attributes__" 923 (.ref 472),en P "__dict__" 925 (.ref 475),en P "__weakref__" 927 (.ref 476),en P "__doc__" 928 .none] 4,
 cl "Memory" [(.type "object")] [(.ref 474),(.type "object")] 473 [] [none,none,some (.str "Memory" 693),some (.str "Memory" 701),some (.builtin "object.__new__"),some (.bool true)],
 cU 924 474,
 ZG 926 474,
 BP 474,
 Vm 474]))))))))))))))))))))))))))
noncomputable def oE(P:Params):List Obj:=(((L3 P).set 3 (dd (en P "__name__" 165 mM::qG P) 43)).set 12 (fl .none qM))++rE P
noncomputable def qO(P:Params):List DictEntry:=qG P++[en P "Rom" 987 (.ref 516),en P "Stretch" 1038 (.ref 551)]
noncomputable def qD:List Value:=qM++xl 0 [323,484,339,526]
noncomputable def sD(P:Params):List Obj:=[tu [],
 pp,
 dd [en P "__module__" 938 mM,en P "__qualname__" 940 (.str "Rom" 939),en P "__firstlineno__" 942 (.int 323 941),en P "__init__" 950 (.ref 492),en P "size" 957 (.ref 499),en P "load" 968 (.ref 506),en P "store" 978 (.ref 513),en P "__static_attributes__" 980 (.ref 514)] 8] ++
 (cA mM 482 933 323 "Rom" [325,491,328,498,331,505,337,512] ++
 (fb mM 486 943 325 2 (M_ 37 0) "__init__" "Rom.__init__" [] ["self", "octets"] .none ++
 (fb mM 493 951 328 1 (M_ 37 1) "size" "Rom.size" [] ["self"] .none ++
 (fb mM 500 958 331 3 (M_ 37 2) "load" "Rom.load" [] ["self", "offset", "size", "value", "octet"] .none ++
 (fb mM 507 969 337 4 (M_ 37 3) "store" "Rom.store" [] ["self", "offset", "size", "value"] .none ++
 ([tu [(.str "octets" 979)],
 dd [en P "__module__" 938 mM,en P "__firstlineno__" 942 (.int 323 941),en P "__init__" 950 (.ref 492),en P "size" 957 (.ref 499),en P "load" 968 (.ref 506),en P "store" 978 (.ref 513),en P "__static_attributes__" 980 (.ref 514),en P "__dict__" 982 (.ref 517),en P "__weakref__" 984 (.ref 518),en P "__doc__" 985 .none] 4,
 cl "Rom" [(.type "object")] [(.ref 516),(.type "object")] 515 [] [none,none,some (.str "Rom" 931),some (.str "Rom" 939),some (.builtin "object.__new__"),some (.bool true)],
 cU 981 516,
 ZG 983 516,
 BP 516,
 Vm 516,
 tu [],
 pp,
 dd [en P "__module__" 995 mM,en P "__qualname__" 997 (.str "Stretch" 996),en P "__firstlineno__" 999 (.int 339 998),en P "__init__" 1009 (.ref 534),en P "holds" 1018 (.ref 541),en P "meets" 1027 (.ref 548),en P "__static_attributes__" 1031 (.ref 549)] 7] ++
 (cA mM 524 990 339 "Stretch" [341,533,347,540,350,547] ++
 (fb mM 528 1000 341 4 (M_ 38 0) "__init__" "Stretch.__init__" [] ["self", "begin", "end", "device"] .none ++
 (fb mM 535 1010 347 3 (M_ 38 1) "holds" "Stretch.holds" [] ["self", "address", "size"] .none ++
 (fb mM 542 1019 350 3 (M_ 38 2) "meets" "Stretch.meets" [] ["self", "begin", "end"] .none ++
 ([tu [(.str "begin" 1028),(.str "device" 1029),(.str "end" 1030)],
 dd [en P "__module__" 995 mM,en P "__firstlineno__" 999 (.int 339 998),en P "__init__" 1009 (.ref 534),en P "holds" 1018 (.ref 541),en P "meets" 1027 (.ref 548),en P "__static_attributes__" 1031 (.ref 549),en P "__dict__" 1033 (.ref 552),en P "__weakref__" 1035 (.ref 553),en P "__doc__" 1036 .none] 4,
 cl "Stretch" [(.type "object")] [(.ref 551),(.type "object")] 550 [] [none,none,some (.str "Stretch" 988),some (.str "Stretch" 996),some (.builtin "object.__new__"),some (.bool true)],
 cU 1032 551,
 ZG 1034 551,
 BP 551,
 Vm 551])))))))))))
noncomputable def oZ(P:Params):List Obj:=(((oE P).set 3 (dd (en P "__name__" 165 mM::qO P) 45)).set 12 (fl .none qD))++sD P
noncomputable def G4(P:Params):List DictEntry:=qO P++[en P "Bus" 1136 (.ref 616),en P "_law_scene" 1153 (.ref 627),en P "_law_lay" 1173 (.ref 634),en P "_law_plain" 1179 (.ref 639),en P "_law_told" 1198 (.ref 646),en P "_law_rows" 1204 (.ref 651),en P "_law_one_right" 1210 (.ref 656),en P "_law_kept_right" 1227 (.ref 663),en P "_law_every_right" 1233 (.ref 668),en P "_law_rom_right" 1248 (.ref 675),en P "law" 1254 (.ref 680)]
noncomputable def C4:List Value:=qD++xl 0 [352,561,416,626,420,633,432,638,464,645,470,650,472,655,483,662,505,667,514,674,525,679]
noncomputable def N4(P:Params):List Obj:=[tu [],
 pp,
 dd [en P "__module__" 1046 mM,en P "__qualname__" 1048 (.str "Bus" 1047),en P "__firstlineno__" 1050 (.int 352 1049),en P "__init__" 1058 (.ref 569),en P "attach" 1070 (.ref 576),en P "stretch_at" 1080 (.ref 583),en P "load" 1093 (.ref 591),en P "store" 1107 (.ref 599),en P "fetch" 1117 (.ref 606),en P "is_memory" 1126 (.ref 613),en P "__static_attributes__" 1129 (.ref 614)] 11] ++
 (cA mM 559 1041 352 "Bus" [354,568,358,575,367,582,373,590,388,598,404,605,413,612] ++
 (fb mM 563 1051 354 2 (M_ 39 0) "__init__" "Bus.__init__" [] ["self", "memory"] .none ++
 (fb mM 570 1059 358 4 (M_ 39 1) "attach" "Bus.attach" [] ["self", "begin", "end", "device", "stretch", "other"] .none ++
 (fb mM 577 1071 367 3 (M_ 39 2) "stretch_at" "Bus.stretch_at" [] ["self", "address", "size", "stretch"] .none ++
 ([tu [(.int 5 287)]] ++
 (fb mM 585 1082 373 4 (M_ 39 3) "load" "Bus.load" [] ["self", "address", "size", "cause", "memory", "stretch"] (.ref 584) ++
 ([tu [(.int 7 291)]] ++
 (fb mM 593 1095 388 5 (M_ 39 4) "store" "Bus.store" [] ["self", "address", "size", "value", "cause", "memory", "stretch"] (.ref 592) ++
 (fb mM 600 1108 404 2 (M_ 39 5) "fetch" "Bus.fetch" [] ["self", "address", "memory", "stretch"] .none ++
 (fb mM 607 1118 413 3 (M_ 39 6) "is_memory" "Bus.is_memory" [] ["self", "address", "size"] .none ++
 ([tu [(.str "memory" 1127),(.str "stretches" 1128)],
 dd [en P "__module__" 1046 mM,en P "__firstlineno__" 1050 (.int 352 1049),en P "__init__" 1058 (.ref 569),en P "attach" 1070 (.ref 576),en P "stretch_at" 1080 (.ref 583),en P "load" 1093 (.ref 591),en P "store" 1107 (.ref 599),en P "fetch" 1117 (.ref 606),en P "is_memory" 1126 (.ref 613),en P "__static_attributes__" 1129 (.ref 614),en P "__dict__" 1131 (.ref 617),en P "__weakref__" 1133 (.ref 618),en P "__doc__" 1134 .none] 4,
 cl "Bus" [(.type "object")] [(.ref 616),(.type "object")] 615 [] [none,none,some (.str "Bus" 1039),some (.str "Bus" 1047),some (.builtin "object.__new__"),some (.bool true)],
 cU 1130 616,
 ZG 1132 616,
 BP 616,
 Vm 616] ++
 (fb mL 621 1139 416 2 (S 41) "_law_scene" "_law_scene" [] ["n", "page", "first", "second", "flags", "frame", "kind", "mode", "extra"] .none ++
 (fb mL 628 1154 420 4 (S 42) "_law_lay" "_law_lay" [] ["cells", "page", "many", "scene", "first", "second", "flags", "frame", "kind", "mode", "extra", "shape", "offset", "place"] .none ++
 (gb mL 635 1174 432 6 (S 43) "_law_plain" "_law_plain" [] .none ++
 (fb mL 640 1180 464 3 (S 44) "_law_told" "_law_told" [] ["walker", "address", "scene", "first", "second", "flags", "frame", "kind", "mode", "extra", "shape", "offset", "trap"] .none ++
 (gb mL 647 1199 470 1 (S 45) "_law_rows" "_law_rows" [] .none ++
 (gb mL 652 1205 472 7 (S 46) "_law_one_right" "_law_one_right" [] .none ++
 (fb mL 657 1211 483 7 (S 47) "_law_kept_right" "_law_kept_right" [] ["memory", "layout", "cells", "address", "scene", "due", "place", "quick", "page", "near", "told"] .none ++
 (gb mL 664 1228 505 5 (S 48) "_law_every_right" "_law_every_right" [] .none ++
 (fb mL 669 1234 514 1 (S 49) "_law_rom_right" "_law_rom_right" [] ["n", "page", "flags", "bus", "kind", "walker", "needs", "due", "trap"] .none ++
 (gb mL 676 1249 525 1 (S 50) "law" "law" [] .none)))))))))))))))))))))
noncomputable def L4(P:Params):List Obj:=(((oZ P).set 3 (dd (en P "__name__" 165 mL::G4 P) 56)).set 12 (fl .none C4))++N4 P
noncomputable def hp(l:List Obj):Heap:={objs:=⟨l⟩,life:={}}
noncomputable def st(l:List Obj)(n t:Nat)(os:OsState):SharedT:={tree:=tr l,n:=n,life:={},gens:=⟨[]⟩,drawn:={},toks:=t,os:=os}
noncomputable def GB:Env:={scope:=pw.main.scope,locals:=mainNs,globals:=mainNs,cells:=[],code:=.ref 13,frame:=some 14}
noncomputable def BD:Code:=.body (behindTheImports pw) GB
noncomputable def p0:Pos:=⟨0,0,0,0⟩
noncomputable def JM(a n:Nat):List Stmt:=(pw.main.body.drop a).take n
end
set_option tactic.hygienic true
section
set_option maxHeartbeats 0
noncomputable section
noncomputable def Zf:List Nat:=[0,2,3,4,5,7,8,9,10,11,12,13,14,15,16,17,18,19,20,21,22,23,24,25,26,27,28,30,31,32,33,34,35,36,37,38,39,41,42,43,44,45,46,47,48,49,50]
noncomputable def Hn:Program:={pw with main:={pw.main with body:=Zf.map S}}
noncomputable def iA:List Str:=["BoardError", "Trap", "LEAF", "PAGE_FAULTS", "ACCESS_FAULTS", "MASK", "SPACE", "Bus"]
noncomputable def iF:List (Str×WData):=[("LEAF",.int 10),("MASK",.int 4294967295),("SPACE",.int 4294967296)]
noncomputable def CA(w:World)(os:OsState):Shared:=⟨hp (L4 w.params),⟨[]⟩,{},1255,os⟩
theorem lG(w:World):(λos=>(staticsOk (importedModules pw.main.body) (boot_heap w.params) (hp (L4 w.params))&&namesBound pw (hp (L4 w.params))&&gensDone (CA w os)&&laidKept (boot_heap w.params) (hp (L4 w.params))))=λ_=>true:=by kernel_rfl
theorem mJ(w:World):(λos=>openSeen Hn iA (importedModules pw.main.body) (λs=>xlAt Hn iF s&&recOk Challenge.rw_nu0094_01.row.toRowW.records s) true (CA w os))=λ_=>openGood Hn iA:=by kernel_rfl
noncomputable def O9:List Nat:=[1,2,3,20,21,29,35,36,38,39,51,52,67,68,70,71,81,87,88,90,91,94,95,103,109,110,116,117,118,124,125,131,132,138,139,145,146,152,153,159,160,166,167,169,170,180,181,187,188,194,195,208,209,210,216,217,223,224,230,231,237,238,239,245,246,248,249,261,267,268,269,275,276,277,281,282,284,285,290,296,297,303,304,312,318,319,325,326,332,333,339,340,346,347,353,354,360,361,367,368,374,375,381,382,388,389,395,396,402,403,409,410,416,417,423,424,430,431,437,438,444,445,451,452,456,457,463,464,470,471,473,474,491,492,498,499,505,506,512,513,515,516,533,534,540,541,547,548,550,551,568,569,575,576,582,583,584,590,591,592,598,599,605,606,612,613,615,616,626,627,633,634,638,639,645,646,650,651,655,656,662,663,667,668,674,675,679,680]
noncomputable def Ax(P:Params):Frag:=O9.map λa=>(a,((L4 P)[a]?).getD {cls:=.none})
end
end
set_option tactic.hygienic false
noncomputable def ZX(fd:FuncData)(vals:List Value):{k:Option (Array Value)->Sem (List (Str×Value)) // bindArgs fd ⟨vals,[]⟩=(seqItems? fd.defaults >>= k)}:=⟨_,rfl⟩
noncomputable def Cw(f n:Nat)(qual:Str)(st:Stmt)(dfl:List V):BQ:={f:=f,n:=n,qual:=qual,ps:=(fP st).args.map (·.arg),dfl:=dfl,body:=fB st,scope:=fS st}
noncomputable def cC(k:ScopeKind):Bool:=match k with|.function=>true|_=>false
noncomputable def nP(fe:BQ):Bool:=
 !fe.scope.isCoroutine && !fe.scope.isGenerator&&cC fe.scope.kind&&fe.ps.all (λx=>fe.scope.names.lookup x==some .local||fe.scope.names.lookup x==some .cell) &&
 decide (((cellsFrom 0 fe.scope.names []).map (·.1)).Nodup)&&fe.scope.names.all (λp=>fe.scope.names.lookup p.1 != some .cell||((cellsFrom 0 fe.scope.names []).lookup p.1).isSome)&&decide (fe.ps.length=fe.n+fe.dfl.length)&&decide fe.ps.Nodup
theorem OB{K:Frag}{fe:BQ}(h:nP fe=true)(a:∃(name:Str) (params:Arguments) (dV kV doc pm cdv ct oc:Value) (an od:Option Addr) (osl:Array (Option Value)),
  K.lookup fe.f=some ⟨oc,od,.func (fnOf name fe.qual params fe.body fe.scope dV kV doc pm an cdv ct),osl⟩/\codeIn K cdv fe.qual=true/\
  ∀(s:Shared) (vals:List Value),K.In s.heap->vals.length=fe.n->∃dv,(∀base κ,Bo base κ fe.dfl dv)/\BindsTo s (fnOf name fe.qual params fe.body fe.scope dV kV doc pm an cdv ct) ⟨vals,[]⟩ (fe.ps.zip (vals++dv))):AS K fe:=by
 unfold nP at h;simp only[Bool.and_eq_true,Bool.not_eq_true',decide_eq_true_eq]at h;obtain⟨⟨⟨⟨⟨⟨⟨h1,h2⟩,h3⟩,h4⟩,h5⟩,h6⟩,h7⟩,h8⟩:=h;refine⟨a,h1,h2,?_,h4,h5,λx e=>?_,h7,h8⟩;·cases e:fe.scope.kind<;>rw[e]at h3<;>first|rfl|cases h3
 ·refine CX (List.lookup_eq_some_iff.mp e) λl₁ l₂ e' _=>?_;have:=List.all_eq_true.mp h6 (x,.cell) (by rw[e'];simp);rw[Bool.or_eq_true]at this;rcases this with q|q;·rw[e]at q;exact absurd q (by decide)
  ·exact q
noncomputable def rX(α:Type)(n:Nat):Type:=n.rec α λ_ t=>Value->t
noncomputable def iE(n:Nat):(List Value->α)->rX α n:=n.rec (λF=>F []) λ_ ih F a=>ih λl=>F (a::l)
theorem T4:∀{F G:List Value->α},iE n F=iE n G->∀vals:List Value,vals.length=n->F vals=G vals:=by
 induction n with
 |zero=>intro F G h vals e;cases vals with
  |nil=>exact h
  |cons=>cases e
 |succ n ih=>intro F G h vals e;cases vals with
  |nil=>cases e
  |cons a r=>exact ih (congrFun h a) r (Nat.succ.inj e)
theorem fo{K:Frag}{f n:Nat}{qual:Str}{st:Stmt}(pm:Value)
  (h:(K.lookup f,codeIn K (.ref (f-1)) qual&&nP (Cw f n qual st []),iE n λv=>bindArgs (fnOf (fN st) qual (fP st) (fB st) (fS st) .none .none .none pm none (.ref (f-1)) .none) ⟨v,[]⟩) =
   (some (fn (.type "function") st qual 3 .none pm (.ref (f-1))),true,iE n λv=>pure (((fP st).args.map (·.arg)).zip (v++[])))):AS K (Cw f n qual st []):=
 have h1:=Prod.mk.inj h;have h2:=Prod.mk.inj h1.2;have h3:=Bool.and_eq_true_iff.mp h2.1
 OB h3.2 ⟨fN st,fP st,.none,.none,.none,pm,.ref (f-1),.none,_,none,none,_,h1.1,h3.1,λs vals _ hn=>⟨[],λ_ _=>.nil,BindsTo.of_eq (T4 h2.2 vals hn)⟩⟩
theorem fd{K:Frag}{f n:Nat}{qual:Str}{st:Stmt}{dfl:List V}(pm:Value)(T:Nat)(items dv:List Value)(hd:∀base κ,Bo base κ dfl dv)
  (h:(K.lookup f,codeIn K (.ref (f-1)) qual&&nP (Cw f n qual st dfl),K.lookup T,iE n λv=>(ZX (fnOf (fN st) qual (fP st) (fB st) (fS st) (.ref T) .none .none pm none (.ref (f-1)) .none) v).1 (some ⟨items⟩)) =
   (some (fn (.type "function") st qual 3 (.ref T) pm (.ref (f-1))),true,some (tu items),iE n λv=>pure (((fP st).args.map (·.arg)).zip (v++dv)))):AS K (Cw f n qual st dfl):=
 have h1:=Prod.mk.inj h;have h2:=Prod.mk.inj h1.2;have h3:=Bool.and_eq_true_iff.mp h2.1;have h4:=Prod.mk.inj h2.2
 OB h3.2 ⟨fN st,fP st,.ref T,.none,.none,pm,.ref (f-1),.none,_,none,none,_,h1.1,h3.1,λs vals X hn=>⟨dv,hd,BindsTo.of_defaults rfl (X _ _ h4.1) rfl (ZX _ vals).2 (T4 h4.2 vals hn)⟩⟩
noncomputable def AF:BQ:=Cw 680 1 "law" (S 50) []
theorem Kc(P:Params):AS (Ax P) AF:=fo mL (by kernel_rfl)
noncomputable def HS:BQ:=Cw 627 2 "_law_scene" (S 41) []
theorem QB(P:Params):AS (Ax P) HS:=fo mL (by kernel_rfl)
noncomputable def DU:BQ:=Cw 634 4 "_law_lay" (S 42) []
theorem RQ(P:Params):AS (Ax P) DU:=fo mL (by kernel_rfl)
noncomputable def DQ:BQ:=Cw 639 6 "_law_plain" (S 43) []
theorem QG(P:Params):AS (Ax P) DQ:=fo mL (by kernel_rfl)
noncomputable def GG:BQ:=Cw 646 3 "_law_told" (S 44) []
theorem Qa(P:Params):AS (Ax P) GG:=fo mL (by kernel_rfl)
noncomputable def LD:BQ:=Cw 651 1 "_law_rows" (S 45) []
theorem Sd(P:Params):AS (Ax P) LD:=fo mL (by kernel_rfl)
noncomputable def Ge:BQ:=Cw 656 7 "_law_one_right" (S 46) []
theorem Rc(P:Params):AS (Ax P) Ge:=fo mL (by kernel_rfl)
noncomputable def La:BQ:=Cw 663 7 "_law_kept_right" (S 47) []
theorem Rj(P:Params):AS (Ax P) La:=fo mL (by kernel_rfl)
noncomputable def GF:BQ:=Cw 668 5 "_law_every_right" (S 48) []
theorem Rr(P:Params):AS (Ax P) GF:=fo mL (by kernel_rfl)
noncomputable def IF:BQ:=Cw 675 1 "_law_rom_right" (S 49) []
theorem P8(P:Params):AS (Ax P) IF:=fo mL (by kernel_rfl)
noncomputable def Uz:BQ:=Cw 110 2 "Layout.__init__" (M_ 23 0) []
theorem R0(P:Params):AS (Ax P) Uz:=fd mP 103 [(.int 12 377)] [] (λ_ _=>.nil) (by kernel_rfl)
noncomputable def Gl:BQ:=Cw 117 2 "Layout.parts" (M_ 23 1) []
theorem Ry(P:Params):AS (Ax P) Gl:=fo mP (by kernel_rfl)
noncomputable def UN:BQ:=Cw 132 2 "Layout.down" (M_ 23 3) []
theorem Rd(P:Params):AS (Ax P) UN:=fo mP (by kernel_rfl)
noncomputable def Ko:BQ:=Cw 167 2 "Layout.physical" (M_ 23 8) []
theorem QV(P:Params):AS (Ax P) Ko:=fo mP (by kernel_rfl)
noncomputable def TC:BQ:=Cw 181 1 "is_leaf" (S 24) []
theorem Qj(P:Params):AS (Ax P) TC:=fo mP (by kernel_rfl)
noncomputable def Ky:BQ:=Cw 188 1 "is_sound" (S 25) []
theorem Rp(P:Params):AS (Ax P) Ky:=fo mP (by kernel_rfl)
noncomputable def Ll:BQ:=Cw 195 5 "may" (S 26) []
theorem Qg(P:Params):AS (Ax P) Ll:=fo mP (by kernel_rfl)
noncomputable def TR:BQ:=Cw 209 3 "Walker.__init__" (M_ 27 0) []
theorem QF(P:Params):AS (Ax P) TR:=fo mP (by kernel_rfl)
noncomputable def Ur:BQ:=Cw 217 5 "Walker.translate" (M_ 27 1) [.int 0,.int 0]
theorem RZ(P:Params):AS (Ax P) Ur:=fd mP 210 [(.int 0 516),(.int 0 517)] [(.int 0 516),(.int 0 517)] (λ_ _=>.cons (.int _ _) (.cons (.int _ _) (.nil))) (by kernel_rfl)
noncomputable def Df:BQ:=Cw 217 7 "Walker.translate" (M_ 27 1) []
theorem Q4(P:Params):AS (Ax P) Df:=fd mP 210 [(.int 0 516),(.int 0 517)] [] (λ_ _=>.nil) (by kernel_rfl)
noncomputable def D4:BQ:=Cw 224 4 "Walker.entry_at" (M_ 27 2) []
theorem Qm(P:Params):AS (Ax P) D4:=fo mP (by kernel_rfl)
noncomputable def HW:BQ:=Cw 231 8 "Walker.large_page" (M_ 27 3) []
theorem Qi(P:Params):AS (Ax P) HW:=fo mP (by kernel_rfl)
noncomputable def Dz:BQ:=Cw 238 5 "Walker.mark" (M_ 27 4) []
theorem Q0(P:Params):AS (Ax P) Dz:=fo mP (by kernel_rfl)
noncomputable def Dh:BQ:=Cw 246 7 "Walker.probe" (M_ 27 5) []
theorem Sg(P:Params):AS (Ax P) Dh:=fd mP 239 [(.int 0 572),(.int 0 573)] [] (λ_ _=>.nil) (by kernel_rfl)
noncomputable def Va:BQ:=Cw 268 3 "Quick.__init__" (M_ 28 0) []
theorem QR(P:Params):AS (Ax P) Va:=fd mP 261 [(.int 16 614)] [] (λ_ _=>.nil) (by kernel_rfl)
noncomputable def GD:BQ:=Cw 276 7 "Quick.translate" (M_ 28 1) []
theorem P5(P:Params):AS (Ax P) GD:=fd mP 269 [(.int 0 624),(.int 0 625)] [] (λ_ _=>.nil) (by kernel_rfl)
noncomputable def HF:BQ:=Cw 282 1 "Quick.forget" (M_ 28 2) [.none]
theorem Ro(P:Params):AS (Ax P) HF:=fd mP 277 [.none] [.none] (λ_ _=>.cons (.none) (.nil)) (by kernel_rfl)
noncomputable def GI:BQ:=Cw 282 2 "Quick.forget" (M_ 28 2) []
theorem QH(P:Params):AS (Ax P) GI:=fd mP 277 [.none] [] (λ_ _=>.nil) (by kernel_rfl)
noncomputable def UC:BQ:=Cw 297 1 "need_size" (S 34) []
theorem Qz(P:Params):AS (Ax P) UC:=fo mM (by kernel_rfl)
noncomputable def TY:BQ:=Cw 304 2 "need_stretch" (S 35) []
theorem RI(P:Params):AS (Ax P) TY:=fo mM (by kernel_rfl)
noncomputable def Wa:BQ:=Cw 319 2 "Memory.__init__" (M_ 36 0) [.int 0]
theorem Q9(P:Params):AS (Ax P) Wa:=fd mM 312 [(.int 0 705)] [(.int 0 705)] (λ_ _=>.cons (.int _ _) (.nil)) (by kernel_rfl)
noncomputable def GV:BQ:=Cw 340 3 "Memory.need_aligned" (M_ 36 3) []
theorem QP(P:Params):AS (Ax P) GV:=fo mM (by kernel_rfl)
noncomputable def Lw:BQ:=Cw 347 2 "Memory.word" (M_ 36 4) []
theorem RP(P:Params):AS (Ax P) Lw:=fo mM (by kernel_rfl)
noncomputable def Gu:BQ:=Cw 354 3 "Memory.put_word" (M_ 36 5) []
theorem Rx(P:Params):AS (Ax P) Gu:=fo mM (by kernel_rfl)
noncomputable def Fp:BQ:=Cw 361 3 "Memory.keep" (M_ 36 6) []
theorem RM(P:Params):AS (Ax P) Fp:=fo mM (by kernel_rfl)
noncomputable def K9:BQ:=Cw 403 3 "Memory.get" (M_ 36 12) []
theorem Ql(P:Params):AS (Ax P) K9:=fo mM (by kernel_rfl)
noncomputable def Es:BQ:=Cw 410 4 "Memory.put" (M_ 36 13) []
theorem Qb(P:Params):AS (Ax P) Es:=fo mM (by kernel_rfl)
noncomputable def Ls:BQ:=Cw 457 1 "Memory.rows" (M_ 36 20) []
theorem Qy(P:Params):AS (Ax P) Ls:=fo mM (by kernel_rfl)
noncomputable def VL:BQ:=Cw 492 2 "Rom.__init__" (M_ 37 0) []
theorem R6(P:Params):AS (Ax P) VL:=fo mM (by kernel_rfl)
noncomputable def V2:BQ:=Cw 506 3 "Rom.load" (M_ 37 2) []
theorem Sk(P:Params):AS (Ax P) V2:=fo mM (by kernel_rfl)
noncomputable def Wc:BQ:=Cw 513 4 "Rom.store" (M_ 37 3) []
theorem Ri(P:Params):AS (Ax P) Wc:=fo mM (by kernel_rfl)
noncomputable def US:BQ:=Cw 534 4 "Stretch.__init__" (M_ 38 0) []
theorem QL(P:Params):AS (Ax P) US:=fo mM (by kernel_rfl)
noncomputable def Sv:BQ:=Cw 541 3 "Stretch.holds" (M_ 38 1) []
theorem R8(P:Params):AS (Ax P) Sv:=fo mM (by kernel_rfl)
noncomputable def S1:BQ:=Cw 548 3 "Stretch.meets" (M_ 38 2) []
theorem Sf(P:Params):AS (Ax P) S1:=fo mM (by kernel_rfl)
noncomputable def UH:BQ:=Cw 569 2 "Bus.__init__" (M_ 39 0) []
theorem Ru(P:Params):AS (Ax P) UH:=fo mM (by kernel_rfl)
noncomputable def Tw:BQ:=Cw 576 4 "Bus.attach" (M_ 39 1) []
theorem QN(P:Params):AS (Ax P) Tw:=fo mM (by kernel_rfl)
noncomputable def Wk:BQ:=Cw 583 3 "Bus.stretch_at" (M_ 39 2) []
theorem RK(P:Params):AS (Ax P) Wk:=fo mM (by kernel_rfl)
noncomputable def HR:BQ:=Cw 591 3 "Bus.load" (M_ 39 3) [.int 5]
theorem RH(P:Params):AS (Ax P) HR:=fd mM 584 [(.int 5 287)] [(.int 5 287)] (λ_ _=>.cons (.int _ _) (.nil)) (by kernel_rfl)
noncomputable def I0:BQ:=Cw 599 4 "Bus.store" (M_ 39 4) [.int 7]
theorem Qw(P:Params):AS (Ax P) I0:=fd mM 592 [(.int 7 291)] [(.int 7 291)] (λ_ _=>.cons (.int _ _) (.nil)) (by kernel_rfl)
noncomputable def Oz:BQ:=Cw 36 2 "BoardError.__init__" (M_ 2 0) []
theorem Tb(P:Params):AS (Ax P) Oz:=fd mE 29 [(.str "" 208)] [] (λ_ _=>.nil) (by kernel_rfl)
noncomputable def F6:BQ:=Cw 68 2 "BadAddress.__init__" (M_ 4 0) []
theorem Tt(P:Params):AS (Ax P) F6:=fo mE (by kernel_rfl)
noncomputable def FJ:BQ:=Cw 88 3 "Trap.__init__" (M_ 5 14) []
theorem Ww(P:Params):AS (Ax P) FJ:=fd mE 81 [(.int 0 305)] [] (λ_ _=>.nil) (by kernel_rfl)
noncomputable def ge(n:Str)(x:Value):Str×Value:=(n,x)
noncomputable def gr(n:Str)(a:Nat):Str×Value:=(n,.ref a)
noncomputable def me(a:Nat)(n:Str)(b:Nat):Addr×Str×Addr:=(a,n,b)
noncomputable def nG(x:Value):V:=match x with
 |.int i _=>.int i
 |.str s _=>.str s
 |_=>.glob x
theorem bN{base:Heap}{κ:Wd}(x:Value):RV base κ (nG x) x:=by cases x<;>first|exact .glob _|exact .int _ _|exact .str _ _
noncomputable def TG:List (Str×Value):=[ge "ENTRY" (.int 4 323),ge "VALID" (.int 1 325),ge "READ" (.int 2 327),ge "WRITE" (.int 4 329),ge "EXECUTE" (.int 8 331),ge "USER" (.int 16 333),ge "ACCESSED" (.int 64 335),ge "DIRTY" (.int 128 337),ge "LEAF" (.int 10 339),ge "FLAG_BITS" (.int 10 341),ge "FETCH" (.str "fetch" 343),ge "LOAD" (.str "load" 345),ge "STORE" (.str "store" 347),gr "PAGE_FAULTS" 94,gr "ACCESS_FAULTS" 95,ge "USER_MODE" (.int 0 363),gr "Layout" 170,gr "is_leaf" 181,gr "is_sound" 188,gr "may" 195,gr "Walker" 249,gr "Quick" 285,ge "WORD" (.int 4 662),ge "MASK" (.int 4294967295 668),ge "SPACE" (.int 4294967296 672),gr "need_size" 297,gr "need_stretch" 304,gr "Memory" 474,gr "Rom" 516,gr "Stretch" 551,gr "Bus" 616,gr "BadArgument" 52,gr "BadAddress" 71,gr "Trap" 91,gr "_law_scene" 627,gr "_law_lay" 634,gr "_law_plain" 639,gr "_law_told" 646,gr "_law_rows" 651,gr "_law_one_right" 656,gr "_law_kept_right" 663,gr "_law_every_right" 668,gr "_law_rom_right" 675]
noncomputable def Zc:List (Str×Value):=[("abs",.builtin "abs"),("sum",.builtin "sum"),("sorted",.builtin "sorted"),("max",.builtin "max"),("len",.builtin "len"),("int",.type "int"),("bool",.type "bool"),("range",.type "range"),("dict",.type "dict"),("bytes",.type "bytes")]
noncomputable def Ul:List (Addr×Str×Addr):=[me 170 "parts" 117,me 170 "down" 132,me 170 "physical" 167,me 249 "translate" 217,me 249 "entry_at" 224,me 249 "large_page" 231,me 249 "mark" 238,me 249 "probe" 246,me 285 "translate" 276,me 285 "forget" 282,me 474 "need_aligned" 340,me 474 "word" 347,me 474 "put_word" 354,me 474 "keep" 361,me 474 "get" 403,me 474 "put" 410,me 474 "rows" 457,me 516 "load" 506,me 516 "store" 513,me 551 "holds" 541,me 551 "meets" 548,me 616 "attach" 576,me 616 "stretch_at" 583,me 616 "load" 591,me 616 "store" 599]
noncomputable def eS:List (Addr×Str):=[(170, "page_bits"),(170, "level_bits"),(170, "page"),(170, "entries"),(170, "large"),(170, "end"),(249, "bus"),(249, "layout"),(285, "walker"),(285, "layout"),(285, "room"),(285, "known"),(474, "size"),(474, "begin"),(474, "end"),(474, "words"),(516, "octets"),(551, "begin"),(551, "end"),(551, "device"),(616, "memory"),(616, "stretches")]
noncomputable def cR:List (Addr×Addr):=[(170,110),(249,209),(285,268),(474,319),(516,492),(551,534),(616,569)]
noncomputable def nM:List BQ:=[AF,HS,DU,DQ,GG,LD,Ge,La,GF,IF,Uz,Gl,UN,Ko,TC,Ky,Ll,TR,Ur,Df,D4,HW,Dz,Dh,Va,GD,HF,GI,UC,TY,Wa,GV,Lw,Gu,Fp,K9,Es,Ls,VL,V2,Wc,US,Sv,S1,UH,Tw,Wk,HR,I0]
noncomputable def qU:List (Str×Int×Nat):=[("fetch",12,299),("load",13,301),("store",15,303)]
noncomputable def qY:List (Str×Int×Nat):=[("fetch",1,279),("load",5,287),("store",7,291)]
noncomputable def Wg:V:=.tup [.int 1,.int 2,.int 4]
noncomputable def SP(l:List (Addr×Str×Addr))(C:Addr)(n:Str):Option Addr:=(l.find? λp=>p.1==C&&p.2.1==n).map (·.2.2)
noncomputable def TX(C n:Nat):Option BQ:=nM.find? λe=>e.f==C&&e.n==n
noncomputable def WU(x:Str):Option V:=if x = "SIZES" then some Wg else((TG.lookup x).map nG).or ((Zc.lookup x).map .glob)
noncomputable def Ad:LW where
 glb:=WU
 meth:=λC n=>(SP Ul C n).map .ref
 tab:=λa s=>if a=94 then(qU.lookup s).map (·.1) else if a=95 then(qY.lookup s).map (·.1) else none
 own:=λC n=>eS.contains (C,n)
 fn:=TX
 cls:=λC=>cR.lookup C
noncomputable def VK(P:Params):List DictEntry:=match(Ax P).lookup 3 with
 |some o=>(match o.data with|.dict es _=>es.toList|_=>[])
 |none=>[]
noncomputable def JT(P:Params)(x:Str):Option Value:=((VK P).find? λe=>e.key.isStr x).map (·.val)
theorem YX(P:Params):(Ax P).lookup 3=some (di (.type "dict") (VK P) 56):=by kernel_rfl
theorem E5{P:Params}{h:Heap}{mg:Str->Option Value}(X:(Ax P).In h)(g:h.Ns mainGlobals mg)(x:Str):mg x=JT P x:=by
 obtain⟨o,es,ep,e1,e2,_,e3⟩:=g;have e4:=X 3 _ (YX P);unfold JT;revert e4;generalize VK P=ml;intro e4;rw[show h.get? 3=some o from e1]at e4;cases e4;have:es=⟨ml⟩:=by cases e2;rfl
 rw[<-e3,this];unfold nsFind findBy;rw[List.find?_toArray]
theorem Y5(P:Params):TG.all (λp=>decide (JT P p.1=some p.2))=true:=by kernel_rfl
theorem Xz(P:Params):Zc.all (λp=>decide (JT P p.1=none)&&decide (bootBuiltins p.1=some p.2)&&decide (p.1≠ "__name__"))=true:=by kernel_rfl
theorem Tr(P:Params):JT P "SIZES" = some (.ref 290)/\(Ax P).lookup 290=some (NI ⟨[.int 1 674,.int 2 675,.int 4 676]⟩ 0):=⟨by kernel_rfl,by kernel_rfl⟩
theorem TJ(P:Params):Ul.all (λp=>plainGet (Ax P) p.1 p.2.1&&decide (findIn (Ax P) (.ref p.1) p.2.1=some (some (.ref p.2.2)))&&isFn (Ax P) (.ref p.2.2)&&keepIn (Ax P) (.ref p.2.2))=true:=by kernel_rfl
theorem Ym(P:Params):eS.all (λp=>plainGet (Ax P) p.1 p.2&&hasDictIn (Ax P) p.1&&decide (findIn (Ax P) (.ref p.1) p.2=some none)&&noGet (Ax P) none &&
 decide (findIn (Ax P) (.ref p.1) "__setattr__" = some (some (.builtin "object.__setattr__")))&&plainOver (Ax P) p.1&&decide (takerIn (Ax P) p.1 p.2=some none))=true:=by kernel_rfl
theorem Xx(P:Params):cR.all (λp=>makesIn (Ax P) p.1&&decide (findIn (Ax P) (.ref p.1) "__init__" = some (some (.ref p.2)))&&isFn (Ax P) (.ref p.2))=true:=by kernel_rfl
theorem TS(P:Params):TG.all (λp=>match nG p.2 with|.glob g=>Hc g||keepIn (Ax P) g|_=>true)=true:=by kernel_rfl
theorem XR:Zc.all (λp=>match p.2 with|.ref _=>false|_=>true)=true:=by kernel_rfl
theorem Lv{α:Type}{l:List α}{f:α->Bool}(h:l.all f=true){a:α}(m:a∈l):f a=true:=List.all_eq_true.mp h a m
theorem DK{α β:Type}[BEq α][LawfulBEq α]{l:List (α×β)}{a:α}{b:β}(h:l.lookup a=some b):(a,b)∈l:=by refine CX (List.lookup_eq_some_iff.mp h) λl₁ l₂ e _=>?_;rw[e];simp
theorem Qf{C a:Addr}{n:Str}{l:List (Addr×Str×Addr)}(h:SP l C n=some a):(C,n,a)∈l:=by refine Au (Option.map_eq_some_iff.mp h) λp hp eqq2=>?_;subst eqq2;have h2:=List.find?_some hp;rw[<-eq_of_beq (Ct h2),<-eq_of_beq (Dp h2)];exact List.mem_of_find?_eq_some hp
theorem J1{C n:Nat}{fe:BQ}(h:TX C n=some fe):fe∈nM:=List.mem_of_find?_eq_some h
theorem M9{C n:Nat}{fe:BQ}(h:TX C n=some fe):fe.f=C/\fe.n=n:=
 have h:=List.find?_some (p:=λe:BQ=>e.f==C&&e.n==n) h
 ⟨eq_of_beq (Ct h),eq_of_beq (Dp h)⟩
theorem CY{K:Frag}{e:BQ}{l:List BQ}(h:AS K e)(t:∀q∈l,AS K q):∀q∈e::l,AS K q:=λq m=>by
 cases m with
 |head=>exact h
 |tail _ m=>exact t q m
theorem dH(P:Params):∀q∈nM,AS (Ax P) q:=CY (Kc P)<|CY (QB P)<|CY (RQ P)<|CY (QG P)<|CY (Qa P)<|CY (Sd P)<|CY (Rc P)<|CY (Rj P)<|CY (Rr P)<|CY (P8 P)<|CY (R0 P)<|CY (Ry P)<|CY (Rd P)<|CY (QV P)<|CY (Qj P)<|CY (Rp P)<|CY (Qg P)<|CY (QF P)<|CY (RZ P)<|CY (Q4 P)<|CY (Qm P)<|CY (Qi P)<|CY (Q0 P)<|CY (Sg P)<|CY (QR P)<|CY (P5 P)<|CY (Ro P)<|CY (QH P)<|CY (Qz P)<|CY (RI P)<|CY (Q9 P)<|CY (QP P)<|CY (RP P)<|CY (Rx P)<|CY (RM P)<|CY (Ql P)<|CY (Qb P)<|CY (Qy P)<|CY (R6 P)<|CY (Sk P)<|CY (Ri P)<|CY (QL P)<|CY (R8 P)<|CY (Sf P)<|CY (Ru P)<|CY (QN P)<|CY (RK P)<|CY (RH P)<|CY (Qw P)<|λ_ m=>nomatch m
theorem CR(P:Params):(subIn (Ax P) (.ref 91) (.type "BaseException")=some true/\findIn (Ax P) (.ref 91) "__getattribute__" = some (some (.builtin "BaseException.__getattribute__"))/\
  findIn (Ax P) (.ref 91) "__getattr__" = some none/\hasDictIn (Ax P) 91=true/\findIn (Ax P) (.ref 91) "cause" = some none/\findIn (Ax P) (.ref 91) "value" = some none)/\
  (exmOne (Ax P) (.ref 91) (.ref 91)=some true/\exmAny (Ax P) (.ref 91) [.ref 71,.ref 91]=some true/\exmAny (Ax P) (.ref 71) [.ref 71,.ref 91]=some true)/\
  (subIn (Ax P) (.ref 71) (.type "BaseException")=some true/\typeIn (Ax P) (.ref 71)=some (.type "type")/\typeIn (Ax P) (.ref 91)=some (.type "type")):=
 ⟨⟨by kernel_rfl,by kernel_rfl,by kernel_rfl,by kernel_rfl,by kernel_rfl,by kernel_rfl⟩,⟨by kernel_rfl,by kernel_rfl,by kernel_rfl⟩,by kernel_rfl,by kernel_rfl,by kernel_rfl⟩
noncomputable def ZY(es:List DictEntry)(s:Str):Option Value:=(es.find? λe=>Value.isStrOf s e.key).map (·.val)
noncomputable def mD(P:Params)(l:List (Str×Nat×Value)):List DictEntry:=l.map λp=>en P p.1 p.2.1 p.2.2
theorem XD{prog:Program}{w:World}{a:Addr}{l:List (Str×Nat×Value)}{n:Nat}(ho:(Ax w.params).lookup a=some (di (.type "dict") (mD w.params l) n)):
  ∀h:Heap,(Ax w.params).In h->h.MapOf (PySem.strKind prog w) a (ZY (mD w.params l)):=λh X=>by
 refine⟨_,⟨mD w.params l⟩,n,X _ _ ho,⟨rfl,rfl,rfl⟩,rfl,λe he=>?_,λk=>?_⟩;·refine Au (List.mem_map.mp (List.mem_toArray.mp he)) λp _ e1=>?_;rw[<-e1];exact⟨p.1,strKind_is _ _ _ _,rfl⟩
 ·unfold findBy;rw[List.find?_toArray];rfl
noncomputable def rN:List (Str×Nat×Value):=[("fetch",343,.int 12 299),("load",345,.int 13 301),("store",347,.int 15 303)]
noncomputable def sE:List (Str×Nat×Value):=[("fetch",343,.int 1 279),("load",345,.int 5 287),("store",347,.int 7 291)]
theorem Pu{prog:Program}{w:World}{a:Addr}{k:List (Str×Nat×Value)}{l:List (Str×Int×Nat)}{m:Nat}(H:(Ax w.params).lookup a=some (di (.type "dict") (mD w.params k) m))
  (hv:l.all (λp=>decide (ZY (mD w.params k) p.1=some (.int p.2.1 p.2.2)))=true) {s:Str}{n:Int}(h:(l.lookup s).map (·.1)=some n) :
  ∃(f:Str->Option Value) (t:Tok),(∀h:Heap,(Ax w.params).In h->h.MapOf (PySem.strKind prog w) a f)/\f s=some (.int n t):=by
 refine Au (Option.map_eq_some_iff.mp h) λp e1 e2=>?_;rw[<-e2];exact⟨_,p.2,XD H,of_decide_eq_true (Lv hv (DK e1))⟩
inductive SO(x:Str):V->Prop
 |sz:x = "SIZES" ->SO x Wg
 |gm {y:Value}:(x,y)∈TG->SO x (nG y)
 |gb {y:Value}:(x,y)∈Zc->SO x (.glob y)
theorem gU{x:Str}{v:V}(e:WU x=some v):SO x v:=by
 unfold WU at e;by_cases hx:x = "SIZES";·rw[if_pos hx]at e;rw[<-Option.some.inj e];exact .sz hx
 ·rw[if_neg hx]at e;cases el:TG.lookup x with
  |some p=>rw[el]at e;rw[<-Option.some.inj e];exact .gm (DK el)
  |none=>rw[el]at e;refine Au (Option.map_eq_some_iff.mp e) λy e' e2=>?_;rw[<-e2];exact .gb (DK e')
theorem fC{w:World}{base:Heap}{mg mb:Str->Option Value}(X:(Ax w.params).In base)(g:base.Ns mainGlobals mg)(hb:∀x:Str,x≠ "__name__" ->mb x=bootBuiltins x){x:Str}{v:V}(e:SO x v):
  ∃y,(mg x=some y\/(mg x=none/\mb x=some y))/\RV base ⟨[],[]⟩ v y:=by
 cases e with
 |sz hx=>subst hx;refine AG (Tr w.params) λs1 s2=>?_;exact⟨.ref 290,.inl ((E5 X g _).trans s1),.tup (.inl (X _ _ s2)) (.cons (.int _ _) (.cons (.int _ _) (.cons (.int _ _) .nil)))⟩
 |@gm y m=>have h:=Lv (Y5 w.params) m;exact⟨y,.inl ((E5 X g x).trans (of_decide_eq_true h)),bN y⟩
 |@gb y m=>have h:=Lv (Xz w.params) m;have h1:=Ct h;exact⟨y,.inr ⟨(E5 X g x).trans (of_decide_eq_true (Ct h1)),(hb x (of_decide_eq_true (Dp h))).trans (of_decide_eq_true (Dp h1))⟩,.glob _⟩
theorem WH{P:Params}{x:Str}{v:Value}(e:WU x=some (.glob v))(ht:Hc v=false):keepIn (Ax P) v=true\/∀a,v≠.ref a:=by
 generalize hz:V.glob v=z at e;cases gU e with
 |sz=>cases hz
 |@gm y m=>have h:=Lv (TS P) m;dsimp only at h;rw[<-hz]at h;dsimp only at h;rw[ht]at h;exact .inl h
 |@gb y m=>cases hz;refine .inr λa ea=>?_;subst ea;have h:=Lv XR m;exact absurd h Bool.false_ne_true
theorem eR{prog:Program}{w:World}{a:Addr}{s:Str}{n:Int}(e:Ad.tab a s=some n):∃(f:Str->Option Value) (t:Tok),(∀h:Heap,(Ax w.params).In h->h.MapOf (PySem.strKind prog w) a f)/\f s=some (.int n t):=by
 replace e:(if a=94 then(qU.lookup s).map (·.1) else if a=95 then(qY.lookup s).map (·.1) else none)=some n:=e;by_cases h1:a=94;·rw[if_pos h1]at e;subst h1;exact Pu (k:=rN) (m:=3) (by kernel_rfl) (by kernel_rfl) e
 ·rw[if_neg h1]at e;by_cases h2:a=95;·rw[if_pos h2]at e;subst h2;exact Pu (k:=sE) (m:=3) (by kernel_rfl) (by kernel_rfl) e
  ·rw[if_neg h2]at e;cases e
theorem aF{prog:Program}{w:World}{base:Heap}{mg mb:Str->Option Value}(X:(Ax w.params).In base)(g:base.Ns mainGlobals mg)(hb:∀x:Str,x≠ "__name__" ->mb x=bootBuiltins x)
  (mk:∀(Γ:BG) (A:Around),Γ.prog=prog->Γ.w=w->Γ.K=Ax w.params->Γ.base=base->Γ.Ok->A.frames=some (Γ.env::Γ.outer)->A.depth+8<recursionLimit->A.units+64<cLine->lZ Γ A):iD prog w (Ax w.params) base mg mb Ad where
 glb:=λx v e=>fC X g hb (gU e)
 meth:=λC n f e=>by refine Au (Option.map_eq_some_iff.mp (show(SP Ul C n).map Value.ref=some f from e)) λa e' e2=>?_;rw[<-e2];have h:=Lv (TJ w.params) (Qf e');have h1:=Ct h;have h2:=Ct h1;exact⟨a,rfl,Ct h2,of_decide_eq_true (Dp h2),Dp h1,Dp h⟩
 own:=λC n e=>by have h:=Lv (Ym w.params) (List.contains_iff_mem.mp (show eS.contains (C,n)=true from e));have h1:=Ct h;have h2:=Ct h1;have h3:=Ct h2;have h4:=Ct h3;have h5:=Ct h4;exact⟨Ct h5,Dp h5,⟨none,of_decide_eq_true (Dp h4),Dp h3⟩,of_decide_eq_true (Dp h2),Dp h1,of_decide_eq_true (Dp h)⟩
 exn:=λn hn=>by refine oX ((CR w.params).1) λh1 h2 h3 h4 h5 h6=>⟨h1,h2,h3,h4,hn.elim (λe=>by rw[e];exact h5) λe=>by rw[e];exact h6⟩
 gkeep:=λx v e ht=>WH e ht
 tab:=λa s n e=>eR e
 fn:=λa k fe e=>⟨(M9 e).1,(M9 e).2,dH w.params _ (J1 e)⟩
 cls:=λC i e=>by have h:=Lv (Xx w.params) (DK (show cR.lookup C=some i from e));exact⟨Ct (Ct h),of_decide_eq_true (Dp (Ct h)),Dp h⟩
 exm:=⟨(CR w.params).2.1.1,λe=>by cases e with
  |trap=>exact(CR w.params).2.1.2.1
  |bad=>exact(CR w.params).2.1.2.2⟩
 sub:=λe=>by cases e with
  |trap=>exact⟨(CR w.params).1.1,(CR w.params).2.2.2.2⟩
  |bad=>exact⟨(CR w.params).2.2.1,(CR w.params).2.2.2.1⟩
 mkx:=mk
set_option backward.match.sparseCases false
noncomputable section
mutual
noncomputable def Jw:Expr->Cx->Fm->(V->Mo Az)->Mo Az
 |.BinOp l op r _,c,fr,k=>Jw l c fr λa=>Jw r c fr λb=>Aa (Aj op a b) k
 |.UnaryOp op x _,c,fr,k=>Jw x c fr λa=>Aa (Th op a) k
 |.Compare l ops rs _,c,fr,k=>if(rs.all BL&&rs.length==ops.length)=true then Jw l c fr λa=>YT rs ops a c fr λq=>k (.bool q) else AB
 |.Call f args kw pos,c,fr,k=>if(c.plain&&kw.isEmpty&&O2 f pos&&argsOk args)=true then mY f c fr λg=>Ti args c fr λvs=>Aa (DB c g vs) k else AB
 |.Attribute o name _,c,fr,k=>if CP o=true then Jw o c fr λov=>Aa (Fg c ov name) k else AB
 |.Subscript o i _,c,fr,k=>Jw o c fr λov=>Aa (Yo i c fr) λix=>Aa (B9 c ov ix) k
 |.List xs _,c,fr,k=>if xs.isEmpty=true then Aa (Ej (.list [])) k else if argsOk xs=true then Ti xs c fr λvs=>k (.lst vs) else AB
 |.Tuple xs _ _,c,fr,k=>if argsOk xs=true then Ti xs c fr λvs=>k (.tup vs) else AB
 |e,c,fr,k=>Aa (ev e c fr) k
termination_by structural e=>e
noncomputable def mY:Expr->Cx->Fm->(B4->Mo Az)->Mo Az
 |.Attribute o name _,c,fr,k=>Jw o c fr λov=>Aa (Ed c ov name) λf=>k (.meth f ov)
 |e,c,fr,k=>Aa (bC e c fr) k
termination_by structural e=>e
noncomputable def Ti:List Expr->Cx->Fm->(List V->Mo Az)->Mo Az
 |[],_,_,k=>k []
 |e::r,c,fr,k=>Jw e c fr λv=>Ti r c fr λvs=>k (v::vs)
termination_by structural e=>e
noncomputable def aR:Expr->Cx->Fm->((V->Mo Az)->Mo Az)->(Bool->Mo Az)->Mo Az
 |.UnaryOp op x _,c,fr,whole,k=>(match op with
  |.Not=>aR x c fr (Jw x c fr) λq=>k (!q)
  |_=>whole λv=>Aa (BS v) k)
 |.BoolOp op xs _,c,fr,_,k=>Aa (NH xs op c fr) k
 |.Compare l ops rs _,c,fr,_,k=>if(rs.all BL&&rs.length==ops.length)=true then Jw l c fr λa=>YT rs ops a c fr k else AB
 |.IfExp _ _ _ _,_,_,_,_=>AB
 |_,_,_,whole,k=>whole λv=>Aa (BS v) k
termination_by structural e=>e
noncomputable def YT:List Expr->List CmpOp->V->Cx->Fm->(Bool->Mo Az)->Mo Az
 |[],_,_,_,_,_=>AB
 |x::r,ops,a,c,fr,k=>(match ops with
  |[]=>AB
  |op::ops=>Jw x c fr λb=>Aa (Ap op a b) λq=>if r.isEmpty=true then(if ops.isEmpty=true then k q else AB) else if q=true then YT r ops b c fr k else k false)
termination_by structural e=>e
end
theorem FC:Aa m ret=m:=by funext σ;unfold Aa;cases m σ<;>rfl
theorem eG(h:∀a,f a=g a):Aa m f=Aa m g:=by rw[funext h]
theorem AK(e:∀a,h a=Aa (g a) k):Aa f h=Aa (Aa f g) k:=by rw[B1,funext e]
theorem DL[Decidable p](h:a=Aa a' k):(if p then a else AB)=Aa (if p then a' else AB) k:=by
 by_cases c:p;·rw[if_pos c,if_pos c,h]
 ·rw[if_neg c,if_neg c];rfl
theorem PS[Decidable p](h:a=Aa a' k)(h2:b=Aa b' k):(if p then a else b)=Aa (if p then a' else b') k:=by
 by_cases c:p;·rw[if_pos c,if_pos c,h]
 ·rw[if_neg c,if_neg c,h2]
mutual
theorem BK(e:Expr)(c:Cx)(fr:Fm)(k:V->Mo Az):Jw e c fr k=Aa (ev e c fr) k:=by
 cases e with
 |BinOp l op r _=>exact(BK l c fr _).trans (AK λa=>(BK r c fr _).trans (AK λ_=>rfl))
 |UnaryOp op x _=>exact(BK x c fr _).trans (AK λ_=>rfl)
 |Compare l ops rs _=>exact DL ((BK l c fr _).trans (AK λa=>(Ks rs ops a c fr _).trans (AK λ_=>rfl)))
 |Call f args kw pos=>exact DL ((X1 f c fr _).trans (AK λg=>(Hu args c fr _).trans (AK λ_=>rfl)))
 |Attribute o name _=>exact DL ((BK o c fr _).trans (AK λ_=>rfl))
 |Subscript o i _=>exact(BK o c fr _).trans (AK λ_=>AK λ_=>rfl)
 |List xs _=>exact PS rfl (DL ((Hu xs c fr _).trans (AK λ_=>rfl)))
 |Tuple xs _ _=>exact DL ((Hu xs c fr _).trans (AK λ_=>rfl))
 |_=>exact rfl
theorem X1(e:Expr)(c:Cx)(fr:Fm)(k:B4->Mo Az):mY e c fr k=Aa (bC e c fr) k:=by
 cases e with
 |Attribute o name _=>exact(BK o c fr _).trans (AK λ_=>AK λ_=>rfl)
 |_=>exact rfl
theorem Hu:∀(e:List Expr) (c:Cx) (fr:Fm) (k:List V->Mo Az),Ti e c fr k=Aa (GX e c fr) k
 |[],_,_,_=>rfl
 |e::r,c,fr,k=>(BK e c fr _).trans (AK λ_=>(Hu r c fr _).trans (AK λ_=>rfl))
theorem Ks:∀(e:List Expr) (ops:List CmpOp) (a:V) (c:Cx) (fr:Fm) (k:Bool->Mo Az),YT e ops a c fr k=Aa (Hj e ops a c fr) k
 |[],_,_,_,_,_=>rfl
 |e::r,ops,a,c,fr,k=>by
  cases ops with
  |nil=>rfl
  |cons op ops=>exact(BK e c fr _).trans (AK λb=>AK λq=>PS (DL rfl) (PS (Ks r ops b c fr k) rfl))
end
theorem PX(e:Expr)(c:Cx)(fr:Fm)(wh:(V->Mo Az)->Mo Az)(wm:Mo V)(h:∀k,wh k=Aa wm k)(k:Bool->Mo Az):aR e c fr wh k=Aa (tst e c fr wm) k:=by
 cases e with
 |UnaryOp op x _=>
  cases op with
  |Not=>exact(PX x c fr _ _ (λk=>BK x c fr k) _).trans (AK λ_=>rfl)
  |Invert=>exact(h _).trans (AK λ_=>rfl)
  |UAdd=>exact(h _).trans (AK λ_=>rfl)
  |USub=>exact(h _).trans (AK λ_=>rfl)
 |BoolOp op xs _=>exact rfl
 |Compare l ops rs _=>exact DL ((BK l c fr _).trans (AK λa=>Ks rs ops a c fr k))
 |IfExp _ _ _ _=>exact rfl
 |_=>exact(h _).trans (AK λ_=>rfl)
noncomputable def mV(ns:List Str)(o:Option (List V))(c:Cx)(fr:Fm):Mo Fm:=match o with
 |some l=>D6 ns l c fr
 |none=>AB
noncomputable def Yc(o:Option (List Str))(v:V)(c:Cx)(fr:Fm):Mo Fm:=match o with
 |some ns=>mV ns (CL v) c fr
 |none=>AB
theorem Yj(xs:List Expr)(k:Nat)(pos:Pos)(v:V)(c:Cx)(fr:Fm):CS (.Tuple xs k pos) v c fr=Yc (names xs) v c fr:=by
 show(match names xs,CL v with|some ns,some l=>D6 ns l c fr|_,_=>AB)=Yc (names xs) v c fr;cases names xs with
 |none=>rfl
 |some ns=>show _=mV ns (CL v) c fr;cases CL v<;>rfl
noncomputable def lP(t:Expr)(x:V)(v:Expr)(c:Cx)(fr:Fm)(k:Fm->Mo Az):Mo Az:=match t with
 |.Attribute o name _=>Jw o c fr λov=>Aa (Cp c ov name x) λ_=>k fr
 |.Subscript o i _=>Jw o c fr λov=>Jw i c fr λj=>Aa (A8 ov j x) λ_=>k fr
 |.Tuple xs _ _=>(match Nn c xs v with
  |some none=>Aa (Yc (names xs) x c fr) k
  |some (some ns)=>Aa (Fo ns x c fr) k
  |none=>AB)
 |t=>Aa (HL t x v c fr) k
set_option tactic.hygienic true in
theorem WV(t:Expr)(x:V)(v:Expr)(c:Cx)(fr:Fm)(k:Fm->Mo Az):lP t x v c fr k=Aa (HL t x v c fr) k:=by
 cases t<;>first
  |rfl
  |exact(BK _ c fr _).trans (AK λ_=>AK λ_=>rfl)
  |exact(BK _ c fr _).trans (AK λ_=>(BK _ c fr _).trans (AK λ_=>AK λ_=>rfl))
  |skip
 rename_i xs n pos;show(match Nn c xs v with|some none=>Aa (Yc (names xs) x c fr) k|some (some ns)=>Aa (Fo ns x c fr) k|none=>AB)=Aa (match Nn c xs v with|some none=>CS (.Tuple xs n pos) x c fr|some (some ns)=>Fo ns x c fr|none=>AB) k;rw[Yj];rcases Nn c xs v with _|_|ns<;>rfl
noncomputable def eI(body:Mo Az)(b:Int->Int->Nat->Bool)(h:Int->Int->Mo Az):Mo Az:=λσ=>match body σ with
 |.ok f σ'=>.ok f σ'
 |.exc e σ'=>(match e with
  |.trap a v d=>if b a v d=true then h a v σ' else .stuck
  |.bad _ _=>.stuck)
 |.stuck=>.stuck
noncomputable def lO(body:Mo Az)(handlers:List ExceptHandler)(c:Cx)(fr:Fm):Mo Az:=match handlers with
 |[.ExceptHandler (some t) (some x) suite _]=>eI body (λa v d=>Cu c t (.trap a v d)&&c.kind x==some .local&&Om suite) λa v=>Eg 2 suite c.off (Ac fr x (.exn a v))
 |_=>Jo body handlers c fr
theorem YB(body:Mo Az)(handlers:List ExceptHandler)(c:Cx)(fr:Fm):lO body handlers c fr=Jo body handlers c fr:=by
 rcases handlers with _|⟨⟨t,n,suite,pos⟩,_|⟨h2,r⟩⟩
 ·rfl
 ·cases t<;>cases n<;>first|rfl|skip
  funext σ;show eI body _ _ σ=_;unfold eI Jo;cases body σ with
  |ok f σ'=>rfl
  |exc e σ'=>cases e<;>rfl
  |stuck=>rfl
 ·cases t<;>cases n<;>rfl
mutual
noncomputable def mA:Stmt->Cx->Fm->(Az->Mo Az)->Mo Az
 |.Return e _,c,fr,k=>(match e with
  |none=>k (.rets .none)
  |some e=>Jw e c fr λv=>k (.rets v))
 |.Assign ts v _,c,fr,k=>(match ts with
  |[t]=>if OR t v c=true then Jw v c fr λx=>lP t x v c fr λfr'=>k (.next fr') else AB
  |_=>AB)
 |.For t it body orelse _,c,fr,k=>if(orelse.isEmpty&&c.plain&&BL it)=true then Jw it c fr λsrc σ=>Aa (A5 src) (λvs=>if(Em t src&&decide (vs.length<=4096))=true then Aa (BO src σ (λv fr=>Aa (CS t v c fr) λfr'=>Ii body c fr' ret) vs fr) k else AB) σ else AB
 |.If t a b _,c,fr,k=>aR t c fr (Jw t c fr) λq=>if q=true then Ii a c fr k else Ii b c fr k
 |.Try body hs orelse CA _,c,fr,k=>if(orelse.isEmpty&&CA.isEmpty && !c.calm&&c.plain && !hs.isEmpty)=true then Aa (lO (Ii body (c.cl fr) fr ret) hs c fr) k else AB
 |.Raise x cause _,c,fr,_=>(match x,cause with
  |some x,none=>if c.plain=true then BH 0 x c fr else AB
  |_,_=>AB)
 |.Expr e _,c,fr,k=>if FQ e=true then Jw e c fr λv=>(match v with
  |.none|.int _=>k (.next fr)
  |_=>AB) else AB
 |s,c,fr,k=>Aa (Ny s c fr) k
termination_by structural e=>e
noncomputable def Ii:List Stmt->Cx->Fm->(Az->Mo Az)->Mo Az
 |[],_,fr,k=>k (.next fr)
 |s::r,c,fr,k=>mA s c fr λq=>match q with
  |.next fr'=>Ii r c fr' k
  |.rets v=>k (.rets v)
  |.cont fr'=>k (.cont fr')
termination_by structural e=>e
end
theorem Yy(n:Nat)(x:Expr)(c:Cx)(fr:Fm)(k:Az->Mo Az):BH n x c fr=Aa (BH n x c fr) k:=funext λσ=>by
 cases e:BH n x c fr σ with
 |ok f σ'=>exact(Ke e).elim
 |exc x σ'=>exact(AQ e).symm
 |stuck=>exact(Ao e).symm
mutual
theorem WA(s:Stmt)(c:Cx)(fr:Fm)(k:Az->Mo Az):mA s c fr k=Aa (Ny s c fr) k:=by
 cases s with
 |Return e _=>
  cases e with
  |none=>rfl
  |some e=>exact(BK e c fr _).trans (AK λ_=>rfl)
 |Assign ts v _=>
  cases ts with
  |nil=>rfl
  |cons t r=>cases r with
   |nil=>exact DL ((BK v c fr _).trans (AK λx=>(WV t x v c fr _).trans (AK λ_=>rfl)))
   |cons _ _=>rfl
 |For t it body orelse _=>refine DL ((BK it c fr _).trans (AK λsrc=>funext λσ=>?_));refine congrFun (f:=Aa (A5 src) λvs=>if(Em t src&&decide (vs.length<=4096))=true then Aa (BO src σ (λv fr=>Aa (CS t v c fr) λfr'=>Ii body c fr' ret) vs fr) k else AB) (g:=Aa (Aa (A5 src) λvs=>if(Em t src&&decide (vs.length<=4096))=true then BO src σ (λv fr=>Aa (CS t v c fr) λfr'=>Fv body c fr') vs fr else AB) k) (AK λvs=>DL ?_) σ;have e:(λv fr=>Aa (CS t v c fr) λfr'=>Ii body c fr' ret)=λv fr=>Aa (CS t v c fr) λfr'=>Fv body c fr':=funext λv=>funext λfr=>eG λfr'=>(Dw body c fr' ret).trans FC;rw[e]
 |If t a b _=>exact(PX t c fr _ _ (λk=>BK t c fr k) _).trans (AK λq=>PS (Dw a c fr k) (Dw b c fr k))
 |Try body hs orelse CA _=>refine DL ?_;rw[Dw body,FC,YB]
 |Raise x cause _=>
  cases x<;>cases cause<;>first|rfl|skip
  exact DL (Yy _ _ _ _ _)
 |Expr e _=>exact DL ((BK e c fr _).trans (AK λv=>by cases v<;>rfl))
 |_=>exact rfl
theorem Dw:∀(s:List Stmt) (c:Cx) (fr:Fm) (k:Az->Mo Az),Ii s c fr k=Aa (Fv s c fr) k
 |[],_,_,_=>rfl
 |s::r,c,fr,k=>(WA s c fr _).trans (AK λq=>by
  cases q with
  |next fr'=>exact Dw r c fr' k
  |rets v=>rfl
  |cont fr'=>rfl)
end
noncomputable def Bg(T:LW)(call:Value->List V->Mo V)(fe:BQ)(vs:List V):Mo Az:=Ii fe.body (T.cx fe.scope call) (A9 fe vs) ret
theorem SI(T:LW)(call:Value->List V->Mo V)(fe:BQ)(vs:List V):GQ T call fe vs=F7 (Bg T call fe vs):=by unfold GQ Bg;rw[Dw,FC]
end
noncomputable section
set_option compiler.extract_closed false in
theorem br(a:α)(h:k a σ=R)(e:f σ=.ok a σ:=by kernel_rfl):Aa f k σ=R:=(Ae e).trans h
theorem Ug{a:Addr}{vs:List V}{fe:BQ}(n:Nat)(h:Ad.fn a vs.length=some fe):Ab Ad (n+1) (.ref a) vs=F7 (Bg Ad (Ab Ad n) fe vs):=by show MA Ad (Ab Ad n) a vs=_;unfold MA;rw[h];exact SI _ _ _ _
theorem AD{a:Addr}{vs:List V}{fe:BQ}{n:Nat}{σ σ':St}{v:V}(h:Ad.fn a vs.length=some fe)(e:Bg Ad (Ab Ad n) fe vs σ=.ok (.rets v) σ'):Ab Ad (n+1) (.ref a) vs σ=.ok v σ':=by rw[Ug n h];unfold F7;rw[e]
theorem BC{a:Addr}{vs:List V}{fe:BQ}{n:Nat}{σ σ':St}{fr:Fm}(h:Ad.fn a vs.length=some fe)(e:Bg Ad (Ab Ad n) fe vs σ=.ok (.next fr) σ'):Ab Ad (n+1) (.ref a) vs σ=.ok .none σ':=by rw[Ug n h];unfold F7;rw[e]
theorem B6{a:Addr}{vs:List V}{fe:BQ}{n:Nat}{σ σ':St}{x:Ex}(h:Ad.fn a vs.length=some fe)(e:Bg Ad (Ab Ad n) fe vs σ=.exc x σ'):Ab Ad (n+1) (.ref a) vs σ=.exc x σ':=by rw[Ug n h];unfold F7;rw[e]
section
theorem bT(e:f σ=.ok true σ'):Aa f (λq=>if q=true then a else b) σ=a σ':=Ae e
theorem bF(e:f σ=.ok false σ'):Aa f (λq=>if q=true then a else b) σ=b σ':=Ae e
theorem qV(e:f σ=.ok true σ'):Aa f (λq=>if(!q)=true then a else b) σ=b σ':=Ae e
theorem qP(e:f σ=.ok false σ'):Aa f (λq=>if(!q)=true then a else b) σ=a σ':=Ae e
end
theorem EA[Decidable q](e:Ap op a b σ=.ok (decide q) σ)(h:q):Ap op a b σ=.ok true σ:=by rw[e,decide_eq_true h]
theorem EL[Decidable q](e:Ap op a b σ=.ok (decide q) σ)(h:¬q):Ap op a b σ=.ok false σ:=by rw[e,decide_eq_false h]
theorem Dv(h:b=true):Eb b m σ=m σ:=by rw[h];rfl
noncomputable def LX(g:Bool):Int:=bif g then 12 else 6
noncomputable def Ar(g:Bool):Int:=bif g then 4096 else 64
noncomputable def AJ(g:Bool):Int:=bif g then 1024 else 16
noncomputable def VA(g:Bool):Int:=bif g then 4194304 else 1024
noncomputable def CZ(g:Bool):Int:=bif g then 4294967296 else 16384
noncomputable def B2(g:Bool):Int:=bif g then 32768 else 512
noncomputable def Ai(g:Bool):AO:=.inst 170 [("page_bits",.int (LX g)),("level_bits",.int (LX g-2)),("page",.int (Ar g)),("entries",.int (AJ g)),("large",.int (VA g)),("end",.int (CZ g))]
noncomputable def Bm(g:Bool):AO:=.inst 474 [("size",.int (B2 g)),("begin",.int 0),("end",.int (B2 g)),("words",.obj 2)]
noncomputable def Ey:AO:=.inst 616 [("memory",.obj 1),("stretches",.obj 5)]
noncomputable def Fw:AO:=.inst 249 [("bus",.obj 4),("layout",.obj 0)]
noncomputable def El(n:Nat):Cx:=Ad.cx Lb (Ab Ad n)
noncomputable def at_(o:V)(x:Str):Mo V:=Fg (El 0) o x
noncomputable def BZ(o:V)(x:Str):Mo Value:=Ed (El 0) o x
noncomputable def Ci(o k:V):Mo V:=Fj (El 0) o k
noncomputable def iC(o:V)(x:Str)(v:V):Mo Unit:=Cp (El 0) o x v
theorem bY(n:Nat)(e:Int)(σ:St):Ab Ad (n+1) (.ref 181) [.int e] σ=.ok (.bool (!(decide (Builtin.bitAnd e 10=0)))) σ:=by kernel_rfl
theorem bW(n:Nat)(g:Bool)(a:Int)(σ:St):Ab Ad (n+1) (.ref 132) [.obj 0,.int a] (Ai g::σ)=.ok (.int (Builtin.bitAnd a (Builtin.bitNot (Ar g-1)))) (Ai g::σ):=by cases g<;>kernel_rfl
theorem TL(h0:0<=b)(h1:b<=64)(h:a.natAbs<2^64):Aj .LShift (.int a) (.int b) σ=.ok (.int (a*2^b.toNat)) σ:=Dv (decide_eq_true ⟨h0,h1,h⟩)
theorem Of(h:a.natAbs<2^64):Aj .Mult (.int a) (.int b) σ=.ok (.int (a*b)) σ:=Dv (decide_eq_true h)
theorem Gd(h:b≠0):Aj .Mod (.int a) (.int b) σ=.ok (.int (a.fmod b)) σ:=Dv (decide_eq_true h)
theorem U8(h0:0<b)(h1:b<2^60):Aj .FloorDiv (.int a) (.int b) σ=.ok (.int (a.fdiv b)) σ:=Dv (decide_eq_true ⟨h0,h1⟩)
theorem lU(g:Bool):0<=LX g/\LX g<=64:=g.rec (by decide) (by decide)
theorem DT(n:Nat)(g:Bool)(e:Int)(σ:St)(h:(e.fdiv (2^10)).natAbs<2^64):Ab Ad (n+1) (.ref 167) [.obj 0,.int e] (Ai g::σ)=.ok (.int (e.fdiv (2^10)*2^(LX g).toNat)) (Ai g::σ):=by
 refine AD (fe:=Ko) (by kernel_rfl) ?_;have k:Bg Ad (Ab Ad n) Ko [.obj 0,.int e] (Ai g::σ)=Aa (Aj .LShift (.int (e.fdiv (2^10))) (.int (LX g))) (λx=>ret (.rets x)) (Ai g::σ):=by cases g<;>kernel_rfl
 exact k.trans (Ae (TL (lU g).1 (lU g).2 h))
noncomputable def fY(n:Nat)(a0 a1:V):Mo Az:=Aa (Ap .LtE (.int 0) a1) λq1=>if q1=true then Aa (at_ a0 "end") λx2=>Aa (Ap .Lt a1 x2) λq3=>if(!q3)=true then ret (.rets .none) else Aa (at_ a0 "page_bits") λx4=>Aa (Aj .RShift a1 x4) λx5=>Aa (at_ a0 "level_bits") λx6=>Aa (Aj .RShift x5 x6) λx7=>Aa (at_ a0 "entries") λx8=>Aa (Aj .Sub x8 (.int 1)) λx9=>Aa (Aj .BitAnd x5 x9) λx10=>Aa (at_ a0 "page") λx11=>Aa (Aj .Sub x11 (.int 1)) λx12=>Aa (Aj .BitAnd a1 x12) λx13=>ret (.rets (.tup [x7,x10,x13])) else if(!false)=true then ret (.rets .none) else Aa (at_ a0 "page_bits") λx14=>Aa (Aj .RShift a1 x14) λx15=>Aa (at_ a0 "level_bits") λx16=>Aa (Aj .RShift x15 x16) λx17=>Aa (at_ a0 "entries") λx18=>Aa (Aj .Sub x18 (.int 1)) λx19=>Aa (Aj .BitAnd x15 x19) λx20=>Aa (at_ a0 "page") λx21=>Aa (Aj .Sub x21 (.int 1)) λx22=>Aa (Aj .BitAnd a1 x22) λx23=>ret (.rets (.tup [x17,x20,x23]))
theorem Gg(n:Nat)(a0 a1:V):Bg Ad (Ab Ad n) Gl [a0,a1]=fY n a0 a1:=by kernel_rfl
noncomputable def Ta(g:Bool)(a:Int):V:=.tup [.int ((a.fdiv (2^(LX g).toNat)).fdiv (2^(LX g-2).toNat)),.int (Builtin.bitAnd (a.fdiv (2^(LX g).toNat)) (AJ g-1)),.int (Builtin.bitAnd a (Ar g-1))]
theorem VR(n:Nat)(g:Bool)(a:Int)(σ:St)(h0:0<=a)(h1:a<CZ g):Ab Ad (n+1) (.ref 117) [.obj 0,.int a] (Ai g::σ)=.ok (Ta g a) (Ai g::σ):=by refine AD (fe:=Gl) (by kernel_rfl) ?_;rw[Gg];refine(bT (EA (q:=0<=a) rfl h0)).trans ?_;refine(Ae (a:=.int (CZ g)) (σ':=Ai g::σ) (by cases g<;>kernel_rfl)).trans ?_;refine(qV (EA (q:=a<CZ g) rfl h1)).trans ?_;cases g<;>kernel_rfl
theorem Rw(n:Nat)(g:Bool)(a:Int)(σ:St)(h0:a<0):Ab Ad (n+1) (.ref 117) [.obj 0,.int a] (Ai g::σ)=.ok .none (Ai g::σ):=by refine AD (fe:=Gl) (by kernel_rfl) ?_;rw[Gg];exact(bF (EL (q:=0<=a) rfl (by lia))).trans rfl
theorem Gm(n:Nat)(g:Bool)(a:Int)(σ:St)(h0:0<=a)(h1:CZ g<=a):Ab Ad (n+1) (.ref 117) [.obj 0,.int a] (Ai g::σ)=.ok .none (Ai g::σ):=by refine AD (fe:=Gl) (by kernel_rfl) ?_;rw[Gg];refine(bT (EA (q:=0<=a) rfl h0)).trans ?_;refine(Ae (a:=.int (CZ g)) (σ':=Ai g::σ) (by cases g<;>kernel_rfl)).trans ?_;exact(qP (EL (q:=a<CZ g) rfl (by(clear h0;lia)))).trans rfl
end
noncomputable section
theorem IU:Ap .NotEq (.int a) (.int b) σ=.ok (!(decide (a=b))) σ:=by kernel_rfl
theorem Dd:Ap .Eq (.int a) (.int b) σ=.ok (decide (a=b)) σ:=by kernel_rfl
theorem YJ(h:a≠b):Ap .NotEq (.int a) (.int b) σ=.ok true σ:=by rw[IU,decide_eq_false h];rfl
theorem Jn(h:a=b):Ap .NotEq (.int a) (.int b) σ=.ok false σ:=by rw[IU,decide_eq_true h];rfl
theorem CM(h:(W.all λp=>E8 p.1)=true):As W (.int k)=true:=h
noncomputable def K7(ns:List Str)(v:V)(fr:Fm):Mo Fm:=match CL v with
 |some l=>if(ns.length==l.length)=true then Af (Ca fr ns l) else AB
 |none=>AB
noncomputable def By(v:V)(m:Mo Az):Mo Az:=match v with
 |.none=>m
 |.int _=>m
 |_=>AB
theorem AH:By .none m=m:=rfl
theorem QJ:By (.int i) m=m:=rfl
noncomputable def B5(C:Addr)(vs:List V)(d:Nat):Mo Az:=λσ=>match CU C vs with
 |some e=>.exc (e.up d) σ
 |none=>.stuck
theorem pL(e:f σ=.ok false σ'):Aa f (λq=>Bz .Or q (ret q) m) σ=m σ':=Ae e
noncomputable def dX(n:Nat)(a0 a1 a2:V):Mo Az:=Aa (Aa (Aa (Aj .Mod a1 a2) λy3=>Aa (Ap .NotEq y3 (.int 0)) λq4=>ret q4) λq2=>Bz .Or q2 (ret q2) (Aa (Aa (at_ a0 "begin") λy6=>Aa (Ap .Lt a1 y6) λq7=>ret q7) λq5=>Bz .Or q5 (ret q5) (Aa (Aa (Aj .Add a1 a2) λy9=>Aa (at_ a0 "end") λy10=>Aa (Ap .Gt y9 y10) λq11=>ret q11) λq8=>Bz .Or q8 (ret q8) (ret false)))) λq1=>if q1=true then Aa (Cs (ret [a1])) λz12=>B5 71 z12 0 else ret (.next (A9 GV [a0,a1,a2]))
theorem R7(n:Nat)(a0 a1 a2:V):Bg Ad (Ab Ad n) GV [a0,a1,a2]=dX n a0 a1 a2:=by kernel_rfl
noncomputable def aJ(n:Nat)(a0 a1:V):Mo Az:=Aa (BZ a0 "need_aligned") λf1=>Aa (Ab Ad n f1 [a0,a1,(.int 4)]) λx2=>By x2 (Aa (at_ a0 "words") λx3=>Aa (BZ x3 "get") λf4=>Aa (Aj .RShift a1 (.int 2)) λx5=>Aa (Ab Ad n f4 [x3,x5,(.int 0)]) λx6=>ret (.rets x6))
theorem Sl(n:Nat)(a0 a1:V):Bg Ad (Ab Ad n) Lw [a0,a1]=aJ n a0 a1:=by kernel_rfl
theorem OE(n:Nat)(g:Bool)(a:Int)(l:AO)(ρ:St)(h:a%4=0)(h0:0<=a)(h1:a+4<=B2 g):Ab Ad (n+1) (.ref 340) [.obj 1,.int a,.int 4] (l::Bm g::ρ)=.ok .none (l::Bm g::ρ):=by
 refine BC (fe:=GV) (fr:=A9 GV [.obj 1,.int a,.int 4]) (by kernel_rfl) ?_;rw[R7];refine(bF (σ':=l::Bm g::ρ) ?_).trans rfl;have e1:a.fmod 4=0:=by rw[Int.fmod_eq_emod_of_nonneg _ (by decide)];exact h
 refine(pL (σ':=l::Bm g::ρ) ?_).trans ((pL (σ':=l::Bm g::ρ) ?_).trans ((pL (σ':=l::Bm g::ρ) ?_).trans rfl));·exact(Ae (Gd (by decide))).trans (Ae (Jn e1))
 ·exact(Ae (a:=V.int 0) (g.rec (by kernel_rfl) (by kernel_rfl))).trans (Ae (EL (q:=a<0) rfl (by(clear e1 h1 h;lia))))
 ·refine(Ae (a:=V.int (a+4)) rfl).trans ?_;exact(Ae (a:=V.int (B2 g)) (by cases g<;>kernel_rfl)).trans (Ae (EL (q:=a+4>B2 g) rfl (by(clear e1 h0 h;lia))))
theorem kD(n:Nat)(i:Nat)(W:List (V×V))(wn:Nat)(k d:V)(σ:St)(hs:σ[i]?=some (.dict W wn))(hk:As W k=true):Ab Ad (n+1) (.builtin "dict.get") [.obj i,k,d] σ=.ok ((AI W k).getD d) σ:=by show N9 [.obj i,k,d] σ=_;show BJ i (λes _=>Eb (As es k) (ret ((AI es k).getD d))) σ=_;unfold BJ;rw[hs];exact Dv hk
theorem Zb(n:Nat)(g:Bool)(a:Int)(l:AO)(W:List (V×V))(wn:Nat)(ρ:St)(h:a%4=0)(h0:0<=a)(h1:a+4<=B2 g)(hk:(W.all λp=>E8 p.1)=true):Ab Ad (n+2) (.ref 347) [.obj 1,.int a] (l::Bm g::.dict W wn::ρ)=.ok ((AI W (.int (a.fdiv (2^2)))).getD (.int 0)) (l::Bm g::.dict W wn::ρ):=by refine AD (fe:=Lw) (by kernel_rfl) ?_;rw[Sl];refine(Ae (a:=Value.ref 340) (σ':=l::Bm g::.dict W wn::ρ) (by cases g<;>kernel_rfl)).trans ?_;refine(Ae (OE n g a l _ h h0 h1)).trans ?_;rw[AH];refine(Ae (a:=V.obj 2) (σ':=l::Bm g::.dict W wn::ρ) (by cases g<;>kernel_rfl)).trans ?_;refine br (Value.builtin "dict.get") ?_;refine br (V.int (a.fdiv (2^2))) ?_;exact Ae (kD n 2 W wn _ _ _ rfl (CM hk))
end
noncomputable section
noncomputable def eQ(n:Nat)(a0 a1 a2:V):Mo Az:=Aa (BZ a0 "need_aligned") λf1=>Aa (Ab Ad n f1 [a0,a1,(.int 4)]) λx2=>By x2 (Aa (BZ a0 "keep") λf3=>Aa (Aj .RShift a1 (.int 2)) λx4=>Aa (Aj .BitAnd a2 (.int 4294967295)) λx5=>Aa (Ab Ad n f3 [a0,x4,x5]) λx6=>By x6 (ret (.next (A9 Gu [a0,a1,a2]))))
theorem Rl(n:Nat)(a0 a1 a2:V):Bg Ad (Ab Ad n) Gu [a0,a1,a2]=eQ n a0 a1 a2:=by kernel_rfl
noncomputable def cW(n:Nat)(a0 a1 a2:V):Mo Az:=Aa (Ap .NotEq a2 (.int 0)) λq1=>if q1=true then Aa (at_ a0 "words") λx2=>Aa (A8 x2 a1 a2) λ_=>ret (.next (A9 Fp [a0,a1,a2])) else Aa (at_ a0 "words") λx3=>Aa (BZ x3 "pop") λf4=>Aa (Ab Ad n f4 [x3,a1,.none]) λx5=>By x5 (ret (.next (A9 Fp [a0,a1,a2])))
theorem RE(n:Nat)(a0 a1 a2:V):Bg Ad (Ab Ad n) Fp [a0,a1,a2]=cW n a0 a1 a2:=by kernel_rfl
noncomputable def aH(n:Nat)(a0 a1 a2:V):Mo Az:=Aa (Ap .Eq a2 (.int 4)) λq1=>if q1=true then Aa (BZ a0 "word") λf2=>Aa (Ab Ad n f2 [a0,a1]) λx3=>ret (.rets x3) else Aa (Ap .Eq a2 (.int 1)) λq4=>if q4=true then Aa (BZ a0 "octet") λf5=>Aa (Ab Ad n f5 [a0,a1]) λx6=>ret (.rets x6) else Aa (Ab Ad n (.ref 297) [a2]) λx7=>By x7 (Aa (BZ a0 "half") λf8=>Aa (Ab Ad n f8 [a0,a1]) λx9=>ret (.rets x9))
theorem P6(n:Nat)(a0 a1 a2:V):Bg Ad (Ab Ad n) K9 [a0,a1,a2]=aH n a0 a1 a2:=by kernel_rfl
noncomputable def gL(n:Nat)(a0 a1 a2 a3:V):Mo Az:=Aa (Ap .Eq a2 (.int 4)) λq1=>if q1=true then Aa (BZ a0 "put_word") λf2=>Aa (Ab Ad n f2 [a0,a1,a3]) λx3=>By x3 (ret (.next (A9 Es [a0,a1,a2,a3]))) else Aa (Ap .Eq a2 (.int 1)) λq4=>if q4=true then Aa (BZ a0 "put_octet") λf5=>Aa (Ab Ad n f5 [a0,a1,a3]) λx6=>By x6 (ret (.next (A9 Es [a0,a1,a2,a3]))) else Aa (Ab Ad n (.ref 297) [a2]) λx7=>By x7 (Aa (BZ a0 "put_half") λf8=>Aa (Ab Ad n f8 [a0,a1,a3]) λx9=>By x9 (ret (.next (A9 Es [a0,a1,a2,a3]))))
theorem Qx(n:Nat)(a0 a1 a2 a3:V):Bg Ad (Ab Ad n) Es [a0,a1,a2,a3]=gL n a0 a1 a2 a3:=by kernel_rfl
theorem Ik:∀{W:List (V×V)},AI W k=some v->v∈W.map (·.2)
 |(a,u)::r,h=>by
  replace h:(if Ay a k=true then some u else AI r k)=some v:=h;by_cases c:Ay a k=true;·rw[if_pos c]at h;cases h;exact .head _
  ·rw[if_neg c]at h;exact .tail _ (Ik h)
theorem Kj:∀{W:List (V×V)},AI W k=none->EK W k=W
 |[],_=>rfl
 |(a,v)::r,h=>by
  replace h:(if Ay a k=true then some v else AI r k)=none:=h;show(if Ay a k=true then r else(a,v)::EK r k)=_;by_cases c:Ay a k=true;·rw[if_pos c]at h;cases h
  ·rw[if_neg c]at h;rw[if_neg c,Kj h]
noncomputable def Lc(W:List (V×V))(k v:Int):List (V×V):=if v=0 then EK W (.int k) else Bl W (.int k) (.int v)
noncomputable def Nu(W:List (V×V))(wn:Nat)(k v:Int):Nat:=if v=0 then(if(AI W (.int k)).isSome=true then wn+1 else wn) else(if(AI W (.int k)).isSome=true then wn else wn+1)
theorem nR(n:Nat)(W:List (V×V))(wn:Nat)(k:Int)(l m:AO)(ρ:St)(hk:(W.all λp=>E8 p.1)=true)(hw:W.length<=4096):∃r,(r=V.none\/r∈W.map (·.2))/\Ab Ad (n+1) (.builtin "dict.pop") [.obj 2,.int k,.none] (l::m::.dict W wn::ρ)=.ok r (l::m::.dict (EK W (.int k)) (if(AI W (.int k)).isSome=true then wn+1 else wn)::ρ):=by
 cases e:AI W (.int k) with
 |none=>refine⟨.none,.inl rfl,?_⟩;show Ts [.obj 2,.int k,.none] (l::m::.dict W wn::ρ)=_;show Eb (As W (.int k)&&E8 (.int k)&&decide (W.length<=4096)) (match AI W (.int k) with|some v=>λσ=>.ok v (σ.set 2 (.dict (EK W (.int k)) (wn+1)))|none=>ret .none) (l::m::.dict W wn::ρ)=_;rw[e,Kj e];exact Dv (by rw[CM hk,decide_eq_true hw];rfl)
 |some v=>
  refine⟨v,.inr ?_,?_⟩;·exact Ik e
  ·show Eb (As W (.int k)&&E8 (.int k)&&decide (W.length<=4096)) (match AI W (.int k) with|some v=>λσ=>.ok v (σ.set 2 (.dict (EK W (.int k)) (wn+1)))|none=>ret .none) (l::m::.dict W wn::ρ)=_;rw[e];exact Dv (by rw[CM hk,decide_eq_true hw];rfl)
theorem YE(n:Nat)(g:Bool)(k v:Int)(l:AO)(W:List (V×V))(wn:Nat)(ρ:St)(hk:(W.all λp=>E8 p.1)=true)(hv:(W.all λp=>E8 p.2)=true)(hw:W.length<=4096):Ab Ad (n+2) (.ref 361) [.obj 1,.int k,.int v] (l::Bm g::.dict W wn::ρ)=.ok .none (l::Bm g::.dict (Lc W k v) (Nu W wn k v)::ρ):=by
 refine BC (fe:=Fp) (fr:=A9 Fp [.obj 1,.int k,.int v]) (by kernel_rfl) ?_;rw[RE];by_cases h:v=0
 ·unfold Lc Nu;rw[if_pos h,if_pos h];refine(bF (Jn h)).trans ?_;refine(Ae (a:=V.obj 2) (σ':=l::Bm g::.dict W wn::ρ) (by cases g<;>kernel_rfl)).trans ?_;refine br (Value.builtin "dict.pop") ?_;refine Au (nR n W wn k l (Bm g) ρ hk hw) λr hr e=>?_;refine(Ae e).trans ?_;rcases hr with rfl|hr;·rw[AH];rfl
  ·refine Au (List.mem_map.mp hr) λq hq eqq2=>?_;subst eqq2;have:=List.all_eq_true.mp hv q hq;cases e2:q.2<;>rw[e2]at this<;>first|cases this|skip
   rw[QJ];rfl
 ·unfold Lc Nu;rw[if_neg h,if_neg h];refine(bT (YJ h)).trans ?_;refine(Ae (a:=V.obj 2) (σ':=l::Bm g::.dict W wn::ρ) (by cases g<;>kernel_rfl)).trans ?_;refine(Ae (a:=()) ?_).trans rfl;show(if(As W (.int k)&&decide (W.length<=4096)&&Ba (.int v))=true then C6.ok () _ else .stuck)=_;rw[CM hk,decide_eq_true hw];rfl
theorem Oe(n:Nat)(g:Bool)(a v:Int)(l:AO)(W:List (V×V))(wn:Nat)(ρ:St)(h:a%4=0)(h0:0<=a)(h1:a+4<=B2 g)(hk:(W.all λp=>E8 p.1)=true)(hv:(W.all λp=>E8 p.2)=true)(hw:W.length<=4096):Ab Ad (n+3) (.ref 354) [.obj 1,.int a,.int v] (l::Bm g::.dict W wn::ρ)=.ok .none (l::Bm g::.dict (Lc W (a.fdiv (2^2)) (Builtin.bitAnd v 4294967295)) (Nu W wn (a.fdiv (2^2)) (Builtin.bitAnd v 4294967295))::ρ):=by refine BC (fe:=Gu) (fr:=A9 Gu [.obj 1,.int a,.int v]) (by kernel_rfl) ?_;rw[Rl];refine(Ae (a:=Value.ref 340) (σ':=l::Bm g::.dict W wn::ρ) (by cases g<;>kernel_rfl)).trans ?_;refine(Ae (OE (n+1) g a l _ h h0 h1)).trans ?_;rw[AH];refine(Ae (a:=Value.ref 361) (σ':=l::Bm g::.dict W wn::ρ) (by cases g<;>kernel_rfl)).trans ?_;refine br (V.int (a.fdiv (2^2))) ?_;refine br (V.int (Builtin.bitAnd v 4294967295)) ?_;refine(Ae (YE n g _ _ l W wn ρ hk hv hw)).trans ?_;rw[AH];rfl
theorem X8(n:Nat)(g:Bool)(a:Int)(l:AO)(W:List (V×V))(wn:Nat)(ρ:St)(h:a%4=0)(h0:0<=a)(h1:a+4<=B2 g)(hk:(W.all λp=>E8 p.1)=true):Ab Ad (n+3) (.ref 403) [.obj 1,.int a,.int 4] (l::Bm g::.dict W wn::ρ)=.ok ((AI W (.int (a.fdiv (2^2)))).getD (.int 0)) (l::Bm g::.dict W wn::ρ):=by refine AD (fe:=K9) (by kernel_rfl) ?_;rw[P6];refine(bT (σ':=l::Bm g::.dict W wn::ρ) (by kernel_rfl)).trans ?_;refine(Ae (a:=Value.ref 347) (σ':=l::Bm g::.dict W wn::ρ) (by cases g<;>kernel_rfl)).trans ?_;exact Ae (Zb n g a l W wn ρ h h0 h1 hk)
theorem Yq(n:Nat)(g:Bool)(a v:Int)(l:AO)(W:List (V×V))(wn:Nat)(ρ:St)(h:a%4=0)(h0:0<=a)(h1:a+4<=B2 g)(hk:(W.all λp=>E8 p.1)=true)(hv:(W.all λp=>E8 p.2)=true)(hw:W.length<=4096):Ab Ad (n+4) (.ref 410) [.obj 1,.int a,.int 4,.int v] (l::Bm g::.dict W wn::ρ)=.ok .none (l::Bm g::.dict (Lc W (a.fdiv (2^2)) (Builtin.bitAnd v 4294967295)) (Nu W wn (a.fdiv (2^2)) (Builtin.bitAnd v 4294967295))::ρ):=by refine BC (fe:=Es) (fr:=A9 Es [.obj 1,.int a,.int 4,.int v]) (by kernel_rfl) ?_;rw[Qx];refine(bT (σ':=l::Bm g::.dict W wn::ρ) (by kernel_rfl)).trans ?_;refine(Ae (a:=Value.ref 354) (σ':=l::Bm g::.dict W wn::ρ) (by cases g<;>kernel_rfl)).trans ?_;refine(Ae (Oe n g a v l W wn ρ h h0 h1 hk hv hw)).trans ?_;rw[AH];rfl
end
noncomputable section
noncomputable def qT:V->Bool
 |.lst _=>true
 |_=>false
noncomputable def U6:Ex->Bool
 |.trap _ _ _=>true
 |_=>false
noncomputable def Vo(_:Ex):Bool:=true
noncomputable def Mk(body:Mo Az)(Cu:Ex->Bool)(h:Nat->Mo Az):Mo Az:=λσ=>match body σ with
 |.ok f σ'=>.ok f σ'
 |.exc e σ'=>if Cu e=true then h e.d σ' else .stuck
 |.stuck=>.stuck
noncomputable def aB(n:Nat)(a0 a1 a2:V):Mo Az:=Aa (at_ a0 "memory") λx1=>Aa (Aa (Aa (at_ x1 "begin") λy4=>Aa (Ap .LtE y4 a1) λq5=>ret q5) λq3=>Bz .And q3 (ret q3) (Aa (Aa (Aj .Add a1 a2) λy7=>Aa (at_ x1 "end") λy8=>Aa (Ap .LtE y7 y8) λq9=>ret q9) λq6=>Bz .And q6 (ret q6) (ret true))) λq2=>if q2=true then Aa (BZ x1 "get") λf10=>Aa (Ab Ad n f10 [x1,a1,a2]) λx11=>ret (.rets x11) else Aa (Ab Ad n (.ref 297) [a2]) λx12=>By x12 (Aa (Aj .Mod a1 a2) λx13=>Aa (Ap .NotEq x13 (.int 0)) λq14=>if q14=true then Aa (Cs (ret [a1])) λz15=>B5 71 z15 0 else Aa (BZ a0 "stretch_at") λf16=>Aa (Ab Ad n f16 [a0,a1,a2]) λx17=>Aa (Ap .Is x17 .none) λq18=>if q18=true then Aa (Cs (ret [(.int 5),a1])) λz19=>B5 91 z19 0 else Aa (Mk (Aa (at_ x17 "device") λx23=>Aa (BZ x23 "load") λf24=>Aa (at_ x17 "begin") λx25=>Aa (Aj .Sub a1 x25) λx26=>Aa (Ab Ad n f24 [x23,x26,a2]) λx27=>Aa (Aj .Mult (.int 8) a2) λx28=>Aa (Aj .LShift (.int 1) x28) λx29=>Aa (Aj .Sub x29 (.int 1)) λx30=>Aa (Aj .BitAnd x27 x30) λx31=>ret (.rets x31)) Vo λd=>if d<=1 then Aa (Cs (ret [(.int 5),a1])) λz32=>B5 91 z32 (d+1) else AB) λq20=>(match q20 with|.next fr21=>ret (.next fr21)|.rets v=>ret (.rets v)|.cont fr21=>ret (.cont fr21)))
theorem JW(n:Nat)(a0 a1 a2:V):Bg Ad (Ab Ad n) HR [a0,a1,a2]=aB n a0 a1 a2:=by kernel_rfl
noncomputable def bB(n:Nat)(a0 a1 a2 a3:V):Mo Az:=Aa (at_ a0 "memory") λx1=>Aa (Aa (Aa (at_ x1 "begin") λy4=>Aa (Ap .LtE y4 a1) λq5=>ret q5) λq3=>Bz .And q3 (ret q3) (Aa (Aa (Aj .Add a1 a2) λy7=>Aa (at_ x1 "end") λy8=>Aa (Ap .LtE y7 y8) λq9=>ret q9) λq6=>Bz .And q6 (ret q6) (ret true))) λq2=>if q2=true then Aa (BZ x1 "put") λf10=>Aa (Ab Ad n f10 [x1,a1,a2,a3]) λx11=>By x11 (ret (.rets .none)) else Aa (Ab Ad n (.ref 297) [a2]) λx12=>By x12 (Aa (Aj .Mod a1 a2) λx13=>Aa (Ap .NotEq x13 (.int 0)) λq14=>if q14=true then Aa (Cs (ret [a1])) λz15=>B5 71 z15 0 else Aa (BZ a0 "stretch_at") λf16=>Aa (Ab Ad n f16 [a0,a1,a2]) λx17=>Aa (Ap .Is x17 .none) λq18=>if q18=true then Aa (Cs (ret [(.int 7),a1])) λz19=>B5 91 z19 0 else Aa (Mk (Aa (at_ x17 "device") λx23=>Aa (BZ x23 "store") λf24=>Aa (at_ x17 "begin") λx25=>Aa (Aj .Sub a1 x25) λx26=>Aa (Aj .Mult (.int 8) a2) λx27=>Aa (Aj .LShift (.int 1) x27) λx28=>Aa (Aj .Sub x28 (.int 1)) λx29=>Aa (Aj .BitAnd a3 x29) λx30=>Aa (Ab Ad n f24 [x23,x26,a2,x30]) λx31=>By x31 (ret (.next (Ac (Ac (A9 I0 [a0,a1,a2,a3]) "memory" x1) "stretch" x17)))) Vo λd=>if d<=1 then Aa (Cs (ret [(.int 7),a1])) λz32=>B5 91 z32 (d+1) else AB) λq20=>(match q20 with|.next fr21=>ret (.next fr21)|.rets v=>ret (.rets v)|.cont fr21=>ret (.cont fr21)))
theorem Qv(n:Nat)(a0 a1 a2 a3:V):Bg Ad (Ab Ad n) I0 [a0,a1,a2,a3]=bB n a0 a1 a2 a3:=by kernel_rfl
theorem DG(h0:0<=q)(h1:q<16)(h2:0<=a)(h3:a<2^40):B5 91 [.int q,.int a] d σ=.exc (.trap q a d) σ:=by unfold B5;rw[show CU 91 [.int q,.int a]=some (.trap q a 0) from if_pos ⟨rfl,h0,h1,h2,h3⟩];rfl
theorem UU(e:f σ=.ok true σ'):Aa f (λq=>Bz .And q (ret q) m) σ=m σ':=Ae e
theorem oR(e:f σ=.ok false σ'):Aa f (λq=>Bz .And q (ret q) m) σ=.ok false σ':=Ae e
noncomputable def SB(l:AO)(g:Bool)(W:List (V×V))(wn:Nat)(c:AO)(ρ:St):St:=l::Bm g::.dict W wn::c::Ey::.list []::ρ
section
theorem VO(n:Nat)(σ:St):Ab Ad (n+1) (.ref 297) [.int 4] σ=.ok .none σ:=by kernel_rfl
theorem Km(n:Nat)(a:Int)(l:AO)(g:Bool)(W:List (V×V))(wn:Nat)(c:AO)(ρ:St):Ab Ad (n+1) (.ref 583) [.obj 4,.int a,.int 4] (SB l g W wn c ρ)=.ok .none (SB l g W wn c ρ):=by kernel_rfl
theorem Xq(h:a%4=0)(h0:0<=a)(h1:a+4<=B2 g)(hk:(W.all λp=>E8 p.1)=true):Ab Ad (n+4) (.ref 591) [.obj 4,.int a,.int 4] (SB l g W wn c ρ)=.ok ((AI W (.int (a.fdiv (2^2)))).getD (.int 0)) (SB l g W wn c ρ):=by
 refine AD (fe:=HR) (by kernel_rfl) ?_;rw[JW];refine br (V.obj 1) ?_;refine(bT (σ':=SB l g W wn c ρ) ?_).trans ?_
 ·refine(UU (σ':=SB l g W wn c ρ) ?_).trans ((UU (σ':=SB l g W wn c ρ) ?_).trans rfl);·exact(Ae (a:=V.int 0) (by cases g<;>kernel_rfl)).trans (Ae (EA (q:=0<=a) rfl h0))
  ·refine(Ae (a:=V.int (a+4)) rfl).trans ?_;exact(Ae (a:=V.int (B2 g)) (by cases g<;>kernel_rfl)).trans (Ae (EA (q:=a+4<=B2 g) rfl h1))
 ·refine(Ae (a:=Value.ref 403) (σ':=SB l g W wn c ρ) (by cases g<;>kernel_rfl)).trans ?_;exact Ae (X8 n g a l W wn _ h h0 h1 hk)
theorem VT(h:a%4=0)(h0:0<=a)(h1:B2 g<a+4)(h2:a<2^40):Ab Ad (n+4) (.ref 591) [.obj 4,.int a,.int 4] (SB l g W wn c ρ)=.exc (.trap 5 a 0) (SB l g W wn c ρ):=by
 refine B6 (fe:=HR) (by kernel_rfl) ?_;rw[JW];refine br (V.obj 1) ?_;refine(bF (σ':=SB l g W wn c ρ) ?_).trans ?_
 ·refine(UU (σ':=SB l g W wn c ρ) ?_).trans ((oR (σ':=SB l g W wn c ρ) ?_).trans rfl);·exact(Ae (a:=V.int 0) (by cases g<;>kernel_rfl)).trans (Ae (EA (q:=0<=a) rfl h0))
  ·refine(Ae (a:=V.int (a+4)) rfl).trans ?_;exact(Ae (a:=V.int (B2 g)) (by cases g<;>kernel_rfl)).trans (Ae (EL (q:=a+4<=B2 g) rfl (by(clear h2 h0 h;lia))))
 ·refine(Ae (VO (n+2) _)).trans ?_;rw[AH];have e1:a.fmod 4=0:=by rw[Int.fmod_eq_emod_of_nonneg _ (by decide)];exact h
  refine(Ae (a:=V.int (a.fmod 4)) (Gd (by decide))).trans ?_;refine(bF (Jn e1)).trans ?_;refine br (Value.ref 583) ?_;refine(Ae (Km (n+2) a l g W wn c ρ)).trans ?_;refine(bT (σ':=SB l g W wn c ρ) (by kernel_rfl)).trans ?_;exact DG (by decide) (by decide) h0 h2
theorem Vw(h:a%4=0)(h0:0<=a)(h1:a+4<=B2 g)(hk:(W.all λp=>E8 p.1)=true)(hv:(W.all λp=>E8 p.2)=true)(hw:W.length<=4096):Ab Ad (n+5) (.ref 599) [.obj 4,.int a,.int 4,.int v] (SB l g W wn c ρ)=.ok .none (SB l g (Lc W (a.fdiv (2^2)) (Builtin.bitAnd v 4294967295)) (Nu W wn (a.fdiv (2^2)) (Builtin.bitAnd v 4294967295)) c ρ):=by
 refine AD (fe:=I0) (by kernel_rfl) ?_;rw[Qv];refine br (V.obj 1) ?_;refine(bT (σ':=SB l g W wn c ρ) ?_).trans ?_
 ·refine(UU (σ':=SB l g W wn c ρ) ?_).trans ((UU (σ':=SB l g W wn c ρ) ?_).trans rfl);·exact(Ae (a:=V.int 0) (g.rec (by kernel_rfl) (by kernel_rfl))).trans (Ae (EA (q:=0<=a) rfl h0))
  ·refine(Ae (a:=V.int (a+4)) rfl).trans ?_;exact(Ae (a:=V.int (B2 g)) (by cases g<;>kernel_rfl)).trans (Ae (EA (q:=a+4<=B2 g) rfl h1))
 ·refine(Ae (a:=Value.ref 410) (σ':=SB l g W wn c ρ) (by cases g<;>kernel_rfl)).trans ?_;refine(Ae (Yq n g a v l W wn _ h h0 h1 hk hv hw)).trans ?_;rw[AH];rfl
end
end
noncomputable section
set_option genSizeOf false in
set_option genInjectivity false in
inductive Kd where
 |fe|lo|st
noncomputable def Kd.v:Kd->V
 |.fe=>.str "fetch"
 |.lo=>.str "load"
 |.st=>.str "store"
noncomputable def Kd.pf:Kd->Int
 |.fe=>12
 |.lo=>13
 |.st=>15
noncomputable def Kd.af:Kd->Int
 |.fe=>1
 |.lo=>5
 |.st=>7
theorem KW(k:Kd)(σ:St):Ci (.glob (.ref 94)) k.v σ=.ok (.int k.pf) σ:=k.rec (by kernel_rfl) (by kernel_rfl) (by kernel_rfl)
theorem dE(k:Kd)(σ:St):Ci (.glob (.ref 95)) k.v σ=.ok (.int k.af) σ:=k.rec (by kernel_rfl) (by kernel_rfl) (by kernel_rfl)
noncomputable def Bc(e:Int):Bool := !(decide (Builtin.bitAnd e 1=0)) && !(decide (Builtin.bitAnd e (Builtin.bitOr 2 4)=4))
theorem O1(n:Nat)(e:Int)(σ:St):Ab Ad (n+1) (.ref 188) [.int e] σ=.ok (.bool (Bc e)) σ:=by
 refine AD (fe:=Ky) (by kernel_rfl) ?_;have k:Bg Ad (Ab Ad n) Ky [.int e]=Aa (Bz .And (!(decide (Builtin.bitAnd e 1=0))) (ret (.bool (!(decide (Builtin.bitAnd e 1=0))))) (ret (.bool (!(decide (Builtin.bitAnd e (Builtin.bitOr 2 4)=4)))))) (λv=>ret (.rets v)):=by kernel_rfl
 rw[k];unfold Bc;cases decide (Builtin.bitAnd e 1=0)<;>rfl
noncomputable def wv(W:List (V×V))(k:Int):Int:=match AI W (.int k) with
 |some v=>(match v with|.int e=>e|_=>0)
 |none=>0
theorem Zz(hv:(W.all λp=>E8 p.2)=true)(k:Int):(AI W (.int k)).getD (.int 0)=.int (wv W k):=by
 unfold wv;cases e:AI W (.int k) with
 |none=>rfl
 |some v=>obtain⟨q,hq,e2⟩:=List.mem_map.mp (Ik e);have:=List.all_eq_true.mp hv q hq;rw[e2]at this;cases v<;>first|rfl|cases this
end
section
noncomputable section
noncomputable def aO(n:Nat)(a0 a1 a2 a3:V):Mo Az:=Aa (Mk (Aa (at_ a0 "bus") λx4=>Aa (BZ x4 "load") λf5=>Aa (Ab Ad n f5 [x4,a1,(.int 4)]) λx6=>ret (.next (Ac (A9 D4 [a0,a1,a2,a3]) "entry" x6))) U6 λd=>if d<=1 then Aa (Cs (Aa (Ci (.glob (.ref 95)) a3) λy7=>ret [y7,a2])) λz8=>B5 91 z8 (d+1) else AB) λq1=>(match q1 with|.next fr2=>Aa (Af (fr2 "entry")) λx9=>Aa (Ab Ad n (.ref 188) [x9]) λx10=>Aa (BS x10) λq11=>if(!q11)=true then Aa (Cs (Aa (Aa (Aa (Af (fr2 "kind")) λk=>ret (Ek.item k)) λi12=>B9 (El 0) (.glob (.ref 94)) i12) λy13=>Aa (Aa (Af (fr2 "address")) λy14=>ret [y14]) λy15=>ret (y13::y15))) λz16=>B5 91 z16 0 else Aa (Af (fr2 "entry")) λx17=>ret (.rets x17)|.rets v=>ret (.rets v)|.cont fr2=>ret (.cont fr2))
theorem Gk(n:Nat)(a0 a1 a2 a3:V):Bg Ad (Ab Ad n) D4 [a0,a1,a2,a3]=aO n a0 a1 a2 a3:=by kernel_rfl
noncomputable def SX(l:AO)(g:Bool)(W:List (V×V))(wn:Nat)(c:AO)(ρ:St):St:=SB l g W wn c (Fw::ρ)
theorem Nq(e:b σ=.ok f σ'):Mk b t h σ=.ok f σ':=by unfold Mk;rw[e]
theorem WJ(e:b σ=.exc x σ')(ht:t x=true):Mk b t h σ=h x.d σ':=by unfold Mk;rw[e];exact if_pos ht
theorem ZI(k:Kd)(σ:St):B9 (El 0) (.glob (.ref 94)) (.item k.v) σ=.ok (.int k.pf) σ:=k.rec (by kernel_rfl) (by kernel_rfl) (by kernel_rfl)
theorem Mf(k:Kd):0<=k.pf/\k.pf<16:=k.rec (by decide) (by decide) (by decide)
theorem kX(k:Kd):0<=k.af/\k.af<16:=k.rec (by decide) (by decide) (by decide)
section
variable{a ad:Int}{k:Kd}
theorem J0(h:a%4=0)(h0:0<=a)(h1:B2 g<a+4)(h2:a<2^40)(d0:0<=ad)(d1:ad<2^40):Ab Ad (n+5) (.ref 224) [.obj 6,.int a,.int ad,k.v] (SX l g W wn c ρ)=.exc (.trap k.af ad 1) (SX l g W wn c ρ):=by
 refine B6 (fe:=D4) (by kernel_rfl) ?_;rw[Gk];refine AQ ?_;refine(WJ (x:=.trap 5 a 0) (σ':=SX l g W wn c ρ) ?_ rfl).trans ?_;·refine br (V.obj 4) ?_;refine br (Value.ref 591) ?_;exact AQ (VT h h0 h1 h2)
 ·refine(Ae (a:=[V.int k.af,.int ad]) (Bk ((Ae (dE k _)).trans rfl))).trans ?_;exact DG (kX k).1 (kX k).2 d0 d1
theorem JK(h:a%4=0)(h0:0<=a)(h1:a+4<=B2 g)(hk:(W.all λp=>E8 p.1)=true)(hv:(W.all λp=>E8 p.2)=true):(Aa (at_ (.obj 6) "bus") λx4=>Aa (BZ x4 "load") λf5=>Aa (Ab Ad (n+4) f5 [x4,.int a,(.int 4)]) λx6=>ret (Az.next (Ac (A9 D4 [.obj 6,.int a,.int ad,k.v]) "entry" x6))) (SX l g W wn c ρ)=.ok (.next (Ac (A9 D4 [.obj 6,.int a,.int ad,k.v]) "entry" (.int (wv W (a.fdiv (2^2)))))) (SX l g W wn c ρ):=by refine br (V.obj 4) ?_;refine br (Value.ref 591) ?_;refine(Ae (Xq h h0 h1 hk)).trans ?_;rw[Zz hv];rfl
theorem TA(h:a%4=0)(h0:0<=a)(h1:a+4<=B2 g)(hk:(W.all λp=>E8 p.1)=true)(hv:(W.all λp=>E8 p.2)=true)(hs:Bc (wv W (a.fdiv (2^2)))=true):Ab Ad (n+5) (.ref 224) [.obj 6,.int a,.int ad,k.v] (SX l g W wn c ρ)=.ok (.int (wv W (a.fdiv (2^2)))) (SX l g W wn c ρ):=by refine AD (fe:=D4) (by kernel_rfl) ?_;rw[Gk];refine(Ae (Nq (JK h h0 h1 hk hv))).trans ?_;refine br (V.int (wv W (a.fdiv (2^2)))) ?_;refine(Ae (O1 _ _ _)).trans ?_;refine(qV (by rw[hs];rfl)).trans ?_;exact(Ae (a:=V.int (wv W (a.fdiv (2^2)))) (by kernel_rfl)).trans rfl
theorem QI(h:a%4=0)(h0:0<=a)(h1:a+4<=B2 g)(hk:(W.all λp=>E8 p.1)=true)(hv:(W.all λp=>E8 p.2)=true)(d0:0<=ad)(d1:ad<2^40)(hs:Bc (wv W (a.fdiv (2^2)))=false):Ab Ad (n+5) (.ref 224) [.obj 6,.int a,.int ad,k.v] (SX l g W wn c ρ)=.exc (.trap k.pf ad 0) (SX l g W wn c ρ):=by
 refine B6 (fe:=D4) (by kernel_rfl) ?_;rw[Gk];refine(Ae (Nq (JK h h0 h1 hk hv))).trans ?_;refine br (V.int (wv W (a.fdiv (2^2)))) ?_;refine(Ae (O1 _ _ _)).trans ?_;refine(qP (σ':=SX l g W wn c ρ) (by rw[hs];rfl)).trans ?_;refine(Ae (a:=[V.int k.pf,.int ad]) (Bk ?_)).trans (DG (Mf k).1 (Mf k).2 d0 d1);refine(Ae (a:=V.int k.pf) (σ':=SX l g W wn c ρ) ?_).trans ?_;·refine(Ae (a:=Ek.item k.v) (by kernel_rfl)).trans (ZI k _)
 ·exact(Ae (a:=[V.int ad]) (by kernel_rfl)).trans rfl
end
end
end
section
noncomputable section
noncomputable def bZ(n:Nat)(a0 a1 a2 a3 a4:V):Mo Az:=Aa (Aj .BitOr a2 (.int 64)) λx1=>Aa (Aa (Aa (Ap .Eq a4 (.str "store")) λq3=>ret q3) λq2=>if q2=true then ret (.int 128) else ret (.int 0)) λx4=>Aa (Aj .BitOr x1 x4) λx5=>Aa (Ap .NotEq x5 a2) λq6=>if q6=true then Aa (Mk (Aa (at_ a0 "bus") λx10=>Aa (BZ x10 "store") λf11=>Aa (Ab Ad n f11 [x10,a1,(.int 4),x5]) λx12=>By x12 (ret (.next (Ac (A9 Dz [a0,a1,a2,a3,a4]) "due" x5)))) U6 λd=>if d<=1 then Aa (Cs (Aa (Ci (.glob (.ref 95)) a4) λy13=>ret [y13,a3])) λz14=>B5 91 z14 (d+1) else AB) λq7=>(match q7 with|.next fr8=>ret (.next fr8)|.rets v=>ret (.rets v)|.cont fr8=>ret (.cont fr8)) else ret (.next (Ac (A9 Dz [a0,a1,a2,a3,a4]) "due" x5))
theorem Kh(n:Nat)(a0 a1 a2 a3 a4:V):Bg Ad (Ab Ad n) Dz [a0,a1,a2,a3,a4]=bZ n a0 a1 a2 a3 a4:=by kernel_rfl
noncomputable def Kd.dirt:Kd->Int
 |.fe=>0
 |.lo=>0
 |.st=>128
noncomputable def Jr(e:Int)(k:Kd):Int:=Builtin.bitOr (Builtin.bitOr e 64) k.dirt
section
variable{a ad e:Int}
theorem OK(k:Kd)(σ:St):(Aa (Aa (Ap .Eq k.v (.str "store")) λq3=>ret q3) λq2=>if q2=true then ret (V.int 128) else ret (.int 0)) σ=.ok (.int k.dirt) σ:=k.rec (by kernel_rfl) (by kernel_rfl) (by kernel_rfl)
theorem Qd(h:Jr e k=e)(σ:St):Ab Ad (n+1) (.ref 238) [.obj 6,.int a,.int e,.int ad,k.v] σ=.ok .none σ:=by refine BC (fe:=Dz) (fr:=Ac (A9 Dz [.obj 6,.int a,.int e,.int ad,k.v]) "due" (.int (Jr e k))) (by kernel_rfl) ?_;rw[Kh];refine(Ae (a:=V.int (Builtin.bitOr e 64)) rfl).trans ?_;refine(Ae (OK k σ)).trans ?_;refine(Ae (a:=V.int (Jr e k)) rfl).trans ?_;exact(bF (Jn h)).trans rfl
theorem Vz(hd:Jr e k≠e)(h:a%4=0)(h0:0<=a)(h1:a+4<=B2 g)(hk:(W.all λp=>E8 p.1)=true)(hv:(W.all λp=>E8 p.2)=true)(hw:W.length<=4096):Ab Ad (n+6) (.ref 238) [.obj 6,.int a,.int e,.int ad,k.v] (SX l g W wn c ρ)=.ok .none (SX l g (Lc W (a.fdiv (2^2)) (Builtin.bitAnd (Jr e k) 4294967295)) (Nu W wn (a.fdiv (2^2)) (Builtin.bitAnd (Jr e k) 4294967295)) c ρ):=by refine BC (fe:=Dz) (fr:=Ac (A9 Dz [.obj 6,.int a,.int e,.int ad,k.v]) "due" (.int (Jr e k))) (by kernel_rfl) ?_;rw[Kh];refine(Ae (a:=V.int (Builtin.bitOr e 64)) rfl).trans ?_;refine(Ae (OK k _)).trans ?_;refine(Ae (a:=V.int (Jr e k)) rfl).trans ?_;refine(bT (YJ hd)).trans ?_;refine(Ae (a:=Az.next (Ac (A9 Dz [.obj 6,.int a,.int e,.int ad,k.v]) "due" (.int (Jr e k)))) (Nq ?_)).trans rfl;refine br (V.obj 4) ?_;refine br (Value.ref 599) ?_;refine(Ae (Vw h h0 h1 hk hv hw)).trans ?_;rw[AH];rfl
end
end
end
noncomputable section
noncomputable def cZ(n:Nat)(a0 a1 a2 a3 a4:V):Mo Az:=Aa (Aa (Aa (Ap .Eq a2 (.int 0)) λq3=>ret q3) λq2=>Bz .And q2 (ret q2) (Aa (Aa (Aj .BitAnd a0 (.int 16)) λy5=>Aa (Ap .Eq y5 (.int 0)) λq6=>ret q6) λq4=>Bz .And q4 (ret q4) (ret true))) λq1=>if q1=true then ret (.rets (.bool false)) else Aa (Aa (Aa (Ap .NotEq a2 (.int 0)) λq9=>ret q9) λq8=>Bz .And q8 (ret q8) (Aa (Aa (Aj .BitAnd a0 (.int 16)) λy11=>Aa (Ap .NotEq y11 (.int 0)) λq12=>ret q12) λq10=>Bz .And q10 (ret q10) (Aa (Aa (Aa (Ap .Eq a1 (.str "fetch")) λq15=>ret q15) λq14=>Bz .Or q14 (ret q14) (Aa (Aa (BS a3) λq17=>ret (!q17)) λq16=>Bz .Or q16 (ret q16) (ret false))) λq13=>Bz .And q13 (ret q13) (ret true)))) λq7=>if q7=true then ret (.rets (.bool false)) else Aa (Ap .Eq a1 (.str "fetch")) λq18=>if q18=true then Aa (Aj .BitAnd a0 (.int 8)) λx19=>Aa (Ap .NotEq x19 (.int 0)) λq20=>ret (.rets (.bool q20)) else Aa (Ap .Eq a1 (.str "store")) λq21=>if q21=true then Aa (Aj .BitAnd a0 (.int 4)) λx22=>Aa (Ap .NotEq x22 (.int 0)) λq23=>ret (.rets (.bool q23)) else Aa (Aa (Aa (Aj .BitAnd a0 (.int 2)) λy24=>Aa (Aa (Ap .NotEq y24 (.int 0)) λq26=>ret q26) λq25=>ret (.bool q25)) λy27=>Aa (BS y27) λq28=>Bz .Or q28 (ret y27) (Aa (Aa (Ab Ad n (.type "bool") [a4]) λy29=>Aa (BS y29) λq30=>Bz .And q30 (ret y29) (Aa (Aa (Aj .BitAnd a0 (.int 8)) λy31=>Aa (Aa (Ap .NotEq y31 (.int 0)) λq33=>ret q33) λq32=>ret (.bool q32)) λy34=>ret y34)) λy35=>ret y35)) λx36=>ret (.rets x36)
theorem RT(n:Nat)(a0 a1 a2 a3 a4:V):Bg Ad (Ab Ad n) Ll [a0,a1,a2,a3,a4]=cZ n a0 a1 a2 a3 a4:=by kernel_rfl
noncomputable def Kd.isF:Kd->Bool
 |.fe=>true
 |.lo=>false
 |.st=>false
noncomputable def bt(e b:Int):Bool := !(decide (Builtin.bitAnd e b=0))
noncomputable def CE(k:Kd)(m s x e:Int):Bool:=
 if(decide (m=0) && !(bt e 16))=true then false else
 if(!(decide (m=0))&&(bt e 16&&(k.isF||decide (s=0))))=true then false else
 match k with
 |.fe=>bt e 8
 |.st=>bt e 4
 |.lo=>bt e 2||(!(decide (x=0))&&bt e 8)
section
theorem F4(e:f σ=.ok b σ)(e2:m σ=.ok c σ):Aa f (λq=>Bz .And q (ret q) m) σ=.ok (b&&c) σ:=by
 refine(Ae e).trans ?_;cases b;·rfl
 ·exact e2
theorem Ez(e:f σ=.ok b σ)(e2:m σ=.ok c σ):Aa f (λq=>Bz .Or q (ret q) m) σ=.ok (b||c) σ:=by
 refine(Ae e).trans ?_;cases b;·exact e2
 ·rfl
theorem cS(e b:Int):(Aa (Aj .BitAnd (.int e) (.int b)) λy=>Aa (Ap .NotEq y (.int 0)) λq=>ret q) σ=.ok (bt e b) σ:=by kernel_rfl
theorem gI(e b:Int):(Aa (Aj .BitAnd (.int e) (.int b)) λy=>Aa (Ap .Eq y (.int 0)) λq=>ret q) σ=.ok (!(bt e b)) σ:=by refine Eq.trans (b:=.ok (decide (Builtin.bitAnd e b=0)) σ) (by kernel_rfl) ?_;unfold bt;rw[Bool.not_not]
theorem lB(k:Kd):(Aa (Ap .Eq k.v (.str "fetch")) λq=>ret q) σ=.ok k.isF σ:=k.rec (by kernel_rfl) (by kernel_rfl) (by kernel_rfl)
theorem Po(n:Nat)(k:Kd)(m s x e:Int)(σ:St):Ab Ad (n+2) (.ref 195) [.int e,k.v,.int m,.int s,.int x] σ=.ok (.bool (CE k m s x e)) σ:=by
 refine AD (fe:=Ll) (by kernel_rfl) ?_;rw[RT];have t1:(Aa (Ap .Eq (.int m) (.int 0)) λq=>ret q) σ=.ok (decide (m=0)) σ:=by kernel_rfl
 have t2:(Aa (Ap .NotEq (.int m) (.int 0)) λq=>ret q) σ=.ok (!(decide (m=0))) σ:=by kernel_rfl
 have t3:(Aa (Aa (BS (.int s)) λq=>ret (!q)) λq=>Bz .Or q (ret q) (ret false)) σ=.ok (decide (s=0)) σ:=by refine Eq.trans (b:=.ok (!(decide (s≠0))||false) σ) (Ez (by kernel_rfl) rfl) ?_;by_cases h:s=0<;>simp[h]
 unfold CE;refine(Ae (F4 t1 (F4 (gI e 16) rfl))).trans ?_;rw[Bool.and_true];cases h1:(decide (m=0) && !(bt e 16)) with
 |true=>rfl
 |false=>
  refine(Ae (F4 t2 (F4 (cS e 16) (F4 (b:=k.isF||decide (s=0)) (Ez (lB k) t3) rfl)))).trans ?_;rw[Bool.and_true];cases h2:(!(decide (m=0))&&(bt e 16&&(k.isF||decide (s=0)))) with
  |true=>rfl
  |false=>
   cases k with
   |fe=>exact Eq.trans (b:=.ok (.rets (.bool (bt e 8))) σ) (by kernel_rfl) rfl
   |st=>exact Eq.trans (b:=.ok (.rets (.bool (bt e 4))) σ) (by kernel_rfl) rfl
   |lo=>
    refine(bF (σ':=σ) (by kernel_rfl)).trans ?_;refine(bF (σ':=σ) (by kernel_rfl)).trans ?_;refine(Ae (a:=V.bool (bt e 2||(!(decide (x=0))&&bt e 8))) ?_).trans rfl;refine br (V.bool (bt e 2)) ?_;refine(Ae (a:=bt e 2) rfl).trans ?_;cases bt e 2 with
    |true=>rfl
    |false=>
     refine(Ae (a:=V.bool (!(decide (x=0))&&bt e 8)) ?_).trans rfl;refine(Ae (a:=V.bool (!(decide (x=0)))) (σ':=σ) ?_).trans ?_;·refine Eq.trans (b:=.ok (V.bool (x != 0)) σ) (by kernel_rfl) ?_;by_cases h:x=0<;>simp[h]
     ·refine(Ae (a := !(decide (x=0))) rfl).trans ?_;cases !(decide (x=0)) with
      |false=>rfl
      |true=>exact Eq.trans (b:=.ok (V.bool (bt e 8)) σ) (by kernel_rfl) rfl
end
end
section
noncomputable section
noncomputable def dU(n:Nat)(a0 a1 a2 a3 a4 a5 a6 a7:V):Mo Az:=Aa (at_ a0 "layout") λx1=>Aa (BZ x1 "physical") λf2=>Aa (Ab Ad n f2 [x1,a2]) λx3=>Aa (Aa (Aa (Aa (Aa (at_ a0 "layout") λy6=>at_ y6 "large") λy7=>Aj .Mod x3 y7) λy8=>Aa (Ap .NotEq y8 (.int 0)) λq9=>ret q9) λq5=>Bz .Or q5 (ret q5) (Aa (Aa (Aa (Ab Ad n (.ref 195) [a2,a4,a5,a6,a7]) BS) λq11=>ret (!q11)) λq10=>Bz .Or q10 (ret q10) (ret false))) λq4=>if q4=true then Aa (Cs (Aa (Ci (.glob (.ref 94)) a4) λy12=>ret [y12,a3])) λz13=>B5 91 z13 0 else Aa (BZ a0 "mark") λf14=>Aa (Ab Ad n f14 [a0,a1,a2,a3,a4]) λx15=>By x15 (Aa (at_ a0 "layout") λx16=>Aa (at_ x16 "large") λx17=>Aa (Aj .Sub x17 (.int 1)) λx18=>Aa (Aj .BitAnd a3 x18) λx19=>Aa (Aj .BitOr x3 x19) λx20=>ret (.rets x20))
theorem J4(n:Nat)(a0 a1 a2 a3 a4 a5 a6 a7:V):Bg Ad (Ab Ad n) HW [a0,a1,a2,a3,a4,a5,a6,a7]=dU n a0 a1 a2 a3 a4 a5 a6 a7:=by kernel_rfl
noncomputable def AL(g:Bool)(e:Int):Int:=e.fdiv (2^10)*2^(LX g).toNat
section
variable{a ad e m s x:Int}
theorem oS(g:Bool):VA g≠0:=g.rec (by decide) (by decide)
theorem HY(hp:(e.fdiv (2^10)).natAbs<2^64):(Aa (Aa (Aa (Aa (at_ (.obj 6) "layout") λy6=>at_ y6 "large") λy7=>Aj .Mod (.int (AL g e)) y7) λy8=>Aa (Ap .NotEq y8 (.int 0)) λq9=>ret q9) λq5=>Bz .Or q5 (ret q5) (Aa (Aa (Aa (Ab Ad (n+2) (.ref 195) [.int e,k.v,.int m,.int s,.int x]) BS) λq11=>ret (!q11)) λq10=>Bz .Or q10 (ret q10) (ret false))) (SX (Ai g) g W wn c ρ)=.ok (!(decide ((AL g e).fmod (VA g)=0))||(!(CE k m s x e)||false)) (SX (Ai g) g W wn c ρ):=by
 refine Ez ?_ (Ez ?_ rfl)
 ·refine(Ae (a:=V.int ((AL g e).fmod (VA g))) (σ':=SX (Ai g) g W wn c ρ) ?_).trans ?_;·refine(Ae (a:=V.int (VA g)) (σ':=SX (Ai g) g W wn c ρ) (by cases g<;>kernel_rfl)).trans ?_;exact Gd (oS g)
  ·exact Ae IU
 ·exact Ae ((Ae (Po n k m s x e _)).trans rfl)
theorem VZ(hp:(e.fdiv (2^10)).natAbs<2^64)(h1:(AL g e).fmod (VA g)=0)(h2:CE k m s x e=true)(hm:Ab Ad (n+2) (.ref 238) [.obj 6,.int a,.int e,.int ad,k.v] (SX (Ai g) g W wn c ρ)=.ok .none (SX (Ai g) g W' wn' c ρ)):Ab Ad (n+3) (.ref 231) [.obj 6,.int a,.int e,.int ad,k.v,.int m,.int s,.int x] (SX (Ai g) g W wn c ρ)=.ok (.int (Builtin.bitOr (AL g e) (Builtin.bitAnd ad (VA g-1)))) (SX (Ai g) g W' wn' c ρ):=by refine AD (fe:=HW) (by kernel_rfl) ?_;rw[J4];refine br (V.obj 0) ?_;refine(Ae (a:=Value.ref 167) (σ':=SX (Ai g) g W wn c ρ) (by cases g<;>kernel_rfl)).trans ?_;refine(Ae (DT (n+1) g e _ hp)).trans ?_;refine(bF ((HY hp).trans (by rw[decide_eq_true h1,h2];rfl))).trans ?_;refine br (Value.ref 238) ?_;refine(Ae hm).trans ?_;rw[AH];cases g<;>kernel_rfl
theorem R3(hp:(e.fdiv (2^10)).natAbs<2^64)(d0:0<=ad)(d1:ad<2^40)(h:¬((AL g e).fmod (VA g)=0/\CE k m s x e=true)):Ab Ad (n+3) (.ref 231) [.obj 6,.int a,.int e,.int ad,k.v,.int m,.int s,.int x] (SX (Ai g) g W wn c ρ)=.exc (.trap k.pf ad 0) (SX (Ai g) g W wn c ρ):=by
 refine B6 (fe:=HW) (by kernel_rfl) ?_;rw[J4];refine br (V.obj 0) ?_;refine(Ae (a:=Value.ref 167) (σ':=SX (Ai g) g W wn c ρ) (by cases g<;>kernel_rfl)).trans ?_;refine(Ae (DT (n+1) g e _ hp)).trans ?_;refine(bT (σ':=SX (Ai g) g W wn c ρ) ((HY hp).trans ?_)).trans ?_
 ·by_cases h1:(AL g e).fmod (VA g)=0
  ·have h2:CE k m s x e=false:=by
    cases q:CE k m s x e with
    |false=>rfl
    |true=>exact absurd ⟨h1,q⟩ h
   rw[h2,decide_eq_true h1];rfl
  ·rw[decide_eq_false h1];rfl
 ·exact(Ae (a:=[V.int k.pf,.int ad]) (Bk ((Ae (KW k _)).trans rfl))).trans (DG (Mf k).1 (Mf k).2 d0 d1)
end
end
end
section
noncomputable section
noncomputable def dG(n:Nat)(a0 a1 a2 a3 a4 a5 a6:V):Mo Az:=Aa (at_ a0 "layout") λx1=>Aa (BZ x1 "parts") λf2=>Aa (Ab Ad n f2 [x1,a2]) λx3=>Aa (Ap .Is x3 .none) λq4=>if q4=true then Aa (Cs (Aa (Ci (.glob (.ref 94)) a3) λy5=>ret [y5,a2])) λz6=>B5 91 z6 0 else Aa (Ci x3 (.int 0)) λx7=>Aa (Aj .Mult (.int 4) x7) λx8=>Aa (Aj .Add a1 x8) λx9=>Aa (BZ a0 "entry_at") λf10=>Aa (Ab Ad n f10 [a0,x9,a2,a3]) λx11=>Aa (Ab Ad n (.ref 181) [x11]) λx12=>Aa (BS x12) λq13=>if q13=true then Aa (BZ a0 "large_page") λf14=>Aa (Ab Ad n f14 [a0,x9,x11,a2,a3,a4,a5,a6]) λx15=>ret (.rets x15) else Aa (at_ a0 "layout") λx16=>Aa (BZ x16 "physical") λf17=>Aa (Ab Ad n f17 [x16,x11]) λx18=>Aa (Ci x3 (.int 1)) λx19=>Aa (Aj .Mult (.int 4) x19) λx20=>Aa (Aj .Add x18 x20) λx21=>Aa (BZ a0 "entry_at") λf22=>Aa (Ab Ad n f22 [a0,x21,a2,a3]) λx23=>Aa (Aa (Aa (Aa (Ab Ad n (.ref 181) [x23]) BS) λq26=>ret (!q26)) λq25=>Bz .Or q25 (ret q25) (Aa (Aa (Aa (Ab Ad n (.ref 195) [x23,a3,a4,a5,a6]) BS) λq28=>ret (!q28)) λq27=>Bz .Or q27 (ret q27) (ret false))) λq24=>if q24=true then Aa (Cs (Aa (Ci (.glob (.ref 94)) a3) λy29=>ret [y29,a2])) λz30=>B5 91 z30 0 else Aa (BZ a0 "mark") λf31=>Aa (Ab Ad n f31 [a0,x21,x23,a2,a3]) λx32=>By x32 (Aa (at_ a0 "layout") λx33=>Aa (BZ x33 "physical") λf34=>Aa (Ab Ad n f34 [x33,x23]) λx35=>Aa (Ci x3 (.int 2)) λx36=>Aa (Aj .BitOr x35 x36) λx37=>ret (.rets x37))
theorem Gx(n:Nat)(a0 a1 a2 a3 a4 a5 a6:V):Bg Ad (Ab Ad n) Df [a0,a1,a2,a3,a4,a5,a6]=dG n a0 a1 a2 a3 a4 a5 a6:=by kernel_rfl
section
variable{r ad e m s x p1 p2 p3:Int}{c:AO}{W W':List (V×V)}{wn wn':Nat}{ρ:St}{k:Kd}
theorem gX(d0:0<=ad)(d1:ad<2^40)(hp:Ab Ad (n+1) (.ref 117) [.obj 0,.int ad] (SX (Ai g) g W wn c ρ)=.ok .none (SX (Ai g) g W wn c ρ)):Ab Ad (n+2) (.ref 217) [.obj 6,.int r,.int ad,k.v,.int m,.int s,.int x] (SX (Ai g) g W wn c ρ)=.exc (.trap k.pf ad 0) (SX (Ai g) g W wn c ρ):=by refine B6 (fe:=Df) (by kernel_rfl) ?_;rw[Gx];refine br (V.obj 0) ?_;refine(Ae (a:=Value.ref 117) (σ':=SX (Ai g) g W wn c ρ) (by cases g<;>kernel_rfl)).trans ?_;refine(Ae hp).trans ?_;refine(bT (σ':=SX (Ai g) g W wn c ρ) (by kernel_rfl)).trans ?_;exact(Ae (a:=[V.int k.pf,.int ad]) (Bk ((Ae (KW k _)).trans rfl))).trans (DG (Mf k).1 (Mf k).2 d0 d1)
theorem mQ(hp:Ab Ad n (.ref 117) [.obj 0,.int ad] (SX (Ai g) g W wn c ρ)=.ok (.tup [.int p1,.int p2,.int p3]) (SX (Ai g) g W wn c ρ))(he:Ab Ad n (.ref 224) [.obj 6,.int (r+4*p1),.int ad,k.v] (SX (Ai g) g W wn c ρ)=.exc y (SX (Ai g) g W wn c ρ)):Ab Ad (n+1) (.ref 217) [.obj 6,.int r,.int ad,k.v,.int m,.int s,.int x] (SX (Ai g) g W wn c ρ)=.exc y (SX (Ai g) g W wn c ρ):=by refine B6 (fe:=Df) (by kernel_rfl) ?_;rw[Gx];refine br (V.obj 0) ?_;refine(Ae (a:=Value.ref 117) (σ':=SX (Ai g) g W wn c ρ) (by cases g<;>kernel_rfl)).trans ?_;refine(Ae hp).trans ?_;refine(bF (σ':=SX (Ai g) g W wn c ρ) (by kernel_rfl)).trans ?_;refine br (V.int p1) ?_;refine br (V.int (4*p1)) ?_;refine br (V.int (r+4*p1)) ?_;refine br (Value.ref 224) ?_;exact AQ he
theorem MU(hp:Ab Ad n (.ref 117) [.obj 0,.int ad] (SX (Ai g) g W wn c ρ)=.ok (.tup [.int p1,.int p2,.int p3]) (SX (Ai g) g W wn c ρ))(he:Ab Ad n (.ref 224) [.obj 6,.int (r+4*p1),.int ad,k.v] (SX (Ai g) g W wn c ρ)=.ok (.int e) (SX (Ai g) g W wn c ρ))
  (h:(Aa (Ab Ad n (.ref 181) [.int e]) λx12=>Aa (BS x12) λq13=>if q13=true then Aa (BZ (.obj 6) "large_page") λf14=>Aa (Ab Ad n f14 [.obj 6,.int (r+4*p1),.int e,.int ad,k.v,.int m,.int s,.int x]) λx15=>ret (.rets x15) else Aa (at_ (.obj 6) "layout") λx16=>Aa (BZ x16 "physical") λf17=>Aa (Ab Ad n f17 [x16,.int e]) λx18=>Aa (Ci (.tup [.int p1,.int p2,.int p3]) (.int 1)) λx19=>Aa (Aj .Mult (.int 4) x19) λx20=>Aa (Aj .Add x18 x20) λx21=>Aa (BZ (.obj 6) "entry_at") λf22=>Aa (Ab Ad n f22 [.obj 6,x21,.int ad,k.v]) λx23=>Aa (Aa (Aa (Aa (Ab Ad n (.ref 181) [x23]) BS) λq26=>ret (!q26)) λq25=>Bz .Or q25 (ret q25) (Aa (Aa (Aa (Ab Ad n (.ref 195) [x23,k.v,.int m,.int s,.int x]) BS) λq28=>ret (!q28)) λq27=>Bz .Or q27 (ret q27) (ret false))) λq24=>if q24=true then Aa (Cs (Aa (Ci (.glob (.ref 94)) k.v) λy29=>ret [y29,.int ad])) λz30=>B5 91 z30 0 else Aa (BZ (.obj 6) "mark") λf31=>Aa (Ab Ad n f31 [.obj 6,x21,x23,.int ad,k.v]) λx32=>By x32 (Aa (at_ (.obj 6) "layout") λx33=>Aa (BZ x33 "physical") λf34=>Aa (Ab Ad n f34 [x33,x23]) λx35=>Aa (Ci (.tup [.int p1,.int p2,.int p3]) (.int 2)) λx36=>Aa (Aj .BitOr x35 x36) λx37=>ret (.rets x37))) (SX (Ai g) g W wn c ρ)=R):Bg Ad (Ab Ad n) Df [.obj 6,.int r,.int ad,k.v,.int m,.int s,.int x] (SX (Ai g) g W wn c ρ)=R:=by
 rw[Gx];refine br (V.obj 0) ?_;refine(Ae (a:=Value.ref 117) (σ':=SX (Ai g) g W wn c ρ) (by cases g<;>kernel_rfl)).trans ?_;refine(Ae hp).trans ?_;refine(bF (σ':=SX (Ai g) g W wn c ρ) (by kernel_rfl)).trans ?_;refine br (V.int p1) ?_;refine br (V.int (4*p1)) ?_;refine br (V.int (r+4*p1)) ?_;refine br (Value.ref 224) ?_;exact(Ae he).trans h
noncomputable def AY(e:Int):Bool := !(decide (Builtin.bitAnd e 10=0))
theorem Cm(n:Nat)(e:Int)(σ:St):Ab Ad (n+1) (.ref 181) [.int e] σ=.ok (.bool (AY e)) σ:=bY n e σ
theorem UZ(hp:Ab Ad (n+1) (.ref 117) [.obj 0,.int ad] (SX (Ai g) g W wn c ρ)=.ok (.tup [.int p1,.int p2,.int p3]) (SX (Ai g) g W wn c ρ))(he:Ab Ad (n+1) (.ref 224) [.obj 6,.int (r+4*p1),.int ad,k.v] (SX (Ai g) g W wn c ρ)=.ok (.int e) (SX (Ai g) g W wn c ρ))(hl:AY e=true)
  (h:Ab Ad (n+1) (.ref 231) [.obj 6,.int (r+4*p1),.int e,.int ad,k.v,.int m,.int s,.int x] (SX (Ai g) g W wn c ρ)=.ok v σ'):Ab Ad (n+2) (.ref 217) [.obj 6,.int r,.int ad,k.v,.int m,.int s,.int x] (SX (Ai g) g W wn c ρ)=.ok v σ':=by
 refine AD (fe:=Df) (by kernel_rfl) (MU hp he ?_);refine(Ae (Cm n e _)).trans ?_;refine(bT (by rw[hl];rfl)).trans ?_;refine br (Value.ref 231) ?_;exact Ae h
theorem RD(hp:Ab Ad (n+1) (.ref 117) [.obj 0,.int ad] (SX (Ai g) g W wn c ρ)=.ok (.tup [.int p1,.int p2,.int p3]) (SX (Ai g) g W wn c ρ))(he:Ab Ad (n+1) (.ref 224) [.obj 6,.int (r+4*p1),.int ad,k.v] (SX (Ai g) g W wn c ρ)=.ok (.int e) (SX (Ai g) g W wn c ρ))(hl:AY e=true)
  (h:Ab Ad (n+1) (.ref 231) [.obj 6,.int (r+4*p1),.int e,.int ad,k.v,.int m,.int s,.int x] (SX (Ai g) g W wn c ρ)=.exc y σ'):Ab Ad (n+2) (.ref 217) [.obj 6,.int r,.int ad,k.v,.int m,.int s,.int x] (SX (Ai g) g W wn c ρ)=.exc y σ':=by
 refine B6 (fe:=Df) (by kernel_rfl) (MU hp he ?_);refine(Ae (Cm n e _)).trans ?_;refine(bT (by rw[hl];rfl)).trans ?_;refine br (Value.ref 231) ?_;exact AQ h
theorem Zu(hp:Ab Ad (n+1) (.ref 117) [.obj 0,.int ad] (SX (Ai g) g W wn c ρ)=.ok (.tup [.int p1,.int p2,.int p3]) (SX (Ai g) g W wn c ρ))(he:Ab Ad (n+1) (.ref 224) [.obj 6,.int (r+4*p1),.int ad,k.v] (SX (Ai g) g W wn c ρ)=.ok (.int e) (SX (Ai g) g W wn c ρ))(hl:AY e=false)(hb:(e.fdiv (2^10)).natAbs<2^64)
  (h:Ab Ad (n+1) (.ref 224) [.obj 6,.int (AL g e+4*p2),.int ad,k.v] (SX (Ai g) g W wn c ρ)=.exc y (SX (Ai g) g W wn c ρ)):Ab Ad (n+2) (.ref 217) [.obj 6,.int r,.int ad,k.v,.int m,.int s,.int x] (SX (Ai g) g W wn c ρ)=.exc y (SX (Ai g) g W wn c ρ):=by
 refine B6 (fe:=Df) (by kernel_rfl) (MU hp he ?_);refine(Ae (Cm n e _)).trans ?_;refine(bF (by rw[hl];rfl)).trans ?_;refine br (V.obj 0) ?_;refine(Ae (a:=Value.ref 167) (σ':=SX (Ai g) g W wn c ρ) (by cases g<;>kernel_rfl)).trans ?_;refine(Ae (DT n g e _ hb)).trans ?_;refine br (V.int p2) ?_;refine br (V.int (4*p2)) ?_;refine br (V.int (AL g e+4*p2)) ?_;refine br (Value.ref 224) ?_;exact AQ h
theorem OV(d0:0<=ad)(d1:ad<2^40)(hp:Ab Ad (n+2) (.ref 117) [.obj 0,.int ad] (SX (Ai g) g W wn c ρ)=.ok (.tup [.int p1,.int p2,.int p3]) (SX (Ai g) g W wn c ρ))(he:Ab Ad (n+2) (.ref 224) [.obj 6,.int (r+4*p1),.int ad,k.v] (SX (Ai g) g W wn c ρ)=.ok (.int e) (SX (Ai g) g W wn c ρ))(hl:AY e=false)(hb:(e.fdiv (2^10)).natAbs<2^64)
  (h:Ab Ad (n+2) (.ref 224) [.obj 6,.int (AL g e+4*p2),.int ad,k.v] (SX (Ai g) g W wn c ρ)=.ok (.int e2) (SX (Ai g) g W wn c ρ)) (h2:¬(AY e2=true/\CE k m s x e2=true)):Ab Ad (n+3) (.ref 217) [.obj 6,.int r,.int ad,k.v,.int m,.int s,.int x] (SX (Ai g) g W wn c ρ)=.exc (.trap k.pf ad 0) (SX (Ai g) g W wn c ρ):=by
 refine B6 (fe:=Df) (by kernel_rfl) (MU hp he ?_);refine(Ae (Cm (n+1) e _)).trans ?_;refine(bF (σ':=SX (Ai g) g W wn c ρ) (by rw[hl];rfl)).trans ?_;refine br (V.obj 0) ?_;refine(Ae (a:=Value.ref 167) (σ':=SX (Ai g) g W wn c ρ) (by cases g<;>kernel_rfl)).trans ?_;refine(Ae (DT (n+1) g e _ hb)).trans ?_;refine br (V.int p2) ?_;refine br (V.int (4*p2)) ?_;refine br (V.int (AL g e+4*p2)) ?_;refine br (Value.ref 224) ?_;refine(Ae h).trans ?_;refine(bT (σ':=SX (Ai g) g W wn c ρ) ((Ez (b := !(AY e2)) (c := !(CE k m s x e2)||false) ((Ae (a:=AY e2) (σ':=SX (Ai g) g W wn c ρ) ((Ae (Cm (n+1) e2 _)).trans rfl)).trans rfl) (Ez ((Ae (a:=CE k m s x e2) (σ':=SX (Ai g) g W wn c ρ) ((Ae (Po n k m s x e2 _)).trans rfl)).trans rfl) rfl)).trans ?_)).trans ?_;·cases q1:AY e2<;>cases q2:CE k m s x e2<;>first|rfl|exact absurd ⟨q1,q2⟩ h2
 ·exact(Ae (a:=[V.int k.pf,.int ad]) (Bk ((Ae (KW k _)).trans rfl))).trans (DG (Mf k).1 (Mf k).2 d0 d1)
end
end
end
section
noncomputable section
section
variable{n:Nat}{g:Bool}{r ad e m s x p1 p2 p3:Int}{c:AO}{W W':List (V×V)}{wn wn':Nat}{ρ:St}{k:Kd}
theorem Vd(hp:Ab Ad (n+2) (.ref 117) [.obj 0,.int ad] (SX (Ai g) g W wn c ρ)=.ok (.tup [.int p1,.int p2,.int p3]) (SX (Ai g) g W wn c ρ))(he:Ab Ad (n+2) (.ref 224) [.obj 6,.int (r+4*p1),.int ad,k.v] (SX (Ai g) g W wn c ρ)=.ok (.int e) (SX (Ai g) g W wn c ρ))(hl:AY e=false)(hb:(e.fdiv (2^10)).natAbs<2^64)
  (h:Ab Ad (n+2) (.ref 224) [.obj 6,.int (AL g e+4*p2),.int ad,k.v] (SX (Ai g) g W wn c ρ)=.ok (.int e2) (SX (Ai g) g W wn c ρ)) (h2:AY e2=true) (h3:CE k m s x e2=true) (hb2:(e2.fdiv (2^10)).natAbs<2^64) (hm:Ab Ad (n+2) (.ref 238) [.obj 6,.int (AL g e+4*p2),.int e2,.int ad,k.v] (SX (Ai g) g W wn c ρ)=.ok .none (SX (Ai g) g W' wn' c ρ)):Ab Ad (n+3) (.ref 217) [.obj 6,.int r,.int ad,k.v,.int m,.int s,.int x] (SX (Ai g) g W wn c ρ)=.ok (.int (Builtin.bitOr (AL g e2) p3)) (SX (Ai g) g W' wn' c ρ):=by
 refine AD (fe:=Df) (by kernel_rfl) (MU hp he ?_);refine(Ae (Cm (n+1) e _)).trans ?_;refine(bF (by rw[hl];rfl)).trans ?_;refine br (V.obj 0) ?_;refine(Ae (a:=Value.ref 167) (σ':=SX (Ai g) g W wn c ρ) (by cases g<;>kernel_rfl)).trans ?_;refine(Ae (DT (n+1) g e _ hb)).trans ?_;refine br (V.int p2) ?_;refine br (V.int (4*p2)) ?_;refine br (V.int (AL g e+4*p2)) ?_;refine br (Value.ref 224) ?_;refine(Ae h).trans ?_;refine(bF ((Ez (b := !(AY e2)) (c := !(CE k m s x e2)||false) ((Ae (a:=AY e2) ((Ae (Cm (n+1) e2 _)).trans rfl)).trans rfl) (Ez ((Ae (a:=CE k m s x e2) ((Ae (Po n k m s x e2 _)).trans rfl)).trans rfl) rfl)).trans (by rw[h2,h3];rfl))).trans ?_;refine br (Value.ref 238) ?_;refine(Ae hm).trans ?_;rw[AH];refine br (V.obj 0) ?_;refine(Ae (a:=Value.ref 167) (σ':=SX (Ai g) g W' wn' c ρ) (by cases g<;>kernel_rfl)).trans ?_;refine(Ae (DT (n+1) g e2 _ hb2)).trans ?_;refine br (V.int p3) ?_;exact(Ae (a:=V.int (Builtin.bitOr (AL g e2) p3)) rfl).trans rfl
end
end
end
section
noncomputable section
theorem Kk(he:0<=e)(h0:0<=m)(h1:m<256):Builtin.bitAnd e m=Builtin.bitAnd (e%256) m:=by have h2:0<=e%256:=Int.emod_nonneg _ (by decide);rw[bitAnd_pp he h0,bitAnd_pp h2 h0];have hm:m.toNat<2^8:=(Int.toNat_lt h0).mpr h1;have h3:e.toNat &&& m.toNat<2^8:=Nat.lt_of_le_of_lt Nat.and_le_right hm;have h4:=Nat.and_mod_two_pow (a:=e.toNat) (b:=m.toNat) (n:=8);rw[Nat.mod_eq_of_lt h3,Nat.mod_eq_of_lt hm]at h4;rw[h4,Int.toNat_emod he (by decide)];rfl
theorem lT(he:0<=e)(h0:0<=m)(h1:m<256):Builtin.bitOr e m=e-e%256+Builtin.bitOr (e%256) m:=by rw[bitOr_and,bitOr_and,Kk he h0 h1];lia
noncomputable def Av(e b:Int):Int:=(e.fdiv b).fmod 2
noncomputable def AN(e b:Int):Int:=if(e.fdiv b).fmod 2=0 then e+b else e
theorem Mh(e t:Int)(hc:0<c):Av (e+c*(2*t)) c=Av e c:=by unfold Av;rw[Int.fdiv_eq_ediv_of_nonneg _ (Int.le_of_lt hc),Int.fdiv_eq_ediv_of_nonneg _ (Int.le_of_lt hc),Int.add_mul_ediv_left _ _ (Int.ne_of_gt hc),Int.fmod_eq_emod_of_nonneg _ (by decide),Int.fmod_eq_emod_of_nonneg _ (by decide),Int.add_mul_emod_self_left]
theorem DC(c:Int)(hb:0<b)(h:b*(2*c)=256):Av e b=Av (e%256) b:=by
 have e1:e=e%256+b*(2*(c*(e/256))):=by rw[<-Int.mul_assoc 2,<-Int.mul_assoc b,h];exact(Int.emod_add_mul_ediv e 256).symm
 exact(congrArg (Av · b) e1).trans (Mh _ _ hb)
theorem K4:∀r:Fin 256,(bt r.val 1=decide (Av r.val 1=1)/\bt r.val 2=decide (Av r.val 2=1)/\bt r.val 4=decide (Av r.val 4=1)/\bt r.val 8=decide (Av r.val 8=1)/\bt r.val 16=decide (Av r.val 16=1))/\
  (Builtin.bitAnd r.val 10=0↔Av r.val 2=0/\Av r.val 8=0)/\(Builtin.bitAnd r.val (Builtin.bitOr 2 4)=4↔Av r.val 4=1/\Av r.val 2=0)/\
  (Builtin.bitOr r.val 64=AN r.val 64/\(r.val:Int)<=AN r.val 64/\AN r.val 64<256)/\Builtin.bitOr r.val 128=AN r.val 128/\(r.val:Int)<=AN r.val 128/\AN r.val 128<256:=by decide +kernel
theorem CH(e b:Int):Av e b=0\/Av e b=1:=by unfold Av;rw[Int.fmod_eq_emod_of_nonneg _ (by decide)];exact Int.emod_two_eq _
section
variable{e:Int}
theorem nQ(e:Int):∃r:Fin 256,e%256=(r.val:Int):=by have h0:=Int.emod_nonneg e (b:=256) (by decide);have h1:=Int.emod_lt_of_pos e (b:=256) (by decide);exact⟨⟨(e%256).toNat,(Int.toNat_lt h0).mpr h1⟩,(Int.toNat_of_nonneg h0).symm⟩
theorem Na(he:0<=e)(hb:b=1\/b=2\/b=4\/b=8\/b=16):bt e b=decide (Av e b=1):=by
 refine AP (nQ e) λr hr=>?_;have h:=(K4 r).1;have go:∀{b:Int}(c:Int),0<=b->b<256->0<b->b*(2*c)=256->bt r.val b=decide (Av r.val b=1)->bt e b=decide (Av e b=1):=λc h0 h1 h2 h3 h4=>by unfold bt at h4⊢;rw[Kk he h0 h1,DC c h2 h3,hr];exact h4
 rcases hb with rfl|rfl|rfl|rfl|rfl;·exact go 128 (by decide) (by decide) (by decide) (by decide) h.1
 ·exact go 64 (by decide) (by decide) (by decide) (by decide) h.2.1
 ·exact go 32 (by decide) (by decide) (by decide) (by decide) h.2.2.1
 ·exact go 16 (by decide) (by decide) (by decide) (by decide) h.2.2.2.1
 ·exact go 8 (by decide) (by decide) (by decide) (by decide) h.2.2.2.2
theorem Zm(he:0<=e):Builtin.bitAnd e 10=0↔Av e 2=0/\Av e 8=0:=by refine AP (nQ e) λr hr=>?_;rw[Kk he (by decide) (by decide),DC (b:=2) 64 (by decide) (by decide),DC (b:=8) 16 (by decide) (by decide),hr];exact(K4 r).2.1
theorem lR(he:0<=e):Builtin.bitAnd e (Builtin.bitOr 2 4)=4↔Av e 4=1/\Av e 2=0:=by refine AP (nQ e) λr hr=>?_;rw[Kk he (by decide) (by decide),DC (b:=2) 64 (by decide) (by decide),DC (b:=4) 32 (by decide) (by decide),hr];exact(K4 r).2.2.1
theorem RL(he:0<=e):Bc e=true↔¬(Av e 1=0)/\¬(Av e 4=1/\Av e 2=0):=by
 have h1:(!(decide (Builtin.bitAnd e 1=0)))=decide (Av e 1=1):=Na he (.inl rfl);have h2:Av e 1=1↔¬Av e 1=0:=by rcases CH e 1 with h|h<;>rw[h]<;>decide
 unfold Bc;rw[h1,Bool.and_eq_true,decide_eq_true_eq,Bool.not_eq_true',decide_eq_false_iff_not,lR he,h2]
theorem Xi(h0:0<=m)(h1:m<256):(e-e%256+m)/256=e/256:=by lia
theorem OG(he:0<=e)(c:Int)(h0:0<=b)(h1:b<256)(h2:0<b)(h3:b*(2*c)=256)(h:Builtin.bitOr (e%256) b=AN (e%256) b/\e%256<=AN (e%256) b/\AN (e%256) b<256):Builtin.bitOr e b=AN e b/\0<=AN e b/\e<=AN e b/\AN e b/256=e/256:=by
 have e1:AN e b=e-e%256+AN (e%256) b:=by
  show(if Av e b=0 then e+b else e)=e-e%256+if Av (e%256) b=0 then e%256+b else e%256
  rw[<-DC c h2 h3];split;·rw[<-Int.add_assoc,Int.sub_add_cancel]
  ·rw[Int.sub_add_cancel]
 have h4:=Int.emod_nonneg e (b:=256) (by decide);have h5:e<=e-e%256+AN (e%256) b:=by
  have:=Int.add_le_add_left h.2.1 (e-e%256)
  rwa [Int.sub_add_cancel]at this
 rw[lT he h0 h1,e1,h.1];exact⟨rfl,Int.le_trans he h5,h5,Xi (Int.le_trans h4 h.2.1) h.2.2⟩
theorem J6(he:0<=e)(hb:b=64\/b=128):Builtin.bitOr e b=AN e b/\0<=AN e b/\e<=AN e b/\AN e b/256=e/256:=by
 refine AP (nQ e) λr hr=>?_;have h:=(K4 r).2.2.2;rw[<-hr]at h;rcases hb with rfl|rfl;·exact OG he 2 (by decide) (by decide) (by decide) (by decide) h.1
 ·exact OG he 1 (by decide) (by decide) (by decide) (by decide) h.2
noncomputable def BR(e:Int)(k:Kd):Int:=match k with
 |.fe=>AN e 64
 |.lo=>AN e 64
 |.st=>AN (AN e 64) 128
theorem Pl(x:Int):Builtin.bitOr x 0=x:=by rw[bitOr_and,bitAnd_zero,Int.add_zero,Int.sub_zero]
theorem Lz(he:0<=e)(k:Kd):Jr e k=BR e k/\e<=BR e k/\BR e k/256=e/256:=by
 refine GO (J6 he (b:=64) (.inl rfl)) λh1 h2 h3 h4=>?_;cases k with
 |fe=>exact⟨by show Builtin.bitOr (Builtin.bitOr e 64) 0=_;rw[Pl,h1];rfl,h3,h4⟩
 |lo=>exact⟨by show Builtin.bitOr (Builtin.bitOr e 64) 0=_;rw[Pl,h1];rfl,h3,h4⟩
 |st=>refine GO (J6 h2 (b:=128) (.inr rfl)) λk1 k2 k3 k4=>?_;exact⟨by show Builtin.bitOr (Builtin.bitOr e 64) 128=_;rw[h1,k1];rfl,Int.le_trans h3 k3,k4.trans h4⟩
end
theorem II(x:Int)(n:Nat)(hx:0<=x):Builtin.bitAnd x (2^n-1)=x%2^n:=by
 refine AP (Int.eq_ofNat_of_zero_le hx) λk eqq1=>?_;subst eqq1;have h0:(0:Int)<2^n:=Int.pow_pos (by decide);have h1:(0:Int)<=2^n-1:=Int.sub_nonneg_of_le h0;have h2:((2:Int)^n-1).toNat=2^n-1:=by
  have:((2:Int)^n)=((2^n:Nat):Int):=by simp
  rw[this];exact Int.toNat_sub (2^n) 1
 rw[bitAnd_pp hx h1,h2];simp only[Int.toNat_natCast];rw[Nat.and_two_pow_sub_one_eq_mod];simp
theorem gJ(n:Nat)(hx:0<=x)(h:x%2^n=0)(h0:0<=y)(h1:y<2^n):Builtin.bitOr x y=x+y:=by
 have e:x.toNat &&& y.toNat=0:=by
  have hp:((2:Int)^n)=((2^n:Nat):Int):=by simp
  rw[hp]at h h1;have k1:y.toNat<2^n:=by lia
  have k2:2^n*(x.toNat/2^n)=x.toNat:=by
   have:x.toNat%2^n=0:=by
    have h5:(x.toNat:Int)=x:=Int.toNat_of_nonneg hx;rw[<-h5]at h
    exact_mod_cast h
   exact Nat.mul_div_cancel' (Nat.dvd_of_mod_eq_zero this)
  have k3:=Nat.two_pow_add_eq_or_of_lt k1 (x.toNat/2^n);rw[k2]at k3;have k4:=nat_or_add_and x.toNat y.toNat;lia
 rw[bitOr_and,bitAnd_pp hx h0,e];simp
end
end
noncomputable section
abbrev DI:=List (Int×Int)
noncomputable def Aw(l:DI):List (V×V):=l.map λp=>(V.int p.1,V.int p.2)
noncomputable abbrev SE(g:Bool)(W:DI)(wn:Nat)(C:DI)(cn:Nat)(ρ:St):St:=SX (Ai g) g (Aw W) wn (.dict (Aw C) cn) ρ
noncomputable def AE(l:DI)(k:Int):Int:=(l.lookup k).getD 0
noncomputable def BA:DI->Int->Int->DI
 |[],k,v=>[(k,v)]
 |(a,u)::r,k,v=>if a=k then(a,v)::r else(a,u)::BA r k v
noncomputable def MD:DI->Int->DI
 |[],_=>[]
 |(a,u)::r,k=>if a=k then r else(a,u)::MD r k
theorem EN:BA ((a,u)::r) k v=if a=k then(a,v)::r else(a,u)::BA r k v:=rfl
theorem NR:MD ((a,u)::r) k=if a=k then r else(a,u)::MD r k:=rfl
theorem Gn(a b:Int):Ay (.int a) (.int b)=decide (a=b):=rfl
theorem FO(l:DI):((Aw l).all λp=>E8 p.1)=true:=List.all_eq_true.mpr λp hp=>by refine Au (List.mem_map.mp hp) λq _ eqq2=>?_;subst eqq2;rfl
theorem JE(l:DI):((Aw l).all λp=>E8 p.2)=true:=List.all_eq_true.mpr λp hp=>by refine Au (List.mem_map.mp hp) λq _ eqq2=>?_;subst eqq2;rfl
theorem EU(l:DI):(Aw l).length=l.length:=List.length_map _
theorem D8(a u k:Int)(r:DI):((a,u)::r).lookup k=if a=k then some u else r.lookup k:=by
 rw[List.lookup_cons];by_cases h:a=k;·rw[if_pos h,h];simp
 ·rw[if_neg h,show(k==a)=false from beq_false_of_ne (Ne.symm h)]
theorem Ht(k:Int):∀l:DI,AI (Aw l) (.int k)=(l.lookup k).map V.int
 |[]=>rfl
 |(a,u)::r=>by
  show(if Ay (.int a) (.int k)=true then some (V.int u) else AI (Aw r) (.int k))=_;rw[Gn,D8,Ht k r];by_cases h:a=k;·rw[if_pos h,if_pos (decide_eq_true h)];rfl
  ·rw[if_neg h,if_neg (by simpa using h)]
theorem Hr(k v:Int):∀l:DI,Bl (Aw l) (.int k) (.int v)=Aw (BA l k v)
 |[]=>rfl
 |(a,u)::r=>by
  show(if Ay (.int a) (.int k)=true then _ else(V.int a,V.int u)::Bl (Aw r) (.int k) (.int v))=Aw (if a=k then _ else _);rw[Gn,Hr k v r];by_cases h:a=k;·rw[if_pos h,if_pos (decide_eq_true h)];rfl
  ·rw[if_neg h,if_neg (by simpa using h)];rfl
theorem Pb(k:Int):∀l:DI,EK (Aw l) (.int k)=Aw (MD l k)
 |[]=>rfl
 |(a,u)::r=>by
  show(if Ay (.int a) (.int k)=true then _ else(V.int a,V.int u)::EK (Aw r) (.int k))=Aw (if a=k then _ else _);rw[Gn,Pb k r];by_cases h:a=k;·rw[if_pos h,if_pos (decide_eq_true h)];rfl
  ·rw[if_neg h,if_neg (by simpa using h)];rfl
theorem Vn(l:DI)(k:Int):wv (Aw l) k=AE l k:=by unfold wv AE;rw[Ht];cases l.lookup k<;>rfl
theorem HK(k v j:Int):∀l:DI,(BA l k v).lookup j=if k=j then some v else l.lookup j
 |[]=>by show((k,v)::([]:DI)).lookup j=_;rw[D8]
 |(a,u)::r=>by
  rw[EN];rw[D8];by_cases h:a=k;·rw[if_pos h,D8,h];split<;>rfl
  ·rw[if_neg h,D8,HK k v j r];by_cases h2:a=j;·rw[if_pos h2,if_neg (by lia)];exact(if_pos h2).symm
   ·rw[if_neg h2,if_neg h2]
theorem I4(k v:Int):∀{l:DI}{j:Int},j∈(BA l k v).map (·.1)->j=k\/j∈l.map (·.1)
 |[],j,h=>by
  rcases h with _|⟨_,h⟩
  ·exact .inl rfl
  ·cases h
 |(a,u)::r,j,h=>by
  rw[EN]at h;by_cases c:a=k;·rw[if_pos c]at h;exact .inr h
  ·rw[if_neg c]at h;rcases List.mem_cons.mp h with h|h;·exact .inr (h▸.head _)
   ·rcases I4 k v h with h|h;·exact .inl h
    ·exact .inr (.tail _ h)
theorem Kr(k v:Int):∀{l:DI},(l.map (·.1)).Nodup->((BA l k v).map (·.1)).Nodup
 |[],_=>List.nodup_cons.mpr ⟨List.not_mem_nil,List.nodup_nil⟩
 |(a,u)::r,h=>by
  refine AG (List.nodup_cons.mp h) λh1 h2=>?_;rw[EN];by_cases c:a=k;·rw[if_pos c];exact h
  ·rw[if_neg c];refine List.nodup_cons.mpr ⟨λm=>?_,Kr k v h2⟩;rcases I4 k v m with e|e;·exact c e
   ·exact h1 e
theorem Lo(k v:Int):∀l:DI,(BA l k v).length<=l.length+1
 |[]=>Nat.le_refl 1
 |(a,u)::r=>by
  rw[EN];split;·exact Nat.le_succ _
  ·exact Nat.succ_le_succ (Lo k v r)
theorem MI(k v:Int):∀{l:DI}{p:Int×Int},p∈BA l k v->p=(k,v)\/p∈l
 |[],p,h=>by
  rcases List.mem_cons.mp h with h|h;·exact .inl h
  ·cases h
 |(a,u)::r,p,h=>by
  rw[EN]at h;by_cases c:a=k
  ·rw[if_pos c]at h;rcases List.mem_cons.mp h with h|h;·rw[c]at h;exact .inl h
   ·exact .inr (.tail _ h)
  ·rw[if_neg c]at h;rcases List.mem_cons.mp h with h|h;·exact .inr (h▸.head _)
   ·rcases MI k v h with h|h;·exact .inl h
    ·exact .inr (.tail _ h)
theorem Li(k:Int):∀{l:DI}{p:Int×Int},p∈MD l k->p∈l
 |[],_,h=>h
 |(a,u)::r,p,h=>by
  rw[NR]at h;split at h;·exact .tail _ h
  ·rcases List.mem_cons.mp h with h|h;·exact h▸.head _
   ·exact .tail _ (Li k h)
theorem OI(k:Int):∀{l:DI},(l.map (·.1)).Nodup->((MD l k).map (·.1)).Nodup
 |[],h=>h
 |(a,u)::r,h=>by
  refine AG (List.nodup_cons.mp h) λh1 h2=>?_;rw[NR];split;·exact h2
  ·refine List.nodup_cons.mpr ⟨λm=>h1 ?_,OI k h2⟩;refine Au (List.mem_map.mp m) λp hp e=>?_;exact List.mem_map.mpr ⟨p,Li k hp,e⟩
theorem Qo{l:DI}{k:Int}(h:k∉l.map (·.1)):l.lookup k=none:=by
 cases e:l.lookup k with
 |none=>rfl
 |some v=>exact absurd (List.mem_map.mpr ⟨_,DK e,rfl⟩) h
theorem Nl(k j:Int):∀{l:DI},(l.map (·.1)).Nodup->(MD l k).lookup j=if k=j then none else l.lookup j
 |[],_=>by split<;>rfl
 |(a,u)::r,h=>by
  refine AG (List.nodup_cons.mp h) λh1 h2=>?_;rw[NR];rw[D8];by_cases c:a=k
  ·rw[if_pos c];by_cases c2:k=j;·rw[if_pos c2,Qo (by rw[<-c2,<-c];exact h1)]
   ·rw[if_neg c2,if_neg (by lia)]
  ·rw[if_neg c,D8,Nl k j h2];by_cases c2:a=j;·rw[if_pos c2,if_neg (by lia)];exact(if_pos c2).symm
   ·rw[if_neg c2,if_neg c2]
theorem MH{l:DI}:∀{k v:Int},(l.map (·.1)).Nodup->(k,v)∈l->l.lookup k=some v:=by
 induction l with
 |nil=>intro k v _ h;cases h
 |cons p r ih=>
  intro k v h m;obtain⟨a,u⟩:=p;refine AG (List.nodup_cons.mp h) λh1 h2=>?_;rw[D8];rcases List.mem_cons.mp m with e|e;·cases e;exact if_pos rfl
  ·rw[if_neg (λc=>h1 (List.mem_map.mpr ⟨_,e,c.symm⟩))];exact ih h2 e
noncomputable def HZ(W:DI)(k v:Int):DI:=if v=0 then MD W k else BA W k v
theorem LG(W:DI)(k v:Int):Lc (Aw W) k v=Aw (HZ W k v):=by
 unfold Lc HZ;split;·exact Pb _ _
 ·exact Hr _ _ _
theorem I7:∀{l m:List Int},l.Nodup->(∀a∈l,a∈m)->l.length<=m.length
 |[],_,_,_=>Nat.zero_le _
 |a::l,m,h,s=>by refine AG (List.nodup_cons.mp h) λh1 h2=>?_;have ha:=s a (.head _);have:=I7 (m:=m.erase a) h2 λb hb=>(List.mem_erase_of_ne (λe=>h1 (by rw[<-e];exact hb))).mpr (s b (.tail _ hb));rw[List.length_erase_of_mem ha]at this;have h3:=List.length_pos_of_mem ha;show l.length+1<=_;lia
end
noncomputable section
theorem bk(e:f σ=.ok a σ')(h:g a σ'=R):Aa f g σ=R:=(Ae e).trans h
theorem Ja(e:f σ=.ok true σ')(h:a σ'=R):Aa f (λq=>if q=true then a else b) σ=R:=(Ae e).trans h
theorem Dk(e:f σ=.ok false σ')(h:b σ'=R):Aa f (λq=>if q=true then a else b) σ=R:=(Ae e).trans h
theorem iL(e:f σ=.ok true σ')(h:b σ'=R):Aa f (λq=>if(!q)=true then a else b) σ=R:=(Ae e).trans h
theorem kG(e:f σ=.ok false σ')(h:a σ'=R):Aa f (λq=>if(!q)=true then a else b) σ=R:=(Ae e).trans h
theorem Bn{fr:Fm}{x:Str}{v:V}{f:Mo V}{σ:St}(h:fr x=some v)(e:f σ=Af (fr x) σ):f σ=.ok v σ:=by rw[e,h];rfl
noncomputable def Gj(okl:Bool)(src:V)(body:V->Fm->Mo Az)(fr:Fm)(k:Az->Mo Az):Mo Az:=λσ=>Aa (A5 src) (λvs=>if(okl&&decide (vs.length<=4096))=true then Aa (BO src σ body vs fr) k else AB) σ
noncomputable def Jg(v121:V)(fr122:Fm):Mo Az:=Aa (Af ((Ac fr122 "bit" v121) "entry")) λx125=>Aa (Aj .FloorDiv x125 v121) λx126=>Aa (Aj .Mod x126 (.int 2)) λx127=>Aa (Ap .Eq x127 (.int 0)) λq128=>if q128=true then Aa (Af ((Ac fr122 "bit" v121) "entry")) λx129=>Aa (Aj .Add x129 v121) λx130=>ret (.next (Ac (Ac fr122 "bit" v121) "entry" x130)) else ret (.next (Ac fr122 "bit" v121))
noncomputable def Rk(q123:Az):Mo Az:=(match q123 with|.next fr124=>Aa (Af (fr124 "entry")) λx131=>Aa (Af (fr124 "cells")) λx132=>Aa (Af (fr124 "place")) λx133=>Aa (A8 x132 x133 x131) λ_=>Aa (Af (fr124 "base")) λx134=>Aa (Af (fr124 "address")) λx135=>Aa (Af (fr124 "size")) λx136=>Aa (Aj .Mod x135 x136) λx137=>Aa (Aj .Add x134 x137) λx138=>Aa (Af (fr124 "place")) λx139=>ret (.rets (.tup [x138,x139]))|.rets v=>ret (.rets v)|.cont fr124=>ret (.cont fr124))
noncomputable def Jl(n:Nat)(fr:Fm)(x53 x49:V):Mo Az:=Aa (Aa (Aa (Af (fr "valid")) λy56=>Aa (Ap .Eq y56 (.int 0)) λq57=>ret q57) λq55=>Bz .Or q55 (ret q55) (Aa (Aa (Aa (Af (fr "write")) λy60=>Aa (Ap .Eq y60 (.int 1)) λq61=>ret q61) λq59=>Bz .And q59 (ret q59) (Aa (Aa (Af (fr "read")) λy63=>Aa (Ap .Eq y63 (.int 0)) λq64=>ret q64) λq62=>Bz .And q62 (ret q62) (ret true))) λq58=>Bz .Or q58 (ret q58) (ret false))) λq54=>if q54=true then Aa (Af (fr "odd_one")) λx65=>ret (.rets (.tup [.none,x65])) else Aa (Aa (Aa (Af (fr "read")) λy68=>Aa (Ap .Eq y68 (.int 0)) λq69=>ret q69) λq67=>Bz .And q67 (ret q67) (Aa (Aa (Af (fr "run")) λy71=>Aa (Ap .Eq y71 (.int 0)) λq72=>ret q72) λq70=>Bz .And q70 (ret q70) (ret true))) λq66=>if q66=true then Aa (Af (fr "level")) λx73=>Aa (Ap .Eq x73 (.int 0)) λq74=>if q74=true then Aa (Af (fr "odd_one")) λx75=>ret (.rets (.tup [.none,x75])) else ret (.cont (Ac fr "table" x53)) else Aa (Aa (Aa (Aj .Mod x53 x49) λy78=>Aa (Ap .NotEq y78 (.int 0)) λq79=>ret q79) λq77=>Bz .Or q77 (ret q77) (Aa (Aa (Aa (Af (fr "mode")) λy82=>Aa (Ap .Eq y82 (.int 0)) λq83=>ret q83) λq81=>Bz .And q81 (ret q81) (Aa (Aa (Af (fr "user")) λy85=>Aa (Ap .Eq y85 (.int 0)) λq86=>ret q86) λq84=>Bz .And q84 (ret q84) (ret true))) λq80=>Bz .Or q80 (ret q80) (ret false))) λq76=>if q76=true then Aa (Af (fr "odd_one")) λx87=>ret (.rets (.tup [.none,x87])) else Aa (Aa (Aa (Af (fr "mode")) λy90=>Aa (Ap .Eq y90 (.int 1)) λq91=>ret q91) λq89=>Bz .And q89 (ret q89) (Aa (Aa (Af (fr "user")) λy93=>Aa (Ap .Eq y93 (.int 1)) λq94=>ret q94) λq92=>Bz .And q92 (ret q92) (Aa (Aa (Aa (Af (fr "kind")) λy97=>Aa (Ap .Eq y97 (.int 0)) λq98=>ret q98) λq96=>Bz .Or q96 (ret q96) (Aa (Aa (Aa (Af (fr "extra")) λy100=>Ci y100 (.int 0)) λy101=>Aa (Ap .Eq y101 (.int 0)) λq102=>ret q102) λq99=>Bz .Or q99 (ret q99) (ret false))) λq95=>Bz .And q95 (ret q95) (ret true)))) λq88=>if q88=true then Aa (Af (fr "odd_one")) λx103=>ret (.rets (.tup [.none,x103])) else Aa (Af (fr "run")) λx104=>Aa (Af (fr "read")) λx105=>Aa (Af (fr "run")) λx106=>Aa (Af (fr "extra")) λx107=>Aa (Ci x107 (.int 1)) λx108=>Aa (Aj .Mult x106 x108) λx109=>Aa (Ab Ad n (.builtin "max") [x105,x109]) λx110=>Aa (Af (fr "write")) λx111=>Aa (Aa (Af (fr "kind")) λk=>ret (Ek.item k)) λi112=>Aa (B9 (El 0) (.lst [x104,x110,x111]) i112) λx113=>Aa (Ap .Eq x113 (.int 0)) λq114=>if q114=true then Aa (Af (fr "odd_one")) λx115=>ret (.rets (.tup [.none,x115])) else Aa (Af (fr "kind")) λx116=>Aa (Ap .Eq x116 (.int 2)) λq117=>Aa (Ab Ad n (.type "int") [(.bool q117)]) λx118=>Aa (Aj .Mult (.lst [(.int 128)]) x118) λx119=>Aa (Aj .Add (.lst [(.int 64)]) x119) λx120=>Gj true x120 Jg fr Rk
noncomputable def aU(fr44:Fm)(n:Nat)(x49:V):Mo Az:=Aa (Af (fr44 "entry")) λx50=>Aa (Aj .FloorDiv x50 (.int 1024)) λx51=>Aa (Af (fr44 "page")) λx52=>Aa (Aj .Mult x51 x52) λx53=>Jl n (Ac (Ac fr44 "base" x53) "size" x49) x53 x49
noncomputable def bG(x43:V)(fr25:Fm)(x29:V)(x36:V)(n:Nat):Mo Az:=Aa (K7 ["valid", "read", "write", "run", "user"] x43 (Ac (Ac fr25 "place" x29) "entry" x36)) λfr44=>Aa (Af (fr44 "page")) λx45=>Aa (Af (fr44 "many")) λx46=>Aa (Af (fr44 "level")) λx47=>Aa (Aj .Pow x46 x47) λx48=>Aa (Aj .Mult x45 x48) λx49=>aU fr44 n x49
noncomputable def cI(fr25:Fm)(x29:V)(x30:V)(n:Nat):Mo Az:=Aa (Af ((Ac fr25 "place" x29) "end")) λx31=>Aa (Ap .Gt x30 x31) λq32=>if q32=true then Aa (Af ((Ac fr25 "place" x29) "access")) λx33=>ret (.rets (.tup [.none,x33])) else Aa (Af ((Ac fr25 "place" x29) "cells")) λx34=>Aa (BZ x34 "get") λf35=>Aa (Ab Ad n f35 [x34,x29,(.int 0)]) λx36=>Aa ((Aa (Cs (Aa (Ab Ad n (.type "range") [(.int 5)]) λs42=>Bt s42 λv38=>Aa (Aa (Aa (Aj .Pow (.int 2) v38) λy39=>Aj .FloorDiv x36 y39) λy40=>Aj .Mod y40 (.int 2)) λy41=>ret [y41])) λl37=>ret (.lst l37))) λx43=>bG x43 fr25 x29 x36 n
noncomputable def Kt(n:Nat)(v21:V)(fr22:Fm):Mo Az:=Aa (K7 ["level", "part"] v21 fr22) λfr25=>Aa (Af (fr25 "table")) λx26=>Aa (Af (fr25 "part")) λx27=>Aa (Aj .Mult (.int 4) x27) λx28=>Aa (Aj .Add x26 x28) λx29=>Aa (Aj .Add x29 (.int 4)) λx30=>cI fr25 x29 x30 n
noncomputable def WD(q23:Az):Mo Az:=(match q23 with|.next fr24=>Aa (Af (fr24 "odd_one")) λx140=>ret (.rets (.tup [.none,x140]))|.rets v=>ret (.rets v)|.cont fr24=>ret (.cont fr24))
noncomputable def UQ(x7:V)(x12:V)(x4:V)(fr2:Fm)(x6:V)(n:Nat):Mo Az:=Aa (Ap .GtE x7 x12) λq13=>if q13=true then ret (.rets (.tup [.none,x4])) else Aa (Af ((Ac (Ac fr2 "access" x6) "odd_one" x4) "address")) λx14=>Aa (Af ((Ac (Ac fr2 "access" x6) "odd_one" x4) "page")) λx15=>Aa (Aj .FloorDiv x14 x15) λx16=>Aa (Af ((Ac (Ac (Ac (Ac fr2 "access" x6) "odd_one" x4) "table" (.int 0)) "number" x16) "many")) λx17=>Aa (Aj .FloorDiv x16 x17) λx18=>Aa (Af ((Ac (Ac (Ac (Ac fr2 "access" x6) "odd_one" x4) "table" (.int 0)) "number" x16) "many")) λx19=>Aa (Aj .Mod x16 x19) λx20=>Gj (qT (.lst [(.tup [(.int 1),x18]),(.tup [(.int 0),x20])])) (.lst [(.tup [(.int 1),x18]),(.tup [(.int 0),x20])]) (Kt n) (Ac (Ac (Ac (Ac fr2 "access" x6) "odd_one" x4) "table" (.int 0)) "number" x16) WD
noncomputable def S7(fr2:Fm)(x6:V)(x4:V)(n:Nat):Mo Az:=Aa (Af ((Ac (Ac fr2 "access" x6) "odd_one" x4) "address")) λx7=>Aa (Af ((Ac (Ac fr2 "access" x6) "odd_one" x4) "page")) λx8=>Aa (Af ((Ac (Ac fr2 "access" x6) "odd_one" x4) "many")) λx9=>Aa (Aj .Mult x8 x9) λx10=>Aa (Af ((Ac (Ac fr2 "access" x6) "odd_one" x4) "many")) λx11=>Aa (Aj .Mult x10 x11) λx12=>UQ x7 x12 x4 fr2 x6 n
noncomputable def bP(n:Nat)(a0 a1 a2 a3 a4 a5:V):Mo Az:=Aa (My a5 (.int 4) (.int 7) .none) λx1=>Aa (K7 ["kind", "mode", "extra"] x1 (A9 DQ [a0,a1,a2,a3,a4,a5])) λfr2=>Aa (Aa (Af (fr2 "kind")) λk=>ret (Ek.item k)) λi3=>Aa (B9 (El 0) (.lst [(.int 12),(.int 13),(.int 15)]) i3) λx4=>Aa (Aa (Af (fr2 "kind")) λk=>ret (Ek.item k)) λi5=>Aa (B9 (El 0) (.lst [(.int 1),(.int 5),(.int 7)]) i5) λx6=>S7 fr2 x6 x4 n
theorem J8(n:Nat)(a0 a1 a2 a3 a4 a5:V):Bg Ad (Ab Ad n) DQ [a0,a1,a2,a3,a4,a5]=bP n a0 a1 a2 a3 a4 a5:=by kernel_rfl
end
section
noncomputable section
noncomputable def Kd.i:Kd->Int
 |.fe=>0
 |.lo=>1
 |.st=>2
noncomputable def BW(g tp:Bool):Int:=bif tp then VA g else Ar g
noncomputable def ZS(tp:Bool):Int:=bif tp then 1 else 0
structure PF(fr:Fm)(g:Bool)(tb ad:Int)(k:Kd)(m s x:Int):Prop where
 table:fr "table" = some (.int tb)
 en:fr "end" = some (.int (B2 g))
 access:fr "access" = some (.int k.af)
 odd:fr "odd_one" = some (.int k.pf)
 cells:fr "cells" = some (.obj 3)
 page:fr "page" = some (.int (Ar g))
 many:fr "many" = some (.int (AJ g))
 address:fr "address" = some (.int ad)
 kind:fr "kind" = some (.int k.i)
 mode:fr "mode" = some (.int m)
 extra:fr "extra" = some (.lst [.int s,.int x])
section
variable{tb ad e pl ba sz p m s x:Int}
theorem Y7(h:σ[i]?=some (.dict es cn)):BZ (.obj i) "get" σ=.ok (.builtin "dict.get") σ:=by
 show(match σ[i]? with
  |some (.inst C fs)=>(match fs.lookup ("get" : Str) with|none=>Af ((El 0).meth C "get") σ|some _=>.stuck)
  |some (.dict _ _)=>if("get" : Str)=("get" : Str) then .ok (.builtin "dict.get") σ else if("get" : Str)=("pop" : Str) then .ok (.builtin "dict.pop") σ else .stuck
  |some (.list _)=>if("get" : Str)=("append" : Str) then .ok (.builtin "list.append") σ else .stuck
  |_=>.stuck)=_
 rw[h];rfl
theorem mU(h:σ[i]?=some (.dict (Aw C) cn))(hc:C.length<=4096)(a v:Int):A8 (.obj i) (.int a) (.int v) σ=.ok () (σ.set i (.dict (Aw (BA C a v)) (if(C.lookup a).isSome=true then cn else cn+1))):=by
 show(match σ[i]? with
  |some (.dict es n)=>if(As es (.int a)&&decide (es.length<=4096)&&Ba (.int v))=true then C6.ok () (σ.set i (.dict (Bl es (.int a) (.int v)) (if(AI es (.int a)).isSome=true then n else n+1))) else .stuck
  |_=>.stuck)=_
 rw[h];show(if(As (Aw C) (.int a)&&decide ((Aw C).length<=4096)&&Ba (.int v))=true then C6.ok () (σ.set i (.dict (Bl (Aw C) (.int a) (.int v)) (if(AI (Aw C) (.int a)).isSome=true then cn else cn+1))) else .stuck)=_;rw[CM (FO C),EU,decide_eq_true hc,Hr,Ht,Option.isSome_map];rfl
theorem OC(hb:b=64\/b=128)(h:fr "entry" = some (.int e)):∃fr',Jg (.int b) fr σ=.ok (.next fr') σ/\fr' "entry" = some (.int (AN e b))/\∀y:Str,y≠ "bit" ->y≠ "entry" ->fr' y=fr y:=by
 have k0:∀{R},(Aa (Af (Ac fr "bit" (.int b) "entry")) λx129=>Aa (Aj .Add x129 (.int b)) λx130=>ret (Az.next (Ac (Ac fr "bit" (.int b)) "entry" x130))) σ=R->((e.fdiv b).fmod 2=0)->Jg (.int b) fr σ=R:=λ{R} hR hc=>by unfold Jg;refine bk (a:=V.int e) (Bn h (by kernel_rfl)) ?_;refine bk (a:=V.int (e.fdiv b)) (U8 (by lia) (by lia)) ?_;refine br (V.int ((e.fdiv b).fmod 2)) ?_;exact Ja (Dd.trans (by rw[decide_eq_true hc])) hR
 by_cases hc:(e.fdiv b).fmod 2=0
 ·refine⟨Ac (Ac fr "bit" (.int b)) "entry" (.int (e+b)),k0 ?_ hc,?_,λy h1 h2=>?_⟩;·exact bk (a:=V.int e) (Bn h (by kernel_rfl)) rfl
  ·show some (V.int (e+b))=_;unfold AN;rw[if_pos hc]
  ·show(if y = "entry" then _ else if y = "bit" then _ else _)=_;rw[if_neg h2,if_neg h1]
 ·refine⟨Ac fr "bit" (.int b),?_,?_,λy h1 h2=>?_⟩;·unfold Jg;refine bk (a:=V.int e) (Bn h (by kernel_rfl)) ?_;refine bk (a:=V.int (e.fdiv b)) (U8 (by lia) (by lia)) ?_;refine br (V.int ((e.fdiv b).fmod 2)) ?_;exact Dk (Dd.trans (by rw[decide_eq_false hc])) rfl
  ·refine Eq.trans (b:=fr "entry") (by kernel_rfl) (h.trans ?_);unfold AN;rw[if_neg hc]
  ·show(if y = "bit" then _ else _)=_;rw[if_neg h1]
theorem Xb(h3:σ[3]?=some (.dict (Aw C) cn))(hc:C.length<=4096)(hs:sz≠0)(h1:fr "entry" = some (.int e))(h2:fr "cells" = some (.obj 3))(h4:fr "place" = some (.int pl))(h5:fr "base" = some (.int ba))(h6:fr "address" = some (.int ad))(h7:fr "size" = some (.int sz)):
  Rk (.next fr) σ=.ok (.rets (.tup [.int (ba+ad.fmod sz),.int pl])) (σ.set 3 (.dict (Aw (BA C pl e)) (if(C.lookup pl).isSome=true then cn else cn+1))):=by
 refine bk (Bn h1 rfl) (bk (Bn h2 rfl) (bk (Bn h4 rfl) (bk (mU h3 hc _ _) (bk (Bn h5 rfl) (bk (Bn h6 rfl) (bk (Bn h7 rfl) (bk (Gd hs) ?_)))))));exact bk (a:=V.int (ba+ad.fmod sz)) rfl (bk (Bn h4 rfl) rfl)
theorem Ra(h3:σ[3]?=some (.dict (Aw C) cn))(hc:C.length<=4096)(hs:sz≠0)(h1:fr "entry" = some (.int e))(h2:fr "cells" = some (.obj 3))(h4:fr "place" = some (.int pl))(h5:fr "base" = some (.int ba))(h6:fr "address" = some (.int ad))(h7:fr "size" = some (.int sz)):
  Gj true (.lst (V.int 64::(match k with|.fe=>[]|.lo=>[]|.st=>[.int 128]))) Jg fr Rk σ=.ok (.rets (.tup [.int (ba+ad.fmod sz),.int pl])) (σ.set 3 (.dict (Aw (BA C pl (BR e k))) (if(C.lookup pl).isSome=true then cn else cn+1))):=by
 refine D9 (OC (σ:=σ) (.inl rfl) h1) λf1 e1 e2 e3=>?_;have l1:∀(r:List V) (fr':Fm) {o},Aa (λσ'=>if stays (.lst o) σ σ'=true then C6.ok () σ' else .stuck) (λ_=>BO (.lst o) σ Jg r fr') σ=BO (.lst o) σ Jg r fr' σ:=λr fr' {o}=>by kernel_rfl
 have tail:∀{f2:Fm}{e':Int},f2 "entry" = some (.int e')->(∀y:Str,y≠ "bit" ->y≠ "entry" ->f2 y=fr y)->Rk (.next f2) σ=.ok (.rets (.tup [.int (ba+ad.fmod sz),.int pl])) (σ.set 3 (.dict (Aw (BA C pl e')) (if(C.lookup pl).isSome=true then cn else cn+1))):=λ{f2 e'} q1 q2=>Xb h3 hc hs q1 ((q2 _ (by decide) (by decide)).trans h2) ((q2 _ (by decide) (by decide)).trans h4) ((q2 _ (by decide) (by decide)).trans h5) ((q2 _ (by decide) (by decide)).trans h6) ((q2 _ (by decide) (by decide)).trans h7);have one:Gj true (.lst [V.int 64]) Jg fr Rk σ=.ok (.rets (.tup [.int (ba+ad.fmod sz),.int pl])) (σ.set 3 (.dict (Aw (BA C pl (AN e 64))) (if(C.lookup pl).isSome=true then cn else cn+1))):=by refine bk (a:=[V.int 64]) rfl ?_;refine bk (a:=Az.next f1) ?_ (tail e2 e3);exact bk (Bk e1) (l1 [] f1)
 cases k with
 |fe=>exact one
 |lo=>exact one
 |st=>refine D9 (OC (σ:=σ) (.inr rfl) e2) λf2 e4 e5 e6=>?_;refine bk (a:=[V.int 64,.int 128]) rfl ?_;refine bk (a:=Az.next f2) ?_ (tail e5 λy a b=>(e6 y a b).trans (e3 y a b));exact bk (Bk e1) ((l1 [.int 128] f1).trans (bk (Bk e4) (l1 [] f2)))
end
end
end
section
noncomputable section
noncomputable def c1(e:Int):Bool:=decide (Av e 1=0)||((decide (Av e 4=1)&&(decide (Av e 2=0)&&true))||false)
noncomputable def c2(e:Int):Bool:=decide (Av e 2=0)&&(decide (Av e 8=0)&&true)
noncomputable def c3(ba sz m e:Int):Bool := !(decide (ba.fmod sz=0))||((decide (m=0)&&(decide (Av e 16=0)&&true))||false)
noncomputable def c4(k:Kd)(m s e:Int):Bool:=decide (m=1)&&(decide (Av e 16=1)&&((decide (k.i=0)||(decide (s=0)||false))&&true))
noncomputable def v5(k:Kd)(e x:Int):Int:=match k with
 |.fe=>Av e 8
 |.lo=>if Av e 8*x>Av e 2 then Av e 8*x else Av e 2
 |.st=>Av e 4
structure PD(fr:Fm)(g tp:Bool)(pl e ba ad:Int)(k:Kd)(m s x:Int):Prop where
 odd:fr "odd_one" = some (.int k.pf)
 cells:fr "cells" = some (.obj 3)
 address:fr "address" = some (.int ad)
 kind:fr "kind" = some (.int k.i)
 mode:fr "mode" = some (.int m)
 extra:fr "extra" = some (.lst [.int s,.int x])
 level:fr "level" = some (.int (ZS tp))
 place:fr "place" = some (.int pl)
 entry:fr "entry" = some (.int e)
 valid:fr "valid" = some (.int (Av e 1))
 read:fr "read" = some (.int (Av e 2))
 write:fr "write" = some (.int (Av e 4))
 run:fr "run" = some (.int (Av e 8))
 user:fr "user" = some (.int (Av e 16))
 base:fr "base" = some (.int ba)
 size:fr "size" = some (.int (BW g tp))
section
variable{tb ad e pl ba p m s x:Int}{k:Kd}{fr:Fm}
theorem F8(H:fr "odd_one" = some (.int k.pf)):(Aa (Af (fr "odd_one")) λx65=>ret (Az.rets (.tup [.none,x65]))) σ=.ok (.rets (.tup [.none,.int k.pf])) σ:=bk (Bn H rfl) rfl
theorem Fd(h:fr y=some (.int a)):(Aa (Af (fr y)) λy=>Aa (Ap .Eq y (.int b)) λq=>ret q) σ=.ok (decide (a=b)) σ:=bk (Bn h rfl) (bk Dd rfl)
theorem S5:BW g tp≠0:=by cases g<;>cases tp<;>decide
section
variable(H:PD fr g tp pl e ba ad k m s x)
include H
theorem iB:(Aa (Aa (Af (fr "valid")) λy56=>Aa (Ap .Eq y56 (.int 0)) λq57=>ret q57) λq55=>Bz .Or q55 (ret q55) (Aa (Aa (Aa (Af (fr "write")) λy60=>Aa (Ap .Eq y60 (.int 1)) λq61=>ret q61) λq59=>Bz .And q59 (ret q59) (Aa (Aa (Af (fr "read")) λy63=>Aa (Ap .Eq y63 (.int 0)) λq64=>ret q64) λq62=>Bz .And q62 (ret q62) (ret true))) λq58=>Bz .Or q58 (ret q58) (ret false))) σ=.ok (c1 e) σ:=Ez (Fd H.valid) (Ez (F4 (Fd H.write) (F4 (Fd H.read) rfl)) rfl)
theorem nI:(Aa (Aa (Af (fr "read")) λy68=>Aa (Ap .Eq y68 (.int 0)) λq69=>ret q69) λq67=>Bz .And q67 (ret q67) (Aa (Aa (Af (fr "run")) λy71=>Aa (Ap .Eq y71 (.int 0)) λq72=>ret q72) λq70=>Bz .And q70 (ret q70) (ret true))) σ=.ok (c2 e) σ:=F4 (Fd H.read) (F4 (Fd H.run) rfl)
theorem pK:(Aa (Aa (Aj .Mod (.int ba) (.int (BW g tp))) λy78=>Aa (Ap .NotEq y78 (.int 0)) λq79=>ret q79) λq77=>Bz .Or q77 (ret q77) (Aa (Aa (Aa (Af (fr "mode")) λy82=>Aa (Ap .Eq y82 (.int 0)) λq83=>ret q83) λq81=>Bz .And q81 (ret q81) (Aa (Aa (Af (fr "user")) λy85=>Aa (Ap .Eq y85 (.int 0)) λq86=>ret q86) λq84=>Bz .And q84 (ret q84) (ret true))) λq80=>Bz .Or q80 (ret q80) (ret false))) σ=.ok (c3 ba (BW g tp) m e) σ:=Ez (bk (Gd S5) (bk IU rfl)) (Ez (F4 (Fd H.mode) (F4 (Fd H.user) rfl)) rfl)
theorem qN:(Aa (Aa (Af (fr "mode")) λy90=>Aa (Ap .Eq y90 (.int 1)) λq91=>ret q91) λq89=>Bz .And q89 (ret q89) (Aa (Aa (Af (fr "user")) λy93=>Aa (Ap .Eq y93 (.int 1)) λq94=>ret q94) λq92=>Bz .And q92 (ret q92) (Aa (Aa (Aa (Af (fr "kind")) λy97=>Aa (Ap .Eq y97 (.int 0)) λq98=>ret q98) λq96=>Bz .Or q96 (ret q96) (Aa (Aa (Aa (Af (fr "extra")) λy100=>Ci y100 (.int 0)) λy101=>Aa (Ap .Eq y101 (.int 0)) λq102=>ret q102) λq99=>Bz .Or q99 (ret q99) (ret false))) λq95=>Bz .And q95 (ret q95) (ret true)))) σ=.ok (c4 k m s e) σ:=F4 (Fd H.mode) (F4 (Fd H.user) (F4 (Ez (Fd H.kind) (Ez (bk (a:=V.int s) (bk (Bn H.extra rfl) (by kernel_rfl)) (bk Dd rfl)) rfl)) rfl))
theorem JP(h:c1 e=true):Jl n fr (.int ba) (.int (BW g tp)) σ=.ok (.rets (.tup [.none,.int k.pf])) σ:=Ja ((iB H).trans (by rw[h])) (F8 H.odd)
theorem FK(h:c1 e=false)(h2:c2 e=true)(ht:tp=true):Jl n fr (.int ba) (.int (BW g tp)) σ=.ok (.cont (Ac fr "table" (.int ba))) σ:=by subst ht;exact Dk ((iB H).trans (by rw[h])) (Ja ((nI H).trans (by rw[h2])) (bk (Bn H.level rfl) (Dk (by kernel_rfl) rfl)))
theorem QW(h:c1 e=false)(h2:c2 e=true)(ht:tp=false):Jl n fr (.int ba) (.int (BW g tp)) σ=.ok (.rets (.tup [.none,.int k.pf])) σ:=by subst ht;exact Dk ((iB H).trans (by rw[h])) (Ja ((nI H).trans (by rw[h2])) (bk (Bn H.level rfl) (Ja (by kernel_rfl) (F8 H.odd))))
theorem Sq(h:c1 e=false)(h2:c2 e=false)(h3:c3 ba (BW g tp) m e=true):Jl n fr (.int ba) (.int (BW g tp)) σ=.ok (.rets (.tup [.none,.int k.pf])) σ:=Dk ((iB H).trans (by rw[h])) (Dk ((nI H).trans (by rw[h2])) (Ja ((pK H).trans (by rw[h3])) (F8 H.odd)))
theorem Uh(h:c1 e=false)(h2:c2 e=false)(h3:c3 ba (BW g tp) m e=false)(h4:c4 k m s e=true):Jl n fr (.int ba) (.int (BW g tp)) σ=.ok (.rets (.tup [.none,.int k.pf])) σ:=Dk ((iB H).trans (by rw[h])) (Dk ((nI H).trans (by rw[h2])) (Dk ((pK H).trans (by rw[h3])) (Ja ((qN H).trans (by rw[h4])) (F8 H.odd))))
theorem qZ(h:c1 e=false)(h2:c2 e=false)(h3:c3 ba (BW g tp) m e=false)(h4:c4 k m s e=false)
  (hR:(Aa (Ap .Eq (.int (v5 k e x)) (.int 0)) λq114=>if q114=true then Aa (Af (fr "odd_one")) λx115=>ret (Az.rets (.tup [.none,x115])) else Aa (Af (fr "kind")) λx116=>Aa (Ap .Eq x116 (.int 2)) λq117=>Aa (Ab Ad (n+1) (.type "int") [(.bool q117)]) λx118=>Aa (Aj .Mult (.lst [(.int 128)]) x118) λx119=>Aa (Aj .Add (.lst [(.int 64)]) x119) λx120=>Gj true x120 Jg fr Rk) σ=R):Jl (n+1) fr (.int ba) (.int (BW g tp)) σ=R:=by
 refine Dk ((iB H).trans (by rw[h])) (Dk ((nI H).trans (by rw[h2])) (Dk ((pK H).trans (by rw[h3])) (Dk ((qN H).trans (by rw[h4])) ?_)));refine bk (Bn H.run rfl) (bk (Bn H.read rfl) (bk (Bn H.run rfl) (bk (Bn H.extra rfl) ?_)));refine br (V.int x) ?_;refine bk (a:=V.int (Av e 8*x)) (Of (by have:=CH e 8;omega)) ?_;refine br (V.int (if Av e 8*x>Av e 2 then Av e 8*x else Av e 2)) ?_;refine bk (Bn H.write rfl) ?_;refine bk (a:=Ek.item (.int k.i)) (bk (Bn H.kind rfl) rfl) ?_;refine bk (a:=V.int (v5 k e x)) ?_ hR;cases k<;>kernel_rfl
theorem Vg(h:c1 e=false)(h2:c2 e=false)(h3:c3 ba (BW g tp) m e=false)(h4:c4 k m s e=false)(h5:v5 k e x=0):Jl (n+1) fr (.int ba) (.int (BW g tp)) σ=.ok (.rets (.tup [.none,.int k.pf])) σ:=qZ H h h2 h3 h4 (Ja (Dd.trans (by rw[decide_eq_true h5])) (F8 H.odd))
theorem T3(h:c1 e=false)(h2:c2 e=false)(h3:c3 ba (BW g tp) m e=false)(h4:c4 k m s e=false)(h5:v5 k e x≠0)(hC:σ[3]?=some (.dict (Aw C) cn))(hc:C.length<=4096):Jl (n+1) fr (.int ba) (.int (BW g tp)) σ=.ok (.rets (.tup [.int (ba+ad.fmod (BW g tp)),.int pl])) (σ.set 3 (.dict (Aw (BA C pl (BR e k))) (if(C.lookup pl).isSome=true then cn else cn+1))):=by refine qZ H h h2 h3 h4 (Dk (Dd.trans (by rw[decide_eq_false h5])) (bk (Bn H.kind rfl) ?_));refine Eq.trans ?_ (Ra (k:=k) hC hc S5 H.entry H.cells H.place H.base H.address H.size);cases k<;>kernel_rfl
end
end
end
end
section
noncomputable section
section
variable{tb ad p m s x:Int}
noncomputable def bse(g:Bool)(e:Int):Int:=e.fdiv 1024*Ar g
theorem oG(hC:σ[i]?=some (.dict (Aw C) cn))(a:Int):Ab Ad (n+1) (.builtin "dict.get") [.obj i,.int a,.int 0] σ=.ok (.int (AE C a)) σ:=by rw[kD n i (Aw C) cn _ _ σ hC (CM (FO C)),Zz (JE C),Vn]
theorem Uo(H:PF fr g tb ad k m s x)(h:B2 g<tb+4*p+4):Kt n (.tup [.int (ZS tp),.int p]) fr σ=.ok (.rets (.tup [.none,.int k.af])) σ:=by refine br (Ac (Ac fr "level" (.int (ZS tp))) "part" (.int p)) ?_;refine bk (a:=V.int tb) (Bn H.table (by kernel_rfl)) ?_;refine br (V.int p) ?_;refine br (V.int (4*p)) ?_;refine br (V.int (tb+4*p)) ?_;refine br (V.int (tb+4*p+4)) ?_;refine bk (a:=V.int (B2 g)) (Bn H.en (by kernel_rfl)) ?_;refine Ja (EA (q:=tb+4*p+4>B2 g) rfl h) ?_;exact bk (Bn H.access (by kernel_rfl)) rfl
noncomputable def fX(fr:Fm)(g tp:Bool)(tb p:Int)(C:DI):Fm:=(Ac (Ac (Ac (Ac (Ac (Ac (Ac (Ac (Ac (Ac (Ac fr "level" (.int (ZS tp))) "part" (.int p)) "place" (.int (tb+4*p))) "entry" (.int (AE C (tb+4*p)))) "valid" (.int (Av (AE C (tb+4*p)) 1))) "read" (.int (Av (AE C (tb+4*p)) 2))) "write" (.int (Av (AE C (tb+4*p)) 4))) "run" (.int (Av (AE C (tb+4*p)) 8))) "user" (.int (Av (AE C (tb+4*p)) 16))) "base" (.int (bse g (AE C (tb+4*p))))) "size" (.int (BW g tp)))
theorem PI(H:PF fr g tb ad k m s x)(h:tb+4*p+4<=B2 g)(hC:σ[3]?=some (.dict (Aw C) cn))(hp:((AE C (tb+4*p)).fdiv 1024).natAbs<2^64):Kt (n+1) (.tup [.int (ZS tp),.int p]) fr σ=Jl (n+1) (fX fr g tp tb p C) (.int (bse g (AE C (tb+4*p)))) (.int (BW g tp)) σ:=by refine br (Ac (Ac fr "level" (.int (ZS tp))) "part" (.int p)) ?_;refine bk (a:=V.int tb) (Bn H.table (by kernel_rfl)) ?_;refine br (V.int p) ?_;refine br (V.int (4*p)) ?_;refine br (V.int (tb+4*p)) ?_;refine br (V.int (tb+4*p+4)) ?_;refine bk (a:=V.int (B2 g)) (Bn H.en (by kernel_rfl)) ?_;refine Dk (EL (q:=tb+4*p+4>B2 g) rfl (by lia)) ?_;refine bk (a:=V.obj 3) (Bn H.cells (by kernel_rfl)) ?_;refine bk (Y7 hC) ?_;refine bk (oG hC _) ?_;refine br (V.lst [.int (Av (AE C (tb+4*p)) 1),.int (Av (AE C (tb+4*p)) 2),.int (Av (AE C (tb+4*p)) 4),.int (Av (AE C (tb+4*p)) 8),.int (Av (AE C (tb+4*p)) 16)]) ?_;refine br (Ac (Ac (Ac (Ac (Ac (Ac (Ac (Ac (Ac fr "level" (.int (ZS tp))) "part" (.int p)) "place" (.int (tb+4*p))) "entry" (.int (AE C (tb+4*p)))) "valid" (.int (Av (AE C (tb+4*p)) 1))) "read" (.int (Av (AE C (tb+4*p)) 2))) "write" (.int (Av (AE C (tb+4*p)) 4))) "run" (.int (Av (AE C (tb+4*p)) 8))) "user" (.int (Av (AE C (tb+4*p)) 16))) ?_;refine bk (a:=V.int (Ar g)) (Bn H.page (by kernel_rfl)) ?_;refine bk (a:=V.int (AJ g)) (Bn H.many (by kernel_rfl)) ?_;refine br (V.int (ZS tp)) ?_;refine bk (a:=V.int (bif tp then AJ g else 1)) (σ':=σ) (by cases g<;>cases tp<;>kernel_rfl) ?_;refine bk (a:=V.int (BW g tp)) (σ':=σ) (by cases g<;>cases tp<;>kernel_rfl) ?_;refine br (V.int (AE C (tb+4*p))) ?_;refine br (V.int ((AE C (tb+4*p)).fdiv 1024)) ?_;refine bk (a:=V.int (Ar g)) (Bn H.page (by kernel_rfl)) ?_;refine bk (a:=V.int (bse g (AE C (tb+4*p)))) (Of hp) ?_;rfl
theorem jB(H:PF fr g tb ad k m s x):PD (fX fr g tp tb p C) g tp (tb+4*p) (AE C (tb+4*p)) (bse g (AE C (tb+4*p))) ad k m s x:=⟨Eq.trans (b:=fr "odd_one") (by kernel_rfl) H.odd,Eq.trans (b:=fr "cells") (by kernel_rfl) H.cells,Eq.trans (b:=fr "address") (by kernel_rfl) H.address,Eq.trans (b:=fr "kind") (by kernel_rfl) H.kind,Eq.trans (b:=fr "mode") (by kernel_rfl) H.mode,Eq.trans (b:=fr "extra") (by kernel_rfl) H.extra,by kernel_rfl,by kernel_rfl,by kernel_rfl,by kernel_rfl,by kernel_rfl,by kernel_rfl,by kernel_rfl,by kernel_rfl,by kernel_rfl,by kernel_rfl⟩
theorem pQ(H:PF fr g tb ad k m s x):PF (Ac (fX fr g tp tb p C) "table" (.int (bse g (AE C (tb+4*p))))) g (bse g (AE C (tb+4*p))) ad k m s x:=⟨by kernel_rfl,Eq.trans (b:=fr "end") (by kernel_rfl) H.en,Eq.trans (b:=fr "access") (by kernel_rfl) H.access,Eq.trans (b:=fr "odd_one") (by kernel_rfl) H.odd,Eq.trans (b:=fr "cells") (by kernel_rfl) H.cells,Eq.trans (b:=fr "page") (by kernel_rfl) H.page,Eq.trans (b:=fr "many") (by kernel_rfl) H.many,Eq.trans (b:=fr "address") (by kernel_rfl) H.address,Eq.trans (b:=fr "kind") (by kernel_rfl) H.kind,Eq.trans (b:=fr "mode") (by kernel_rfl) H.mode,Eq.trans (b:=fr "extra") (by kernel_rfl) H.extra⟩
end
end
end
noncomputable section
theorem kF{a:Int}(h:a=0\/a=1):decide (a=0) = !(decide (a=1)):=by rcases h with h|h<;>rw[h]<;>rfl
theorem Cv{e:Int}(he:0<=e):c1 e = !(Bc e):=by
 have h:=RL he;unfold c1;rw[kF (CH e 1)]at *;cases hs:Bc e with
 |true=>
  obtain⟨h1,h2⟩:=h.mp hs;have:=CH e 1;rw[decide_eq_true (p:=Av e 1=1) (by(clear h2 h1 he;lia))];by_cases c:Av e 4=1;·rw[decide_eq_true c,decide_eq_false (p:=Av e 2=0) (λq=>h2 ⟨c,q⟩)];rfl
  ·rw[decide_eq_false c];rfl
 |false=>
  rw[hs]at h;by_cases c:Av e 1=1
  ·by_cases d:Av e 4=1/\Av e 2=0;·rw[decide_eq_true c,decide_eq_true d.1,decide_eq_true d.2];rfl
   ·exact absurd (h.mpr ⟨by(clear d hs h he;lia),d⟩) (by decide)
  ·rw[decide_eq_false c];rfl
theorem CT{e:Int}(he:0<=e):c2 e = !(AY e):=by
 unfold c2 AY;rw[Bool.not_not,decide_eq_decide.mpr (Zm he)];by_cases a:Av e 2=0
 ·by_cases b:Av e 8=0;·rw[decide_eq_true a,decide_eq_true b,decide_eq_true (p:=_/\_) ⟨a,b⟩];rfl
  ·rw[decide_eq_false b,decide_eq_false (p:=_/\_) (λq=>b q.2),decide_eq_true a];rfl
 ·rw[decide_eq_false a,decide_eq_false (p:=_/\_) (λq=>a q.1)];rfl
noncomputable def mB(k:Kd)(m0 s0 x1 b2 b4 b8 b16:Bool):Bool:=
 if(m0 && !b16)=true then false else
 if(!m0&&(b16&&(k.isF||s0)))=true then false else
 match k with
 |.fe=>b8
 |.st=>b4
 |.lo=>b2||(x1&&b8)
noncomputable def vB(k:Kd)(b2 b4 b8 x1:Bool):Bool:=match k with
 |.fe=>b8
 |.st=>b4
 |.lo=>b2||(x1&&b8)
noncomputable def nB(k:Kd)(a m0 s0 x1 b2 b4 b8 b16:Bool):Bool:=!(!a||((m0&&(!b16&&true))||false)) && !(!m0&&(b16&&((k.isF||(s0||false))&&true)))&&vB k b2 b4 b8 x1
theorem mn(k:Kd)(a m0 s0 x1 b2 b4 b8 b16:Bool):(a&&mB k m0 s0 x1 b2 b4 b8 b16)=nB k a m0 s0 x1 b2 b4 b8 b16:=by cases a<;>cases m0<;>cases b16<;>first|rfl|(cases k<;>cases s0<;>rfl)
noncomputable def gd(g tp:Bool)(k:Kd)(m s x e:Int):Bool:=decide ((bse g e).fmod (BW g tp)=0)&&CE k m s x e
theorem GJ{k:Kd}{m s x e:Int}(he:0<=e):CE k m s x e=mB k (decide (m=0)) (decide (s=0)) (!(decide (x=0))) (decide (Av e 2=1)) (decide (Av e 4=1)) (decide (Av e 8=1)) (decide (Av e 16=1)):=by unfold CE mB;rw[Na he (b:=16) (by decide),Na he (b:=8) (by decide),Na he (b:=4) (by decide),Na he (b:=2) (by decide)];all_goals (cases k<;>rfl)
theorem ZJ{g tp:Bool}{k:Kd}{m s x e:Int}(he:0<=e)(hm:m=0\/m=1)(hx:x=0\/x=1):gd g tp k m s x e=(!(c3 (bse g e) (BW g tp) m e) && !(c4 k m s e) && !(decide (v5 k e x=0))):=by
 have e2:(!(decide (v5 k e x=0)))=vB k (decide (Av e 2=1)) (decide (Av e 4=1)) (decide (Av e 8=1)) (!(decide (x=0))):=by
  cases k with
  |fe=>show(!(decide (Av e 8=0)))=_;rw[kF (CH e 8),Bool.not_not];rfl
  |st=>show(!(decide (Av e 4=0)))=_;rw[kF (CH e 4),Bool.not_not];rfl
  |lo=>
   show(!(decide ((if Av e 8*x>Av e 2 then Av e 8*x else Av e 2)=0)))=(decide (Av e 2=1)||(!(decide (x=0))&&decide (Av e 8=1)))
   rcases CH e 8 with h1|h1<;>rcases CH e 2 with h2|h2<;>rcases hx with h3|h3<;>rw[h1,h2,h3]<;>rfl
 have e3:decide (m=1) = !(decide (m=0)):=by rw[kF hm,Bool.not_not]
 have e4:decide (k.i=0)=k.isF:=k.rec rfl rfl rfl;unfold gd c3 c4;rw[GJ he,e2,e3,e4,kF (CH e 16)];exact mn k _ _ _ _ _ _ _ _
theorem kE{g tp:Bool}{k:Kd}{m s x e:Int}(he:0<=e)(hm:m=0\/m=1)(hx:x=0\/x=1)(h:gd g tp k m s x e=true):c3 (bse g e) (BW g tp) m e=false/\c4 k m s e=false/\v5 k e x≠0:=by
 rw[ZJ he hm hx]at h
 simpa [Bool.and_eq_true,and_assoc] using h
theorem jF{g tp:Bool}{k:Kd}{m s x e:Int}(he:0<=e)(hm:m=0\/m=1)(hx:x=0\/x=1)(h:gd g tp k m s x e=false):c3 (bse g e) (BW g tp) m e=true\/(c3 (bse g e) (BW g tp) m e=false/\c4 k m s e=true)\/(c3 (bse g e) (BW g tp) m e=false/\c4 k m s e=false/\v5 k e x=0):=by
 rw[ZJ he hm hx]at h;cases q1:c3 (bse g e) (BW g tp) m e with
 |true=>exact .inl rfl
 |false=>
  cases q2:c4 k m s e with
  |true=>exact .inr (.inl ⟨rfl,rfl⟩)
  |false=>
   refine .inr (.inr ⟨rfl,rfl,?_⟩);rw[q1,q2]at h
   simpa using h
set_option genSizeOf false in
set_option genInjectivity false in
inductive PR where
 |af|pf|ok (v pl e:Int)
noncomputable def P1(g:Bool)(ad:Int):Int:=0+4*(ad.fdiv (Ar g)).fdiv (AJ g)
noncomputable def P2(g:Bool)(e ad:Int):Int:=bse g e+4*(ad.fdiv (Ar g)).fmod (AJ g)
inductive Bj(g:Bool)(μ:Int->Int)(ad:Int)(k:Kd)(m s x:Int):PR->Prop where
 |far (h:CZ g<=ad):Bj g μ ad k m s x .pf
 |uns1 (h:ad<CZ g) (s1:Bc (μ (P1 g ad))=false):Bj g μ ad k m s x .pf
 |big (h:ad<CZ g) (s1:Bc (μ (P1 g ad))=true) (l1:AY (μ (P1 g ad))=true) (q:gd g true k m s x (μ (P1 g ad))=true):Bj g μ ad k m s x (.ok (bse g (μ (P1 g ad))+ad.fmod (BW g true)) (P1 g ad) (BR (μ (P1 g ad)) k))
 |bigx (h:ad<CZ g) (s1:Bc (μ (P1 g ad))=true) (l1:AY (μ (P1 g ad))=true) (q:gd g true k m s x (μ (P1 g ad))=false):Bj g μ ad k m s x .pf
 |out2 (h:ad<CZ g) (s1:Bc (μ (P1 g ad))=true) (l1:AY (μ (P1 g ad))=false) (o:B2 g<P2 g (μ (P1 g ad)) ad+4):Bj g μ ad k m s x .af
 |uns2 (h:ad<CZ g) (s1:Bc (μ (P1 g ad))=true) (l1:AY (μ (P1 g ad))=false) (o:P2 g (μ (P1 g ad)) ad+4<=B2 g) (s2:Bc (μ (P2 g (μ (P1 g ad)) ad))=false):Bj g μ ad k m s x .pf
 |tab2 (h:ad<CZ g) (s1:Bc (μ (P1 g ad))=true) (l1:AY (μ (P1 g ad))=false) (o:P2 g (μ (P1 g ad)) ad+4<=B2 g) (s2:Bc (μ (P2 g (μ (P1 g ad)) ad))=true) (l2:AY (μ (P2 g (μ (P1 g ad)) ad))=false):Bj g μ ad k m s x .pf
 |odd2 (h:ad<CZ g) (s1:Bc (μ (P1 g ad))=true) (l1:AY (μ (P1 g ad))=false) (o:P2 g (μ (P1 g ad)) ad+4<=B2 g) (s2:Bc (μ (P2 g (μ (P1 g ad)) ad))=true) (l2:AY (μ (P2 g (μ (P1 g ad)) ad))=true) (q:gd g false k m s x (μ (P2 g (μ (P1 g ad)) ad))=false):Bj g μ ad k m s x .pf
 |good (h:ad<CZ g) (s1:Bc (μ (P1 g ad))=true) (l1:AY (μ (P1 g ad))=false) (o:P2 g (μ (P1 g ad)) ad+4<=B2 g) (s2:Bc (μ (P2 g (μ (P1 g ad)) ad))=true) (l2:AY (μ (P2 g (μ (P1 g ad)) ad))=true) (q:gd g false k m s x (μ (P2 g (μ (P1 g ad)) ad))=true):Bj g μ ad k m s x (.ok (bse g (μ (P2 g (μ (P1 g ad)) ad))+ad.fmod (BW g false)) (P2 g (μ (P1 g ad)) ad) (BR (μ (P2 g (μ (P1 g ad)) ad)) k))
theorem JA(b:Bool):b=true\/b=false:=by cases b;exact .inr rfl;exact .inl rfl
theorem Lu(g:Bool)(μ:Int->Int)(ad:Int)(k:Kd)(m s x:Int):∃R,Bj g μ ad k m s x R:=by
 by_cases h:CZ g<=ad;·exact⟨_,.far h⟩
 replace h:ad<CZ g:=by lia
 rcases JA (Bc (μ (P1 g ad))) with s1|s1
 ·rcases JA (AY (μ (P1 g ad))) with l1|l1
  ·rcases JA (gd g true k m s x (μ (P1 g ad))) with q|q;·exact⟨_,.big h s1 l1 q⟩
   ·exact⟨_,.bigx h s1 l1 q⟩
  ·by_cases o:B2 g<P2 g (μ (P1 g ad)) ad+4;·exact⟨_,.out2 h s1 l1 o⟩
   replace o:P2 g (μ (P1 g ad)) ad+4<=B2 g:=by(clear l1 s1 h;lia)
   rcases JA (Bc (μ (P2 g (μ (P1 g ad)) ad))) with s2|s2
   ·rcases JA (AY (μ (P2 g (μ (P1 g ad)) ad))) with l2|l2
    ·rcases JA (gd g false k m s x (μ (P2 g (μ (P1 g ad)) ad))) with q|q;·exact⟨_,.good h s1 l1 o s2 l2 q⟩
     ·exact⟨_,.odd2 h s1 l1 o s2 l2 q⟩
    ·exact⟨_,.tab2 h s1 l1 o s2 l2⟩
   ·exact⟨_,.uns2 h s1 l1 o s2⟩
 ·exact⟨_,.uns1 h s1⟩
end
section
noncomputable section
noncomputable def BI(f se fl fr:Int)(k:Kd)(m s x sh off:Int):V:=.tup [.int f,.int se,.int fl,.int fr,.int k.i,.int m,.lst [.int s,.int x],.int sh,.int off]
noncomputable def nX(k:Kd):PR->V
 |.af=>.tup [.none,.int k.af]
 |.pf=>.tup [.none,.int k.pf]
 |.ok v pl _=>.tup [.int v,.int pl]
noncomputable def oK(C:DI)(cn:Nat)(σ:St):PR->St
 |.af=>σ
 |.pf=>σ
 |.ok _ pl e=>σ.set 3 (.dict (Aw (BA C pl e)) (if(C.lookup pl).isSome=true then cn else cn+1))
section
variable{ad m s x f se fl fr sh off q1 q2:Int}
theorem Vs(h:Kt n (.tup [.int 1,.int q1]) F σ=.ok (.rets v) σ'):Gj true (.lst [.tup [.int 1,.int q1],.tup [.int 0,.int q2]]) (Kt n) F WD σ=.ok (.rets v) σ':=by refine bk (a:=[V.tup [.int 1,.int q1],.tup [.int 0,.int q2]]) rfl ?_;exact bk (a:=Az.rets v) (bk (Bk h) rfl) rfl
theorem Nc(h:Kt n (.tup [.int 1,.int q1]) F σ=.ok (.cont F') σ)(h2:Kt n (.tup [.int 0,.int q2]) F' σ=.ok (.rets v) σ'):Gj true (.lst [.tup [.int 1,.int q1],.tup [.int 0,.int q2]]) (Kt n) F WD σ=.ok (.rets v) σ':=by refine bk (a:=[V.tup [.int 1,.int q1],.tup [.int 0,.int q2]]) rfl ?_;refine bk (a:=Az.rets v) (bk (Bk h) ?_) rfl;refine bk (a:=()) rfl ?_;exact bk (Bk h2) rfl
noncomputable def FP(g:Bool)(ad f se fl fr:Int)(k:Kd)(m s x sh off:Int):Fm:=(Ac (Ac (Ac (Ac (Ac (Ac (Ac (A9 DQ [.obj 3,.int (Ar g),.int (AJ g),.int (B2 g),.int ad,BI f se fl fr k m s x sh off]) "kind" (.int k.i)) "mode" (.int m)) "extra" (.lst [.int s,.int x])) "access" (.int k.af)) "odd_one" (.int k.pf)) "table" (.int 0)) "number" (.int (ad.fdiv (Ar g))))
theorem bE:PF (FP g ad f se fl fr k m s x sh off) g 0 ad k m s x:=⟨by kernel_rfl,by kernel_rfl,by kernel_rfl,by kernel_rfl,by kernel_rfl,by kernel_rfl,by kernel_rfl,by kernel_rfl,by kernel_rfl,by kernel_rfl,by kernel_rfl⟩
theorem R4(h:CZ g<=ad):Ab Ad (n+1) (.ref 639) [.obj 3,.int (Ar g),.int (AJ g),.int (B2 g),.int ad,BI f se fl fr k m s x sh off] σ=.ok (nX k .pf) σ:=by refine AD (fe:=DQ) (by kernel_rfl) ?_;rw[J8];refine br (V.tup [.int k.i,.int m,.lst [.int s,.int x]]) ?_;refine br (Ac (Ac (Ac (A9 DQ [.obj 3,.int (Ar g),.int (AJ g),.int (B2 g),.int ad,BI f se fl fr k m s x sh off]) "kind" (.int k.i)) "mode" (.int m)) "extra" (.lst [.int s,.int x])) ?_;refine br (Ek.item (.int k.i)) ?_;refine bk (a:=V.int k.pf) (σ':=σ) (k.rec (by kernel_rfl) (by kernel_rfl) (by kernel_rfl)) ?_;refine br (Ek.item (.int k.i)) ?_;refine bk (a:=V.int k.af) (σ':=σ) (k.rec (by kernel_rfl) (by kernel_rfl) (by kernel_rfl)) ?_;refine br (V.int ad) ?_;refine br (V.int (Ar g)) ?_;refine br (V.int (AJ g)) ?_;refine bk (a:=V.int (Ar g*AJ g)) (σ':=σ) (g.rec (by kernel_rfl) (by kernel_rfl)) ?_;refine br (V.int (AJ g)) ?_;refine bk (a:=V.int (CZ g)) (σ':=σ) (g.rec (by kernel_rfl) (by kernel_rfl)) ?_;refine Ja (EA (q:=ad≥CZ g) rfl h) ?_;rfl
theorem CJ(h:ad<CZ g)(hv:Gj true (.lst [.tup [.int 1,.int ((ad.fdiv (Ar g)).fdiv (AJ g))],.tup [.int 0,.int ((ad.fdiv (Ar g)).fmod (AJ g))]]) (Kt n) (FP g ad f se fl fr k m s x sh off) WD σ=.ok (.rets v) σ'):Ab Ad (n+1) (.ref 639) [.obj 3,.int (Ar g),.int (AJ g),.int (B2 g),.int ad,BI f se fl fr k m s x sh off] σ=.ok v σ':=by refine AD (fe:=DQ) (by kernel_rfl) ?_;rw[J8];refine br (V.tup [.int k.i,.int m,.lst [.int s,.int x]]) ?_;refine br (Ac (Ac (Ac (A9 DQ [.obj 3,.int (Ar g),.int (AJ g),.int (B2 g),.int ad,BI f se fl fr k m s x sh off]) "kind" (.int k.i)) "mode" (.int m)) "extra" (.lst [.int s,.int x])) ?_;refine br (Ek.item (.int k.i)) ?_;refine bk (a:=V.int k.pf) (σ':=σ) (k.rec (by kernel_rfl) (by kernel_rfl) (by kernel_rfl)) ?_;refine br (Ek.item (.int k.i)) ?_;refine bk (a:=V.int k.af) (σ':=σ) (k.rec (by kernel_rfl) (by kernel_rfl) (by kernel_rfl)) ?_;refine br (V.int ad) ?_;refine br (V.int (Ar g)) ?_;refine br (V.int (AJ g)) ?_;refine bk (a:=V.int (Ar g*AJ g)) (σ':=σ) (g.rec (by kernel_rfl) (by kernel_rfl)) ?_;refine br (V.int (AJ g)) ?_;refine bk (a:=V.int (CZ g)) (σ':=σ) (g.rec (by kernel_rfl) (by kernel_rfl)) ?_;refine Dk (EL (q:=ad≥CZ g) rfl (by lia)) ?_;refine br (V.int ad) ?_;refine br (V.int (Ar g)) ?_;refine bk (a:=V.int (ad.fdiv (Ar g))) (σ':=σ) (g.rec (by kernel_rfl) (by kernel_rfl)) ?_;refine br (V.int (AJ g)) ?_;refine bk (a:=V.int ((ad.fdiv (Ar g)).fdiv (AJ g))) (σ':=σ) (g.rec (by kernel_rfl) (by kernel_rfl)) ?_;refine br (V.int (AJ g)) ?_;refine bk (a:=V.int ((ad.fdiv (Ar g)).fmod (AJ g))) (σ':=σ) (g.rec (by kernel_rfl) (by kernel_rfl)) ?_;exact hv
noncomputable def Fq(C:DI):Prop:=∀a,0<=AE C a/\AE C a<2^30
theorem Fb(g:Bool):4*AJ g=Ar g/\Ar g<=B2 g/\0<Ar g/\0<AJ g/\CZ g=Ar g*(AJ g*AJ g):=g.rec (by decide) (by decide)
theorem Z4{a p b:Int}(hp:0<p)(h0:0<=a)(h:a<p*b):0<=a.fdiv p/\a.fdiv p<b:=by rw[Int.fdiv_eq_ediv_of_nonneg _ (Int.le_of_lt hp)];rw[Int.mul_comm]at h;exact⟨Int.ediv_nonneg h0 (Int.le_of_lt hp),Int.ediv_lt_of_lt_mul hp h⟩
theorem aD{p q r:Int}(hp:0<p)(r0:0<=r)(r1:r<p):(q*p+r).fdiv p=q/\(q*p+r).fmod p=r:=by rw[Int.fdiv_eq_ediv_of_nonneg _ (Int.le_of_lt hp),Int.fmod_eq_emod_of_nonneg _ (Int.le_of_lt hp),Int.add_comm,Int.add_mul_ediv_right _ _ (Int.ne_of_gt hp),Int.add_mul_emod_self_right,Int.ediv_eq_zero_of_lt r0 r1,Int.emod_eq_of_lt r0 r1,Int.zero_add];exact⟨rfl,rfl⟩
theorem UG{e:Int}(h0:0<=e)(h1:e<2^30):0<=e.fdiv 1024/\e.fdiv 1024<1048576:=Z4 (by decide) h0 h1
theorem UA{e:Int}(h0:0<=e)(h1:e<2^30):(e.fdiv 1024).natAbs<2^64:=Nat.lt_trans (Int.natAbs_lt_natAbs_of_nonneg_of_lt (UG h0 h1).1 (UG h0 h1).2) (by decide)
theorem Fq.hp(H:Fq C)(a:Int):((AE C a).fdiv 1024).natAbs<2^64:=UA (H a).1 (H a).2
theorem cY{x n p:Int}(h0:0<=x)(h1:x<n)(h:4*n=p):0<=0+4*x/\0+4*x+4<=p/\(0+4*x)%4=0:=by have:=Int.mul_le_mul_of_nonneg_left (Int.add_one_le_of_lt h1) (show(0:Int)<=4 by decide);rw[Int.mul_add,Int.mul_one,h]at this;rw[Int.zero_add];exact⟨Int.mul_nonneg (by decide) h0,this,Int.mul_emod_right ..⟩
theorem Sy(h0:0<=ad)(h:ad<CZ g):0<=P1 g ad/\P1 g ad+4<=Ar g/\P1 g ad%4=0:=by refine NB (Fb g) λm1 _ m3 m4 m5=>?_;have f1:=Z4 m3 h0 (m5▸h);have f2:=Z4 m4 f1.1 f1.2;exact cY f2.1 f2.2 m1
theorem Ia(w:Bj g (AE C) ad k m s x RR)(h0:0<=ad)(hm:m=0\/m=1)(hx:x=0\/x=1)(H:Fq C)(hC:σ[3]?=some (.dict (Aw C) cn))(hc:C.length<=4096):Ab Ad (n+2) (.ref 639) [.obj 3,.int (Ar g),.int (AJ g),.int (B2 g),.int ad,BI f se fl fr k m s x sh off] σ=.ok (nX k RR) (oK C cn σ RR):=by
 have T1:=λ(h:ad<CZ g)=>PI (tp:=true) (p:=(ad.fdiv (Ar g)).fdiv (AJ g)) (n:=n) (bE (g:=g) (ad:=ad) (f:=f) (se:=se) (fl:=fl) (fr:=fr) (k:=k) (m:=m) (s:=s) (x:=x) (sh:=sh) (off:=off)) (Int.le_trans (Sy h0 h).2.1 (Fb g).2.1) hC (H.hp _);have D1:=jB (tp:=true) (p:=(ad.fdiv (Ar g)).fdiv (AJ g)) (C:=C) (bE (g:=g) (ad:=ad) (f:=f) (se:=se) (fl:=fl) (fr:=fr) (k:=k) (m:=m) (s:=s) (x:=x) (sh:=sh) (off:=off));have F1:=pQ (tp:=true) (p:=(ad.fdiv (Ar g)).fdiv (AJ g)) (C:=C) (bE (g:=g) (ad:=ad) (f:=f) (se:=se) (fl:=fl) (fr:=fr) (k:=k) (m:=m) (s:=s) (x:=x) (sh:=sh) (off:=off));have T2:=λ(o:P2 g (AE C (P1 g ad)) ad+4<=B2 g)=>PI (tp:=false) (p:=(ad.fdiv (Ar g)).fmod (AJ g)) (n:=n) F1 o hC (H.hp _);have D2:=jB (tp:=false) (p:=(ad.fdiv (Ar g)).fmod (AJ g)) (C:=C) F1;have e0:=λa=>(H a).1;have nb:∀{b:Bool},b=true->(!b)=false:=λh=>by rw[h];rfl
 have nb':∀{b:Bool},b=false->(!b)=true:=λh=>by rw[h];rfl
 cases w with
 |far h=>exact R4 h
 |uns1 h s1=>exact CJ h (Vs ((T1 h).trans (JP D1 ((Cv (e0 _)).trans (nb' s1)))))
 |big h s1 l1 q=>refine B0 (kE (e0 _) hm hx q) λq3 q4 q5=>?_;exact CJ h (Vs ((T1 h).trans (T3 D1 ((Cv (e0 _)).trans (nb s1)) ((CT (e0 _)).trans (nb l1)) q3 q4 q5 hC hc)))
 |bigx h s1 l1 q=>
  refine CJ h (Vs ((T1 h).trans ?_));rcases jF (e0 _) hm hx q with q3|⟨q3,q4⟩|⟨q3,q4,q5⟩
  ·exact Sq D1 ((Cv (e0 _)).trans (nb s1)) ((CT (e0 _)).trans (nb l1)) q3
  ·exact Uh D1 ((Cv (e0 _)).trans (nb s1)) ((CT (e0 _)).trans (nb l1)) q3 q4
  ·exact Vg D1 ((Cv (e0 _)).trans (nb s1)) ((CT (e0 _)).trans (nb l1)) q3 q4 q5
 |out2 h s1 l1 o=>exact CJ h (Nc ((T1 h).trans (FK D1 ((Cv (e0 _)).trans (nb s1)) ((CT (e0 _)).trans (nb' l1)) rfl)) (Uo (tp:=false) F1 o))
 |uns2 h s1 l1 o s2=>exact CJ h (Nc ((T1 h).trans (FK D1 ((Cv (e0 _)).trans (nb s1)) ((CT (e0 _)).trans (nb' l1)) rfl)) ((T2 o).trans (JP D2 ((Cv (e0 _)).trans (nb' s2)))))
 |tab2 h s1 l1 o s2 l2=>exact CJ h (Nc ((T1 h).trans (FK D1 ((Cv (e0 _)).trans (nb s1)) ((CT (e0 _)).trans (nb' l1)) rfl)) ((T2 o).trans (QW D2 ((Cv (e0 _)).trans (nb s2)) ((CT (e0 _)).trans (nb' l2)) rfl)))
 |odd2 h s1 l1 o s2 l2 q=>
  refine CJ h (Nc ((T1 h).trans (FK D1 ((Cv (e0 _)).trans (nb s1)) ((CT (e0 _)).trans (nb' l1)) rfl)) ((T2 o).trans ?_));rcases jF (e0 _) hm hx q with q3|⟨q3,q4⟩|⟨q3,q4,q5⟩
  ·exact Sq D2 ((Cv (e0 _)).trans (nb s2)) ((CT (e0 _)).trans (nb l2)) q3
  ·exact Uh D2 ((Cv (e0 _)).trans (nb s2)) ((CT (e0 _)).trans (nb l2)) q3 q4
  ·exact Vg D2 ((Cv (e0 _)).trans (nb s2)) ((CT (e0 _)).trans (nb l2)) q3 q4 q5
 |good h s1 l1 o s2 l2 q=>refine B0 (kE (e0 _) hm hx q) λq3 q4 q5=>?_;exact CJ h (Nc ((T1 h).trans (FK D1 ((Cv (e0 _)).trans (nb s1)) ((CT (e0 _)).trans (nb' l1)) rfl)) ((T2 o).trans (T3 D2 ((Cv (e0 _)).trans (nb s2)) ((CT (e0 _)).trans (nb l2)) q3 q4 q5 hC hc)))
end
end
end
section
noncomputable section
theorem A7(g:Bool)(e:Int):AL g e=bse g e:=g.rec rfl rfl
theorem Ea(g:Bool)(h0:0<=e)(h1:e<2^30):0<=bse g e/\bse g e<2^33/\(bse g e).fmod (Ar g)=0/\bse g e%4=0:=by
 refine AG (UG h0 h1) λe0 e1=>?_;unfold bse;refine⟨Int.mul_nonneg e0 (g.rec (by decide) (by decide)),?_,Int.mul_fmod_left ..,?_⟩;·exact Int.lt_of_lt_of_le (Int.mul_lt_mul_of_pos_right e1 (g.rec (by decide) (by decide))) (g.rec (by decide) (by decide))
 ·rw[<-(Fb g).1,Int.mul_left_comm];exact Int.mul_emod_right ..
noncomputable def qI(g tp:Bool):Nat:=bif tp then(bif g then 22 else 10) else(bif g then 12 else 6)
theorem PJ(g tp:Bool):BW g tp=2^qI g tp:=by cases g<;>cases tp<;>rfl
theorem IW{ad:Int}(g tp:Bool)(h0:0<=ad):Builtin.bitAnd ad (BW g tp-1)=ad.fmod (BW g tp):=by rw[PJ,II _ _ h0,Int.fmod_eq_emod_of_nonneg _ (Int.le_of_lt (Int.pow_pos (by decide)))]
theorem UM(g tp:Bool):0<BW g tp:=by cases g<;>cases tp<;>decide
theorem MX{b ad:Int}(g tp:Bool)(hb:0<=b)(h:b.fmod (BW g tp)=0):Builtin.bitOr b (ad.fmod (BW g tp))=b+ad.fmod (BW g tp):=by have hs:=UM g tp;have h1:ad.fmod (BW g tp)=ad%BW g tp:=Int.fmod_eq_emod_of_nonneg _ (Int.le_of_lt hs);have h2:b.fmod (BW g tp)=b%BW g tp:=Int.fmod_eq_emod_of_nonneg _ (Int.le_of_lt hs);rw[h2]at h;rw[h1];have h3:=Int.emod_nonneg ad (b:=BW g tp) (by(clear h2 h1 h hb;lia));have h4:=Int.emod_lt_of_pos ad hs;rw[PJ]at *;exact gJ (qI g tp) hb h h3 h4
section
variable{ad m s x:Int}{k:Kd}
theorem HI(h0:0<=ad)(h1:ad<CZ g)(σ:St):Ab Ad (n+1) (.ref 117) [.obj 0,.int ad] (Ai g::σ)=.ok (.tup [.int ((ad.fdiv (Ar g)).fdiv (AJ g)),.int ((ad.fdiv (Ar g)).fmod (AJ g)),.int (ad.fmod (Ar g))]) (Ai g::σ):=by
 rw[VR n g ad σ h0 h1];have e1:Builtin.bitAnd ad (Ar g-1)=ad.fmod (Ar g):=IW g false h0;have e2:0<=ad.fdiv (Ar g):=by have:=Fb g;rw[Int.fdiv_eq_ediv_of_nonneg _ (by(clear e1 h1 h0;lia))];exact Int.ediv_nonneg h0 (by(clear e1 h1 h0;lia))
 have e3:Builtin.bitAnd (ad.fdiv (Ar g)) (AJ g-1)=(ad.fdiv (Ar g)).fmod (AJ g):=by have e4:AJ g=2^(bif g then 10 else 4):=g.rec rfl rfl;rw[e4,II _ _ e2,Int.fmod_eq_emod_of_nonneg _ (Int.le_of_lt (Int.pow_pos (by decide)))]
 have e5:Ta g ad=.tup [.int ((ad.fdiv (Ar g)).fdiv (AJ g)),.int (Builtin.bitAnd (ad.fdiv (Ar g)) (AJ g-1)),.int (Builtin.bitAnd ad (Ar g-1))]:=g.rec rfl rfl;rw[e5,e1,e3]
noncomputable def JU(μ:Int->Int)(W:DI):PR->DI
 |.af=>W
 |.pf=>W
 |.ok _ pl e=>if e=μ pl then W else HZ W (pl.fdiv 4) e
noncomputable def pY(k:Kd)(ad:Int)(σ:St):PR->C6 V
 |.af=>.exc (.trap k.af ad 1) σ
 |.pf=>.exc (.trap k.pf ad 0) σ
 |.ok v _ _=>.ok (.int v) σ
structure Wy(W:DI)(μ:Int->Int):Prop where
 eq:∀k,AE W k=μ (4*k)
 b:∀a,0<=μ a/\μ a<2^30
 len:W.length<=4096
theorem Wy.at(H:Wy W μ)(h:a%4=0):wv (Aw W) (a.fdiv (2^2))=μ a:=by
 rw[Vn,H.eq];congr 1;show 4*a.fdiv 4=a;rw[Int.fdiv_eq_ediv_of_nonneg _ (by decide)]
 (clear H;lia)
theorem BF(H:Wy W μ)(h:a%4=0)(h0:0<=a)(h1:a+4<=B2 g)(hs:Bc (μ a)=true):Ab Ad (n+5) (.ref 224) [.obj 6,.int a,.int ad,k.v] (SX (Ai g) g (Aw W) wn c ρ)=.ok (.int (μ a)) (SX (Ai g) g (Aw W) wn c ρ):=by have:=TA (n:=n) (ad:=ad) (l:=Ai g) (c:=c) (W:=Aw W) (wn:=wn) (ρ:=ρ) (k:=k) h h0 h1 (FO W) (JE W) (by rw[H.at h];exact hs);rw[H.at h]at this;exact this
theorem Hs(H:Wy W μ)(d0:0<=ad)(d1:ad<2^40)(h:a%4=0)(h0:0<=a)(h1:a+4<=B2 g)(hs:Bc (μ a)=false):Ab Ad (n+5) (.ref 224) [.obj 6,.int a,.int ad,k.v] (SX (Ai g) g (Aw W) wn c ρ)=.exc (.trap k.pf ad 0) (SX (Ai g) g (Aw W) wn c ρ):=QI h h0 h1 (FO W) (JE W) d0 d1 (by rw[H.at h];exact hs)
theorem KU(v:Int)(h0:0<=v)(h1:v<2^32):Builtin.bitAnd v 4294967295=v:=by rw[bitAnd_m32];lia
theorem OF(H:Wy W μ)(h:a%4=0)(h0:0<=a)(h1:a+4<=B2 g):∃wn',Ab Ad (n+6) (.ref 238) [.obj 6,.int a,.int (μ a),.int ad,k.v] (SX (Ai g) g (Aw W) wn c ρ)=.ok .none (SX (Ai g) g (Aw (JU μ W (.ok v a (BR (μ a) k)))) wn' c ρ):=by
 refine AG (H.b a) λb0 b1=>?_;refine B0 (Lz b0 k) λd1 d2 d3=>?_;by_cases q:BR (μ a) k=μ a;·refine⟨wn,?_⟩;show _=C6.ok V.none (SX (Ai g) g (Aw (if BR (μ a) k=μ a then W else _)) wn c ρ);rw[if_pos q];exact Qd (d1.trans q) _
 ·have:=Vz (n:=n) (ad:=ad) (l:=Ai g) (c:=c) (W:=Aw W) (wn:=wn) (ρ:=ρ) (k:=k) (e:=μ a) (by rw[d1];exact q) h h0 h1 (FO W) (JE W) (by rw[EU];exact H.len);rw[d1,KU _ (by(clear this q d3 d1 b1 h1 h0 h H;lia)) (by(clear this q d2 d1 b0 h1 h0 h H;lia)),LG]at this;have e:JU μ W (.ok v a (BR (μ a) k))=HZ W (a.fdiv (2^2)) (BR (μ a) k):=if_neg q;rw[e];exact⟨_,this⟩
theorem lI(h0:0<=e)(h1:e<2^30):0<=P2 g e ad/\P2 g e ad<2^40/\P2 g e ad%4=0:=by refine GO (Ea g h0 h1) λb1 b2 _ b4=>?_;have hn:=(Fb g).2.2.2.1;have q1:=Int.fmod_nonneg_of_pos (ad.fdiv (Ar g)) hn;have q2:=Int.lt_of_lt_of_le (Int.fmod_lt_of_pos (ad.fdiv (Ar g)) hn) (show AJ g<=1024 by cases g<;>decide);refine⟨Int.add_nonneg b1 (Int.mul_nonneg (by decide) q1),Int.lt_trans (Int.add_lt_add b2 (Int.mul_lt_mul_of_pos_left q2 (by decide))) (by decide),?_⟩;unfold P2;rw[Int.add_mul_emod_self_left];exact b4
theorem Zv(w:Bj g μ ad k m s x R)(h0:0<=ad)(h1:ad<2^40)(H:Wy W μ):∃wn',Ab Ad (n+8) (.ref 217) [.obj 6,.int 0,.int ad,k.v,.int m,.int s,.int x] (SX (Ai g) g (Aw W) wn c ρ)=pY k ad (SX (Ai g) g (Aw (JU μ W R)) wn' c ρ) R:=by
 have hp:=λ(h:ad<CZ g) {n}=>HI (n:=n) h0 h (Bm g::.dict (Aw W) wn::c::Ey::.list []::Fw::ρ);have pi:=λ(h:ad<CZ g)=>Sy h0 h;have mb:=Fb g;have pj:ad<CZ g->P1 g ad+4<=B2 g:=λh=>Int.le_trans (pi h).2.1 mb.2.1;have hb:=λa=>UA (H.b a).1 (H.b a).2;have p2:=λ(e:Int) (h0:0<=e) (h1:e<2^30)=>lI (g:=g) (ad:=ad) h0 h1;cases w with
 |far h=>exact⟨wn,gX h0 h1 (Gm (n+6) g ad _ h0 h)⟩
 |uns1 h s1=>exact⟨wn,mQ (hp h) (Hs (n:=n+2) H h0 h1 (pi h).2.2 (pi h).1 (pj h) s1)⟩
 |big h s1 l1 q=>have q':=Bool.and_eq_true_iff.mp q;have q1:(bse g (μ (P1 g ad))).fmod (BW g true)=0:=of_decide_eq_true q'.1;refine AP (OF (n:=n) (ad:=ad) (c:=c) (wn:=wn) (ρ:=ρ) (k:=k) (v:=bse g (μ (P1 g ad))+ad.fmod (BW g true)) H (pi h).2.2 (pi h).1 (pj h)) λwn' hm=>?_;refine⟨wn',?_⟩;refine(UZ (hp h) (BF (n:=n+2) H (pi h).2.2 (pi h).1 (pj h) s1) l1 (VZ (hb _) (by rw[A7];exact q1) q'.2 hm)).trans ?_;have e1:Builtin.bitAnd ad (VA g-1)=ad.fmod (BW g true):=IW g true h0;rw[e1,A7];exact congrArg (λv=>C6.ok (V.int v) _) (MX g true (Ea g (H.b _).1 (H.b _).2).1 q1)
 |bigx h s1 l1 q=>refine⟨wn,RD (hp h) (BF (n:=n+2) H (pi h).2.2 (pi h).1 (pj h) s1) l1 (R3 (hb _) h0 h1 λc=>?_)⟩;rw[A7]at c;have:gd g true k m s x (μ (P1 g ad))=true:=Bool.and_eq_true_iff.mpr ⟨decide_eq_true c.1,c.2⟩;rw[q]at this;cases this
 |out2 h s1 l1 o=>refine B0 (p2 _ (H.b (P1 g ad)).1 (H.b _).2) λa1 a2 a3=>?_;exact⟨wn,Zu (hp h) (BF (n:=n+2) H (pi h).2.2 (pi h).1 (pj h) s1) l1 (hb _) (by rw[A7];exact J0 (n:=n+2) a3 a1 o a2 h0 h1)⟩
 |uns2 h s1 l1 o s2=>refine B0 (p2 _ (H.b (P1 g ad)).1 (H.b _).2) λa1 a2 a3=>?_;exact⟨wn,Zu (hp h) (BF (n:=n+2) H (pi h).2.2 (pi h).1 (pj h) s1) l1 (hb _) (by rw[A7];exact Hs (n:=n+2) H h0 h1 a3 a1 o s2)⟩
 |tab2 h s1 l1 o s2 l2=>refine B0 (p2 _ (H.b (P1 g ad)).1 (H.b _).2) λa1 a2 a3=>?_;exact⟨wn,OV h0 h1 (hp h) (BF (n:=n+2) H (pi h).2.2 (pi h).1 (pj h) s1) l1 (hb _) (by rw[A7];exact BF (n:=n+2) H a3 a1 o s2) λc=>Bool.false_ne_true (l2.symm.trans c.1)⟩
 |odd2 h s1 l1 o s2 l2 q=>refine B0 (p2 _ (H.b (P1 g ad)).1 (H.b _).2) λa1 a2 a3=>?_;refine⟨wn,OV h0 h1 (hp h) (BF (n:=n+2) H (pi h).2.2 (pi h).1 (pj h) s1) l1 (hb _) (by rw[A7];exact BF (n:=n+2) H a3 a1 o s2) λc=>?_⟩;have:gd g false k m s x (μ (P2 g (μ (P1 g ad)) ad))=true:=Bool.and_eq_true_iff.mpr ⟨decide_eq_true (Ea g (H.b _).1 (H.b _).2).2.2.1,c.2⟩;rw[q]at this;cases this
 |good h s1 l1 o s2 l2 q=>refine B0 (p2 _ (H.b (P1 g ad)).1 (H.b _).2) λa1 a2 a3=>?_;have q':=Bool.and_eq_true_iff.mp q;refine AP (OF (n:=n+1) (ad:=ad) (c:=c) (wn:=wn) (ρ:=ρ) (k:=k) (v:=bse g (μ (P2 g (μ (P1 g ad)) ad))+ad.fmod (BW g false)) H a3 a1 o) λwn' hm=>?_;refine⟨wn',?_⟩;refine(Vd (hp h) (BF (n:=n+2) H (pi h).2.2 (pi h).1 (pj h) s1) l1 (hb _) (by rw[A7];exact BF (n:=n+2) H a3 a1 o s2) l2 q'.2 (hb _) (by rw[A7];exact hm)).trans ?_;rw[A7];exact congrArg (λv=>C6.ok (V.int v) _) (MX g false (Ea g (H.b _).1 (H.b _).2).1 (Ea g (H.b _).1 (H.b _).2).2.2.1)
end
end
end
section
noncomputable section
noncomputable def KQ(body:Mo Az)(h:Int->Int->Mo Az):Mo Az:=λσ=>match body σ with
 |.ok f σ'=>.ok f σ'
 |.exc e σ'=>(match e with
  |.trap a v _=>h a v σ'
  |.bad _ _=>.stuck)
 |.stuck=>.stuck
noncomputable def eB(a0:V)(n:Nat)(x13:V)(x3:V)(a2:V)(a3:V)(a1:V)(a4:V)(a5:V)(a6:V):Mo Az:=Aa (at_ a0 "layout") λx14=>Aa (at_ x14 "large") λx15=>Aa (Ab Ad n (.ref 181) [x13]) λx16=>Aa (BS x16) λq17=>if(!q17)=true then Aa (BZ a0 "entry_at") λf18=>Aa (at_ a0 "layout") λx19=>Aa (BZ x19 "physical") λf20=>Aa (Ab Ad n f20 [x19,x13]) λx21=>Aa (Ci x3 (.int 1)) λx22=>Aa (Aj .Mult (.int 4) x22) λx23=>Aa (Aj .Add x21 x23) λx24=>Aa (Ab Ad n f18 [a0,x24,a2,a3]) λx25=>Aa (at_ a0 "layout") λx26=>Aa (at_ x26 "page") λx27=>ret (.next (Ac (Ac (Ac (Ac (Ac (A9 Dh [a0,a1,a2,a3,a4,a5,a6]) "parts" x3) "entry" x13) "size" x15) "entry" x25) "size" x27)) else ret (.next (Ac (Ac (Ac (A9 Dh [a0,a1,a2,a3,a4,a5,a6]) "parts" x3) "entry" x13) "size" x15))
noncomputable def NS(n:Nat)(a0 a1 a2 a3 a4 a5 a6 x3:V):Mo Az:=Aa (BZ a0 "entry_at") λf9=>Aa (Ci x3 (.int 0)) λx10=>Aa (Aj .Mult (.int 4) x10) λx11=>Aa (Aj .Add a1 x11) λx12=>Aa (Ab Ad n f9 [a0,x12,a2,a3]) λx13=>eB a0 n x13 x3 a2 a3 a1 a4 a5 a6
noncomputable def kR(c28 w29:Int):Mo Az:=Aa (Cs (Aa (Aa (at_ (.exn c28 w29) "cause") λy33=>ret [y33]) λy34=>ret (.tup y34))) λy35=>ret (.rets y35)
noncomputable def Wv(n:Nat)(q6:Az):Mo Az:=(match q6 with|.next fr7=>Aa (Af (fr7 "self")) λx36=>Aa (at_ x36 "layout") λx37=>Aa (BZ x37 "physical") λf38=>Aa (Af (fr7 "entry")) λx39=>Aa (Ab Ad n f38 [x37,x39]) λx40=>Aa (Aa (Aa (Aa (Aa (Aa (Af ((Ac fr7 "physical" x40) "entry")) λy44=>ret [y44]) λy45=>Ab Ad n (.ref 181) y45) BS) λq43=>ret (!q43)) λq42=>Bz .Or q42 (ret q42) (Aa (Aa (Aa (Af ((Ac fr7 "physical" x40) "size")) λy47=>Aj .Mod x40 y47) λy48=>Aa (Ap .NotEq y48 (.int 0)) λq49=>ret q49) λq46=>Bz .Or q46 (ret q46) (Aa (Aa (Aa (Aa (Aa (Af ((Ac fr7 "physical" x40) "entry")) λy52=>Aa (Aa (Af ((Ac fr7 "physical" x40) "kind")) λy53=>Aa (Aa (Af ((Ac fr7 "physical" x40) "mode")) λy54=>Aa (Aa (Af ((Ac fr7 "physical" x40) "sum_bit")) λy55=>Aa (Aa (Af ((Ac fr7 "physical" x40) "mxr")) λy56=>ret [y56]) λy57=>ret (y55::y57)) λy58=>ret (y54::y58)) λy59=>ret (y53::y59)) λy60=>ret (y52::y60)) λy61=>Ab Ad n (.ref 195) y61) BS) λq51=>ret (!q51)) λq50=>Bz .Or q50 (ret q50) (ret false)))) λq41=>if q41=true then Aa (Aa (Af ((Ac fr7 "physical" x40) "kind")) λk=>ret (Ek.item k)) λi62=>Aa (B9 (El 0) (.glob (.ref 94)) i62) λx63=>ret (.rets (.tup [x63])) else Aa (Af ((Ac fr7 "physical" x40) "address")) λx64=>Aa (Af ((Ac fr7 "physical" x40) "size")) λx65=>Aa (Aj .Sub x65 (.int 1)) λx66=>Aa (Aj .BitAnd x64 x66) λx67=>Aa (Aj .BitOr x40 x67) λx68=>ret (.rets x68)|.rets v=>ret (.rets v)|.cont fr7=>ret (.cont fr7))
noncomputable def hV(n:Nat)(a0 a1 a2 a3 a4 a5 a6:V):Mo Az:=Aa (at_ a0 "layout") λx1=>Aa (BZ x1 "parts") λf2=>Aa (Ab Ad n f2 [x1,a2]) λx3=>Aa (Ap .Is x3 .none) λq4=>if q4=true then Aa (Ci (.glob (.ref 94)) a3) λx5=>ret (.rets (.tup [x5])) else Aa (KQ (NS n a0 a1 a2 a3 a4 a5 a6 x3) kR) (Wv n)
theorem JO(n:Nat)(a0 a1 a2 a3 a4 a5 a6:V):Bg Ad (Ab Ad n) Dh [a0,a1,a2,a3,a4,a5,a6]=hV n a0 a1 a2 a3 a4 a5 a6:=by kernel_rfl
section
variable{r ad e m s x:Int}
theorem E0(e:b σ=.ok f σ'):KQ b h σ=.ok f σ':=by unfold KQ;rw[e]
theorem Mw(e:b σ=.exc (.trap a v d) σ'):KQ b h σ=h a v σ':=by unfold KQ;rw[e]
structure PB(fr:Fm)(g tp:Bool)(e ad:Int)(k:Kd)(m s x:Int):Prop where
 self:fr "self" = some (.obj 6)
 entry:fr "entry" = some (.int e)
 size:fr "size" = some (.int (BW g tp))
 kind:fr "kind" = some k.v
 mode:fr "mode" = some (.int m)
 sum:fr "sum_bit" = some (.int s)
 mxr:fr "mxr" = some (.int x)
 address:fr "address" = some (.int ad)
theorem Wn(H:PB fr g tp e ad k m s x)(σ:St):(Aa (Aa (Aa (Aa (Aa (Af ((Ac fr "physical" (.int (AL g e))) "entry")) λy44=>ret [y44]) λy45=>Ab Ad (n+2) (.ref 181) y45) BS) λq43=>ret (!q43)) λq42=>Bz .Or q42 (ret q42) (Aa (Aa (Aa (Af ((Ac fr "physical" (.int (AL g e))) "size")) λy47=>Aj .Mod (.int (AL g e)) y47) λy48=>Aa (Ap .NotEq y48 (.int 0)) λq49=>ret q49) λq46=>Bz .Or q46 (ret q46) (Aa (Aa (Aa (Aa (Aa (Af ((Ac fr "physical" (.int (AL g e))) "entry")) λy52=>Aa (Aa (Af ((Ac fr "physical" (.int (AL g e))) "kind")) λy53=>Aa (Aa (Af ((Ac fr "physical" (.int (AL g e))) "mode")) λy54=>Aa (Aa (Af ((Ac fr "physical" (.int (AL g e))) "sum_bit")) λy55=>Aa (Aa (Af ((Ac fr "physical" (.int (AL g e))) "mxr")) λy56=>ret [y56]) λy57=>ret (y55::y57)) λy58=>ret (y54::y58)) λy59=>ret (y53::y59)) λy60=>ret (y52::y60)) λy61=>Ab Ad (n+2) (.ref 195) y61) BS) λq51=>ret (!q51)) λq50=>Bz .Or q50 (ret q50) (ret false)))) σ=.ok (!(AY e)||(!(decide ((AL g e).fmod (BW g tp)=0))||(!(CE k m s x e)||false))) σ:=by
 have nm:∀{y:Str}{v:V},("physical" : Str)≠y->fr y=some v->Af (Ac fr "physical" (.int (AL g e)) y) σ=.ok v σ:=λ{y v} hy h=>by refine Bn h ?_;show Af (if y = "physical" then _ else fr y) σ=_;rw[if_neg (Ne.symm hy)]
 refine Ez ?_ (Ez ?_ (Ez ?_ rfl));·exact bk (a:=AY e) (bk (a:=V.bool (AY e)) (bk (a:=[V.int e]) (bk (nm (by decide) H.entry) rfl) (Cm (n+1) e σ)) rfl) rfl
 ·exact bk (a:=V.int ((AL g e).fmod (BW g tp))) (bk (nm (by decide) H.size) (Gd S5)) (bk IU rfl)
 ·refine bk (a:=CE k m s x e) (bk (a:=V.bool (CE k m s x e)) (bk (a:=[V.int e,k.v,.int m,.int s,.int x]) ?_ (Po n k m s x e σ)) rfl) rfl;exact bk (nm (by decide) H.entry) (bk (a:=[k.v,V.int m,.int s,.int x]) (bk (nm (by decide) H.kind) (bk (a:=[V.int m,.int s,.int x]) (bk (nm (by decide) H.mode) (bk (a:=[V.int s,.int x]) (bk (nm (by decide) H.sum) (bk (a:=[V.int x]) (bk (nm (by decide) H.mxr) rfl) rfl)) rfl)) rfl)) rfl)
theorem ZQ(H:PB fr g tp e ad k m s x)(hp:(e.fdiv (2^10)).natAbs<2^64)(h:(Aa (Aa (Aa (Aa (Aa (Aa (Af ((Ac fr "physical" (.int (AL g e))) "entry")) λy44=>ret [y44]) λy45=>Ab Ad (n+2) (.ref 181) y45) BS) λq43=>ret (!q43)) λq42=>Bz .Or q42 (ret q42) (Aa (Aa (Aa (Af ((Ac fr "physical" (.int (AL g e))) "size")) λy47=>Aj .Mod (.int (AL g e)) y47) λy48=>Aa (Ap .NotEq y48 (.int 0)) λq49=>ret q49) λq46=>Bz .Or q46 (ret q46) (Aa (Aa (Aa (Aa (Aa (Af ((Ac fr "physical" (.int (AL g e))) "entry")) λy52=>Aa (Aa (Af ((Ac fr "physical" (.int (AL g e))) "kind")) λy53=>Aa (Aa (Af ((Ac fr "physical" (.int (AL g e))) "mode")) λy54=>Aa (Aa (Af ((Ac fr "physical" (.int (AL g e))) "sum_bit")) λy55=>Aa (Aa (Af ((Ac fr "physical" (.int (AL g e))) "mxr")) λy56=>ret [y56]) λy57=>ret (y55::y57)) λy58=>ret (y54::y58)) λy59=>ret (y53::y59)) λy60=>ret (y52::y60)) λy61=>Ab Ad (n+2) (.ref 195) y61) BS) λq51=>ret (!q51)) λq50=>Bz .Or q50 (ret q50) (ret false)))) λq41=>if q41=true then Aa (Aa (Af ((Ac fr "physical" (.int (AL g e))) "kind")) λk=>ret (Ek.item k)) λi62=>Aa (B9 (El 0) (.glob (.ref 94)) i62) λx63=>ret (.rets (.tup [x63])) else Aa (Af ((Ac fr "physical" (.int (AL g e))) "address")) λx64=>Aa (Af ((Ac fr "physical" (.int (AL g e))) "size")) λx65=>Aa (Aj .Sub x65 (.int 1)) λx66=>Aa (Aj .BitAnd x64 x66) λx67=>Aa (Aj .BitOr (.int (AL g e)) x67) λx68=>ret (.rets x68)) (SX (Ai g) g W wn c ρ)=R):Wv (n+2) (.next fr) (SX (Ai g) g W wn c ρ)=R:=by refine bk (a:=V.obj 6) (σ':=(SX (Ai g) g W wn c ρ)) (Bn H.self (by kernel_rfl)) ?_;refine br (V.obj 0) ?_;refine bk (a:=Value.ref 167) (σ':=(SX (Ai g) g W wn c ρ)) (g.rec (by kernel_rfl) (by kernel_rfl)) ?_;refine bk (a:=V.int e) (Bn H.entry (by kernel_rfl)) ?_;refine bk (DT (n+1) g e _ hp) ?_;exact h
theorem V5(H:PB fr g tp e ad k m s x)(hp:(e.fdiv (2^10)).natAbs<2^64)(h:¬(AY e=true/\(AL g e).fmod (BW g tp)=0/\CE k m s x e=true)):Wv (n+2) (.next fr) (SX (Ai g) g W wn c ρ)=.ok (.rets (.tup [.int k.pf])) (SX (Ai g) g W wn c ρ):=by
 refine ZQ H hp (Ja (σ':=(SX (Ai g) g W wn c ρ)) ((Wn H _).trans ?_) ?_)
 ·by_cases q:(AL g e).fmod (BW g tp)=0;·rw[decide_eq_true q];cases q1:AY e<;>cases q2:CE k m s x e<;>first|rfl|exact absurd ⟨q1,q,q2⟩ h
  ·rw[decide_eq_false q];cases AY e<;>rfl
 ·refine bk (a:=Ek.item k.v) (bk (Bn H.kind (by kernel_rfl)) rfl) ?_;exact bk (ZI k _) rfl
theorem T6(H:PB fr g tp e ad k m s x)(hp:(e.fdiv (2^10)).natAbs<2^64)(h1:AY e=true)(h2:(AL g e).fmod (BW g tp)=0)(h3:CE k m s x e=true):Wv (n+2) (.next fr) (SX (Ai g) g W wn c ρ)=.ok (.rets (.int (Builtin.bitOr (AL g e) (Builtin.bitAnd ad (BW g tp-1))))) (SX (Ai g) g W wn c ρ):=by refine ZQ H hp (Dk ((Wn H _).trans (by rw[h1,h3,decide_eq_true h2];rfl)) ?_);exact bk (Bn H.address (by kernel_rfl)) (bk (Bn H.size (by kernel_rfl)) (bk (a:=V.int (BW g tp-1)) rfl (bk (a:=V.int (Builtin.bitAnd ad (BW g tp-1))) rfl (bk (a:=V.int (Builtin.bitOr (AL g e) (Builtin.bitAnd ad (BW g tp-1)))) rfl rfl))))
end
end
end
section
noncomputable section
noncomputable def nO(k:Kd):PR->V
 |.af=>.tup [.int k.af]
 |.pf=>.tup [.int k.pf]
 |.ok v _ _=>.int v
section
variable{ad e e2 m s x p1 p2 p3:Int}{k:Kd}
theorem nY(h:Ab Ad n (.ref 224) [.obj 6,.int (0+4*p1),.int ad,k.v] (SX (Ai g) g (Aw W) wn c ρ)=.exc y (SX (Ai g) g (Aw W) wn c ρ)):NS n (.obj 6) (.int 0) (.int ad) k.v (.int m) (.int s) (.int x) (.tup [.int p1,.int p2,.int p3]) (SX (Ai g) g (Aw W) wn c ρ)=.exc y (SX (Ai g) g (Aw W) wn c ρ):=by refine br (Value.ref 224) ?_;refine br (V.int p1) ?_;refine br (V.int (4*p1)) ?_;refine br (V.int (0+4*p1)) ?_;exact AQ h
theorem ZH(h:Ab Ad (n+1) (.ref 224) [.obj 6,.int (0+4*p1),.int ad,k.v] (SX (Ai g) g (Aw W) wn c ρ)=.ok (.int e) (SX (Ai g) g (Aw W) wn c ρ))(l:AY e=true):NS (n+1) (.obj 6) (.int 0) (.int ad) k.v (.int m) (.int s) (.int x) (.tup [.int p1,.int p2,.int p3]) (SX (Ai g) g (Aw W) wn c ρ)=.ok (.next (Ac (Ac (Ac (A9 Dh [.obj 6,.int 0,.int ad,k.v,.int m,.int s,.int x]) "parts" (.tup [.int p1,.int p2,.int p3])) "entry" (.int e)) "size" (.int (BW g true)))) (SX (Ai g) g (Aw W) wn c ρ):=by refine br (Value.ref 224) ?_;refine br (V.int p1) ?_;refine br (V.int (4*p1)) ?_;refine br (V.int (0+4*p1)) ?_;refine bk (h) ?_;refine br (V.obj 0) ?_;refine bk (a:=V.int (BW g true)) (σ':=(SX (Ai g) g (Aw W) wn c ρ)) (g.rec (by kernel_rfl) (by kernel_rfl)) ?_;refine bk (Cm n e _) ?_;refine iL (by rw[l];rfl) ?_;rfl
theorem jT(h:Ab Ad (n+1) (.ref 224) [.obj 6,.int (0+4*p1),.int ad,k.v] (SX (Ai g) g (Aw W) wn c ρ)=.ok (.int e) (SX (Ai g) g (Aw W) wn c ρ))(l:AY e=false)(hb:(e.fdiv (2^10)).natAbs<2^64)(h2:Ab Ad (n+1) (.ref 224) [.obj 6,.int (AL g e+4*p2),.int ad,k.v] (SX (Ai g) g (Aw W) wn c ρ)=.exc y (SX (Ai g) g (Aw W) wn c ρ)):NS (n+1) (.obj 6) (.int 0) (.int ad) k.v (.int m) (.int s) (.int x) (.tup [.int p1,.int p2,.int p3]) (SX (Ai g) g (Aw W) wn c ρ)=.exc y (SX (Ai g) g (Aw W) wn c ρ):=by refine br (Value.ref 224) ?_;refine br (V.int p1) ?_;refine br (V.int (4*p1)) ?_;refine br (V.int (0+4*p1)) ?_;refine bk (h) ?_;refine br (V.obj 0) ?_;refine bk (a:=V.int (BW g true)) (σ':=(SX (Ai g) g (Aw W) wn c ρ)) (g.rec (by kernel_rfl) (by kernel_rfl)) ?_;refine bk (Cm n e _) ?_;refine kG (by rw[l];rfl) ?_;refine br (Value.ref 224) ?_;refine br (V.obj 0) ?_;refine bk (a:=Value.ref 167) (σ':=(SX (Ai g) g (Aw W) wn c ρ)) (g.rec (by kernel_rfl) (by kernel_rfl)) ?_;refine bk (DT n g e _ hb) ?_;refine br (V.int p2) ?_;refine br (V.int (4*p2)) ?_;refine br (V.int (AL g e+4*p2)) ?_;exact AQ h2
theorem U0(h:Ab Ad (n+1) (.ref 224) [.obj 6,.int (0+4*p1),.int ad,k.v] (SX (Ai g) g (Aw W) wn c ρ)=.ok (.int e) (SX (Ai g) g (Aw W) wn c ρ))(l:AY e=false)(hb:(e.fdiv (2^10)).natAbs<2^64)(h2:Ab Ad (n+1) (.ref 224) [.obj 6,.int (AL g e+4*p2),.int ad,k.v] (SX (Ai g) g (Aw W) wn c ρ)=.ok (.int e2) (SX (Ai g) g (Aw W) wn c ρ)):NS (n+1) (.obj 6) (.int 0) (.int ad) k.v (.int m) (.int s) (.int x) (.tup [.int p1,.int p2,.int p3]) (SX (Ai g) g (Aw W) wn c ρ)=.ok (.next (Ac (Ac (Ac (Ac (Ac (A9 Dh [.obj 6,.int 0,.int ad,k.v,.int m,.int s,.int x]) "parts" (.tup [.int p1,.int p2,.int p3])) "entry" (.int e)) "size" (.int (BW g true))) "entry" (.int e2)) "size" (.int (BW g false)))) (SX (Ai g) g (Aw W) wn c ρ):=by refine br (Value.ref 224) ?_;refine br (V.int p1) ?_;refine br (V.int (4*p1)) ?_;refine br (V.int (0+4*p1)) ?_;refine bk (h) ?_;refine br (V.obj 0) ?_;refine bk (a:=V.int (BW g true)) (σ':=(SX (Ai g) g (Aw W) wn c ρ)) (g.rec (by kernel_rfl) (by kernel_rfl)) ?_;refine bk (Cm n e _) ?_;refine kG (by rw[l];rfl) ?_;refine br (Value.ref 224) ?_;refine br (V.obj 0) ?_;refine bk (a:=Value.ref 167) (σ':=(SX (Ai g) g (Aw W) wn c ρ)) (g.rec (by kernel_rfl) (by kernel_rfl)) ?_;refine bk (DT n g e _ hb) ?_;refine br (V.int p2) ?_;refine br (V.int (4*p2)) ?_;refine br (V.int (AL g e+4*p2)) ?_;refine bk (h2) ?_;refine br (V.obj 0) ?_;refine bk (a:=V.int (BW g false)) (σ':=(SX (Ai g) g (Aw W) wn c ρ)) (g.rec (by kernel_rfl) (by kernel_rfl)) ?_;rfl
theorem jG:PB (Ac (Ac (Ac (A9 Dh [.obj 6,.int 0,.int ad,k.v,.int m,.int s,.int x]) "parts" (.tup [.int p1,.int p2,.int p3])) "entry" (.int e)) "size" (.int (BW g true))) g true e ad k m s x:=⟨by kernel_rfl,by kernel_rfl,by kernel_rfl,by kernel_rfl,by kernel_rfl,by kernel_rfl,by kernel_rfl,by kernel_rfl⟩
theorem dD:PB (Ac (Ac (Ac (Ac (Ac (A9 Dh [.obj 6,.int 0,.int ad,k.v,.int m,.int s,.int x]) "parts" (.tup [.int p1,.int p2,.int p3])) "entry" (.int e)) "size" (.int (BW g true))) "entry" (.int e2)) "size" (.int (BW g false))) g false e2 ad k m s x:=⟨by kernel_rfl,by kernel_rfl,by kernel_rfl,by kernel_rfl,by kernel_rfl,by kernel_rfl,by kernel_rfl,by kernel_rfl⟩
theorem bK(hp:Ab Ad n (.ref 117) [.obj 0,.int ad] (SX (Ai g) g (Aw W) wn c ρ)=.ok .none (SX (Ai g) g (Aw W) wn c ρ)):Ab Ad (n+1) (.ref 246) [.obj 6,.int 0,.int ad,k.v,.int m,.int s,.int x] (SX (Ai g) g (Aw W) wn c ρ)=.ok (.tup [.int k.pf]) (SX (Ai g) g (Aw W) wn c ρ):=by refine AD (fe:=Dh) (by kernel_rfl) ?_;rw[JO];refine br (V.obj 0) ?_;refine bk (a:=Value.ref 117) (σ':=(SX (Ai g) g (Aw W) wn c ρ)) (g.rec (by kernel_rfl) (by kernel_rfl)) ?_;refine bk (hp) ?_;refine Ja (σ':=(SX (Ai g) g (Aw W) wn c ρ)) (by kernel_rfl) ?_;refine bk (KW k _) ?_;rfl
theorem JJ(hp:Ab Ad n (.ref 117) [.obj 0,.int ad] (SX (Ai g) g (Aw W) wn c ρ)=.ok (.tup [.int p1,.int p2,.int p3]) (SX (Ai g) g (Aw W) wn c ρ))(h:Aa (KQ (NS n (.obj 6) (.int 0) (.int ad) k.v (.int m) (.int s) (.int x) (.tup [.int p1,.int p2,.int p3])) kR) (Wv n) (SX (Ai g) g (Aw W) wn c ρ)=.ok (.rets v) (SX (Ai g) g (Aw W) wn c ρ)):Ab Ad (n+1) (.ref 246) [.obj 6,.int 0,.int ad,k.v,.int m,.int s,.int x] (SX (Ai g) g (Aw W) wn c ρ)=.ok v (SX (Ai g) g (Aw W) wn c ρ):=by refine AD (fe:=Dh) (by kernel_rfl) ?_;rw[JO];refine br (V.obj 0) ?_;refine bk (a:=Value.ref 117) (σ':=(SX (Ai g) g (Aw W) wn c ρ)) (g.rec (by kernel_rfl) (by kernel_rfl)) ?_;refine bk (hp) ?_;refine Dk (σ':=(SX (Ai g) g (Aw W) wn c ρ)) (by kernel_rfl) ?_;exact h
theorem NA(hp:Ab Ad n (.ref 117) [.obj 0,.int ad] (SX (Ai g) g (Aw W) wn c ρ)=.ok (.tup [.int p1,.int p2,.int p3]) (SX (Ai g) g (Aw W) wn c ρ))(h:NS n (.obj 6) (.int 0) (.int ad) k.v (.int m) (.int s) (.int x) (.tup [.int p1,.int p2,.int p3]) (SX (Ai g) g (Aw W) wn c ρ)=.exc (.trap cc a d) (SX (Ai g) g (Aw W) wn c ρ)):Ab Ad (n+1) (.ref 246) [.obj 6,.int 0,.int ad,k.v,.int m,.int s,.int x] (SX (Ai g) g (Aw W) wn c ρ)=.ok (.tup [.int cc]) (SX (Ai g) g (Aw W) wn c ρ):=JJ hp (bk (a:=Az.rets (.tup [.int cc])) ((Mw h).trans (by kernel_rfl)) rfl)
theorem iV(w:Bj g μ ad k m s x R)(h0:0<=ad)(h1:ad<2^40)(H:Wy W μ):Ab Ad (n+8) (.ref 246) [.obj 6,.int 0,.int ad,k.v,.int m,.int s,.int x] (SX (Ai g) g (Aw W) wn c ρ)=.ok (nO k R) (SX (Ai g) g (Aw W) wn c ρ):=by
 have hp:=λ(h:ad<CZ g) {n}=>HI (n:=n) h0 h (Bm g::.dict (Aw W) wn::c::Ey::.list []::Fw::ρ);have pi:=λ(h:ad<CZ g)=>Sy h0 h;have mb:=Fb g;have pj:ad<CZ g->P1 g ad+4<=B2 g:=λh=>Int.le_trans (pi h).2.1 mb.2.1;have hb:=λa=>UA (H.b a).1 (H.b a).2;have p2:=λ(e:Int) (h0:0<=e) (h1:e<2^30)=>lI (g:=g) (ad:=ad) h0 h1;cases w with
 |far h=>exact bK (Gm (n+6) g ad _ h0 h)
 |uns1 h s1=>exact NA (hp h) (nY (Hs (n:=n+2) H h0 h1 (pi h).2.2 (pi h).1 (pj h) s1))
 |big h s1 l1 q=>have q':=Bool.and_eq_true_iff.mp q;have q1:(bse g (μ (P1 g ad))).fmod (BW g true)=0:=of_decide_eq_true q'.1;refine(JJ (hp h) (bk (E0 (ZH (BF (n:=n+2) H (pi h).2.2 (pi h).1 (pj h) s1) l1)) (T6 (n:=n+5) jG (hb _) l1 (by rw[A7];exact q1) q'.2))).trans ?_;rw[IW g true h0,A7];exact congrArg (λv=>C6.ok (V.int v) _) (MX g true (Ea g (H.b _).1 (H.b _).2).1 q1)
 |bigx h s1 l1 q=>refine JJ (hp h) (bk (E0 (ZH (BF (n:=n+2) H (pi h).2.2 (pi h).1 (pj h) s1) l1)) (V5 (n:=n+5) jG (hb _) λc=>?_));rw[A7]at c;have:gd g true k m s x (μ (P1 g ad))=true:=Bool.and_eq_true_iff.mpr ⟨decide_eq_true c.2.1,c.2.2⟩;rw[q]at this;cases this
 |out2 h s1 l1 o=>refine B0 (p2 _ (H.b (P1 g ad)).1 (H.b _).2) λa1 a2 a3=>?_;exact NA (hp h) (jT (BF (n:=n+2) H (pi h).2.2 (pi h).1 (pj h) s1) l1 (hb _) (by rw[A7];exact J0 (n:=n+2) a3 a1 o a2 h0 h1))
 |uns2 h s1 l1 o s2=>refine B0 (p2 _ (H.b (P1 g ad)).1 (H.b _).2) λa1 a2 a3=>?_;exact NA (hp h) (jT (BF (n:=n+2) H (pi h).2.2 (pi h).1 (pj h) s1) l1 (hb _) (by rw[A7];exact Hs (n:=n+2) H h0 h1 a3 a1 o s2))
 |tab2 h s1 l1 o s2 l2=>refine B0 (p2 _ (H.b (P1 g ad)).1 (H.b _).2) λa1 a2 a3=>?_;exact JJ (hp h) (bk (E0 (U0 (BF (n:=n+2) H (pi h).2.2 (pi h).1 (pj h) s1) l1 (hb _) (by rw[A7];exact BF (n:=n+2) H a3 a1 o s2))) (V5 (n:=n+5) dD (hb _) λc=>Bool.false_ne_true (l2.symm.trans c.1)))
 |odd2 h s1 l1 o s2 l2 q=>refine B0 (p2 _ (H.b (P1 g ad)).1 (H.b _).2) λa1 a2 a3=>?_;refine JJ (hp h) (bk (E0 (U0 (BF (n:=n+2) H (pi h).2.2 (pi h).1 (pj h) s1) l1 (hb _) (by rw[A7];exact BF (n:=n+2) H a3 a1 o s2))) (V5 (n:=n+5) dD (hb _) λc=>?_));have:gd g false k m s x (μ (P2 g (μ (P1 g ad)) ad))=true:=Bool.and_eq_true_iff.mpr ⟨decide_eq_true (Ea g (H.b _).1 (H.b _).2).2.2.1,c.2.2⟩;rw[q]at this;cases this
 |good h s1 l1 o s2 l2 q=>refine B0 (p2 _ (H.b (P1 g ad)).1 (H.b _).2) λa1 a2 a3=>?_;have q':=Bool.and_eq_true_iff.mp q;refine(JJ (hp h) (bk (E0 (U0 (BF (n:=n+2) H (pi h).2.2 (pi h).1 (pj h) s1) l1 (hb _) (by rw[A7];exact BF (n:=n+2) H a3 a1 o s2))) (T6 (n:=n+5) dD (hb _) l2 (by rw[A7];exact(Ea g (H.b _).1 (H.b _).2).2.2.1) q'.2))).trans ?_;rw[IW g false h0,A7];exact congrArg (λv=>C6.ok (V.int v) _) (MX g false (Ea g (H.b _).1 (H.b _).2).1 (Ea g (H.b _).1 (H.b _).2).2.2.1)
end
end
end
section
noncomputable section
noncomputable def dK(n:Nat)(a0 a1 a2:V):Mo Az:=Aa (K7 ["first", "second", "flags", "frame", "kind", "mode", "extra", "shape", "offset"] a2 (A9 GG [a0,a1,a2])) λfr1=>Aa (KQ (Aa (Af (fr1 "walker")) λx5=>Aa (BZ x5 "translate") λf6=>Aa (Af (fr1 "address")) λx7=>Aa (Aa (Af (fr1 "kind")) λk=>ret (Ek.item k)) λi8=>Aa (B9 (El 0) (.lst [(.str "fetch"),(.str "load"),(.str "store")]) i8) λx9=>Aa (Af (fr1 "mode")) λx10=>Aa (Af (fr1 "extra")) λx11=>Aa (Ci x11 (.int 0)) λx12=>Aa (Af (fr1 "extra")) λx13=>Aa (Ci x13 (.int 1)) λx14=>Aa (Ab Ad n f6 [x5,(.int 0),x7,x9,x10,x12,x14]) λx15=>ret (.rets x15)) (λc16 w17=>Aa (Cs (Aa (Aa (at_ (.exn c16 w17) "cause") λy23=>Aa (Aa (at_ (.exn c16 w17) "value") λy24=>ret [y24]) λy25=>ret (y23::y25)) λy26=>ret (.tup y26))) λy27=>ret (.rets y27))) λq2=>(match q2 with|.next fr3=>ret (.next fr3)|.rets v=>ret (.rets v)|.cont fr3=>ret (.cont fr3))
theorem Rf(n:Nat)(a0 a1 a2:V):Bg Ad (Ab Ad n) GG [a0,a1,a2]=dK n a0 a1 a2:=by kernel_rfl
section
variable{ad f se fl fr m s x sh off c a:Int}
theorem iW(k:Kd)(σ:St):B9 (El 0) (.lst [(.str "fetch"),(.str "load"),(.str "store")]) (.item (.int k.i)) σ=.ok k.v σ:=k.rec (by kernel_rfl) (by kernel_rfl) (by kernel_rfl)
theorem Wu(hm:BZ o "translate" σ=.ok q σ)(h:∀b:Mo Az,(∀R,Aa (Ab Ad n q [o,.int 0,.int ad,k.v,.int m,.int s,.int x]) (λx15=>ret (Az.rets x15)) σ=R->b σ=R)->KQ b (λc16 w17=>Aa (Cs (Aa (Aa (at_ (.exn c16 w17) "cause") λy23=>Aa (Aa (at_ (.exn c16 w17) "value") λy24=>ret [y24]) λy25=>ret (y23::y25)) λy26=>ret (.tup y26))) λy27=>ret (.rets y27)) σ=.ok (.rets v) σ'):Ab Ad (n+1) (.ref 646) [o,.int ad,(BI f se fl fr k m s x sh off)] σ=.ok v σ':=by refine AD (fe:=GG) (by kernel_rfl) ?_;rw[Rf];refine br (Ac (Ac (Ac (Ac (Ac (Ac (Ac (Ac (Ac (A9 GG [o,.int ad,(BI f se fl fr k m s x sh off)]) "first" (.int f)) "second" (.int se)) "flags" (.int fl)) "frame" (.int fr)) "kind" (.int k.i)) "mode" (.int m)) "extra" (.lst [.int s,.int x])) "shape" (.int sh)) "offset" (.int off)) ?_;refine bk (a:=Az.rets v) (h _ λR hR=>?_) rfl;refine br o ?_;refine bk (hm) ?_;refine br (V.int ad) ?_;refine br (Ek.item (.int k.i)) ?_;refine bk (iW k _) ?_;refine br (V.int m) ?_;refine br (V.lst [.int s,.int x]) ?_;refine br (V.int s) ?_;refine br (V.lst [.int s,.int x]) ?_;refine br (V.int x) ?_;exact hR
theorem LQ(hm:BZ o "translate" σ=.ok q σ)(h:Ab Ad n q [o,.int 0,.int ad,k.v,.int m,.int s,.int x] σ=.ok v σ'):Ab Ad (n+1) (.ref 646) [o,.int ad,(BI f se fl fr k m s x sh off)] σ=.ok v σ':=Wu hm λb hb=>E0 (hb _ (bk h rfl))
theorem MP(hm:BZ o "translate" σ=.ok q σ)(h:Ab Ad n q [o,.int 0,.int ad,k.v,.int m,.int s,.int x] σ=.exc (.trap c a d) σ'):Ab Ad (n+1) (.ref 646) [o,.int ad,(BI f se fl fr k m s x sh off)] σ=.ok (.tup [.int c,.int a]) σ':=Wu hm λb hb=>(Mw (hb _ (AQ h))).trans rfl
end
end
end
noncomputable section
section
noncomputable def gA(x:Str):Option AO->Option V
 |some (.inst C fs)=>if(El 0).own C x=true then(match fs.lookup x with|some v=>if Ba v=true then some v else none|none=>none) else none
 |_=>none
noncomputable def gM(x:Str):Option AO->Option Value
 |some (.inst C fs)=>(match fs.lookup x with|none=>(El 0).meth C x|some _=>none)
 |some (.dict _ _)=>if x=("get" : Str) then some (.builtin "dict.get") else if x=("pop" : Str) then some (.builtin "dict.pop") else none
 |some (.list _)=>if x=("append" : Str) then some (.builtin "list.append") else none
 |none=>none
theorem lH(i:Nat)(x:Str)(σ:St):at_ (.obj i) x σ=Af (gA x σ[i]?) σ:=by
 unfold at_ Fg gA;dsimp only;cases σ[i]? with
 |none=>rfl
 |some o=>cases o with
  |dict es n=>rfl
  |list l=>rfl
  |inst C fs=>
   dsimp only;by_cases c:(El 0).own C x=true
   ·rw[if_pos c,if_pos c];cases fs.lookup x with
    |none=>rfl
    |some v=>
     dsimp only;by_cases d:Ba v=true;·rw[if_pos d,if_pos d];rfl
     ·rw[if_neg d,if_neg d];rfl
   ·rw[if_neg c,if_neg c];rfl
theorem nE(i:Nat)(x:Str)(σ:St):BZ (.obj i) x σ=Af (gM x σ[i]?) σ:=by
 unfold BZ Ed gM;dsimp only;cases σ[i]? with
 |none=>rfl
 |some o=>cases o with
  |dict es n=>
   dsimp only;by_cases c:x=("get" : Str)
   ·rw[if_pos c,if_pos c];rfl
   ·rw[if_neg c,if_neg c];by_cases d:x=("pop" : Str)
    ·rw[if_pos d,if_pos d];rfl
    ·rw[if_neg d,if_neg d];rfl
  |list l=>
   dsimp only;by_cases c:x=("append" : Str)
   ·rw[if_pos c,if_pos c];rfl
   ·rw[if_neg c,if_neg c];rfl
  |inst C fs=>dsimp only;cases fs.lookup x<;>rfl
theorem XC(e:Af q σ=.ok a σ):Af q τ=.ok a τ:=by
 cases q with
 |none=>cases e
 |some b=>cases e;rfl
theorem ZD(h:σ[i]?=some o)(e:at_ (.obj 0) x [o]=.ok v [o]):at_ (.obj i) x σ=.ok v σ:=by rw[lH]at *;rw[h];exact XC e
end
noncomputable def O3(l:DI):V:=.lst (l.map λp=>.tup [.int p.1,.int p.2])
theorem Z1:∀l:DI,DD (l.map λp=>V.tup [.int p.1,.int p.2])=some (l.map λp=>PyData.tuple [.int p.1,.int p.2])
 |[]=>rfl
 |p::r=>by
  show(match Hk (V.tup [.int p.1,.int p.2]),DD (r.map λp=>V.tup [.int p.1,.int p.2]) with
   |some d,some ds=>some (d::ds)
   |_,_=>none)=_
  rw[Z1 r];rfl
theorem ZU:∀l:DI,PyData.canLayAll0 (l.map λp=>PyData.tuple [.int p.1,.int p.2])=true/\PyData.depthAll (l.map λp=>PyData.tuple [.int p.1,.int p.2])<=1
 |[]=>⟨rfl,Nat.zero_le _⟩
 |p::r=>by refine AG (ZU r) λh1 h2=>?_;refine⟨h1,?_⟩;show max 1 (PyData.depthAll (r.map λp=>PyData.tuple [.int p.1,.int p.2]))<=1;lia
theorem EO(h:Hk v=some d)(hs:SeqAt.shaped d=true):I9 v v=some true:=by unfold I9;rw[h];simp only[hs,and_self,if_true];rw[SeqAt.eqv_refl d (SeqAt.canLay_of_shaped hs)]
theorem UW(l:DI):I9 (O3 l) (O3 l)=some true:=by
 refine EO (d:=.list (l.map λp=>PyData.tuple [.int p.1,.int p.2])) ?_ ?_;·show(DD _).map PyData.list=_;rw[Z1];rfl
 ·refine AG (ZU l) λh1 h2=>?_;refine Bool.and_eq_true_iff.mpr ⟨h1,decide_eq_true ?_⟩;show PyData.depthAll _+1<=64;lia
theorem MO(h:I9 v v=some true):Ap .NotEq v v σ=.ok false σ:=by
 have:Ap .NotEq v v σ=Af ((I9 v v).map (!·)) σ:=by cases v<;>rfl
 rw[this,h];rfl
theorem ZF:Ap .Eq (O3 l) (O3 l) σ=.ok true σ:=by show Af (I9 (O3 l) (O3 l)) σ=_;rw[UW];rfl
noncomputable def sk(l:DI):List Int:=(l.map (·.1)).mergeSort (· <= ·)
theorem H7:∀l:List Int,CI (l.map V.int)=some l
 |[]=>rfl
 |a::r=>by show(CI (r.map V.int)).map (a :: ·)=_;rw[H7 r];rfl
theorem IM(l:DI):(Aw l).map (·.1)=(l.map (·.1)).map V.int:=by unfold Aw;rw[List.map_map,List.map_map];rfl
theorem M1(h:σ[i]?=some (.dict (Aw C) cn))(hl:C.length<64):Ab Ad (n+1) (.builtin "sorted") [.obj i] σ=.ok (.lst ((sk C).map .int)) σ:=by show BJ i (λes _=>CB (es.map (·.1)) λns=>Eb (decide (ns.length<64)) (ret (.lst ((ns.mergeSort (· <= ·)).map .int)))) σ=_;unfold BJ;rw[h];show CB ((Aw C).map (·.1)) _ σ=_;unfold CB;rw[IM,H7];exact Dv (decide_eq_true (by rw[List.length_map];exact hl))
theorem Nz(hs:stays o σ σ=true):∀l:List Int,(∀a∈l,f (.int a) σ=.ok (F a) σ/\(F a).length<=256)->Cg o σ f (l.map .int) σ=.ok (l.flatMap F) σ
 |[],_=>rfl
 |a::r,h=>by refine AG (h a (.head _)) λh1 h2=>?_;refine bk h1 (bk (a:=()) ?_ (bk (Nz hs r λb hb=>h b (.tail _ hb)) rfl));show(if(stays o σ σ&&decide ((F a).length<=256))=true then C6.ok () σ else .stuck)=_;rw[hs,decide_eq_true h2];rfl
theorem Hv{f:V->Mo (List V)}{F:Int->List V}{σ:St}{l:List Int}(hl:l.length<=4096)(h:∀a∈l,f (.int a) σ=.ok (F a) σ/\(F a).length<=256):Bt (.lst (l.map .int)) f σ=.ok (l.flatMap F) σ:=by show(if(l.map V.int).length<=4096 then Cg (.lst (l.map .int)) σ f (l.map .int) else AB) σ=_;rw[if_pos (by rw[List.length_map];exact hl)];exact Nz rfl l h
theorem TP(l:DI):(sk l).length=l.length:=by unfold sk;rw[List.length_mergeSort,List.length_map]
theorem H0:a∈sk l↔a∈l.map (·.1):=List.mem_mergeSort
theorem QT(h:a∈l.map (·.1)):l.lookup a=some (AE l a):=by
 unfold AE;cases e:l.lookup a with
 |some v=>rfl
 |none=>refine Au (List.mem_map.mp h) λp hp eqq2=>?_;subst eqq2;exact absurd (List.lookup_eq_none_iff.mp e p hp) (by simp)
theorem Hd(h:σ[i]?=some (.dict (Aw C) cn))(ha:a∈C.map (·.1)):Ci (.obj i) (.int a) σ=.ok (.int (AE C a)) σ:=by
 show(match σ[i]? with
  |some (.dict es _)=>(match As es (.int a),AI es (.int a) with|true,some v=>C6.ok v σ|_,_=>.stuck)
  |_=>.stuck)=_
 rw[h];show(match As (Aw C) (.int a),AI (Aw C) (.int a) with|true,some v=>C6.ok v σ|_,_=>.stuck)=_;rw[CM (FO C),Ht,QT ha];rfl
noncomputable def iJ(W:DI):DI:=(sk W).flatMap λk=>[(k*4,AE W k)]
noncomputable def lJ(C:DI):DI:=(sk C).flatMap λk=>if AE C k=0 then[] else[(k,AE C k)]
end
noncomputable section
noncomputable def eF(n:Nat)(a0:V):Mo Az:=Aa ((Aa (Cs (Aa (Aa (Aa (at_ a0 "words") λy9=>ret [y9]) λy10=>Ab Ad n (.builtin "sorted") y10) λs11=>Bt s11 λv2=>Aa (Aa (Aa (Aj .LShift v2 (.int 2)) λy3=>Aa (Aa (Aa (at_ a0 "words") λy4=>Ci y4 v2) λy5=>ret [y5]) λy6=>ret (y3::y6)) λy7=>ret (.tup y7)) λy8=>ret [y8])) λl1=>ret (.lst l1))) λx12=>ret (.rets x12)
theorem Q6(n:Nat)(a0:V):Bg Ad (Ab Ad n) Ls [a0]=eF n a0:=by kernel_rfl
noncomputable def gE(n:Nat)(a0:V):Mo Az:=Aa ((Aa (Cs (Aa (Ab Ad n (.builtin "sorted") [a0]) λs11=>Bt s11 λv2=>Aa (Aa (Aa (Ci a0 v2) λy9=>Aa (Ap .NotEq y9 (.int 0)) λq10=>ret q10) λq8=>if q8=true then ret true else ret false) λq7=>if q7=true then Aa (Aa (Aa (Aa (Ci a0 v2) λy3=>ret [y3]) λy4=>ret (v2::y4)) λy5=>ret (.tup y5)) λy6=>ret [y6] else ret [])) λl1=>ret (.lst l1))) λx12=>ret (.rets x12)
theorem R9(n:Nat)(a0:V):Bg Ad (Ab Ad n) LD [a0]=gE n a0:=by kernel_rfl
section
theorem qB:∀{l:List Int},(∀k∈l,G k=G' k)->l.flatMap G=l.flatMap G'
 |[],_=>rfl
 |a::r,h=>by rw[List.flatMap_cons,List.flatMap_cons,h a (.head _),qB λk hk=>h k (.tail _ hk)]
theorem VF(l:List Int)(F:Int->DI)(G:Int->List V)(h:∀k∈l,G k=(F k).map λp=>V.tup [.int p.1,.int p.2]):V.lst (l.flatMap G)=O3 (l.flatMap F):=by unfold O3;rw[List.map_flatMap];congr 1;exact qB h
theorem LU(h1:σ[1]?=some (Bm g))(h2:σ[2]?=some (.dict (Aw W) wn))(hl:W.length<64)(hb:∀k∈W.map (·.1),k.natAbs<2^64):Ab Ad (n+2) (.ref 457) [.obj 1] σ=.ok (O3 (iJ W)) σ:=by
 have wd:at_ (.obj 1) "words" σ=.ok (.obj 2) σ:=ZD h1 (g.rec (by kernel_rfl) (by kernel_rfl));refine AD (fe:=Ls) (by kernel_rfl) ?_;rw[Q6];refine bk (a:=O3 (iJ W)) (σ':=σ) (bk (a:=(sk W).flatMap λk=>[V.tup [.int (k*4),.int (AE W k)]]) (σ':=σ) (Bk ?_) ?_) rfl;·refine bk (bk (a:=[V.obj 2]) (bk wd rfl) (M1 h2 hl)) (Hv (by rw[TP];lia) λk hk=>⟨?_,by show 1<=256;decide⟩);rw[H0]at hk;refine bk (a:=V.tup [.int (k*4),.int (AE W k)]) ?_ rfl;refine bk (a:=[V.int (k*4),.int (AE W k)]) ?_ rfl;refine bk (a:=V.int (k*4)) (σ':=σ) ((TL (b:=2) (by decide) (by decide) (hb k hk)).trans (by kernel_rfl)) ?_;exact bk (a:=[V.int (AE W k)]) (bk (a:=V.int (AE W k)) (bk wd (Hd h2 hk)) rfl) rfl
 ·show C6.ok _ _=_;exact congrArg (C6.ok · σ) (VF (sk W) (λk=>[(k*4,AE W k)]) _ λ_ _=>rfl)
theorem Kw(h:σ[i]?=some (.dict (Aw C) cn))(hl:C.length<64):Ab Ad (n+2) (.ref 651) [.obj i] σ=.ok (O3 (lJ C)) σ:=by
 refine AD (fe:=LD) (by kernel_rfl) ?_;rw[R9];refine bk (a:=O3 (lJ C)) (σ':=σ) (bk (a:=(sk C).flatMap λk=>if AE C k=0 then[] else[V.tup [.int k,.int (AE C k)]]) (σ':=σ) (Bk ?_) ?_) rfl
 ·refine bk (M1 h hl) (Hv (by rw[TP];lia) λk hk=>⟨?_,by split;exact Nat.zero_le _;show 1<=256;decide⟩);rw[H0]at hk;have q:∀{a b:Mo (List V)},(Aa (Aa (Aa (Ci (.obj i) (.int k)) λy9=>Aa (Ap .NotEq y9 (.int 0)) λq10=>ret q10) λq8=>if q8=true then ret true else ret false) λq7=>if q7=true then a else b) σ=if AE C k=0 then b σ else a σ:=λ{a b}=>by
   by_cases c:AE C k=0;·rw[if_pos c];exact Dk (Dk (bk (Hd h hk) (bk (Jn c) rfl)) rfl) rfl
   ·rw[if_neg c];exact Ja (Ja (bk (Hd h hk) (bk (YJ c) rfl)) rfl) rfl
  refine q.trans ?_;by_cases c:AE C k=0;·rw[if_pos c,if_pos c];rfl
  ·rw[if_neg c,if_neg c];exact bk (a:=V.tup [.int k,.int (AE C k)]) (bk (a:=[V.int k,.int (AE C k)]) (bk (a:=[V.int (AE C k)]) (bk (Hd h hk) rfl) rfl) rfl) rfl
 ·show C6.ok _ _=_;exact congrArg (C6.ok · σ) (VF (sk C) (λk=>if AE C k=0 then[] else[(k,AE C k)]) _ λk _=>by split<;>rfl)
theorem Uq:∀{l m:List Int},l.Pairwise (· < ·)->m.Pairwise (· < ·)->(∀a,a∈l↔a∈m)->l=m
 |[],[],_,_,_=>rfl
 |[],b::m,_,_,h=>absurd ((h b).mpr (.head _)) List.not_mem_nil
 |a::l,[],_,_,h=>absurd ((h a).mp (.head _)) List.not_mem_nil
 |a::l,b::m,h1,h2,h=>by
  refine AG (List.pairwise_cons.mp h1) λa1 a2=>?_;refine AG (List.pairwise_cons.mp h2) λb1 b2=>?_;have e:a=b:=by
   rcases List.mem_cons.mp ((h a).mp (.head _)) with q|q;·exact q
   ·rcases List.mem_cons.mp ((h b).mpr (.head _)) with r|r;·exact r.symm
    ·have:=a1 _ r;have:=b1 _ q;lia
  subst e;congr 1;refine Uq a2 b2 λc=>⟨λhc=>?_,λhc=>?_⟩
  ·rcases List.mem_cons.mp ((h c).mp (.tail _ hc)) with q|q;·have:=a1 _ hc;lia
   ·exact q
  ·rcases List.mem_cons.mp ((h c).mpr (.tail _ hc)) with q|q;·have:=b1 _ hc;lia
   ·exact q
theorem ZT(h:(l.map (·.1)).Nodup):(sk l).Pairwise (· < ·):=by
 have h1:(sk l).Pairwise λa b=>decide (a<=b)=true:=List.pairwise_mergeSort (le:=λa b=>decide (a<=b)) (λa b c p q=>decide_eq_true (Int.le_trans (of_decide_eq_true p) (of_decide_eq_true q))) (λa b=>by
  rcases Int.le_total a b with q|q;·rw[decide_eq_true q];rfl
  ·rw[decide_eq_true q,Bool.or_true]) _
 have h2:(sk l).Nodup:=(List.mergeSort_perm _ _).nodup_iff.mpr h;refine(h1.and h2).imp λq=>?_;have:=of_decide_eq_true q.1;have:=q.2;lia
structure Ag(g:Bool)(C W:DI)(μ:Int->Int):Prop where
 nc:(C.map (·.1)).Nodup
 nw:(W.map (·.1)).Nodup
 ck:∀a∈C.map (·.1),0<=a/\a+4<=B2 g/\a%4=0
 cl:C.length<=12
 cb:Fq C
 wz:∀p∈W,p.2≠0
 wk:∀p∈W,4*p.1∈C.map (·.1)
 eq:∀k,AE W k=μ (4*k)
 b:∀a,0<=μ a/\μ a<2^30
theorem Ag.wl(H:Ag g C W μ):W.length<=12:=by
 have:=I7 (l:=(W.map (·.1)).map (4 * ·)) (m:=C.map (·.1)) ((List.pairwise_map.mpr (H.nw.imp λq e=>q (by lia)))) λa ha=>by refine Au (List.mem_map.mp ha) λk hk eqq2=>?_;subst eqq2;refine Au (List.mem_map.mp hk) λp hp eqq2=>?_;subst eqq2;exact H.wk p hp
 simp only[List.length_map]at this;have:=H.cl;lia
theorem Ag.wrd(H:Ag g C W μ):Wy W μ:=⟨H.eq,H.b,by have:=H.wl;lia⟩
theorem FF(h:AE l a≠0):a∈l.map (·.1):=by
 cases e:l.lookup a with
 |none=>exact absurd (by unfold AE;rw[e];rfl) h
 |some v=>exact List.mem_map.mpr ⟨_,DK e,rfl⟩
theorem Ag.wmem(H:Ag g C W μ)(k:Int):k∈W.map (·.1)↔AE W k≠0:=by
 refine⟨λh=>?_,FF⟩;refine Au (List.mem_map.mp h) λp hp eqq2=>?_;subst eqq2;have:AE W p.1=p.2:=by unfold AE;rw[MH H.nw hp];rfl
 rw[this];exact H.wz p hp
theorem iY(l:List Int)(P:Int->Prop)[DecidablePred P](F:Int->Int×Int):(l.flatMap λk=>if P k then[] else[F k])=(l.filter λk => !(decide (P k))).map F:=by
 induction l with
 |nil=>rfl
 |cons a r ih=>
  rw[List.flatMap_cons,ih,List.filter_cons];by_cases c:P a;·rw[if_pos c,decide_eq_true c];rfl
  ·rw[if_neg c,decide_eq_false c];rfl
theorem KG(H:Ag g C W (AE C)):iJ W=lJ C:=by
 have e:((sk W).map (4 * ·))=(sk C).filter λk => !(decide (AE C k=0)):=by
  refine Uq (List.pairwise_map.mpr ((ZT H.nw).imp λq=>by lia)) ((ZT H.nc).filter _) λa=>?_;rw[List.mem_map,List.mem_filter,H0];constructor
  ·rintro ⟨k,hk,rfl⟩
   have:=(H.wmem k).mp (H0.mp hk);rw[H.eq]at this;exact⟨FF this,by rw[decide_eq_false this];rfl⟩
  ·rintro ⟨h1,h2⟩
   have h3:AE C a≠0:=by simpa using h2
   have h4:=H.ck a h1;refine⟨a/4,H0.mpr ((H.wmem _).mpr ?_),by lia⟩;rw[H.eq,show 4*(a/4)=a by lia];exact h3
 unfold lJ;rw[iY,<-e,List.map_map];unfold iJ;rw[show∀l:List Int,(l.flatMap λk=>[(k*4,AE W k)])=l.map λk=>(k*4,AE W k) from λl=>by
  induction l with
  |nil=>rfl
  |cons a r ih=>rw[List.flatMap_cons,ih];rfl]
 exact List.map_congr_left λk _=>by
  show(k*4,AE W k)=(4*k,AE C (4*k))
  rw[H.eq,Int.mul_comm]
end
end
noncomputable section
noncomputable def Vf(n:Nat)(x37:V)(x36:V)(fr11:Fm)(x14:V):Mo Az:=Aa (Ab Ad n (.ref 651) [x37]) λx38=>Aa (Ap .NotEq x36 x38) λq39=>if q39=true then ret (.rets (.bool false)) else Aa (Af ((Ac fr11 "kind" x14) "walker")) λx40=>Aa (Af ((Ac fr11 "kind" x14) "address")) λx41=>Aa (Af ((Ac fr11 "kind" x14) "scene")) λx42=>Aa (Ab Ad n (.ref 646) [x40,x41,x42]) λx43=>Aa (Aa (Aa (Aa (Aa (Aa (Af ((Ac (Ac fr11 "kind" x14) "told" x43) "due")) λy46=>Aa (Ap .IsNot y46 .none) λq47=>ret q47) λq45=>if q45=true then Af ((Ac (Ac fr11 "kind" x14) "told" x43) "due") else Aa (Aa (Af ((Ac (Ac fr11 "kind" x14) "told" x43) "place")) λy48=>Aa (Aa (Af ((Ac (Ac fr11 "kind" x14) "told" x43) "address")) λy49=>ret [y49]) λy50=>ret (y48::y50)) λy51=>ret (.tup y51)) λy52=>Aa (Ap .Eq x43 y52) λq53=>ret q53) λq44=>ret (.bool q44)) λy54=>Aa (BS y54) λq55=>Bz .And q55 (ret y54) (Aa (Aa (Aa (Aa (Af ((Ac (Ac fr11 "kind" x14) "told" x43) "memory")) λy56=>Aa (BZ y56 "rows") λf57=>ret (B4.meth f57 y56)) λg58=>DB (El n) g58 []) λy59=>Aa (Aa (Aa (Aa (Af ((Ac (Ac fr11 "kind" x14) "told" x43) "cells")) λy61=>ret [y61]) λy62=>Ab Ad n (.ref 651) y62) λy63=>Aa (Ap .Eq y59 y63) λq64=>ret q64) λq60=>ret (.bool q60)) λy65=>ret y65)) λx66=>ret (.rets x66)
noncomputable def VQ(x26:V)(x32:V)(fr11:Fm)(x14:V)(n:Nat):Mo Az:=Aa (Ap .NotEq x26 x32) λq33=>if q33=true then ret (.rets (.bool false)) else Aa (Af ((Ac fr11 "kind" x14) "memory")) λx34=>Aa (BZ x34 "rows") λf35=>Aa (Ab Ad n f35 [x34]) λx36=>Aa (Af ((Ac fr11 "kind" x14) "kept")) λx37=>Vf n x37 x36 fr11 x14
noncomputable def SK(fr11:Fm)(x14:V)(n:Nat)(f16:Value)(x15:V)(x17:V)(x19:V)(x22:V):Mo Az:=Aa (Af ((Ac fr11 "kind" x14) "scene")) λx23=>Aa (Ci x23 (.int 6)) λx24=>Aa (Ci x24 (.int 1)) λx25=>Aa (Ab Ad n f16 [x15,(.int 0),x17,x14,x19,x22,x25]) λx26=>Aa (Aa (Aa (Af ((Ac fr11 "kind" x14) "due")) λy28=>Aa (Ap .IsNot y28 .none) λq29=>ret q29) λq27=>if q27=true then Af ((Ac fr11 "kind" x14) "due") else Aa (Aa (Af ((Ac fr11 "kind" x14) "place")) λy30=>ret [y30]) λy31=>ret (.tup y31)) λx32=>VQ x26 x32 fr11 x14 n
noncomputable def U4(fr11:Fm)(x14:V)(n:Nat)(f16:Value)(x15:V)(x17:V):Mo Az:=Aa (Af ((Ac fr11 "kind" x14) "scene")) λx18=>Aa (Ci x18 (.int 5)) λx19=>Aa (Af ((Ac fr11 "kind" x14) "scene")) λx20=>Aa (Ci x20 (.int 6)) λx21=>Aa (Ci x21 (.int 0)) λx22=>SK fr11 x14 n f16 x15 x17 x19 x22
noncomputable def Te(fr11:Fm)(n:Nat):Mo Az:=Aa (Aa (Af (fr11 "scene")) λy12=>Aa (Ci y12 (.int 4)) λk=>ret (Ek.item k)) λi13=>Aa (B9 (El 0) (.lst [(.str "fetch"),(.str "load"),(.str "store")]) i13) λx14=>Aa (Af ((Ac fr11 "kind" x14) "walker")) λx15=>Aa (BZ x15 "probe") λf16=>Aa (Af ((Ac fr11 "kind" x14) "address")) λx17=>U4 fr11 x14 n f16 x15 x17
noncomputable def aW(n:Nat)(a0 a1 a2 a3 a4 a5 a6:V):Mo Az:=Aa (at_ a0 "end") λx1=>Aa ((Aa (Cs (Bt a2 λv3=>Aa (Aa (Aa (Aa (Ci a2 v3) λy4=>ret [y4]) λy5=>ret (v3::y5)) λy6=>ret (.tup y6)) λy7=>ret [y7])) λl2=>ret (.lst l2))) λx8=>Aa (Ab Ad n (.type "dict") [x8]) λx9=>Aa (Ab Ad n (.ref 639) [a2,a3,a4,x1,a5,a6]) λx10=>Aa (K7 ["due", "place"] x10 (Ac (Ac (A9 Ge [a0,a1,a2,a3,a4,a5,a6]) "end" x1) "kept" x9)) λfr11=>Te fr11 n
theorem Rb(n:Nat)(a0 a1 a2 a3 a4 a5 a6:V):Bg Ad (Ab Ad n) Ge [a0,a1,a2,a3,a4,a5,a6]=aW n a0 a1 a2 a3 a4 a5 a6:=by kernel_rfl
noncomputable def G6(C:DI):PR->DI
 |.af=>C
 |.pf=>C
 |.ok _ pl e=>BA C pl e
noncomputable def LJ(C:DI)(cn:Nat):PR->Nat
 |.af=>cn
 |.pf=>cn
 |.ok _ pl _=>if(C.lookup pl).isSome=true then cn else cn+1
noncomputable def Kz:PR->V
 |.af=>.none
 |.pf=>.none
 |.ok v _ _=>.int v
noncomputable def Lp(k:Kd):PR->V
 |.af=>.int k.af
 |.pf=>.int k.pf
 |.ok _ pl _=>.int pl
noncomputable def Rh(k:Kd)(ad:Int):PR->V
 |.af=>.tup [.int k.af,.int ad]
 |.pf=>.tup [.int k.pf,.int ad]
 |.ok v _ _=>.int v
theorem Ot(k:Kd)(R:PR):nX k R=.tup [Kz R,Lp k R]:=R.rec rfl rfl λ_ _ _=>rfl
section
theorem hU(k:Kd)(R:PR):I9 (nO k R) (nO k R)=some true:=by
 cases R with
 |af=>exact EO (d:=.tuple [.int k.af]) rfl rfl
 |pf=>exact EO (d:=.tuple [.int k.pf]) rfl rfl
 |ok v pl e=>exact EO (d:=.int v) rfl rfl
theorem N7(k:Kd)(ad:Int)(R:PR):I9 (Rh k ad R) (Rh k ad R)=some true:=by
 cases R with
 |af=>exact EO (d:=.tuple [.int k.af,.int ad]) rfl rfl
 |pf=>exact EO (d:=.tuple [.int k.pf,.int ad]) rfl rfl
 |ok v pl e=>exact EO (d:=.int v) rfl rfl
theorem MY:∀{l:DI},a∉l.map (·.1)->BA l a v=l++[(a,v)]
 |[],_=>rfl
 |(b,u)::r,h=>by rw[EN];rw[if_neg λc=>h (List.mem_map.mpr ⟨_,.head _,c⟩),MY λc=>h (.tail _ c)];rfl
theorem Mq:∀{l acc:DI},((acc++l).map (·.1)).Nodup->(acc++l).length<=4096->AZ (l.map λp=>V.tup [.int p.1,.int p.2]) (Aw acc)=some (Aw (acc++l))
 |[],acc,_,_=>by rw[List.append_nil];rfl
 |p::r,acc,h,hl=>by
  show(if(As (Aw acc) (.int p.1)&&decide ((Aw acc).length<=4096))=true then AZ (r.map λp=>V.tup [.int p.1,.int p.2]) (Bl (Aw acc) (.int p.1) (.int p.2)) else none)=_;have h1:p.1∉acc.map (·.1):=by rw[List.map_append]at h;exact λc=>(List.nodup_append.mp h).2.2 _ c _ (.head _) rfl
  have h2:acc++p::r=(acc++[p])++r:=by simp
  rw[h2]at h hl⊢;rw[CM (FO acc),EU,decide_eq_true (by simp at hl;lia),Hr,MY h1];exact Mq h hl
theorem WK(h:σ[i]?=some (.dict (Aw C) cn)):stays (.obj i) σ σ=true:=by
 show(match σ[i]?,σ[i]? with
  |some (.dict es n),some (.dict es' n')=>decide (n=n')&&A6 (es.map (·.1)) (es'.map (·.1))
  |some (.list l),some (.list l')=>A6 l l'
  |_,_=>false)=true
 rw[h];show(decide (cn=cn)&&A6 ((Aw C).map (·.1)) ((Aw C).map (·.1)))=true;rw[Bx,decide_eq_true rfl];rfl
theorem WB(h:σ[i]?=some (.dict (Aw C) cn))(hn:(C.map (·.1)).Nodup)(hc:C.length<=4096):(Aa ((Aa (Cs (Bt (.obj i) λv3=>Aa (Aa (Aa (Aa (Ci (.obj i) v3) λy4=>ret [y4]) λy5=>ret (v3::y5)) λy6=>ret (.tup y6)) λy7=>ret [y7])) λl2=>ret (V.lst l2))) λx8=>Ab Ad (n+1) (.type "dict") [x8]) σ=.ok (.obj σ.length) (σ++[.dict (Aw C) C.length]):=by
 have e:(C.map (·.1)).flatMap (λa=>[V.tup [.int a,.int (AE C a)]])=C.map λp=>V.tup [.int p.1,.int p.2]:=by
  have:∀l:DI,(∀p∈l,p∈C)->(l.map (·.1)).flatMap (λa=>[V.tup [.int a,.int (AE C a)]])=l.map λp=>V.tup [.int p.1,.int p.2]:=by
   intro l;induction l with
   |nil=>intro _;rfl
   |cons p r ih=>
    intro hl;rw[List.map_cons,List.flatMap_cons,ih λq hq=>hl q (.tail _ hq)];have:AE C p.1=p.2:=by unfold AE;rw[MH hn (hl p (.head _))];rfl
    rw[this];rfl
  exact this C λ_ hp=>hp
 refine bk (a:=V.lst (C.map λp=>V.tup [.int p.1,.int p.2])) (σ':=σ) (bk (a:=C.map λp=>V.tup [.int p.1,.int p.2]) (σ':=σ) (Bk ?_) rfl) ?_
 ·refine Eq.trans (b:=Cg (.obj i) σ (λv3=>Aa (Aa (Aa (Aa (Ci (.obj i) v3) λy4=>ret [y4]) λy5=>ret (v3::y5)) λy6=>ret (.tup y6)) λy7=>ret [y7]) ((C.map (·.1)).map .int) σ) ?_ ?_
  ·show Aa (A5 (.obj i)) _ σ=_;refine bk (a:=(C.map (·.1)).map V.int) ?_ (congrFun (if_pos (by rw[List.length_map,List.length_map];exact hc)) σ);show(match σ[i]? with
    |some (.dict es _)=>C6.ok (es.map λp:V×V=>p.1) σ
    |some (.list l)=>.ok l σ
    |_=>.stuck)=_
   rw[h,<-IM]
  ·rw[Nz (F:=λa=>[V.tup [.int a,.int (AE C a)]]) (WK h) _ λa ha=>⟨?_,by show 1<=256;decide⟩,e];exact bk (a:=V.tup [.int a,.int (AE C a)]) (bk (a:=[V.int a,.int (AE C a)]) (bk (a:=[V.int (AE C a)]) (bk (Hd h ha) rfl) rfl) rfl) rfl
 ·show Eb (decide ((C.map λp=>V.tup [.int p.1,.int p.2]).length<=4096)) (match AZ (C.map λp=>V.tup [.int p.1,.int p.2]) (Aw []) with|some es=>Ej (.dict es es.length)|none=>AB) σ=_;rw[Mq (acc:=[]) hn hc,decide_eq_true (by rw[List.length_map];exact hc),List.nil_append];show C6.ok _ (σ++[AO.dict (Aw C) (Aw C).length])=_;rw[EU]
end
end
section
noncomputable section
section
variable{ad m s x f se fl fr sh off a v pl e:Int}
theorem rL{α β γ:Type}{f:Mo α}{g:α->Mo β}{h:β->Mo γ}{b:β}{σ σ':St}{R:C6 γ}(e:Aa f g σ=.ok b σ')(hr:h b σ'=R):Aa f (λa=>Aa (g a) h) σ=R:=(congrFun (B1 (f:=f) (g:=g) (k:=h)).symm σ).trans (bk e hr)
theorem JS:∀{l:DI},a∈l.map (·.1)->(BA l a v).map (·.1)=l.map (·.1)
 |(b,u)::r,h=>by
  rw[EN];by_cases c:b=a;·rw[if_pos c];rfl
  ·rw[if_neg c];rcases List.mem_cons.mp h with q|q;·exact absurd q.symm c
   ·rw[List.map_cons,JS q];rfl
theorem CW(l:DI)(a v j:Int):AE (BA l a v) j=if a=j then v else AE l j:=by unfold AE;rw[HK];split<;>rfl
theorem Yh(H:(W.map (·.1)).Nodup)(a v j:Int):AE (HZ W a v) j=if a=j then v else AE W j:=by
 unfold HZ;by_cases c:v=0;·rw[if_pos c];unfold AE;rw[Nl _ _ H,c];split<;>rfl
 ·rw[if_neg c];exact CW _ _ _ _
theorem Ag.cell(H:Ag g C W μ)(ha:a∈C.map (·.1))(h0:0<=v)(h1:v<2^30):Ag g (BA C a v) W μ:=by
 have e:=JS (v:=v) ha;exact{H with
  nc:=by rw[e];exact H.nc
  ck:=by rw[e];exact H.ck
  wk:=by rw[e];exact H.wk
  cl:=by have:=congrArg List.length e;rw[List.length_map,List.length_map]at this;rw[this];exact H.cl
  cb:=λj=>by
   rw[CW];split;·exact⟨h0,h1⟩
   ·exact H.cb j}
theorem Ag.put(H:Ag g C W μ)(ha:a∈C.map (·.1))(h0:0<=v)(h1:v<2^30):Ag g C (HZ W (a.fdiv (2^2)) v) (λj=>if j=a then v else μ j):=by
 have h4:=(H.ck a ha).2.2;have e4:a.fdiv (2^2)=a/4:=Int.fdiv_eq_ediv_of_nonneg _ (by decide);have hp:∀p∈HZ W (a.fdiv (2^2)) v,(p=(a.fdiv (2^2),v)/\v≠0)\/p∈W:=λp h=>by
  unfold HZ at h;by_cases c:v=0;·rw[if_pos c]at h;exact .inr (Li _ h)
  ·rw[if_neg c]at h;rcases MI _ _ h with q|q;·exact .inl ⟨q,c⟩
   ·exact .inr q
 exact{H with
  nw:=by
   unfold HZ;split;·exact OI _ H.nw
   ·exact Kr _ _ H.nw
  wz:=λp h=>by
   rcases hp p h with ⟨q,c⟩|q;·rw[q];exact c
   ·exact H.wz p q
  wk:=λp h=>by
   rcases hp p h with ⟨q,c⟩|q;·rw[q,e4];show 4*(a/4)∈_;rw[show 4*(a/4)=a by lia];exact ha
   ·exact H.wk p q
  eq:=λj=>by
   rw[Yh H.nw,e4,H.eq];by_cases c:a/4=j;·rw[if_pos c,if_pos (by lia)]
   ·rw[if_neg c,if_neg (by lia)]
  b:=λj=>by
   split;·exact⟨h0,h1⟩
   ·exact H.b j}
theorem Ag.cong(H:Ag g C W μ)(e:∀a,μ a=μ' a):Ag g C W μ':=by have:μ=μ':=funext e;rw[<-this];exact H
theorem DJ(w:Bj g μ ad k m s x P):∀{v pl e},P=.ok v pl e->e=BR (μ pl) k/\Bc (μ pl)=true/\AY (μ pl)=true:=by
 intro v pl e h;cases w<;>cases h;·exact⟨rfl,by assumption,by assumption⟩
 ·exact⟨rfl,by assumption,by assumption⟩
theorem iX(h0:0<=a)(h1:a<2^30)(k:Kd):0<=BR a k/\BR a k<2^30:=by refine B0 (Lz h0 k) λ_ h2 h3=>?_;refine⟨Int.le_trans h0 h2,Int.lt_mul_of_ediv_lt (b:=4194304) (c:=256) (by decide) ?_⟩;rw[h3];exact Int.ediv_lt_of_lt_mul (by decide) h1
theorem Ho(H:Ag g C W (AE C))(w:Bj g (AE C) ad k m s x R):Ag g (G6 C R) (JU (AE C) W R) (AE (G6 C R)):=by
 cases R with
 |af=>exact H
 |pf=>exact H
 |ok v pl e=>
  refine B0 (DJ w rfl) λe1 e2 _=>?_;have hk:pl∈C.map (·.1):=FF λc=>by rw[c]at e2;revert e2;decide
  refine AG (iX (H.cb pl).1 (H.cb pl).2 k) λb0 b1=>?_;rw[<-e1]at b0 b1;have q:JU (AE C) W (.ok v pl e)=if e=AE C pl then W else HZ W (pl.fdiv (2^2)) e:=rfl
  rw[q];show Ag g (BA C pl e) _ (AE (BA C pl e));by_cases c:e=AE C pl
  ·rw[if_pos c];refine(H.cell hk b0 b1).cong λj=>?_;rw[CW];split;·rename_i z;rw[c,z]
   ·rfl
  ·rw[if_neg c];refine((H.put hk b0 b1).cell hk b0 b1).cong λj=>?_;rw[CW];by_cases z:j=pl;·rw[if_pos z,if_pos z.symm]
   ·rw[if_neg z,if_neg (Ne.symm z)]
theorem UY(k:Kd)(ad:Int)(R:PR)(σ:St):Ap .Eq (Rh k ad R) (Rh k ad R) σ=.ok true σ:=by
 have h:=N7 k ad R;have q:Ap .Eq (Rh k ad R) (Rh k ad R) σ=Af (I9 (Rh k ad R) (Rh k ad R)) σ:=R.rec (by kernel_rfl) (by kernel_rfl) λ_ _ _=>by kernel_rfl
 rw[q,h];rfl
theorem gO(a b:Mo α):Bz .And true a b=b:=rfl
theorem KR(hm:BZ o "translate" σ=.ok q σ)(h:Ab Ad n q [o,.int 0,.int ad,k.v,.int m,.int s,.int x] σ=pY k ad σ' R):Ab Ad (n+1) (.ref 646) [o,.int ad,(BI f se fl fr k m s x sh off)] σ=.ok (Rh k ad R) σ':=by
 cases R with
 |af=>exact MP hm h
 |pf=>exact MP hm h
 |ok v pl e=>exact LQ hm h
theorem TF(ρ:St):oK C cn (SE g W wn C cn ρ) R=SE g W wn (G6 C R) (LJ C cn R) ρ:=R.rec rfl rfl λ_ _ _=>rfl
theorem eW(H:Ag g C W (AE C))(w:Bj g (AE C) ad k m s x R)(h0:0<=ad)(h1:ad<2^40)(hm:m=0\/m=1)(hx:x=0\/x=1):∃wn',Ab Ad (n+11) (.ref 656) [.obj 1,.obj 6,.obj 3,.int (Ar g),.int (AJ g),.int ad,(BI f se fl fr k m s x sh off)] (SE g W wn C cn [])=.ok (.bool true) (SE g (JU (AE C) W R) wn' (G6 C R) (LJ C cn R) [.dict (Aw C) C.length]):=by
 have hc:=H.cl;have hw:=H.wl;have HA:=Ho H w;have wb:∀{C W μ},Ag g C W μ->∀k∈W.map (·.1),k.natAbs<2^64:=λ{C W μ} H k hk=>by refine Au (List.mem_map.mp hk) λp hp eqq2=>?_;subst eqq2;have:=H.ck _ (H.wk p hp);have:B2 g<=32768:=g.rec (by decide) (by decide);lia
 refine AP (Zv (n:=n+1) (c:=.dict (Aw (G6 C R)) (LJ C cn R)) (wn:=wn) (ρ:=[.dict (Aw C) C.length]) w h0 h1 H.wrd) λwn' ht=>?_;refine⟨wn',?_⟩;refine AD (fe:=Ge) (by kernel_rfl) ?_;rw[Rb];refine bk (a:=V.int (B2 g)) (σ':=(SE g W wn C cn [])) (g.rec (by kernel_rfl) (by kernel_rfl)) ?_;refine rL (b:=V.obj 7) (σ':=(SE g W wn C cn [.dict (Aw C) C.length])) (WB (i:=3) (cn:=cn) rfl H.nc (by lia)) ?_;refine bk (a:=V.tup [Kz R,Lp k R]) (σ':=(SE g W wn (G6 C R) (LJ C cn R) [.dict (Aw C) C.length])) (by rw[<-Ot];exact(Ia w h0 hm hx H.cb rfl (by lia)).trans (by rw[TF])) ?_;refine br (Ac (Ac (Ac (Ac (A9 Ge [.obj 1,.obj 6,.obj 3,.int (Ar g),.int (AJ g),.int ad,(BI f se fl fr k m s x sh off)]) "end" (.int (B2 g))) "kept" (.obj 7)) "due" (Kz R)) "place" (Lp k R)) ?_;refine br (Ek.item (.int k.i)) ?_;refine bk (iW k _) ?_;refine br (V.obj 6) ?_;refine br (Value.ref 246) ?_;refine br (V.int ad) ?_;refine br (BI f se fl fr k m s x sh off) ?_;refine br (V.int m) ?_;refine br (BI f se fl fr k m s x sh off) ?_;refine br (V.lst [.int s,.int x]) ?_;refine br (V.int s) ?_;refine br (BI f se fl fr k m s x sh off) ?_;refine br (V.lst [.int s,.int x]) ?_;refine br (V.int x) ?_;refine bk (iV (n:=n+2) w h0 h1 H.wrd) ?_;refine bk (a:=nO k R) (σ':=(SE g W wn (G6 C R) (LJ C cn R) [.dict (Aw C) C.length])) (R.rec (by kernel_rfl) (by kernel_rfl) λ_ _ _=>by kernel_rfl) ?_;refine Dk (σ':=(SE g W wn (G6 C R) (LJ C cn R) [.dict (Aw C) C.length])) (MO (hU k R)) ?_;refine br (V.obj 1) ?_;refine bk (a:=Value.ref 457) (σ':=(SE g W wn (G6 C R) (LJ C cn R) [.dict (Aw C) C.length])) (g.rec (by kernel_rfl) (by kernel_rfl)) ?_;refine bk (LU (n:=n+8) (g:=g) rfl rfl (by lia) (wb H)) ?_;refine br (V.obj 7) ?_;refine bk (Kw (n:=n+8) (i:=7) rfl (by lia)) ?_;rw[<-KG H];refine Dk (MO (UW _)) ?_;refine br (V.obj 6) ?_;refine br (V.int ad) ?_;refine br (BI f se fl fr k m s x sh off) ?_;refine bk (KR (n:=n+9) (q:=Value.ref 217) (by kernel_rfl) ht) ?_;refine bk (a:=V.bool true) ?_ rfl;refine bk (a:=V.bool true) (σ':=(SE g (JU (AE C) W R) wn' (G6 C R) (LJ C cn R) [.dict (Aw C) C.length])) ?_ (bk (a:=true) (σ':=(SE g (JU (AE C) W R) wn' (G6 C R) (LJ C cn R) [.dict (Aw C) C.length])) rfl ?_);·exact bk (a:=true) (bk (a:=Rh k ad R) (by cases R<;>kernel_rfl) (bk (UY k ad R _) rfl)) rfl
 ·rw[gO];refine bk (a:=V.bool true) ?_ rfl;refine bk (a:=O3 (iJ (JU (AE C) W R))) (σ':=(SE g (JU (AE C) W R) wn' (G6 C R) (LJ C cn R) [.dict (Aw C) C.length])) ?_ ?_;·exact bk (a:=B4.meth (.ref 457) (.obj 1)) (by cases g<;>kernel_rfl) (LU (n:=n+8) (g:=g) rfl rfl (by have:=HA.wl;lia) (wb HA))
  ·refine bk (a:=true) (σ':=(SE g (JU (AE C) W R) wn' (G6 C R) (LJ C cn R) [.dict (Aw C) C.length])) (bk (a:=O3 (lJ (G6 C R))) (σ':=(SE g (JU (AE C) W R) wn' (G6 C R) (LJ C cn R) [.dict (Aw C) C.length])) ?_ ?_) rfl;·exact bk (a:=[V.obj 3]) (by kernel_rfl) (Kw (n:=n+8) (i:=3) rfl (by have:=HA.cl;lia))
   ·rw[<-KG HA];exact bk ZF rfl
end
end
end
section
noncomputable section
noncomputable def S8(n:Nat)(f5:Value)(x4:V)(x3:V)(a3:V)(a4:V)(a5:V)(a6:V)(a1:V)(a0:V)(a2:V):Mo Az:=Aa (Ab Ad n f5 [x4,(.tup [x3,a3,a4,a5,a6,a1])]) λx6=>Aa (Ap .Is x6 .none) λq7=>if q7=true then Aa (at_ a0 "walker") λx8=>Aa (BZ x8 "translate") λf9=>Aa (Ab Ad n f9 [x8,a1,a2,a3,a4,a5,a6]) λx10=>Aa (at_ a0 "known") λx11=>Aa (Ab Ad n (.builtin "len") [x11]) λx12=>Aa (at_ a0 "room") λx13=>Aa (Ap .GtE x12 x13) λq14=>if q14=true then Aa (Ej (.dict [] 0)) λx15=>Aa (iC a0 "known" x15) λ_=>Aa (at_ a0 "layout") λx16=>Aa (BZ x16 "down") λf17=>Aa (Ab Ad n f17 [x16,x10]) λx18=>Aa (at_ a0 "known") λx19=>Aa (A8 x19 (.tup [x3,a3,a4,a5,a6,a1]) x18) λ_=>ret (.rets x10) else Aa (at_ a0 "layout") λx20=>Aa (BZ x20 "down") λf21=>Aa (Ab Ad n f21 [x20,x10]) λx22=>Aa (at_ a0 "known") λx23=>Aa (A8 x23 (.tup [x3,a3,a4,a5,a6,a1]) x22) λ_=>ret (.rets x10) else Aa (at_ a0 "layout") λx24=>Aa (at_ x24 "page") λx25=>Aa (Aj .Sub x25 (.int 1)) λx26=>Aa (Aj .BitAnd a2 x26) λx27=>Aa (Aj .BitOr x6 x27) λx28=>ret (.rets x28)
noncomputable def dN(n:Nat)(a0 a1 a2 a3 a4 a5 a6:V):Mo Az:=Aa (at_ a0 "layout") λx1=>Aa (at_ x1 "page_bits") λx2=>Aa (Aj .RShift a2 x2) λx3=>Aa (at_ a0 "known") λx4=>Aa (BZ x4 "get") λf5=>S8 n f5 x4 x3 a3 a4 a5 a6 a1 a0 a2
theorem GW(n:Nat)(a0 a1 a2 a3 a4 a5 a6:V):Bg Ad (Ab Ad n) GD [a0,a1,a2,a3,a4,a5,a6]=dN n a0 a1 a2 a3 a4 a5 a6:=by kernel_rfl
noncomputable def AU(q:Int)(k:Kd)(m s x:Int):V:=.tup [.int q,k.v,.int m,.int s,.int x,.int 0]
noncomputable def lN(r:Int)(i:Nat):AO:=.inst 285 [("walker",.obj 6),("layout",.obj 0),("room",.int r),("known",.obj i)]
noncomputable def Ds(g:Bool)(a:Int):Int:=Builtin.bitAnd a (Builtin.bitNot (Ar g-1))
noncomputable def SQ(g:Bool)(W:DI)(wn:Nat)(c:AO)(r:Int)(j:Nat)(ρ:St):St:=SX (Ai g) g (Aw W) wn c (lN r (j+8)::ρ)
section
variable{n j wn en:Nat}{ad m s x a b r q:Int}
theorem Kg(h:(es.all λp=>LY p.1)=true):As es (AU q k m s x)=true:=by show(B3 (AU q k m s x)&&es.all λp=>LY p.1)=true;rw[h];cases k<;>rfl
theorem eM(hs:σ[i]?=some (.dict es en))(hk:As es v=true):Ab Ad (n+1) (.builtin "dict.get") [.obj i,v] σ=.ok ((AI es v).getD .none) σ:=by show BJ i (λes _=>Eb (As es v) (ret ((AI es v).getD .none))) σ=_;unfold BJ;rw[hs];exact Dv hk
theorem Xo(hs:σ[i]?=some (.dict es en))(hl:es.length<=4096):Ab Ad (n+1) (.builtin "len") [.obj i] σ=.ok (.int es.length) σ:=by show BJ i (λes _=>Eb (decide (es.length<=4096)) (ret (.int es.length))) σ=_;unfold BJ;rw[hs];exact Dv (decide_eq_true hl)
theorem oW(hs:σ[i]?=some (.dict es en))(hk:As es v=true)(hl:es.length<=4096)(hn:AI es v=none)(b:Int):A8 (.obj i) v (.int b) σ=.ok () (σ.set i (.dict (Bl es v (.int b)) (en+1))):=by
 show(match σ[i]? with
  |some (.dict es n)=>if(As es v&&decide (es.length<=4096)&&Ba (.int b))=true then C6.ok () (σ.set i (.dict (Bl es v (.int b)) (if(AI es v).isSome=true then n else n+1))) else .stuck
  |_=>.stuck)=_
 rw[hs];show(if(As es v&&decide (es.length<=4096)&&Ba (.int b))=true then C6.ok () (σ.set i (.dict (Bl es v (.int b)) (if(AI es v).isSome=true then en else en+1))) else .stuck)=_;rw[hk,decide_eq_true hl,hn];rfl
theorem UB(h:σ[i]?=some (.dict es en)):BZ (.obj i) "get" σ=.ok (.builtin "dict.get") σ:=by rw[nE,h];rfl
theorem ZR(hj:ρ[j]?=some (.dict es en))(ht:(es.all λp=>LY p.1)=true)(hd:AI es (AU (ad.fdiv (Ar g)) k m s x)=some (.int b)):Ab Ad (n+9) (.ref 276) [.obj 7,.int 0,.int ad,k.v,.int m,.int s,.int x] (SQ g W wn c r j ρ)=.ok (.int (Builtin.bitOr b (Builtin.bitAnd ad (Ar g-1)))) (SQ g W wn c r j ρ):=by refine AD (fe:=GD) (by kernel_rfl) ?_;rw[GW];refine br (V.obj 0) ?_;refine bk (a:=V.int (LX g)) (σ':=(SQ g W wn c r j ρ)) (g.rec (by kernel_rfl) (by kernel_rfl)) ?_;refine bk (a:=V.int (ad.fdiv (Ar g))) (σ':=(SQ g W wn c r j ρ)) (g.rec (by kernel_rfl) (by kernel_rfl)) ?_;refine br (V.obj (j+8)) ?_;refine bk (UB (i:=j+8) hj) ?_;refine bk (a:=V.int b) (σ':=(SQ g W wn c r j ρ)) ((eM (i:=j+8) hj (Kg ht)).trans (by rw[hd];rfl)) ?_;refine Dk (σ':=(SQ g W wn c r j ρ)) (by kernel_rfl) ?_;refine br (V.obj 0) ?_;refine bk (a:=V.int (Ar g)) (σ':=(SQ g W wn c r j ρ)) (g.rec (by kernel_rfl) (by kernel_rfl)) ?_;refine br (V.int (Ar g-1)) ?_;refine br (V.int (Builtin.bitAnd ad (Ar g-1))) ?_;rfl
theorem OX(hj:ρ[j]?=some (.dict es en))(ht:(es.all λp=>LY p.1)=true)(hd:AI es (AU (ad.fdiv (Ar g)) k m s x)=none)(h:Ab Ad (n+1) (.ref 217) [.obj 6,.int 0,.int ad,k.v,.int m,.int s,.int x] (SQ g W wn c r j ρ)=.exc y σ'):Ab Ad (n+2) (.ref 276) [.obj 7,.int 0,.int ad,k.v,.int m,.int s,.int x] (SQ g W wn c r j ρ)=.exc y σ':=by refine B6 (fe:=GD) (by kernel_rfl) ?_;rw[GW];refine br (V.obj 0) ?_;refine bk (a:=V.int (LX g)) (σ':=(SQ g W wn c r j ρ)) (g.rec (by kernel_rfl) (by kernel_rfl)) ?_;refine bk (a:=V.int (ad.fdiv (Ar g))) (σ':=(SQ g W wn c r j ρ)) (g.rec (by kernel_rfl) (by kernel_rfl)) ?_;refine br (V.obj (j+8)) ?_;refine bk (UB (i:=j+8) hj) ?_;refine bk (a:=V.none) (σ':=(SQ g W wn c r j ρ)) ((eM (i:=j+8) hj (Kg ht)).trans (by rw[hd];rfl)) ?_;refine Ja (σ':=(SQ g W wn c r j ρ)) (by kernel_rfl) ?_;refine br (V.obj 6) ?_;refine br (Value.ref 217) ?_;exact AQ h
theorem dS(hj:ρ[j]?=some (.dict es en))(ht:(es.all λp=>LY p.1)=true)(hd:AI es (AU (ad.fdiv (Ar g)) k m s x)=none)(hr:(es.length:Int)<r)(hl:es.length<=4096)(h:Ab Ad (n+1) (.ref 217) [.obj 6,.int 0,.int ad,k.v,.int m,.int s,.int x] (SQ g W wn c r j ρ)=.ok (.int a) (SQ g W' wn' c r j ρ)):Ab Ad (n+2) (.ref 276) [.obj 7,.int 0,.int ad,k.v,.int m,.int s,.int x] (SQ g W wn c r j ρ)=.ok (.int a) (SQ g W' wn' c r j (ρ.set j (.dict (Bl es (AU (ad.fdiv (Ar g)) k m s x) (.int (Ds g a))) (en+1)))):=by refine AD (fe:=GD) (by kernel_rfl) ?_;rw[GW];refine br (V.obj 0) ?_;refine bk (a:=V.int (LX g)) (σ':=(SQ g W wn c r j ρ)) (g.rec (by kernel_rfl) (by kernel_rfl)) ?_;refine bk (a:=V.int (ad.fdiv (Ar g))) (σ':=(SQ g W wn c r j ρ)) (g.rec (by kernel_rfl) (by kernel_rfl)) ?_;refine br (V.obj (j+8)) ?_;refine bk (UB (i:=j+8) hj) ?_;refine bk (a:=V.none) (σ':=(SQ g W wn c r j ρ)) ((eM (i:=j+8) hj (Kg ht)).trans (by rw[hd];rfl)) ?_;refine Ja (σ':=(SQ g W wn c r j ρ)) (by kernel_rfl) ?_;refine br (V.obj 6) ?_;refine br (Value.ref 217) ?_;refine bk (h) ?_;refine br (V.obj (j+8)) ?_;refine bk (Xo (i:=j+8) hj hl) ?_;refine br (V.int r) ?_;refine Dk (σ':=(SQ g W' wn' c r j ρ)) (EL (q:=(es.length:Int)≥r) rfl (by lia)) ?_;refine br (V.obj 0) ?_;refine bk (a:=Value.ref 132) (σ':=(SQ g W' wn' c r j ρ)) (g.rec (by kernel_rfl) (by kernel_rfl)) ?_;refine bk (bW n g a _) ?_;refine br (V.obj (j+8)) ?_;refine bk (oW (i:=j+8) hj (Kg ht) hl hd (Ds g a)) ?_;rfl
noncomputable def qR(g:Bool)(ad:Int)(k:Kd)(m s x:Int)(es:List (V×V))(en j:Nat)(ρ:St):PR->St
 |.af=>ρ
 |.pf=>ρ
 |.ok v _ _=>ρ.set j (.dict (Bl es (AU (ad.fdiv (Ar g)) k m s x) (.int (Ds g v))) (en+1))
theorem mF(hj:ρ[j]?=some (.dict es en))(ht:(es.all λp=>LY p.1)=true)(hd:AI es (AU (ad.fdiv (Ar g)) k m s x)=none)(hr:(es.length:Int)<r)(hl:es.length<=4096)(w:Bj g μ ad k m s x R)(h0:0<=ad)(h1:ad<2^40)(H:Wy W μ):∃wn',Ab Ad (n+9) (.ref 276) [.obj 7,.int 0,.int ad,k.v,.int m,.int s,.int x] (SQ g W wn c r j ρ)=pY k ad (SQ g (JU μ W R) wn' c r j (qR g ad k m s x es en j ρ R)) R:=by
 refine AP (Zv (n:=n) (c:=c) (wn:=wn) (ρ:=lN r (j+8)::ρ) w h0 h1 H) λwn' h=>?_;refine⟨wn',?_⟩;cases R with
 |af=>exact OX hj ht hd h
 |pf=>exact OX hj ht hd h
 |ok v pl e=>exact dS (n:=n+7) hj ht hd hr hl h
end
end
end
section
noncomputable section
noncomputable def aQ(n:Nat)(a0:V):Mo Az:=Aa (Ap .Is .none .none) λq1=>if q1=true then Aa (Ej (.dict [] 0)) λx2=>Aa (iC a0 "known" x2) λ_=>ret (.rets .none) else Aa (at_ a0 "layout") λx3=>Aa (at_ x3 "page_bits") λx4=>Aa (Aj .RShift .none x4) λx5=>Aa ((Aa (Cs (Aa (at_ a0 "known") λs14=>Bt s14 λv7=>Aa (Aa (Aa (Ci v7 (.int 0)) λy12=>Aa (Ap .NotEq y12 x5) λq13=>ret q13) λq11=>if q11=true then ret true else ret false) λq10=>if q10=true then Aa (Aa (at_ a0 "known") λy8=>Ci y8 v7) λy9=>ret [.tup [v7,y9]] else ret [])) λl6=>Ew l6 [])) λx15=>Aa (iC a0 "known" x15) λ_=>ret (.next (Ac (A9 HF [a0]) "number" x5))
theorem RN(n:Nat)(a0:V):Bg Ad (Ab Ad n) HF [a0]=aQ n a0:=by kernel_rfl
noncomputable def Z7(n:Nat)(a0 a1:V):Mo Az:=Aa (Ap .Is a1 .none) λq1=>if q1=true then Aa (Ej (.dict [] 0)) λx2=>Aa (iC a0 "known" x2) λ_=>ret (.rets .none) else Aa (at_ a0 "layout") λx3=>Aa (at_ x3 "page_bits") λx4=>Aa (Aj .RShift a1 x4) λx5=>Aa ((Aa (Cs (Aa (at_ a0 "known") λs14=>Bt s14 λv7=>Aa (Aa (Aa (Ci v7 (.int 0)) λy12=>Aa (Ap .NotEq y12 x5) λq13=>ret q13) λq11=>if q11=true then ret true else ret false) λq10=>if q10=true then Aa (Aa (at_ a0 "known") λy8=>Ci y8 v7) λy9=>ret [.tup [v7,y9]] else ret [])) λl6=>Ew l6 [])) λx15=>Aa (iC a0 "known" x15) λ_=>ret (.next (Ac (A9 GI [a0,a1]) "number" x5))
theorem Rm(n:Nat)(a0 a1:V):Bg Ad (Ab Ad n) GI [a0,a1]=Z7 n a0 a1:=by kernel_rfl
section
variable{n j wn en:Nat}{ad m s x b r q:Int}
theorem ZV(es:List (V×V))(en:Nat):Ej (.dict es en) (SQ g W wn c r j ρ)=.ok (.obj (ρ.length+8)) (SQ g W wn c r j (ρ++[.dict es en])):=rfl
theorem lM(es:List (V×V))(en:Nat):iC (.obj 7) "known" (.obj (ρ.length+8)) (SQ g W wn c r j (ρ++[.dict es en]))=.ok () (SQ g W wn c r ρ.length (ρ++[.dict es en])):=by kernel_rfl
theorem gK:Ab Ad (n+1) (.ref 282) [.obj 7] (SQ g W wn c r j ρ)=.ok .none (SQ g W wn c r ρ.length (ρ++[.dict [] 0])):=by refine AD (fe:=HF) (by kernel_rfl) ?_;rw[RN];refine Ja (σ':=(SQ g W wn c r j ρ)) (by kernel_rfl) ?_;exact bk (ZV [] 0) (bk (lM [] 0) rfl)
theorem ZM(h:σ[i]?=some (.dict [(kv,v)] en))(hf:f kv σ=.ok xs σ)(hx:xs.length<=256):Bt (.obj i) f σ=.ok xs σ:=by
 have st:stays (.obj i) σ σ=true:=by
  show(match σ[i]?,σ[i]? with
   |some (.dict es n),some (.dict es' n')=>decide (n=n')&&A6 (es.map (·.1)) (es'.map (·.1))
   |some (.list l),some (.list l')=>A6 l l'
   |_,_=>false)=true
  rw[h];show(decide (en=en)&&A6 [kv] [kv])=true;rw[Bx,decide_eq_true rfl];rfl
 show Aa (A5 (.obj i)) _ σ=_;refine bk (a:=[kv]) ?_ ((congrFun (if_pos (Nat.le_of_ble_eq_true rfl)) σ).trans ?_)
 ·show(match σ[i]? with
   |some (.dict es _)=>C6.ok (es.map λp:V×V=>p.1) σ
   |some (.list l)=>.ok l σ
   |_=>.stuck)=_
  rw[h];rfl
 ·refine(bk hf (bk (a:=()) ?_ rfl)).trans (congrArg (C6.ok · σ) (List.append_nil xs));show(if(stays (.obj i) σ σ&&decide (xs.length<=256))=true then C6.ok () σ else .stuck)=_;rw[st,decide_eq_true hx];rfl
theorem rQ(h:σ[i]?=some (.dict [(AU q k m s x,v)] en)):Ci (.obj i) (AU q k m s x) σ=.ok v σ:=by
 show(match σ[i]? with
  |some (.dict es _)=>(match As es (AU q k m s x),AI es (AU q k m s x) with|true,some v=>C6.ok v σ|_,_=>.stuck)
  |_=>.stuck)=_
 rw[h];show(match As [(AU q k m s x,v)] (AU q k m s x),(if Ay (AU q k m s x) (AU q k m s x)=true then some v else none) with|true,some v=>C6.ok v σ|_,_=>.stuck)=_;rw[Kg rfl,BX];rfl
theorem Vk(hl:(Bt (.obj (j+8)) λv7=>Aa (Aa (Aa (Ci v7 (.int 0)) λy12=>Aa (Ap .NotEq y12 (.int (ad.fdiv (Ar g)))) λq13=>ret q13) λq11=>if q11=true then ret true else ret false) λq10=>if q10=true then Aa (Aa (at_ (.obj 7) "known") λy8=>Ci y8 v7) λy9=>ret [.tup [v7,y9]] else ret []) (SQ g W wn c r j ρ)=.ok l (SQ g W wn c r j ρ))(hd:AZ l []=some es'):Ab Ad (n+1) (.ref 282) [.obj 7,.int ad] (SQ g W wn c r j ρ)=.ok .none (SQ g W wn c r ρ.length (ρ++[.dict es' es'.length])):=by refine BC (fe:=GI) (fr:=Ac (A9 GI [.obj 7,.int ad]) "number" (.int (ad.fdiv (Ar g)))) (by kernel_rfl) ?_;rw[Rm];refine Dk (σ':=(SQ g W wn c r j ρ)) (by kernel_rfl) ?_;refine br (V.obj 0) ?_;refine bk (a:=V.int (LX g)) (σ':=(SQ g W wn c r j ρ)) (g.rec (by kernel_rfl) (by kernel_rfl)) ?_;refine bk (a:=V.int (ad.fdiv (Ar g))) (σ':=(SQ g W wn c r j ρ)) (g.rec (by kernel_rfl) (by kernel_rfl)) ?_;refine bk (a:=V.obj (ρ.length+8)) (σ':=SQ g W wn c r j (ρ++[.dict es' es'.length])) ?_ (bk (lM es' es'.length) rfl);refine bk (a:=l) (Bk (bk (a:=V.obj (j+8)) (by kernel_rfl) hl)) ?_;show(match AZ l [] with|some es=>Ej (.dict es es.length)|none=>AB) (SQ g W wn c r j ρ)=_;rw[hd];exact ZV _ _
theorem W9(hj:ρ[j]?=some (.dict [(AU q k m s x,.int b)] en))(hq:q≠ad.fdiv (Ar g)):Ab Ad (n+1) (.ref 282) [.obj 7,.int ad] (SQ g W wn c r j ρ)=.ok .none (SQ g W wn c r ρ.length (ρ++[.dict [(AU q k m s x,.int b)] 1])):=by
 refine Vk (l:=[.tup [AU q k m s x,.int b]]) (ZM (i:=j+8) hj ?_ (Nat.le_of_ble_eq_true rfl)) ?_;·refine Ja (σ':=(SQ g W wn c r j ρ)) (Ja (σ':=(SQ g W wn c r j ρ)) (bk (a:=V.int q) (σ':=(SQ g W wn c r j ρ)) (by kernel_rfl) (bk (YJ hq) rfl)) rfl) ?_;exact bk (bk (a:=V.obj (j+8)) (by kernel_rfl) (rQ (i:=j+8) hj)) rfl
 ·show(if(As [] (AU q k m s x)&&decide ((0:Nat)<=4096))=true then AZ [] (Bl [] (AU q k m s x) (.int b)) else none)=_;rw[Kg rfl];rfl
theorem YQ(hj:ρ[j]?=some (.dict [(AU q k m s x,.int b)] en))(hq:q=ad.fdiv (Ar g)):Ab Ad (n+1) (.ref 282) [.obj 7,.int ad] (SQ g W wn c r j ρ)=.ok .none (SQ g W wn c r ρ.length (ρ++[.dict [] 0])):=by refine Vk (l:=[]) (ZM (i:=j+8) hj ?_ (Nat.le_of_ble_eq_true rfl)) rfl;exact Dk (Dk (bk (a:=V.int q) (by kernel_rfl) (bk (Jn hq) rfl)) rfl) rfl
end
end
end
section
noncomputable section
section
variable{ad m s x v pl e c b:Int}
theorem SR(hc:0<c)(h:Av e c=0):Av (e+c) c=1:=by
 unfold Av at *;rw[Int.fdiv_eq_ediv_of_nonneg _ (Int.le_of_lt hc),Int.fmod_eq_emod_of_nonneg _ (by decide)]at *;have:=Int.add_mul_ediv_left e (b:=c) 1 (by(clear h;lia));rw[Int.mul_one]at this;rw[this]
 (clear this hc;lia)
theorem IQ(e b:Int):AN e b=if Av e b=0 then e+b else e:=rfl
theorem Bv(t:Int)(hc:0<c)(h:b=c*(2*t)):Av (AN e b) c=Av e c:=by
 rw[IQ];split;·rw[h];exact Mh e t hc
 ·rfl
theorem Bw(hb:0<b):Av (AN e b) b=1:=by
 rw[IQ];split;·rename_i h;exact SR hb h
 ·have:=CH e b;(clear hb;lia)
theorem DM(h:Av e b=1):AN e b=e:=by rw[IQ,if_neg (by lia)]
theorem Ck(hc:c=1\/c=2\/c=4\/c=8\/c=16):Av (BR e k) c=Av e c:=by
 have h:∀e,Av (AN e 64) c=Av e c/\Av (AN e 128) c=Av e c:=λe=>by
  rcases hc with rfl|rfl|rfl|rfl|rfl;·exact⟨Bv 32 (by decide) rfl,Bv 64 (by decide) rfl⟩
  ·exact⟨Bv 16 (by decide) rfl,Bv 32 (by decide) rfl⟩
  ·exact⟨Bv 8 (by decide) rfl,Bv 16 (by decide) rfl⟩
  ·exact⟨Bv 4 (by decide) rfl,Bv 8 (by decide) rfl⟩
  ·exact⟨Bv 2 (by decide) rfl,Bv 4 (by decide) rfl⟩
 cases k with
 |fe=>exact(h e).1
 |lo=>exact(h e).1
 |st=>exact(h _).2.trans (h e).1
theorem PN:BR (BR e k) k=BR e k:=by
 cases k with
 |fe=>exact DM (Bw (by decide))
 |lo=>exact DM (Bw (by decide))
 |st=>show AN (AN (AN (AN e 64) 128) 64) 128=AN (AN e 64) 128;rw[DM (e:=AN (AN e 64) 128) (b:=64) ((Bv 1 (by decide) rfl).trans (Bw (by decide)))];exact DM (Bw (by decide))
theorem ND(h:0<=e)(k:Kd):0<=BR e k:=by have:=(Lz h k).2.1;lia
theorem mG{a b:Bool}(h:(!a) = !b):a=b:=by cases a<;>cases b<;>first|rfl|cases h
theorem Q1(h:0<=e):Bc (BR e k)=Bc e:=by refine mG ((Cv (ND h k)).symm.trans (Eq.trans ?_ (Cv h)));unfold c1;rw[Ck (c:=1) (by decide),Ck (c:=4) (by decide),Ck (c:=2) (by decide)]
theorem Uj(h:0<=e):AY (BR e k)=AY e:=by refine mG ((CT (ND h k)).symm.trans (Eq.trans ?_ (CT h)));unfold c2;rw[Ck (c:=8) (by decide),Ck (c:=2) (by decide)]
theorem WW(h:0<=e):CE k' m s x (BR e k)=CE k' m s x e:=by rw[GJ (ND h k),GJ h,Ck (c:=2) (by decide),Ck (c:=4) (by decide),Ck (c:=8) (by decide),Ck (c:=16) (by decide)]
theorem Xa(h:0<=e)(g:Bool):bse g (BR e k)=bse g e:=by have:=(Lz h k).2.2;unfold bse;rw[Int.fdiv_eq_ediv_of_nonneg _ (by decide),Int.fdiv_eq_ediv_of_nonneg _ (by decide),show BR e k/1024=e/1024 by rw[show(1024:Int)=256*4 from rfl,<-Int.ediv_ediv_of_nonneg (by decide),this,Int.ediv_ediv_of_nonneg (by decide)]]
structure YI(g:Bool)(μ μ':Int->Int):Prop where
 sound:∀a,Bc (μ' a)=Bc (μ a)
 leaf:∀a,AY (μ' a)=AY (μ a)
 may:∀a k m s x,CE k m s x (μ' a)=CE k m s x (μ a)
 bse:∀a,bse g (μ' a)=bse g (μ a)
theorem KS(hb:0<=μ pl)(k:Kd)(hm:∀a,μ' a=if pl=a then BR (μ pl) k else μ a):YI g μ μ' where
 sound:=λa=>by rw[hm];split;rename_i h;rw[<-h];exact Q1 hb;rfl
 leaf:=λa=>by rw[hm];split;rename_i h;rw[<-h];exact Uj hb;rfl
 may:=λa k m s x=>by rw[hm];split;rename_i h;rw[<-h];exact WW hb;rfl
 bse:=λa=>by rw[hm];split;rename_i h;rw[<-h];exact Xa hb g;rfl
theorem YI.gdd(S:YI g μ μ')(a:Int):gd g tp k m s x (μ' a)=gd g tp k m s x (μ a):=by unfold gd;rw[S.bse,S.may]
set_option tactic.hygienic true in
theorem Iu(w:Bj g μ ad k m s x P)(S:YI g μ μ'):∀{v pl e},P=.ok v pl e->Bj g μ' ad k m s x (.ok v pl (BR (μ' pl) k)):=by
 intro v pl e hP;have e2:∀a,P2 g (μ' a) ad=P2 g (μ a) ad:=λa=>by unfold P2;rw[S.bse]
 cases w<;>cases hP;·rename_i h s1 l1 q;have:=Bj.big (μ:=μ') h ((S.sound _).trans s1) ((S.leaf _).trans l1) ((S.gdd _).trans q);rw[S.bse]at this;exact this
 ·rename_i h s1 l1 o s2 l2 q;have:=Bj.good (μ:=μ') h ((S.sound _).trans s1) ((S.leaf _).trans l1) (by rw[e2];exact o) (by rw[e2];exact(S.sound _).trans s2) (by rw[e2];exact(S.leaf _).trans l2) (by rw[e2];exact(S.gdd _).trans q);rw[e2,S.bse]at this;exact this
set_option tactic.hygienic true in
theorem QS(w:Bj g μ ad k m s x P):∀{v pl e},P=.ok v pl e->(∀a,μ' a=if a=pl then 0 else μ a)->Bj g μ' ad k m s x .pf:=by
 intro v pl e hP hm;have z:Bc 0=false:=by decide
 cases w<;>cases hP;·rename_i h s1 l1 q;exact .uns1 h (by rw[hm,if_pos rfl];exact z)
 ·rename_i h s1 l1 o s2 l2 q;have ne:P1 g ad≠P2 g (μ (P1 g ad)) ad:=λc=>by
   rw[<-c,l1]at l2;cases l2
  have e1:μ' (P1 g ad)=μ (P1 g ad):=by rw[hm,if_neg ne]
  exact .uns2 h (by rw[e1];exact s1) (by rw[e1];exact l1) (by rw[e1];exact o) (by rw[e1,hm,if_pos rfl];exact z)
end
end
end
section
noncomputable section
noncomputable def TU(a0:V)(a2:V)(a6:V)(n:Nat)(a4:V)(x42:V)(a3:V):Mo Az:=Aa (BZ a0 "put_word") λf43=>Aa (Ci a2 a6) λx44=>Aa (Ab Ad n f43 [a0,a6,x44]) λx45=>By x45 (Aa (Aa (Ci a4 (.int 4)) λk=>ret (Ek.item k)) λi46=>Aa (B9 (El 0) (.lst [(.int 12),(.int 13),(.int 15)]) i46) λx47=>Aa (Ap .Eq x42 (.tup [x47,a3])) λq48=>ret (.rets (.bool q48)))
noncomputable def Tx(a2:V)(a6:V)(n:Nat)(f33:Value)(a0:V)(x3:V)(a3:V)(a4:V)(a5:V):Mo Az:=Aa (Ci a2 a6) λx34=>Aa (Ab Ad n f33 [a0,a6,x34]) λx35=>By x35 (Aa (Ab Ad n (.ref 646) [x3,a3,a4]) λx36=>Aa (Ap .NotEq x36 a5) λq37=>if q37=true then ret (.rets (.bool false)) else Aa (BZ a0 "put_word") λf38=>Aa (Ab Ad n f38 [a0,a6,(.int 0)]) λx39=>By x39 (Aa (BZ x3 "forget") λf40=>Aa (Ab Ad n f40 [x3]) λx41=>By x41 (Aa (Ab Ad n (.ref 646) [x3,a3,a4]) λx42=>TU a0 a2 a6 n a4 x42 a3)))
noncomputable def Up(x3:V)(n:Nat)(a3:V)(a4:V)(a0:V)(a2:V)(a6:V)(a5:V):Mo Az:=Aa (BZ x3 "forget") λf27=>Aa (Ab Ad n f27 [x3,a3]) λx28=>By x28 (Aa (Ab Ad n (.ref 646) [x3,a3,a4]) λx29=>Aa (Aa (Ci a4 (.int 4)) λk=>ret (Ek.item k)) λi30=>Aa (B9 (El 0) (.lst [(.int 12),(.int 13),(.int 15)]) i30) λx31=>Aa (Ap .NotEq x29 (.tup [x31,a3])) λq32=>if q32=true then ret (.rets (.bool false)) else Aa (BZ a0 "put_word") λf33=>Tx a2 a6 n f33 a0 x3 a3 a4 a5)
noncomputable def Wo(x3:V)(a3:V)(x4:V)(a1:V)(n:Nat)(a4:V)(a5:V)(a0:V)(a2:V)(a6:V):Mo Az:=Aa (BZ x3 "forget") λf20=>Aa (Aj .Add a3 x4) λx21=>Aa (at_ a1 "end") λx22=>Aa (Aj .Mod x21 x22) λx23=>Aa (Ab Ad n f20 [x3,x23]) λx24=>By x24 (Aa (Ab Ad n (.ref 646) [x3,a3,a4]) λx25=>Aa (Ap .NotEq x25 a5) λq26=>if q26=true then ret (.rets (.bool false)) else Up x3 n a3 a4 a0 a2 a6 a5)
noncomputable def VB(n:Nat)(x3:V)(x13:V)(a4:V)(a5:V)(x4:V)(a3:V)(a1:V)(a0:V)(a2:V)(a6:V):Mo Az:=Aa (Ab Ad n (.ref 646) [x3,x13,a4]) λx14=>Aa (Aj .Mod a5 x4) λx15=>Aa (Aj .Sub a5 x15) λx16=>Aa (Aj .Mod x13 x4) λx17=>Aa (Aj .Add x16 x17) λx18=>Aa (Ap .NotEq x14 x18) λq19=>if q19=true then ret (.rets (.bool false)) else Wo x3 a3 x4 a1 n a4 a5 a0 a2 a6
noncomputable def Tj(a0:V)(n:Nat)(a6:V)(a3:V)(x4:V)(x3:V)(a4:V)(a5:V)(a1:V)(a2:V):Mo Az:=Aa (BZ a0 "put_word") λf7=>Aa (Ab Ad n f7 [a0,a6,(.int 0)]) λx8=>By x8 (Aa (Aj .Mod a3 x4) λx9=>Aa (Aj .Sub a3 x9) λx10=>Aa (Aj .Add a3 (.int 5)) λx11=>Aa (Aj .Mod x11 x4) λx12=>Aa (Aj .Add x10 x12) λx13=>VB n x3 x13 a4 a5 x4 a3 a1 a0 a2 a6)
noncomputable def gD(n:Nat)(a0 a1 a2 a3 a4 a5 a6:V):Mo Az:=Aa (Ab Ad n (.ref 616) [a0]) λx1=>Aa (Ab Ad n (.ref 249) [x1,a1]) λx2=>Aa (Ab Ad n (.ref 285) [x2,(.int 2)]) λx3=>Aa (at_ a1 "page") λx4=>Aa (Ab Ad n (.ref 646) [x3,a3,a4]) λx5=>Aa (Ap .NotEq x5 a5) λq6=>if q6=true then ret (.rets (.bool false)) else Tj a0 n a6 a3 x4 x3 a4 a5 a1 a2
theorem QK(n:Nat)(a0 a1 a2 a3 a4 a5 a6:V):Bg Ad (Ab Ad n) La [a0,a1,a2,a3,a4,a5,a6]=gD n a0 a1 a2 a3 a4 a5 a6:=by kernel_rfl
section
variable{ad m s x f se fl fr sh off a v pl e q r:Int}
theorem Np(g:Bool)(W C:List (V×V))(wn cn:Nat):Ab Ad (n+2) (.ref 616) [.obj 1] (Ai g::Bm g::.dict W wn::.dict C cn::[])=.ok (.obj 4) (Ai g::Bm g::.dict W wn::.dict C cn::Ey::.list []::[]):=g.rec (by kernel_rfl) (by kernel_rfl)
theorem NL(g:Bool)(W C:List (V×V))(wn cn:Nat):Ab Ad (n+2) (.ref 249) [.obj 4,.obj 0] (Ai g::Bm g::.dict W wn::.dict C cn::Ey::.list []::[])=.ok (.obj 6) (Ai g::Bm g::.dict W wn::.dict C cn::Ey::.list []::Fw::[]):=g.rec (by kernel_rfl) (by kernel_rfl)
theorem VS(g:Bool)(W:DI)(C:List (V×V))(wn cn:Nat):Ab Ad (n+2) (.ref 285) [.obj 6,.int 2] (Ai g::Bm g::.dict (Aw W) wn::.dict C cn::Ey::.list []::Fw::[])=.ok (.obj 7) (SQ g W wn (.dict C cn) 2 0 [.dict [] 0]):=g.rec (by kernel_rfl) (by kernel_rfl)
theorem NT(g:Bool)(W:DI)(C:List (V×V))(wn cn:Nat):Ab Ad (n+2) (.ref 285) [.obj 6,.int 20] (Ai g::Bm g::.dict (Aw W) wn::.dict C cn::Ey::.list []::Fw::[])=.ok (.obj 7) (SQ g W wn (.dict C cn) 20 0 [.dict [] 0]):=g.rec (by kernel_rfl) (by kernel_rfl)
theorem YN(H:Ag g C W μ)(ha:a∈C.map (·.1))(h0:0<=v)(h1:v<2^30)(c:AO)(r:Int)(j wn:Nat)(ρ:St):∃W' wn',Ab Ad (n+3) (.ref 354) [.obj 1,.int a,.int v] (SQ g W wn c r j ρ)=.ok .none (SQ g W' wn' c r j ρ)/\Ag g C W' (λj=>if j=a then v else μ j):=by refine B0 (H.ck a ha) λa1 a2 a3=>?_;have:=Oe n g a v (Ai g) (Aw W) wn (c::Ey::.list []::Fw::lN r (j+8)::ρ) a3 a1 a2 (FO W) (JE W) (by rw[EU];have:=H.wl;lia);rw[KU v h0 (by lia),LG]at this;exact⟨_,_,this,H.put ha h0 h1⟩
theorem TM(h:0<=a):Builtin.bitAnd a (Ar g-1)=a.fmod (Ar g):=IW g false h
theorem jR(h:0<=v):Ds g v=v-v.fmod (Ar g):=by unfold Ds;rw[bitAnd_not,TM h]
theorem DP(a:Int)(g:Bool):a.fmod (Ar g)=a%Ar g/\a.fdiv (Ar g)=a/Ar g:=by have:=Int.le_of_lt (Fb g).2.2.1;exact⟨Int.fmod_eq_emod_of_nonneg _ this,Int.fdiv_eq_ediv_of_nonneg _ this⟩
theorem KV(hv:0<=v)(ha:0<=a):Builtin.bitOr (Ds g v) (Builtin.bitAnd a (Ar g-1))=v-v.fmod (Ar g)+a.fmod (Ar g):=by
 have hp:=Fb g;rw[TM ha,jR hv];refine MX g false ?_ ?_
 ·have h1:=(DP v g).1;have h2:=Int.emod_nonneg v (b:=Ar g) (by lia);have h3:v%Ar g<=v:=by
   cases g;·show v%64<=v;lia
   ·show v%4096<=v;lia
  lia
 ·show(v-v.fmod (Ar g)).fmod (Ar g)=0;rw[(DP _ g).1,(DP _ g).1,Int.sub_emod,Int.emod_emod,Int.sub_self,Int.zero_emod]
set_option tactic.hygienic true in
theorem MW(w:Bj g μ ad k m s x P)(h0:0<=ad)(hb:∀a,0<=μ a/\μ a<2^30):∀{v pl e},P=.ok v pl e->0<=v/\v.fmod (Ar g)=ad.fmod (Ar g)/\ad<CZ g:=by
 intro v pl e h;have hp:=Fb g;have key:∀(b:Int) (tp:Bool),0<=b->b.fmod (Ar g)=0->0<=b+ad.fmod (BW g tp)/\(b+ad.fmod (BW g tp)).fmod (Ar g)=ad.fmod (Ar g):=λb tp b0 b1=>by
  have hs:=UM g tp;have e1:ad.fmod (BW g tp)=ad%BW g tp:=Int.fmod_eq_emod_of_nonneg _ (Int.le_of_lt hs);have e2:=Int.emod_nonneg ad (b:=BW g tp) (by lia);refine⟨by lia,?_⟩;rw[(DP _ g).1]at *;rw[(DP _ g).1,e1,Int.add_emod,b1,Int.zero_add,Int.emod_emod];have hd:Ar g ∣ BW g tp:=by cases g<;>cases tp<;>decide
  exact Int.emod_emod_of_dvd _ hd
 cases w<;>cases h;·rename_i h s1 l1 q;refine GO (Ea g (hb (P1 g ad)).1 (hb (P1 g ad)).2) λb0 _ b1 _=>?_;exact⟨(key _ _ b0 b1).1,(key _ _ b0 b1).2,h⟩
 ·rename_i h s1 l1 o s2 l2 q;refine GO (Ea g (hb (P2 g (μ (P1 g ad)) ad)).1 (hb (P2 g (μ (P1 g ad)) ad)).2) λb0 _ b1 _=>?_;exact⟨(key _ _ b0 b1).1,(key _ _ b0 b1).2,h⟩
theorem Z8(g:Bool)(h:0<=ad):0<=ad-ad.fmod (Ar g)+(ad+5).fmod (Ar g)/\(ad-ad.fmod (Ar g)+(ad+5).fmod (Ar g)).fdiv (Ar g)=ad.fdiv (Ar g):=by have hp:=(Fb g).2.2.1;have e:ad-ad.fmod (Ar g)=ad.fdiv (Ar g)*Ar g:=Int.sub_eq_iff_eq_add.mpr (by rw[Int.mul_comm,Int.mul_fdiv_add_fmod]);have r0:=Int.fmod_nonneg_of_pos (ad+5) hp;rw[e];refine⟨Int.add_nonneg (Int.mul_nonneg ?_ (Int.le_of_lt hp)) r0,(aD hp r0 (Int.fmod_lt_of_pos _ hp)).1⟩;rw[Int.fdiv_eq_ediv_of_nonneg _ (Int.le_of_lt hp)];exact Int.ediv_nonneg h (Int.le_of_lt hp)
theorem dQ(g:Bool)(h:0<=ad)(h1:ad<CZ g):ad.fdiv (Ar g)≠((ad+Ar g).fmod (CZ g)).fdiv (Ar g):=by
 rw[(DP _ g).2,(DP _ g).2];cases g;·show ad/64≠((ad+64).fmod 16384)/64;replace h1:ad<16384:=h1;rw[Int.fmod_eq_emod_of_nonneg _ (by decide)];lia
 ·show ad/4096≠((ad+4096).fmod 4294967296)/4096;replace h1:ad<4294967296:=h1;rw[Int.fmod_eq_emod_of_nonneg _ (by decide)];lia
theorem Zp(q:Int)(k:Kd)(m s x:Int)(v:V):AI [(AU q k m s x,v)] (AU q k m s x)=some v:=by show(if Ay (AU q k m s x) (AU q k m s x)=true then some v else _)=_;rw[BX];rfl
theorem M7{j en:Nat}{b:Int}(hj:ρ[j]?=some (.dict [(AU q k m s x,.int b)] en))(hq:ad.fdiv (Ar g)=q):Ab Ad (n+10) (.ref 646) [.obj 7,.int ad,(BI f se fl fr k m s x sh off)] (SQ g W wn c r j ρ)=.ok (.int (Builtin.bitOr b (Builtin.bitAnd ad (Ar g-1)))) (SQ g W wn c r j ρ):=by subst hq;exact LQ (n:=n+9) (q:=.ref 276) (by kernel_rfl) (ZR hj rfl (Zp _ _ _ _ _ _))
theorem F9{j en:Nat}(hj:ρ[j]?=some (.dict [] en))(hr:0<r)(w:Bj g μ ad k m s x R)(h0:0<=ad)(h1:ad<2^40)(H:Wy W μ):∃wn',Ab Ad (n+10) (.ref 646) [.obj 7,.int ad,(BI f se fl fr k m s x sh off)] (SQ g W wn c r j ρ)=.ok (Rh k ad R) (SQ g (JU μ W R) wn' c r j (qR g ad k m s x [] en j ρ R)):=by refine AP (mF (n:=n) (c:=c) (wn:=wn) hj rfl rfl hr (Nat.zero_le _) w h0 h1 H) λwn' h=>?_;exact⟨wn',KR (n:=n+9) (q:=.ref 276) (by kernel_rfl) h⟩
end
end
end
section
noncomputable section
section
variable{ad m s x f se fl fr sh off a v pl e q r:Int}
theorem iU(k:Kd)(σ:St):B9 (El 0) (.lst [(.int 12),(.int 13),(.int 15)]) (.item (.int k.i)) σ=.ok (.int k.pf) σ:=k.rec (by kernel_rfl) (by kernel_rfl) (by kernel_rfl)
theorem iT(σ:St):(Aa (Ci (BI f se fl fr k m s x sh off) (.int 4)) λk=>ret (Ek.item k)) σ=.ok (Ek.item (.int k.i)) σ:=by kernel_rfl
theorem Ye(H:Ag g C W (AE C))(w:Bj g (AE C) ad k m s x (.ok v pl e))(hE:e=AE C pl)(h0:0<=ad)(h1:ad<2^40):∃W' wn' ρ',Ab Ad (n+13) (.ref 663) [.obj 1,.obj 0,.obj 3,.int ad,(BI f se fl fr k m s x sh off),.int v,.int pl] (Ai g::Bm g::.dict (Aw W) wn::.dict (Aw C) cn::[])=.ok (.bool true) (SQ g W' wn' (.dict (Aw C) cn) 2 3 ρ')/\Ag g C W' (AE C):=by
 refine B0 (DJ w rfl) λw1 w2 _=>?_;have hk:pl∈C.map (·.1):=FF λc=>by rw[c]at w2;revert w2;decide
 refine B0 (MW w h0 H.cb rfl) λv0 v1 hd=>?_;have hu:∀{n:Nat},AE C pl<2^30/\0<=AE C pl:=⟨(H.cb pl).2,(H.cb pl).1⟩
 have same:JU (AE C) W (.ok v pl e)=W:=if_pos hE;have back:∀j,(if j=pl then AE C pl else if j=pl then 0 else AE C j)=AE C j:=λj=>by
  by_cases c:j=pl;·rw[if_pos c,c]
  ·rw[if_neg c,if_neg c]
 refine AP (F9 (n:=n+2) (f:=f) (se:=se) (fl:=fl) (fr:=fr) (sh:=sh) (off:=off) (c:=.dict (Aw C) cn) (r:=2) (j:=0) (wn:=wn) (ρ:=[(.dict [] 0)]) rfl (by decide) w h0 h1 H.wrd) λwn1 t1=>?_;rw[same]at t1;refine CX (YN (n:=n+9) (v:=0) H hk (by decide) (by decide) (.dict (Aw C) cn) 2 0 wn1 [(.dict [((AU (ad.fdiv (Ar g)) k m s x),.int (Ds g v))] 1)]) λW2 wn2 t2 H2=>?_;refine AG (Z8 g h0) λnb0 nb1=>?_;have wz:Bj g (λj=>if j=pl then 0 else AE C j) ad k m s x .pf:=QS w rfl λ_=>rfl;refine AP (F9 (n:=n+2) (f:=f) (se:=se) (fl:=fl) (fr:=fr) (sh:=sh) (off:=off) (c:=.dict (Aw C) cn) (r:=2) (j:=2) (wn:=wn2) (ρ:=[(.dict [((AU (ad.fdiv (Ar g)) k m s x),.int (Ds g v))] 1),(.dict [((AU (ad.fdiv (Ar g)) k m s x),.int (Ds g v))] 1),(.dict [] 0)]) rfl (by decide) wz h0 h1 H2.wrd) λwn3 t3=>?_;refine CX (YN (n:=n+9) (v:=AE C pl) H2 hk (H.cb pl).1 (H.cb pl).2 (.dict (Aw C) cn) 2 2 wn3 [(.dict [((AU (ad.fdiv (Ar g)) k m s x),.int (Ds g v))] 1),(.dict [((AU (ad.fdiv (Ar g)) k m s x),.int (Ds g v))] 1),(.dict [] 0)]) λW4 wn4 t4 H4'=>?_;have H4:Ag g C W4 (AE C):=H4'.cong back;refine AP (F9 (n:=n+2) (f:=f) (se:=se) (fl:=fl) (fr:=fr) (sh:=sh) (off:=off) (c:=.dict (Aw C) cn) (r:=2) (j:=2) (wn:=wn4) (ρ:=[(.dict [((AU (ad.fdiv (Ar g)) k m s x),.int (Ds g v))] 1),(.dict [((AU (ad.fdiv (Ar g)) k m s x),.int (Ds g v))] 1),(.dict [] 0)]) rfl (by decide) w h0 h1 H4.wrd) λwn5 t5=>?_;have same4:JU (AE C) W4 (.ok v pl e)=W4:=if_pos hE;rw[same4]at t5;refine CX (YN (n:=n+9) (v:=0) H4 hk (by decide) (by decide) (.dict (Aw C) cn) 2 2 wn5 [(.dict [((AU (ad.fdiv (Ar g)) k m s x),.int (Ds g v))] 1),(.dict [((AU (ad.fdiv (Ar g)) k m s x),.int (Ds g v))] 1),(.dict [((AU (ad.fdiv (Ar g)) k m s x),.int (Ds g v))] 1)]) λW6 wn6 t6 H6=>?_;refine AP (F9 (n:=n+2) (f:=f) (se:=se) (fl:=fl) (fr:=fr) (sh:=sh) (off:=off) (c:=.dict (Aw C) cn) (r:=2) (j:=3) (wn:=wn6) (ρ:=[(.dict [((AU (ad.fdiv (Ar g)) k m s x),.int (Ds g v))] 1),(.dict [((AU (ad.fdiv (Ar g)) k m s x),.int (Ds g v))] 1),(.dict [((AU (ad.fdiv (Ar g)) k m s x),.int (Ds g v))] 1),(.dict [] 0)]) rfl (by decide) wz h0 h1 H6.wrd) λwn7 t7=>?_;refine CX (YN (n:=n+9) (v:=AE C pl) H6 hk (H.cb pl).1 (H.cb pl).2 (.dict (Aw C) cn) 2 3 wn7 [(.dict [((AU (ad.fdiv (Ar g)) k m s x),.int (Ds g v))] 1),(.dict [((AU (ad.fdiv (Ar g)) k m s x),.int (Ds g v))] 1),(.dict [((AU (ad.fdiv (Ar g)) k m s x),.int (Ds g v))] 1),(.dict [] 0)]) λW8 wn8 t8 H8=>?_;refine⟨W8,wn8,[(.dict [((AU (ad.fdiv (Ar g)) k m s x),.int (Ds g v))] 1),(.dict [((AU (ad.fdiv (Ar g)) k m s x),.int (Ds g v))] 1),(.dict [((AU (ad.fdiv (Ar g)) k m s x),.int (Ds g v))] 1),(.dict [] 0)],?_,H8.cong back⟩;refine AD (fe:=La) (by kernel_rfl) ?_;rw[QK];refine bk (Np (n:=n+10) g (Aw W) (Aw C) wn cn) ?_;refine bk (NL (n:=n+10) g (Aw W) (Aw C) wn cn) ?_;refine bk (VS (n:=n+10) g W (Aw C) wn cn) ?_;refine bk (a:=V.int (Ar g)) (σ':=(SQ g W wn (.dict (Aw C) cn) 2 0 [(.dict [] 0)])) (g.rec (by kernel_rfl) (by kernel_rfl)) ?_;refine bk (t1) ?_;refine Dk (σ':=(SQ g W wn1 (.dict (Aw C) cn) 2 0 [(.dict [((AU (ad.fdiv (Ar g)) k m s x),.int (Ds g v))] 1)])) (Jn rfl) ?_;refine bk (a:=Value.ref 354) (σ':=(SQ g W wn1 (.dict (Aw C) cn) 2 0 [(.dict [((AU (ad.fdiv (Ar g)) k m s x),.int (Ds g v))] 1)])) (g.rec (by kernel_rfl) (by kernel_rfl)) ?_;refine bk (t2) ?_;rw[AH];refine bk (a:=V.int (ad.fmod (Ar g))) (σ':=(SQ g W2 wn2 (.dict (Aw C) cn) 2 0 [(.dict [((AU (ad.fdiv (Ar g)) k m s x),.int (Ds g v))] 1)])) (g.rec (by kernel_rfl) (by kernel_rfl)) ?_;refine br (V.int (ad-ad.fmod (Ar g))) ?_;refine br (V.int (ad+5)) ?_;refine bk (a:=V.int ((ad+5).fmod (Ar g))) (σ':=(SQ g W2 wn2 (.dict (Aw C) cn) 2 0 [(.dict [((AU (ad.fdiv (Ar g)) k m s x),.int (Ds g v))] 1)])) (g.rec (by kernel_rfl) (by kernel_rfl)) ?_;refine br (V.int (ad-ad.fmod (Ar g)+(ad+5).fmod (Ar g))) ?_;refine bk (M7 (n:=n+2) rfl nb1) ?_;refine bk (a:=V.int (v.fmod (Ar g))) (σ':=(SQ g W2 wn2 (.dict (Aw C) cn) 2 0 [(.dict [((AU (ad.fdiv (Ar g)) k m s x),.int (Ds g v))] 1)])) (g.rec (by kernel_rfl) (by kernel_rfl)) ?_;refine br (V.int (v-v.fmod (Ar g))) ?_;refine bk (a:=V.int ((ad-ad.fmod (Ar g)+(ad+5).fmod (Ar g)).fmod (Ar g))) (σ':=(SQ g W2 wn2 (.dict (Aw C) cn) 2 0 [(.dict [((AU (ad.fdiv (Ar g)) k m s x),.int (Ds g v))] 1)])) (g.rec (by kernel_rfl) (by kernel_rfl)) ?_;refine br (V.int (v-v.fmod (Ar g)+(ad-ad.fmod (Ar g)+(ad+5).fmod (Ar g)).fmod (Ar g))) ?_;refine Dk (σ':=(SQ g W2 wn2 (.dict (Aw C) cn) 2 0 [(.dict [((AU (ad.fdiv (Ar g)) k m s x),.int (Ds g v))] 1)])) (Jn (KV v0 nb0)) ?_;refine br (Value.ref 282) ?_;refine br (V.int (ad+Ar g)) ?_;refine bk (a:=V.int (CZ g)) (σ':=(SQ g W2 wn2 (.dict (Aw C) cn) 2 0 [(.dict [((AU (ad.fdiv (Ar g)) k m s x),.int (Ds g v))] 1)])) (g.rec (by kernel_rfl) (by kernel_rfl)) ?_;refine bk (a:=V.int ((ad+Ar g).fmod (CZ g))) (σ':=(SQ g W2 wn2 (.dict (Aw C) cn) 2 0 [(.dict [((AU (ad.fdiv (Ar g)) k m s x),.int (Ds g v))] 1)])) (g.rec (by kernel_rfl) (by kernel_rfl)) ?_;refine bk (W9 rfl (dQ g h0 hd)) ?_;rw[AH];refine bk (M7 (n:=n+2) rfl rfl) ?_;refine Dk (Jn ((KV v0 h0).trans (by rw[v1];lia))) ?_;refine br (Value.ref 282) ?_;refine bk (YQ rfl rfl) ?_;rw[AH];refine bk (t3) ?_;refine bk (iT _) ?_;refine bk (iU k _) ?_;refine Dk (MO (N7 k ad .pf)) ?_;refine bk (a:=Value.ref 354) (σ':=(SQ g W2 wn3 (.dict (Aw C) cn) 2 2 [(.dict [((AU (ad.fdiv (Ar g)) k m s x),.int (Ds g v))] 1),(.dict [((AU (ad.fdiv (Ar g)) k m s x),.int (Ds g v))] 1),(.dict [] 0)])) (g.rec (by kernel_rfl) (by kernel_rfl)) ?_;refine bk (a:=V.int (AE C pl)) (Hd (i:=3) (cn:=cn) rfl hk) ?_;refine bk (t4) ?_;rw[AH];refine bk (t5) ?_;refine Dk (Jn rfl) ?_;refine bk (a:=Value.ref 354) (σ':=(SQ g W4 wn5 (.dict (Aw C) cn) 2 2 [(.dict [((AU (ad.fdiv (Ar g)) k m s x),.int (Ds g v))] 1),(.dict [((AU (ad.fdiv (Ar g)) k m s x),.int (Ds g v))] 1),(.dict [((AU (ad.fdiv (Ar g)) k m s x),.int (Ds g v))] 1)])) (g.rec (by kernel_rfl) (by kernel_rfl)) ?_;refine bk (t6) ?_;rw[AH];refine br (Value.ref 282) ?_;refine bk (gK) ?_;rw[AH];refine bk (t7) ?_;refine bk (a:=Value.ref 354) (σ':=(SQ g W6 wn7 (.dict (Aw C) cn) 2 3 [(.dict [((AU (ad.fdiv (Ar g)) k m s x),.int (Ds g v))] 1),(.dict [((AU (ad.fdiv (Ar g)) k m s x),.int (Ds g v))] 1),(.dict [((AU (ad.fdiv (Ar g)) k m s x),.int (Ds g v))] 1),(.dict [] 0)])) (g.rec (by kernel_rfl) (by kernel_rfl)) ?_;refine bk (a:=V.int (AE C pl)) (Hd (i:=3) (cn:=cn) rfl hk) ?_;refine bk (t8) ?_;rw[AH];refine bk (iT _) ?_;refine bk (iU k _) ?_;exact bk (UY k ad .pf _) rfl
end
end
end
section
noncomputable section
noncomputable def aA(fr36:Fm)(n:Nat)(x37:V):Mo Az:=Aa (Af (fr36 "address")) λx38=>Aa (Af (fr36 "asked")) λx39=>Aa (Ab Ad n (.ref 646) [x37,x38,x39]) λx40=>Aa (Aa (Aa (Af (fr36 "due")) λy42=>Aa (Ap .IsNot y42 .none) λq43=>ret q43) λq41=>if q41=true then Af (fr36 "due") else Aa (Aa (Af (fr36 "place")) λy44=>Aa (Aa (Af (fr36 "address")) λy45=>ret [y45]) λy46=>ret (y44::y46)) λy47=>ret (.tup y47)) λx48=>Aa (Ap .NotEq x40 x48) λq49=>if q49=true then ret (.rets (.bool false)) else ret (.next fr36)
noncomputable def gT(x32:V)(fr18:Fm)(x27:V)(n:Nat)(x28:V)(x30:V)(x31:V):Mo Az:=Aa (at_ x32 "end") λx33=>Aa (Af ((Ac fr18 "asked" x27) "address")) λx34=>Aa (Ab Ad n (.ref 639) [x28,x30,x31,x33,x34,x27]) λx35=>Aa (K7 ["due", "place"] x35 (Ac fr18 "asked" x27)) λfr36=>Aa (Af (fr36 "quick")) λx37=>aA fr36 n x37
noncomputable def gN(fr18:Fm)(x27:V)(n:Nat):Mo Az:=Aa (Af ((Ac fr18 "asked" x27) "cells")) λx28=>Aa (Af ((Ac fr18 "asked" x27) "layout")) λx29=>Aa (at_ x29 "page") λx30=>Aa (Af ((Ac fr18 "asked" x27) "many")) λx31=>Aa (Af ((Ac fr18 "asked" x27) "memory")) λx32=>gT x32 fr18 x27 n x28 x30 x31
noncomputable def bX(fr18:Fm)(x20:V)(x21:V)(x22:V)(n:Nat):Mo Az:=Aa (Af (fr18 "extra")) λx23=>Aa (Aj .Add x20 (.tup [x21,x22,x23])) λx24=>Aa (Af (fr18 "scene")) λx25=>Aa (My x25 (.int 7) .none .none) λx26=>Aa (Aj .Add x24 x26) λx27=>gN fr18 x27 n
noncomputable def WS(n:Nat)(v14:V)(fr15:Fm):Mo Az:=Aa (K7 ["kind", "mode", "extra"] v14 fr15) λfr18=>Aa (Af (fr18 "scene")) λx19=>Aa (My x19 .none (.int 4) .none) λx20=>Aa (Af (fr18 "kind")) λx21=>Aa (Af (fr18 "mode")) λx22=>bX fr18 x20 x21 x22 n
noncomputable def pB(n:Nat)(q16:Az):Mo Az:=(match q16 with|.next fr17=>Aa (Af (fr17 "memory")) λx50=>Aa (BZ x50 "rows") λf51=>Aa (Ab Ad n f51 [x50]) λx52=>Aa (Af (fr17 "cells")) λx53=>Aa (Ab Ad n (.ref 651) [x53]) λx54=>Aa (Ap .Eq x52 x54) λq55=>ret (.rets (.bool q55))|.rets v=>ret (.rets v)|.cont fr17=>ret (.cont fr17))
noncomputable def SV(x9:V)(n:Nat)(a0:V)(a1:V)(a2:V)(a3:V)(a4:V)(x4:V)(x3:V):Mo Az:=Aa (Aa (Th .USub (.int 3)) λy10=>ret (Ek.cut .none .none y10)) λi11=>Aa (B9 (El 0) x9 i11) λx12=>Aa (Aj .Add x9 x12) λx13=>Gj (qT x13) x13 (WS n) (Ac (Ac (Ac (A9 GF [a0,a1,a2,a3,a4]) "many" x4) "quick" x3) "ways" x9) (pB n)
noncomputable def aV(n:Nat)(a0 a1 a2 a3 a4:V):Mo Az:=Aa (Ab Ad n (.ref 616) [a0]) λx1=>Aa (Ab Ad n (.ref 249) [x1,a1]) λx2=>Aa (Ab Ad n (.ref 285) [x2,(.int 20)]) λx3=>Aa (at_ a1 "entries") λx4=>Aa ((Aa (Cs (Bt (.tup [(.int 0),(.int 1),(.int 2)]) λv6=>Bt (.tup [(.int 0),(.int 1)]) λv7=>Bt (.tup [(.lst [(.int 0),(.int 0)]),(.lst [(.int 1),(.int 1)])]) λv8=>ret [(.tup [v6,v7,v8])])) λl5=>ret (.lst l5))) λx9=>SV x9 n a0 a1 a2 a3 a4 x4 x3
theorem Qs(n:Nat)(a0 a1 a2 a3 a4:V):Bg Ad (Ab Ad n) GF [a0,a1,a2,a3,a4]=aV n a0 a1 a2 a3 a4:=by kernel_rfl
structure PE(fr:Fm)(g:Bool)(ad:Int)(sc:V):Prop where
 scene:fr "scene" = some sc
 cells:fr "cells" = some (.obj 3)
 layout:fr "layout" = some (.obj 0)
 many:fr "many" = some (.int (AJ g))
 memory:fr "memory" = some (.obj 1)
 address:fr "address" = some (.int ad)
 quick:fr "quick" = some (.obj 7)
section
variable{n cn wn en:Nat}{ad m s x m0 s0 x0 f se fl frr sh off a v pl e q r:Int}
theorem iZ(r:Int)(j:Nat)(ρ:St):oK C cn (SQ g W wn (.dict (Aw C) cn) r j ρ) R=SQ g W wn (.dict (Aw (G6 C R)) (LJ C cn R)) r j ρ:=R.rec rfl rfl λ_ _ _=>rfl
noncomputable def wV(k:Kd)(m s x:Int):V:=.tup [.int k.i,.int m,.lst [.int s,.int x]]
noncomputable def fE(fr:Fm)(k:Kd)(m s x:Int)(sc:V)(R:PR):Fm:=(Ac (Ac (Ac (Ac (Ac (Ac fr "kind" (.int k.i)) "mode" (.int m)) "extra" (.lst [.int s,.int x])) "asked" sc) "due" (Kz R)) "place" (Lp k R))
theorem WZ(H:PE fr g ad (BI f se fl frr k0 m0 s0 x0 sh off)):PE (fE fr k m s x (BI f se fl frr k m s x sh off) R) g ad (BI f se fl frr k0 m0 s0 x0 sh off):=⟨Eq.trans (b:=fr "scene") (by kernel_rfl) H.scene,Eq.trans (b:=fr "cells") (by kernel_rfl) H.cells,Eq.trans (b:=fr "layout") (by kernel_rfl) H.layout,Eq.trans (b:=fr "many") (by kernel_rfl) H.many,Eq.trans (b:=fr "memory") (by kernel_rfl) H.memory,Eq.trans (b:=fr "address") (by kernel_rfl) H.address,Eq.trans (b:=fr "quick") (by kernel_rfl) H.quick⟩
theorem UE(H:PE fr g ad (BI f se fl frr k0 m0 s0 x0 sh off))(w:Bj g (AE C) ad k m s x R)(h0:0<=ad)(hm:m=0\/m=1)(hx:x=0\/x=1)(hb:Fq C)(hc:C.length<=4096)(ht:Ab Ad (n+10) (.ref 646) [.obj 7,.int ad,(BI f se fl frr k m s x sh off)] (SQ g W wn (.dict (Aw (G6 C R)) (LJ C cn R)) 20 0 [.dict es en])=.ok (Rh k ad R) σ'):WS (n+10) (wV k m s x) fr (SQ g W wn (.dict (Aw C) cn) 20 0 [.dict es en])=.ok (.next (fE fr k m s x (BI f se fl frr k m s x sh off) R)) σ':=by
 refine br (Ac (Ac (Ac fr "kind" (.int k.i)) "mode" (.int m)) "extra" (.lst [.int s,.int x])) ?_;refine bk (a:=(BI f se fl frr k0 m0 s0 x0 sh off)) (σ':=(SQ g W wn (.dict (Aw C) cn) 20 0 [.dict es en])) (Bn H.scene (by kernel_rfl)) ?_;refine br (V.tup [.int f,.int se,.int fl,.int frr]) ?_;refine br (V.int k.i) ?_;refine br (V.int m) ?_;refine br (V.lst [.int s,.int x]) ?_;refine br (V.tup [.int f,.int se,.int fl,.int frr,.int k.i,.int m,.lst [.int s,.int x]]) ?_;refine bk (a:=(BI f se fl frr k0 m0 s0 x0 sh off)) (Bn H.scene (by kernel_rfl)) ?_;refine br (V.tup [.int sh,.int off]) ?_;refine br (BI f se fl frr k m s x sh off) ?_;refine bk (a:=V.obj 3) (Bn H.cells (by kernel_rfl)) ?_;refine bk (a:=V.obj 0) (Bn H.layout (by kernel_rfl)) ?_;refine bk (a:=V.int (Ar g)) (σ':=(SQ g W wn (.dict (Aw C) cn) 20 0 [.dict es en])) (g.rec (by kernel_rfl) (by kernel_rfl)) ?_;refine bk (a:=V.int (AJ g)) (Bn H.many (by kernel_rfl)) ?_;refine bk (a:=V.obj 1) (Bn H.memory (by kernel_rfl)) ?_;refine bk (a:=V.int (B2 g)) (σ':=(SQ g W wn (.dict (Aw C) cn) 20 0 [.dict es en])) (g.rec (by kernel_rfl) (by kernel_rfl)) ?_;refine bk (a:=V.int ad) (Bn H.address (by kernel_rfl)) ?_;refine bk (a:=V.tup [Kz R,Lp k R]) (by rw[<-Ot];exact(Ia (n:=n+8) w h0 hm hx hb rfl hc).trans (by rw[iZ])) ?_;refine br (fE fr k m s x (BI f se fl frr k m s x sh off) R) ?_;refine bk (a:=V.obj 7) (Bn H.quick (by kernel_rfl)) ?_;refine bk (a:=V.int ad) (Bn H.address (by kernel_rfl)) ?_;refine br (BI f se fl frr k m s x sh off) ?_;refine bk (ht) ?_;refine bk (a:=Rh k ad R) ?_ (Dk (MO (N7 k ad R)) rfl);cases R with
 |ok v pl e=>kernel_rfl
 |af=>exact Dk (σ':=σ') (by kernel_rfl) (bk (a:=[V.int k.af,.int ad]) (σ':=σ') (bk (a:=V.int k.af) (σ':=σ') (by kernel_rfl) (bk (a:=[V.int ad]) (σ':=σ') (bk (Bn H.address (by kernel_rfl)) rfl) rfl)) rfl)
 |pf=>exact Dk (σ':=σ') (by kernel_rfl) (bk (a:=[V.int k.pf,.int ad]) (σ':=σ') (bk (a:=V.int k.pf) (σ':=σ') (by kernel_rfl) (bk (a:=[V.int ad]) (σ':=σ') (bk (Bn H.address (by kernel_rfl)) rfl) rfl)) rfl)
theorem Sw(h:BR e k=e):BR (BR e k0) k=BR e k0:=by
 have b1:∀{y:Int},Av y 64=1->Av (AN y 128) 64=1:=λh=>(Bv 1 (by decide) rfl).trans h;have b2:∀{y:Int},Av y 64=1->AN y 64=y:=λh=>DM h;have h64:Av e 64=1:=by
  rw[<-h];cases k with
  |fe=>exact Bw (by decide)
  |lo=>exact Bw (by decide)
  |st=>exact b1 (Bw (by decide))
 have d64:Av (BR e k0) 64=1:=by
  cases k0 with
  |fe=>exact Bw (by decide)
  |lo=>exact Bw (by decide)
  |st=>exact b1 (Bw (by decide))
 cases k with
 |fe=>exact b2 d64
 |lo=>exact b2 d64
 |st=>
  have h128:Av e 128=1:=by rw[<-h];exact Bw (by decide)
  show AN (AN (BR e k0) 64) 128=_;rw[b2 d64];refine DM ?_;cases k0 with
  |fe=>show Av (AN e 64) 128=1;rw[b2 h64];exact h128
  |lo=>show Av (AN e 64) 128=1;rw[b2 h64];exact h128
  |st=>exact Bw (by decide)
theorem JY(k v k':V):∀es:List (V×V),AI (Bl es k v) k'=if Ay k k'=true then some v else AI es k'
 |[]=>rfl
 |(a,u)::r=>by
  show AI (if Ay a k=true then(a,v)::r else(a,u)::Bl r k v) k'=_;by_cases c:Ay a k=true
  ·rw[if_pos c,Cr c];show(if Ay k k'=true then some v else AI r k')=if Ay k k'=true then some v else if Ay k k'=true then some u else AI r k'
   split<;>rfl
  ·rw[if_neg c];show(if Ay a k'=true then some u else AI (Bl r k v) k')=if Ay k k'=true then some v else if Ay a k'=true then some u else AI r k'
   rw[JY k v k' r];by_cases d:Ay a k'=true;·rw[if_pos d,if_pos d,if_neg λz=>c (by rw[Cr d,Cr z];exact BX _)]
   ·rw[if_neg d,if_neg d]
theorem Ng(k v:V)(hk:LY k=true):∀{es:List (V×V)},(es.all λp=>LY p.1)=true->((Bl es k v).all λp=>LY p.1)=true
 |[],_=>by show(LY k&&true)=true;rw[hk];rfl
 |(a,u)::r,h=>by
  refine D3 ((show(LY a&&r.all λp=>LY p.1)=true from h)) λh1 h2=>?_;show(List.all (if Ay a k=true then(a,v)::r else(a,u)::Bl r k v) λp=>LY p.1)=true;split;·exact h
  ·exact Bool.and_eq_true_iff.mpr ⟨h1,Ng k v hk h2⟩
theorem Pc(k v:V):∀es:List (V×V),(Bl es k v).length<=es.length+1
 |[]=>Nat.le_refl 1
 |(a,u)::r=>by
  show(if Ay a k=true then(a,v)::r else(a,u)::Bl r k v).length<=_;split;·exact Nat.le_succ _
  ·exact Nat.succ_le_succ (Pc k v r)
theorem WL(h:Ay (AU q k m s x) (AU q k' m' s' x')=true):k=k'/\m=m'/\s=s'/\x=x':=by have:=Cr h;unfold AU at this;injection this with h1;simp only[List.cons.injEq,V.int.injEq,and_true,true_and]at h1;refine GO h1 λh2 h3 h4 h5=>?_;refine⟨?_,h3,h4,h5⟩;cases k<;>cases k' <;>first|rfl|(exfalso;revert h2;unfold Kd.v;intro h2;injection h2 with h2;exact absurd h2 (by decide))
structure Kn(g:Bool)(μ:Int->Int)(ad:Int)(es:List (V×V))(i:Nat):Prop where
 all:(es.all λp=>LY p.1)=true
 len:es.length<=i
 so:∀k m s x b,AI es (AU (ad.fdiv (Ar g)) k m s x)=some b->∃v pl,Bj g μ ad k m s x (.ok v pl (μ pl))/\b=.int (Ds g v)
theorem Kn.mark(K:Kn g μ ad es i)(hb:∀a,0<=μ a)(k0:Kd)(hm:∀a,μ' a=if q=a then BR (μ q) k0 else μ a):Kn g μ' ad es i where
 all:=K.all
 len:=K.len
 so:=λk m s x b hg=>by
  refine CX (K.so k m s x b hg) λv pl w eqq3=>?_;subst eqq3;have h1:=Iu w (KS (hb q) k0 hm) rfl;have h2:=(DJ w rfl).1;have h3:BR (μ' pl) k=μ' pl:=by
   rw[hm];split;·rename_i z;rw[z];exact Sw h2.symm
   ·exact h2.symm
  rw[h3]at h1;exact⟨v,pl,h1,rfl⟩
theorem Kn.add(K:Kn g μ ad es i)(w:Bj g μ ad k m s x (.ok v pl (μ pl))):Kn g μ ad (Bl es (AU (ad.fdiv (Ar g)) k m s x) (.int (Ds g v))) (i+1) where
 all:=Ng _ _ rfl K.all
 len:=Nat.le_trans (Pc _ _ _) (Nat.succ_le_succ K.len)
 so:=λk' m' s' x' b hg=>by
  rw[JY]at hg;split at hg;·rename_i z;refine GO (WL z) λeqq0 eqq1 eqq2 eqq3=>?_;subst eqq0;subst eqq1;subst eqq2;subst eqq3;cases hg;exact⟨v,pl,w,rfl⟩
  ·exact K.so _ _ _ _ _ hg
theorem Kn.up(K:Kn g μ ad es i):Kn g μ ad es (i+1):=⟨K.all,Nat.le_succ_of_le K.len,K.so⟩
theorem dF(hi:i<20)(H:PE fr g ad (BI f se fl frr k0 m0 s0 x0 sh off))(h0:0<=ad)(h1:ad<2^40)(hm:m=0\/m=1)(hx:x=0\/x=1)(HA:Ag g C W (AE C))(K:Kn g (AE C) ad es i):∃fr' C' W' es' wn' cn' en',WS (n+10) (wV k m s x) fr (SQ g W wn (.dict (Aw C) cn) 20 0 [.dict es en])=.ok (.next fr') (SQ g W' wn' (.dict (Aw C') cn') 20 0 [.dict es' en'])/\PE fr' g ad (BI f se fl frr k0 m0 s0 x0 sh off)/\Ag g C' W' (AE C')/\Kn g (AE C') ad es' (i+1):=by
 have hc:=HA.cl;have up:∀{pl e},e=BR (AE C pl) k->∀a,AE (BA C pl e) a=if pl=a then BR (AE C pl) k else AE C a:=λhe a=>by rw[CW,he]
 cases hg:AI es (AU (ad.fdiv (Ar g)) k m s x) with
 |some b=>refine CX (K.so _ _ _ _ _ hg) λv pl w eqq3=>?_;subst eqq3;refine B0 (MW w h0 HA.cb rfl) λv0 v1 hd=>?_;have A2:=Ho HA w;have same:JU (AE C) W (.ok v pl (AE C pl))=W:=if_pos rfl;rw[same]at A2;have e1:=(DJ w rfl).1;refine⟨_,_,W,es,wn,LJ C cn (.ok v pl (AE C pl)),en,UE H w h0 hm hx HA.cb (by lia) (LQ (n:=n+9) (q:=.ref 276) (by kernel_rfl) ((ZR (j:=0) (en:=en) rfl K.all hg).trans ?_)),WZ H,A2,(K.mark (λa=>(HA.cb a).1) k (up e1)).up⟩;rw[KV v0 h0,v1];exact congrArg (λz=>C6.ok (V.int z) _) (by lia)
 |none=>
  refine AP (Lu g (AE C) ad k m s x) λR w=>?_;have A2:=Ho HA w;refine AP (mF (n:=n) (c:=.dict (Aw (G6 C R)) (LJ C cn R)) (wn:=wn) (r:=20) (j:=0) (ρ:=[.dict es en]) rfl K.all hg (by have:=K.len;lia) (by have:=K.len;lia) w h0 h1 HA.wrd) λwn' ht=>?_;have T:=UE H w h0 hm hx HA.cb (by lia) (KR (n:=n+9) (q:=.ref 276) (by kernel_rfl) ht);cases R with
  |af=>exact⟨_,_,_,_,_,_,_,T,WZ H,A2,K.up⟩
  |pf=>exact⟨_,_,_,_,_,_,_,T,WZ H,A2,K.up⟩
  |ok v pl e=>
   have e1:=(DJ w rfl).1;have e2:AE (BA C pl e) pl=e:=by rw[CW,if_pos rfl]
   have w2:=Iu w (KS (HA.cb pl).1 k (up e1)) rfl;rw[e2,e1,PN,<-e1,show Bj g (AE (BA C pl e)) ad k m s x (.ok v pl e)=Bj g (AE (BA C pl e)) ad k m s x (.ok v pl (AE (BA C pl e) pl)) by rw[e2]]at w2;exact⟨_,_,_,_,_,_,_,T,WZ H,A2,(K.mark (λa=>(HA.cb a).1) k (up e1)).add w2⟩
end
end
end
section
noncomputable section
noncomputable def bI(b:Bool):Int:=bif b then 1 else 0
noncomputable def wb(w:Kd×Bool×Bool):V:=wV w.1 (bI w.2.1) (bI w.2.2) (bI w.2.2)
noncomputable def rA:List (Kd×Bool×Bool):=[(.fe,false,false),(.fe,false,true),(.fe,true,false),(.fe,true,true),(.lo,false,false),(.lo,false,true),(.lo,true,false),(.lo,true,true),(.st,false,false),(.st,false,true),(.st,true,false),(.st,true,true)]
noncomputable def nJ:List (Kd×Bool×Bool):=[(.fe,false,false),(.fe,false,true),(.fe,true,false),(.fe,true,true),(.lo,false,false),(.lo,false,true),(.lo,true,false),(.lo,true,true),(.st,false,false),(.st,false,true),(.st,true,false),(.st,true,true),(.st,true,true),(.st,false,false),(.lo,false,true),(.fe,true,false)]
section
variable{ad m0 s0 x0 f se fl frr sh off:Int}
theorem ZK(b:Bool):bI b=0\/bI b=1:=by cases b;exact .inl rfl;exact .inr rfl
theorem OQ{src:List V}(h0:0<=ad)(h1:ad<2^40)(l:List (Kd×Bool×Bool)){i:Nat}{fr:Fm}{C W:DI}{es:List (V×V)}{wn cn en:Nat}(hi:i+l.length<=20)(H:PE fr g ad (BI f se fl frr k0 m0 s0 x0 sh off))(HA:Ag g C W (AE C))(K:Kn g (AE C) ad es i):∃fr' C' W' es' wn' cn' en',BO (.lst src) σ0 (WS (n+10)) (l.map wb) fr (SQ g W wn (.dict (Aw C) cn) 20 0 [.dict es en])=.ok (.next fr') (SQ g W' wn' (.dict (Aw C') cn') 20 0 [.dict es' en'])/\PE fr' g ad (BI f se fl frr k0 m0 s0 x0 sh off)/\Ag g C' W' (AE C'):=by
 cases l with
 |nil=>exact⟨fr,C,W,es,wn,cn,en,rfl,H,HA⟩
 |cons a l=>have hi':i+l.length+1<=20:=hi;refine pW (dF (n:=n) (k:=a.1) (m:=bI a.2.1) (s:=bI a.2.2) (x:=bI a.2.2) (wn:=wn) (cn:=cn) (en:=en) (i:=i) (by lia) H h0 h1 (ZK _) (ZK _) HA K) λfr1 C1 W1 es1 wn1 cn1 en1 e1 H1 A1 K1=>?_;obtain⟨fr2,C2,W2,es2,wn2,cn2,en2,e2,H2,A2⟩:=OQ h0 h1 l (i:=i+1) (by lia) H1 A1 K1;exact⟨fr2,C2,W2,es2,wn2,cn2,en2,bk (Bk e1) (bk (a:=()) rfl e2),H2,A2⟩
theorem Wm(H:Ag g C W (AE C))(h0:0<=ad)(h1:ad<2^40):∃C' W' wn' cn' ρ',Ab Ad (n+13) (.ref 668) [.obj 1,.obj 0,.obj 3,.int ad,(BI f se fl frr k0 m0 s0 x0 sh off)] (Ai g::Bm g::.dict (Aw W) wn::.dict (Aw C) cn::[])=.ok (.bool true) (SQ g W' wn' (.dict (Aw C') cn') 20 0 ρ')/\Ag g C' W' (AE C'):=by
 have P0:PE (Ac (Ac (Ac (A9 GF [.obj 1,.obj 0,.obj 3,.int ad,(BI f se fl frr k0 m0 s0 x0 sh off)]) "many" (.int (AJ g))) "quick" (.obj 7)) "ways" (.lst (rA.map wb))) g ad (BI f se fl frr k0 m0 s0 x0 sh off):=⟨by kernel_rfl,by kernel_rfl,by kernel_rfl,by kernel_rfl,by kernel_rfl,by kernel_rfl,by kernel_rfl⟩
 refine pN (OQ (n:=n+2) (σ0:=SQ g W wn (.dict (Aw C) cn) 20 0 [.dict [] 0]) (src:=nJ.map wb) (wn:=wn) (cn:=cn) (en:=0) (es:=[]) h0 h1 nJ (i:=0) (by decide) P0 H ⟨rfl,Nat.le_refl 0,λ_ _ _ _ _ h=>nomatch h⟩) λfr2 C2 W2 es2 wn2 cn2 en2 e2 H2 A2=>?_;have wb':∀k∈W2.map (·.1),k.natAbs<2^64:=λk hk=>by refine Au (List.mem_map.mp hk) λp hp eqq2=>?_;subst eqq2;have:=A2.ck _ (A2.wk p hp);have:B2 g<=32768:=g.rec (by decide) (by decide);lia
 refine⟨C2,W2,wn2,cn2,[.dict es2 en2],?_,A2⟩;refine AD (fe:=GF) (by kernel_rfl) ?_;rw[Qs];refine bk (Np (n:=n+10) g (Aw W) (Aw C) wn cn) ?_;refine bk (NL (n:=n+10) g (Aw W) (Aw C) wn cn) ?_;refine bk (NT (n:=n+10) g W (Aw C) wn cn) ?_;refine bk (a:=V.int (AJ g)) (σ':=(SQ g W wn (.dict (Aw C) cn) 20 0 [.dict [] 0])) (g.rec (by kernel_rfl) (by kernel_rfl)) ?_;refine br (V.lst (rA.map wb)) ?_;refine br (Ek.cut .none .none (.int (-3))) ?_;refine br (V.lst [wb (.st,true,true),wb (.st,false,false),wb (.lo,false,true),wb (.fe,true,false)]) ?_;refine br (V.lst (nJ.map wb)) ?_;refine bk (a:=nJ.map wb) rfl ?_;refine bk e2 ?_;refine bk (a:=V.obj 1) (Bn H2.memory (by kernel_rfl)) ?_;refine bk (a:=Value.ref 457) (σ':=(SQ g W2 wn2 (.dict (Aw C2) cn2) 20 0 [.dict es2 en2])) (g.rec (by kernel_rfl) (by kernel_rfl)) ?_;refine bk (LU (n:=n+10) (g:=g) rfl rfl (by have:=A2.wl;lia) wb') ?_;refine bk (a:=V.obj 3) (Bn H2.cells (by kernel_rfl)) ?_;refine bk (Kw (n:=n+10) (i:=3) rfl (by have:=A2.cl;lia)) ?_;rw[<-KG A2];exact bk ZF rfl
end
end
end
section
noncomputable section
noncomputable def Jb(p g i:Nat):Nat:=if i<p then i else i+g
mutual
noncomputable def Am(p g:Nat):V->V
 |.tup l=>.tup (DO p g l)
 |.lst l=>.lst (DO p g l)
 |.obj i=>.obj (Jb p g i)
 |.none=>.none
 |.bool b=>.bool b
 |.int i=>.int i
 |.str s=>.str s
 |.byt b=>.byt b
 |.rng n=>.rng n
 |.glob v=>.glob v
 |.exn c v=>.exn c v
noncomputable def DO(p g:Nat):List V->List V
 |[]=>[]
 |a::r=>Am p g a::DO p g r
end
theorem Br(p g:Nat):∀l,DO p g l=l.map (Am p g)
 |[]=>rfl
 |a::r=>congrArg (Am p g a :: ·) (Br p g r)
theorem Uu(p g:Nat)(l:List V):Am p g (.tup l)=.tup (l.map (Am p g)):=congrArg V.tup (Br p g l)
theorem LL(p g:Nat)(l:List V):Am p g (.lst l)=.lst (l.map (Am p g)):=congrArg V.lst (Br p g l)
noncomputable def Hq(p g:Nat):AO->AO
 |.inst C fs=>.inst C (fs.map λq=>(q.1,Am p g q.2))
 |.dict es n=>.dict (es.map λq=>(Am p g q.1,Am p g q.2)) n
 |.list l=>.list (l.map (Am p g))
noncomputable def Dq(p:Nat)(γ:St)(σ:St):St:=(σ.take p).map (Hq p γ.length)++γ++(σ.drop p).map (Hq p γ.length)
section
variable{p:Nat}{γ:St}
theorem KZ{σ:St}{f:AO->AO}(h:p<=σ.length):((σ.take p).map f).length=p:=by rw[List.length_map,List.length_take,Nat.min_eq_left h]
theorem Pg(h:p<=σ.length):(Dq p γ σ).length=Jb p γ.length σ.length:=by unfold Dq Jb;rw[if_neg (Nat.not_lt.mpr h),List.length_append,List.length_append,KZ h,List.length_map,List.length_drop,Nat.add_right_comm,Nat.add_sub_cancel' h]
theorem Pa(c:¬i<p):i+g-(p+g)=i-p:=Nat.add_sub_add_right ..
theorem LA{σ:St}{f:AO->AO}(h:p<=σ.length):((σ.take p).map f++γ).length=p+γ.length:=by rw[List.length_append,KZ h]
theorem UI(c:¬i<p):p+g<=i+g:=Nat.add_le_add_right (Nat.le_of_not_lt c) g
theorem HB(h:p<=σ.length)(i:Nat):(Dq p γ σ)[Jb p γ.length i]?=σ[i]?.map (Hq p γ.length):=by
 unfold Dq Jb;by_cases c:i<p;·rw[if_pos c,List.append_assoc,List.getElem?_append_left (by rw[KZ h];exact c),List.getElem?_map,List.getElem?_take_of_lt c]
 ·rw[if_neg c,List.getElem?_append_right (by rw[LA h];exact UI c),List.getElem?_map,List.getElem?_drop,LA h,Pa c,Nat.add_sub_cancel' (Nat.le_of_not_lt c)]
theorem LN(h:p<=σ.length)(i:Nat)(o:AO):Dq p γ (σ.set i o)=(Dq p γ σ).set (Jb p γ.length i) (Hq p γ.length o):=by
 unfold Dq Jb;by_cases c:i<p;·rw[if_pos c,List.take_set,List.drop_set_of_lt c,List.map_set,List.append_assoc,List.append_assoc,List.set_append_left _ _ (by rw[KZ h];exact c)]
 ·have e1:(σ.set i o).take p=σ.take p:=by rw[List.take_set,List.set_eq_of_length_le (by rw[List.length_take];exact Nat.le_trans (Nat.min_le_left ..) (Nat.le_of_not_lt c))]
  rw[if_neg c,e1,List.drop_set,if_neg c,List.map_set,List.set_append_right _ _ (by rw[LA h];exact UI c),LA h,Pa c]
theorem OJ(h:p<=σ.length)(o:AO):Dq p γ (σ++[o])=Dq p γ σ++[Hq p γ.length o]:=by unfold Dq;rw[List.take_append_of_le_length h,List.drop_append_of_le_length h,List.map_append];simp only[List.append_assoc,List.map_cons,List.map_nil]
noncomputable def E9(p:Nat)(γ:St)(f:α->α):C6 α->C6 α->Prop
 |.ok a σ,r=>p<=σ.length/\r=.ok (f a) (Dq p γ σ)
 |.exc e σ,r=>p<=σ.length/\r=.exc e (Dq p γ σ)
 |.stuck,_=>True
noncomputable def AV(p:Nat)(γ:St)(f:α->α)(m m':Mo α):Prop:=∀σ:St,p<=σ.length->E9 p γ f (m σ) (m' (Dq p γ σ))
theorem Ah:AV p γ f AB m':=λ_ _=>trivial
theorem Ak(h:b=f a):AV p γ f (ret a) (ret b):=λ_ l=>⟨l,by rw[h];rfl⟩
theorem Al(h:AV p γ f m m')(hk:∀a,AV p γ g (k a) (k' (f a))):AV p γ g (Aa m k) (Aa m' k'):=by
 intro σ l;have q:=h σ l;unfold Aa;cases e:m σ with
 |ok a σ'=>rw[e]at q;rw[q.2];exact hk a σ' q.1
 |exc x σ'=>rw[e]at q;rw[q.2];exact⟨q.1,rfl⟩
 |stuck=>trivial
theorem Bs(h:b=true->b'=true)(hm:AV p γ f m m'):AV p γ f (Eb b m) (Eb b' m'):=by
 cases b with
 |false=>exact Ah
 |true=>rw[h rfl];exact hm
theorem Aq[Decidable q](h1:AV p γ f a a')(h2:AV p γ f b b'):AV p γ f (if q then a else b) (if q then a' else b'):=by
 by_cases h:q;·rw[if_pos h,if_pos h];exact h1
 ·rw[if_neg h,if_neg h];exact h2
theorem FW(h:AV p γ f m m'):AV p γ f (Cs m) (Cs m'):=by
 intro σ l;have q:=h σ l;unfold Cs;cases e:m σ with
 |ok a σ'=>rw[e]at q;rw[q.2];exact⟨q.1,rfl⟩
 |exc x σ'=>trivial
 |stuck=>trivial
theorem BY(h:∀a,o=some a->o'=some (f a)):AV p γ f (Af o) (Af o'):=by
 cases o with
 |none=>exact Ah
 |some a=>rw[h a rfl];exact Ak rfl
theorem Yz(h1:Hk a=some x)(h2:DD r=some y)(h3:d=x::y):DD (a::r)=some d:=by show(match Hk a,DD r with|some d,some ds=>some (d::ds)|_,_=>none)=some d;rw[h1,h2,h3]
mutual
theorem KL:∀{v:V}{d:PyData},Hk v=some d->Hk (Am p γ.length v)=some d
 |.tup l,d,h=>by refine Au (Option.map_eq_some_iff.mp h) λds h1 h2=>?_;exact Option.map_eq_some_iff.mpr ⟨ds,Lq h1,h2⟩
 |.lst l,d,h=>by refine Au (Option.map_eq_some_iff.mp h) λds h1 h2=>?_;exact Option.map_eq_some_iff.mpr ⟨ds,Lq h1,h2⟩
 |.none,_,h=>h
 |.bool _,_,h=>h
 |.int _,_,h=>h
 |.str _,_,h=>h
 |.byt _,_,h=>h
 |.rng _,_,h=>h
 |.glob _,_,h=>h
 |.exn _ _,_,h=>h
 |.obj _,_,h=>Dm h
theorem Lq:∀{v:List V}{d:List PyData},DD v=some d->DD (DO p γ.length v)=some d
 |[],_,h=>h
 |a::r,d,h=>by refine Cz (UD h) λx y h1 h2 h3=>?_;exact Yz (KL h1) (Lq h2) h3
end
end
end
end
section
noncomputable section
section
variable{γ:St}
noncomputable def oN(p g j:Nat):Nat:=if j<p then j else j-g
theorem XO(p g i:Nat):oN p g (Jb p g i)=i:=by
 unfold Jb oN;by_cases h:i<p;·rw[if_pos h,if_pos h]
 ·rw[if_neg h,if_neg (λq=>h (Nat.lt_of_le_of_lt (Nat.le_add_right i g) q)),Nat.add_sub_cancel]
mutual
noncomputable def pC(p g:Nat):V->V
 |.tup l=>.tup (V0 p g l)
 |.lst l=>.lst (V0 p g l)
 |.obj i=>.obj (oN p g i)
 |.none=>.none
 |.bool b=>.bool b
 |.int i=>.int i
 |.str s=>.str s
 |.byt b=>.byt b
 |.rng n=>.rng n
 |.glob v=>.glob v
 |.exn c v=>.exn c v
noncomputable def V0(p g:Nat):List V->List V
 |[]=>[]
 |a::r=>pC p g a::V0 p g r
end
mutual
theorem Oa(p g:Nat):∀a:V,pC p g (Am p g a)=a
 |.tup l=>congrArg V.tup (LO p g l)
 |.lst l=>congrArg V.lst (LO p g l)
 |.obj i=>congrArg V.obj (XO p g i)
 |.none=>rfl
 |.bool _=>rfl
 |.int _=>rfl
 |.str _=>rfl
 |.byt _=>rfl
 |.rng _=>rfl
 |.glob _=>rfl
 |.exn _ _=>rfl
theorem LO(p g:Nat):∀a:List V,V0 p g (DO p g a)=a
 |[]=>rfl
 |a::r=>by show pC p g (Am p g a)::V0 p g (DO p g r)=a::r;rw[Oa p g a,LO p g r]
end
theorem Xj(h:Am p g a=Am p g b):a=b:=by rw[<-Oa p g a,h,Oa]
theorem Im(p g:Nat)(a b:V):Ay (Am p g a) (Am p g b)=Ay a b:=by
 cases h:Ay a b with
 |true=>rw[Cr h];exact BX _
 |false=>
  cases h2:Ay (Am p g a) (Am p g b) with
  |false=>rfl
  |true=>rw[Xj (Cr h2),BX]at h;cases h
theorem JC(h:A6 a b=true):A6 (a.map (Am p g)) (b.map (Am p g))=true:=by rw[C8 h];exact Bx _
theorem SY(h:I9 a b=some q):I9 (Am p γ.length a) (Am p γ.length b)=some q:=by
 delta I9 at h⊢;cases e1:Hk a with
 |none=>rw[e1]at h;cases h
 |some x=>
  cases e2:Hk b with
  |none=>rw[e1,e2]at h;cases h
  |some y=>rw[e1,e2]at h;rw[KL e1,KL e2];exact h
theorem EX(p g:Nat)(a:V):(Am p g a).ctorIdx=a.ctorIdx:=by cases a<;>rfl
theorem Q3(p g:Nat)(a:V):isNone (Am p g a)=isNone a:=by cases a<;>rfl
theorem IX(p g:Nat)(a:V):vI (Am p g a)=vI a:=by cases a<;>rfl
theorem mI(p g:Nat)(a:V):vN (Am p g a)=vN a:=congrArg (λn=>decide (n=0)) (EX p g a)
theorem Ms(p g:Nat)(a:V):vT (Am p g a)=(vT a).map (List.map (Am p g)):=by cases a<;>first|rfl|exact congrArg some (Br p g _)
theorem O4(p g:Nat)(a:V):vL (Am p g a)=(vL a).map (List.map (Am p g)):=by cases a<;>first|rfl|exact congrArg some (Br p g _)
theorem kI(p g:Nat)(a:V):vO (Am p g a)=(vO a).map (Jb p g):=by cases a<;>rfl
theorem M5:∀{ns:List Int},CI l=some ns->CI (l.map (Am p g))=some ns:=by
 induction l with
 |nil=>exact λh=>h
 |cons a r ih=>intro ns h;refine Cz (Lm h) λi ms eqq2 e2 eqq4=>?_;subst eqq2;subst eqq4;show(CI (r.map (Am p g))).map (i :: ·)=_;rw[ih e2];rfl
noncomputable def E7(p g:Nat)(q:V×V):V×V:=(Am p g q.1,Am p g q.2)
theorem E2(p g:Nat)(k:V):∀es:List (V×V),AI (es.map (E7 p g)) (Am p g k)=(AI es k).map (Am p g)
 |[]=>rfl
 |(a,v)::r=>by
  show(if Ay (Am p g a) (Am p g k)=true then some (Am p g v) else AI (r.map (E7 p g)) (Am p g k))=(if Ay a k=true then some v else AI r k).map (Am p g);rw[Im];by_cases h:Ay a k=true;·rw[if_pos h,if_pos h];rfl
  ·rw[if_neg h,if_neg h];exact E2 p g k r
theorem LR(p g:Nat)(k w:V):∀es:List (V×V),Bl (es.map (E7 p g)) (Am p g k) (Am p g w)=(Bl es k w).map (E7 p g)
 |[]=>rfl
 |(a,v)::r=>by
  show(if Ay (Am p g a) (Am p g k)=true then(Am p g a,Am p g w)::r.map (E7 p g) else(Am p g a,Am p g v)::Bl (r.map (E7 p g)) (Am p g k) (Am p g w))=(if Ay a k=true then(a,w)::r else(a,v)::Bl r k w).map (E7 p g);rw[Im];by_cases h:Ay a k=true;·rw[if_pos h,if_pos h];rfl
  ·rw[if_neg h,if_neg h,LR p g k w r];rfl
theorem OD(p g:Nat)(k:V):∀es:List (V×V),EK (es.map (E7 p g)) (Am p g k)=(EK es k).map (E7 p g)
 |[]=>rfl
 |(a,v)::r=>by
  show(if Ay (Am p g a) (Am p g k)=true then r.map (E7 p g) else(Am p g a,Am p g v)::EK (r.map (E7 p g)) (Am p g k))=(if Ay a k=true then r else(a,v)::EK r k).map (E7 p g);rw[Im];by_cases h:Ay a k=true;·rw[if_pos h,if_pos h]
  ·rw[if_neg h,if_neg h,OD p g k r];rfl
theorem Ov(p g:Nat)(a:V):E8 (Am p g a)=E8 a:=congrArg (λn=>decide (n=2)) (EX p g a)
theorem cN(p g:Nat)(a:V):LY (Am p g a)=LY a:=congrArg (λn=>decide (n=8)) (EX p g a)
theorem Yt(p g:Nat)(a:V):BM (Am p g a)=BM a:=congrArg (λn=>decide (n=2)||decide (n=3)) (EX p g a)
theorem cV(p g:Nat)(a:V):B3 (Am p g a)=B3 a:=by
 cases a<;>first|rfl|skip
 show(DO p g _).all BM=_;rw[Br,List.all_map];exact congrArg (λf=>List.all _ f) (funext λa=>Yt p g a)
theorem EP(p g:Nat)(es:List (V×V))(k:V):As (es.map (E7 p g)) (Am p g k)=As es k:=by
 unfold As;rw[cV,Ov,List.all_map,List.all_map];congr 1;congr 1;·exact congrArg (λf=>List.all es f) (funext λa=>Ov p g a.1)
 ·exact congrArg (λf=>List.all es f) (funext λa=>cN p g a.1)
theorem IG(p g:Nat)(a:V):Ba (Am p g a)=Ba a:=congrArg (λn => !decide (n=6)) (EX p g a)
theorem GL(p g:Nat)(x:Str):∀fs:List (Str×V),(fs.map λq=>(q.1,Am p g q.2)).lookup x=(fs.lookup x).map (Am p g)
 |[]=>rfl
 |(n,v)::r=>by simp only[List.map_cons,List.lookup_cons];cases x==n<;>first|rfl|exact GL p g x r
theorem O8(p g:Nat)(x:Str)(w:V):∀fs:List (Str×V),FT (fs.map λq=>(q.1,Am p g q.2)) x (Am p g w)=(FT fs x w).map λq=>(q.1,Am p g q.2)
 |[]=>rfl
 |(n,v)::r=>by
  show(if n=x then(n,Am p g w)::r.map (λq=>(q.1,Am p g q.2)) else(n,Am p g v)::FT (r.map λq=>(q.1,Am p g q.2)) x (Am p g w))=(if n=x then(n,w)::r else(n,v)::FT r x w).map λq=>(q.1,Am p g q.2)
  by_cases h:n=x;·rw[if_pos h,if_pos h];rfl
  ·rw[if_neg h,if_neg h,O8 p g x w r];rfl
theorem Wr(op:Operator)(a b:Int):AV p γ (Am p γ.length) (Za op a b) (Za op a b):=by cases op<;>first|exact Ah|exact Ak rfl|exact Bs id (Ak rfl)
theorem UP(op:Operator)(a b:List V):AV p γ (Am p γ.length) (Xy op a b) (Xy op (a.map (Am p γ.length)) (b.map (Am p γ.length))):=by
 cases op<;>first|exact Ah|skip
 refine Bs (λh=>?_) (Ak ?_);·rw[List.length_map,List.length_map];exact h
 ·show _=V.tup (DO p γ.length (a++b));rw[Br,List.map_append]
theorem TZ(op:Operator)(a b:List V):AV p γ (Am p γ.length) (YS op a b) (YS op (a.map (Am p γ.length)) (b.map (Am p γ.length))):=by
 cases op<;>first|exact Ah|skip
 refine Bs (λh=>?_) (Ak ?_);·rw[List.length_map,List.length_map];exact h
 ·show _=V.lst (DO p γ.length (a++b));rw[Br,List.map_append]
theorem Sr(op:Operator)(a:List V)(k:Int):AV p γ (Am p γ.length) (Ys op a k) (Ys op (a.map (Am p γ.length)) k):=by
 cases op<;>first|exact Ah|skip
 refine Bs (λh=>?_) (Ak ?_);·rw[List.length_map];exact h
 ·show _=V.lst (DO p γ.length (if k=0 then[] else a));rw[Br];by_cases h:k=0;·rw[if_pos h,if_pos h];rfl
  ·rw[if_neg h,if_neg h]
theorem PL(op:Operator)(a b:V):AV p γ (Am p γ.length) (Aj op a b) (Aj op (Am p γ.length a) (Am p γ.length b)):=by
 unfold Aj;rw[IX,IX,Ms,O4];cases vI a with
 |some x=>cases vI b with
  |some y=>exact Wr op x y
  |none=>exact Ah
 |none=>cases vT a with
  |some l=>
   show AV p γ _ (Q8 op l b) (Q8 op _ _);unfold Q8;rw[Ms];cases vT b with
   |some m=>exact UP op l m
   |none=>exact Ah
  |none=>cases vL a with
   |none=>exact Ah
   |some l=>
    show AV p γ _ (QU op l b) (QU op _ _);unfold QU;rw[O4,IX];cases vL b with
    |some m=>exact TZ op l m
    |none=>cases vI b with
     |some k=>exact Sr op l k
     |none=>exact Ah
theorem Vb(op:UnaryOp)(a:V):AV p γ (Am p γ.length) (Th op a) (Th op (Am p γ.length a)):=by
 unfold Th;rw[IX];cases vI a with
 |none=>exact Ah
 |some i=>cases op<;>first|exact Ah|exact Ak rfl
theorem LS(a:V):AV p γ id (BS a) (BS (Am p γ.length a)):=by cases a<;>first|exact Ah|exact Ak rfl
theorem Xl(f:Bool->Bool)(a b:V):AV p γ id (Af ((I9 a b).map f)) (Af ((I9 (Am p γ.length a) (Am p γ.length b)).map f)):=BY λq h=>by refine Au (Option.map_eq_some_iff.mp h) λx h1 h2=>?_;rw[SY h1,Option.map_some,h2];rfl
theorem F0(f:Int->Int->Bool)(a b:V):AV p γ id (LV f a b) (LV f (Am p γ.length a) (Am p γ.length b)):=by
 unfold LV;rw[IX,IX];cases vI a with
 |none=>exact Ah
 |some x=>cases vI b with
  |none=>exact Ah
  |some y=>exact Ak rfl
theorem MQ(f:Bool->Bool)(a b:V):AV p γ id (Oy f a b) (Oy f (Am p γ.length a) (Am p γ.length b)):=by unfold Oy;rw[mI,Q3];exact Aq (BY λq h=>h) Ah
theorem VJ(a:V)(i:Nat):AV p γ id (R1 a i) (R1 (Am p γ.length a) (Jb p γ.length i)):=by
 intro σ hl;unfold R1;rw[HB hl];by_cases h:LF σ[i]?=true;·rw[if_pos h,HU h];show E9 p γ id (Af (Pe (Hk a)) σ) (Af (Pe (Hk (Am p γ.length a))) (Dq p γ σ));exact BY (λq e=>by refine Au (Option.bind_eq_some_iff.mp e) λd e1 e2=>?_;rw[KL e1];exact e2) σ hl
 ·rw[if_neg h];trivial
theorem XE(op:CmpOp)(a b:V):AV p γ id (Ap op a b) (Ap op (Am p γ.length a) (Am p γ.length b)):=by
 have same0:AV p γ id (Af (I9 a b)) (Af (I9 (Am p γ.length a) (Am p γ.length b))):=BY λq h=>SY h;cases op with
 |Eq=>
  show AV p γ id (RS a b) (RS _ _);unfold RS;rw[O4,kI];cases vL a with
  |none=>exact same0
  |some l=>cases vO b with
   |none=>exact same0
   |some i=>exact VJ a i
 |NotEq=>exact Xl (!·) a b
 |Lt=>exact F0 _ a b
 |LtE=>exact F0 _ a b
 |Gt=>exact F0 _ a b
 |GtE=>exact F0 _ a b
 |Is=>exact MQ id a b
 |IsNot=>exact MQ (!·) a b
 |In=>exact Ah
 |NotIn=>
  show AV p γ id (Rg a b) (Rg _ _);unfold Rg;rw[IX,Ms];cases vI a with
  |none=>exact Ah
  |some x=>cases vT b with
   |none=>exact Ah
   |some l=>refine BY λq h=>?_;refine Au (Option.map_eq_some_iff.mp h) λx h1 h2=>?_;rw[M5 h1,Option.map_some,h2];rfl
end
end
end
noncomputable section
section
theorem kZ(p g:Nat)(C:Addr)(fs:List (Str×V)):Hq p g (.inst C fs)=.inst C (fs.map λq=>(q.1,Am p g q.2)):=rfl
theorem kL(p g:Nat)(es:List (V×V))(n:Nat):Hq p g (.dict es n)=.dict (es.map (E7 p g)) n:=rfl
theorem Vh(p g:Nat)(l:List V):Hq p g (.list l)=.list (l.map (Am p g)):=rfl
theorem Dt{α:Type}{f:α->α}{i:Nat}{F F':AO->Mo α}(h:∀o,AV p γ f (F o) (F' (Hq p γ.length o))):AV p γ f (λσ=>match σ[i]? with|some o=>F o σ|none=>.stuck) (λσ=>match σ[Jb p γ.length i]? with|some o=>F' o σ|none=>.stuck):=by
 intro σ l;show E9 p γ f (match σ[i]? with|some o=>F o σ|none=>.stuck) (match(Dq p γ σ)[Jb p γ.length i]? with|some o=>F' o (Dq p γ σ)|none=>.stuck);rw[HB l];cases σ[i]? with
 |none=>trivial
 |some o=>exact h o σ l
theorem EI(e:∀σ,m σ=n σ)(e':∀σ,m' σ=n' σ)(h:AV p γ f n n'):AV p γ f m m':=λσ l=>by rw[e,e'];exact h σ l
theorem PU(l:List V)(k:Int):AV p γ (Am p γ.length) (IP l k) (IP (l.map (Am p γ.length)) k):=by
 refine Bs id ?_;rw[List.length_map];cases seqIndex? k l.length with
 |none=>exact Ah
 |some j=>exact BY λa h=>by rw[List.getElem?_map,h];rfl
noncomputable def mC(k:V):AO->Mo V
 |.dict es _=>λσ=>match As es k,AI es k with
  |true,some v=>.ok v σ
  |_,_=>.stuck
 |_=>AB
theorem JG(c:Cx)(i:Nat)(k:V)(σ:St):Fj c (.obj i) k σ=match σ[i]? with|some o=>mC k o σ|none=>.stuck:=by
 delta Fj;dsimp only;cases σ[i]? with
 |none=>rfl
 |some o=>cases o<;>rfl
theorem Ud(c:Cx)(o k:V):AV p γ (Am p γ.length) (Fj c o k) (Fj c (Am p γ.length o) (Am p γ.length k)):=by
 cases o with
 |tup l=>
  cases k<;>first|exact λ_ _=>trivial|skip
  show AV p γ _ (IP l _) (IP (DO p γ.length l) _);rw[Br];exact PU _ _
 |lst l=>
  cases k<;>first|exact λ_ _=>trivial|skip
  show AV p γ _ (IP l _) (IP (DO p γ.length l) _);rw[Br];exact PU _ _
 |glob g=>
  cases g<;>first|exact λ_ _=>trivial|skip
  cases k<;>first|exact λ_ _=>trivial|skip
  refine BY λv h=>?_;refine Au (Option.map_eq_some_iff.mp h) λx h1 h2=>?_;rw[<-h2];show((c.tab _ _).map V.int)=some (V.int x);rw[h1];rfl
 |obj i=>
  refine EI (JG c i k) (JG c _ _) (Dt λo=>?_);cases o with
  |dict es n=>intro σ l;show E9 p γ _ (match As es k,AI es k with|true,some v=>.ok v σ|_,_=>.stuck) (match As (es.map (E7 p γ.length)) (Am p γ.length k),AI (es.map (E7 p γ.length)) (Am p γ.length k) with|true,some v=>.ok v (Dq p γ σ)|_,_=>.stuck);rw[EP,E2];cases As es k<;>cases AI es k<;>first|trivial|exact⟨l,rfl⟩
  |inst C fs=>exact Ah
  |list l=>exact Ah
 |none=>exact λ_ _=>trivial
 |bool _=>exact λ_ _=>trivial
 |int _=>exact λ_ _=>trivial
 |str _=>exact λ_ _=>trivial
 |byt _=>exact λ_ _=>trivial
 |rng _=>exact λ_ _=>trivial
 |exn _ _=>exact λ_ _=>trivial
theorem KA(p g:Nat)(a:V):De (Am p g a)=De a:=by cases a<;>rfl
theorem YU(p g:Nat)(l:List V)(c:Int×Nat):Eo (l.map (Am p g)) c=(Eo l c).map (Am p g):=by unfold Eo;rw[List.map_filterMap];refine congrFun (congrArg _ (funext λk=>?_)) _;rw[List.getElem?_map]
theorem V4(p g:Nat)(l:List V)(lo hi st:Option Int):Ep (l.map (Am p g)) lo hi st=(Ep l lo hi st).map (Am p g):=by unfold Ep;rw[List.map_filterMap,List.length_map];refine congrFun (congrArg _ (funext λk=>?_)) _;rw[List.getElem?_map]
set_option tactic.hygienic true in
theorem YG(o a b d:V):AV p γ (Am p γ.length) (My o a b d) (My (Am p γ.length o) (Am p γ.length a) (Am p γ.length b) (Am p γ.length d)):=by
 unfold My;rw[KA,KA,KA];cases De a<;>cases De b<;>cases De d<;>first|exact Ah|skip
 next x y z=>
  cases o<;>first|exact Ah|skip
  ·exact Bs id (Ak rfl)
  ·next l=>
   cases z<;>first|exact Ah|skip
   show AV p γ _ (I8 l x y) (I8 (DO p γ.length l) x y);rw[Br];unfold I8;rw[List.length_map];refine Bs id (Ak ?_);rw[Uu,YU]
  ·next l=>show AV p γ _ (Iq l x y z) (Iq (DO p γ.length l) x y z);rw[Br];unfold Iq;rw[List.length_map];refine Bs id (Ak ?_);rw[LL,V4]
noncomputable def qL(p g:Nat):Ek->Ek
 |.item k=>.item (Am p g k)
 |.cut a b d=>.cut (Am p g a) (Am p g b) (Am p g d)
theorem PT(c:Cx)(o:V)(k:Ek):AV p γ (Am p γ.length) (B9 c o k) (B9 c (Am p γ.length o) (qL p γ.length k)):=by
 cases k with
 |item k=>exact Ud c o k
 |cut a b d=>exact YG o a b d
noncomputable def kJ(c:Cx)(name:Str):AO->Mo V
 |.inst C fs=>λσ=>if c.own C name=true then(match fs.lookup name with
  |some v=>if Ba v=true then .ok v σ else .stuck
  |none=>.stuck) else .stuck
 |_=>AB
theorem Ju(c:Cx)(i:Nat)(name:Str)(σ:St):Fg c (.obj i) name σ=match σ[i]? with|some o=>kJ c name o σ|none=>.stuck:=by
 delta Fg;dsimp only;cases σ[i]? with
 |none=>rfl
 |some o=>cases o<;>rfl
set_option tactic.hygienic true in
theorem TN(c:Cx)(o:V)(name:Str):AV p γ (Am p γ.length) (Fg c o name) (Fg c (Am p γ.length o) name):=by
 cases o<;>first|exact λ_ _=>trivial|skip
 ·intro σ l;show E9 p γ _ (if name=_ then _ else if name=_ then _ else _) (if name=_ then _ else if name=_ then _ else _);split;·exact⟨l,rfl⟩
  ·split;·exact⟨l,rfl⟩
   ·trivial
 ·next i=>
  refine EI (Ju c i name) (Ju c _ name) (Dt λo=>?_);cases o with
  |inst C fs=>
   intro σ l;show E9 p γ _ (if c.own C name=true then(match fs.lookup name with|some v=>if Ba v=true then .ok v σ else .stuck|none=>.stuck) else .stuck) (if c.own C name=true then(match(fs.map λq=>(q.1,Am p γ.length q.2)).lookup name with|some v=>if Ba v=true then .ok v (Dq p γ σ) else .stuck|none=>.stuck) else .stuck);rw[GL];split
   ·cases fs.lookup name with
    |none=>trivial
    |some v=>
     show E9 p γ _ (if Ba v=true then _ else _) (if Ba (Am p γ.length v)=true then _ else _);rw[IG];split;·exact⟨l,rfl⟩
     ·trivial
   ·trivial
  |dict es n=>exact Ah
  |list l=>exact Ah
noncomputable def iS(c:Cx)(name:Str):AO->Mo Value
 |.inst C fs=>λσ=>match fs.lookup name with|none=>Af (c.meth C name) σ|some _=>.stuck
 |.dict _ _=>λσ=>if name=("get" : Str) then .ok (.builtin "dict.get") σ else if name=("pop" : Str) then .ok (.builtin "dict.pop") σ else .stuck
 |.list _=>λσ=>if name=("append" : Str) then .ok (.builtin "list.append") σ else .stuck
theorem Kb(c:Cx)(i:Nat)(name:Str)(σ:St):Ed c (.obj i) name σ=match σ[i]? with|some o=>iS c name o σ|none=>.stuck:=by
 delta Ed;dsimp only;cases σ[i]? with
 |none=>rfl
 |some o=>cases o<;>rfl
set_option tactic.hygienic true in
theorem S6(c:Cx)(o:V)(name:Str):AV p γ id (Ed c o name) (Ed c (Am p γ.length o) name):=by
 cases o<;>first|exact λ_ _=>trivial|skip
 next i=>
 refine EI (Kb c i name) (Kb c _ name) (Dt λo=>?_);cases o with
 |inst C fs=>
  intro σ l;show E9 p γ _ (match fs.lookup name with|none=>Af (c.meth C name) σ|some _=>.stuck) (match(fs.map λq=>(q.1,Am p γ.length q.2)).lookup name with|none=>Af (c.meth C name) (Dq p γ σ)|some _=>.stuck);rw[GL];cases fs.lookup name with
  |none=>exact BY (f:=id) (λa h=>h) σ l
  |some v=>trivial
 |dict es n=>
  intro σ l;show E9 p γ _ (if name=_ then _ else if name=_ then _ else _) (if name=_ then _ else if name=_ then _ else _);split;·exact⟨l,rfl⟩
  ·split;·exact⟨l,rfl⟩
   ·trivial
 |list es=>
  intro σ l;show E9 p γ _ (if name=_ then _ else _) (if name=_ then _ else _);split;·exact⟨l,rfl⟩
  ·trivial
end
end
noncomputable section
section
theorem Ld{σ:St}{i:Nat}{o:AO}(l:p<=σ.length):p<=(σ.set i o).length:=by rw[List.length_set];exact l
noncomputable def sI(c:Cx)(i:Nat)(name:Str)(v:V):AO->Mo Unit
 |.inst C fs=>λσ=>if(c.own C name&&decide (fs.length<100))=true then .ok () (σ.set i (.inst C (FT fs name v))) else .stuck
 |_=>AB
theorem G9(c:Cx)(i:Nat)(name:Str)(v:V)(σ:St):Cp c (.obj i) name v σ=match σ[i]? with|some o=>sI c i name v o σ|none=>.stuck:=by
 delta Cp;dsimp only;cases σ[i]? with
 |none=>rfl
 |some o=>cases o<;>rfl
set_option tactic.hygienic true in
theorem Ni(c:Cx)(o:V)(name:Str)(v:V):AV p γ id (Cp c o name v) (Cp c (Am p γ.length o) name (Am p γ.length v)):=by
 cases o<;>first|exact λ_ _=>trivial|skip
 next i=>
 refine EI (G9 c i name v) (G9 c _ name _) (Dt λo=>?_);cases o with
 |inst C fs=>
  intro σ l;show E9 p γ _ (if(c.own C name&&decide (fs.length<100))=true then .ok () (σ.set i (.inst C (FT fs name v))) else .stuck) (if(c.own C name&&decide ((fs.map λq=>(q.1,Am p γ.length q.2)).length<100))=true then .ok () ((Dq p γ σ).set (Jb p γ.length i) (.inst C (FT (fs.map λq=>(q.1,Am p γ.length q.2)) name (Am p γ.length v)))) else .stuck);rw[List.length_map];split;·refine⟨Ld l,?_⟩;rw[LN l,O8];rfl
  ·trivial
 |dict es n=>exact Ah
 |list l=>exact Ah
noncomputable def rD(i:Nat)(k v:V):AO->Mo Unit
 |.dict es n=>λσ=>if(As es k&&decide (es.length<=4096)&&Ba v)=true then .ok () (σ.set i (.dict (Bl es k v) (if(AI es k).isSome=true then n else n+1))) else .stuck
 |_=>AB
theorem Ha(i:Nat)(k v:V)(σ:St):A8 (.obj i) k v σ=match σ[i]? with|some o=>rD i k v o σ|none=>.stuck:=by
 delta A8;dsimp only;cases σ[i]? with
 |none=>rfl
 |some o=>cases o<;>rfl
set_option tactic.hygienic true in
theorem MS(o k v:V):AV p γ id (A8 o k v) (A8 (Am p γ.length o) (Am p γ.length k) (Am p γ.length v)):=by
 cases o<;>first|exact λ_ _=>trivial|skip
 next i=>
 refine EI (Ha i k v) (Ha _ _ _) (Dt λo=>?_);cases o with
 |dict es n=>
  intro σ l;show E9 p γ _ (if(As es k&&decide (es.length<=4096)&&Ba v)=true then .ok () (σ.set i (.dict (Bl es k v) (if(AI es k).isSome=true then n else n+1))) else .stuck) (if(As (es.map (E7 p γ.length)) (Am p γ.length k)&&decide ((es.map (E7 p γ.length)).length<=4096)&&Ba (Am p γ.length v))=true then .ok () ((Dq p γ σ).set (Jb p γ.length i) (.dict (Bl (es.map (E7 p γ.length)) (Am p γ.length k) (Am p γ.length v)) (if(AI (es.map (E7 p γ.length)) (Am p γ.length k)).isSome=true then n else n+1))) else .stuck);rw[List.length_map,EP,IG,E2,LR,Option.isSome_map];split;·refine⟨Ld l,?_⟩;rw[LN l];rfl
  ·trivial
 |inst C fs=>exact Ah
 |list l=>exact Ah
noncomputable def pX:AO->Mo (List V)
 |.dict es _=>ret (es.map (·.1))
 |.list l=>ret l
 |_=>AB
theorem JV(i:Nat)(σ:St):A5 (.obj i) σ=match σ[i]? with|some o=>pX o σ|none=>.stuck:=by
 delta A5;dsimp only;cases σ[i]? with
 |none=>rfl
 |some o=>cases o<;>rfl
theorem NF{α:Type}(p g:Nat)(f:α->Int)(l:List α):(l.map λi=>V.int (f i)).map (Am p g)=l.map λi=>V.int (f i):=by rw[List.map_map];rfl
set_option tactic.hygienic true in
theorem JX(o:V):AV p γ (List.map (Am p γ.length)) (A5 o) (A5 (Am p γ.length o)):=by
 cases o<;>first|exact λ_ _=>trivial|skip
 ·exact Ak (NF p γ.length _ _).symm
 ·exact Ak (NF p γ.length _ _).symm
 ·exact Ak (Br _ _ _)
 ·exact Ak (Br _ _ _)
 ·next i=>
  refine EI (JV i) (JV _) (Dt λo=>?_);cases o with
  |dict es n=>refine Ak ?_;rw[List.map_map,List.map_map];rfl
  |list l=>exact Ak rfl
  |inst C fs=>exact Ah
theorem Lx(o:AO):AV p γ (Am p γ.length) (Ej o) (Ej (Hq p γ.length o)):=by intro σ l;refine⟨by rw[List.length_append];lia,?_⟩;show C6.ok (V.obj (Dq p γ σ).length) (Dq p γ σ++[Hq p γ.length o])=C6.ok (V.obj (Jb p γ.length σ.length)) (Dq p γ (σ++[o]));rw[Pg l,OJ l]
theorem UT(p g:Nat)(l:List V):Mb (l.map (Am p g))=(Mb l).map (E7 p g):=by rcases l with _|⟨k,_|⟨u,_|⟨x,t⟩⟩⟩<;>rfl
theorem Wi(p g:Nat)(v:V):Ee (Am p g v)=(Ee v).map (E7 p g):=by
 show(vT (Am p g v)).bind Mb=((vT v).bind Mb).map (E7 p g);rw[Ms];cases vT v with
 |none=>rfl
 |some l=>exact UT p g l
theorem M3{p g:Nat}:∀{l:List V}{es es':List (V×V)},AZ l es=some es'->AZ (l.map (Am p g)) (es.map (E7 p g))=some (es'.map (E7 p g))
 |[],es,es',h=>by rw[<-Option.some.inj (show some es=some es' from h)];rfl
 |v::r,es,es',h=>by
  replace h:(match Ee v with
   |some q=>if(As es q.1&&decide (es.length<=4096))=true then AZ r (Bl es q.1 q.2) else none
   |none=>none)=some es':=h
  show(match Ee (Am p g v) with
   |some q=>if(As (es.map (E7 p g)) q.1&&decide ((es.map (E7 p g)).length<=4096))=true then AZ (r.map (Am p g)) (Bl (es.map (E7 p g)) q.1 q.2) else none
   |none=>none)=_
  rw[Wi];cases e:Ee v with
  |none=>rw[e]at h;exact Dm h
  |some q=>
   rw[e]at h;show(if(As (es.map (E7 p g)) (Am p g q.1)&&decide ((es.map (E7 p g)).length<=4096))=true then AZ (r.map (Am p g)) (Bl (es.map (E7 p g)) (Am p g q.1) (Am p g q.2)) else none)=_;replace h:(if(As es q.1&&decide (es.length<=4096))=true then AZ r (Bl es q.1 q.2) else none)=some es':=h;rw[EP,List.length_map,LR];by_cases hc:(As es q.1&&decide (es.length<=4096))=true;·rw[if_pos hc]at h⊢;exact M3 h
   ·rw[if_neg hc]at h;exact Dm h
theorem Jv(l:List V):AV p γ (Am p γ.length) (Ew l []) (Ew (l.map (Am p γ.length)) []):=by
 unfold Ew;cases e:AZ l [] with
 |none=>exact Ah
 |some es=>rw[show AZ (l.map (Am p γ.length)) []=_ from M3 (es:=[]) e];simp only[List.length_map];exact Lx _
noncomputable def nN:Option AO->Option AO->Bool
 |some (.dict es n),some (.dict es' n')=>decide (n=n')&&A6 (es.map (·.1)) (es'.map (·.1))
 |some (.list l),some (.list l')=>A6 l l'
 |_,_=>false
theorem bJ{p g:Nat}{a b:Option AO}(h:nN a b=true):nN (a.map (Hq p g)) (b.map (Hq p g))=true:=by
 rcases a with _|a;·exact DA h
 cases a with
 |dict es n=>
  rcases b with _|b;·exact DA h
  cases b with
  |dict es' n'=>replace h:=Bool.and_eq_true_iff.mp h;refine Bool.and_eq_true_iff.mpr ⟨h.1,?_⟩;have:=JC (p:=p) (g:=g) h.2;rw[List.map_map,List.map_map]at this⊢;exact this
  |list l=>exact DA h
  |inst C fs=>exact DA h
 |list l=>
  rcases b with _|b;·exact DA h
  cases b with
  |list l=>exact JC h
  |dict es n=>exact DA h
  |inst C fs=>exact DA h
 |inst C fs=>exact DA h
set_option tactic.hygienic true in
theorem UK{o:V}{σ₀ σ:St}(l₀:p<=σ₀.length)(l:p<=σ.length)(h:stays o σ₀ σ=true):stays (Am p γ.length o) (Dq p γ σ₀) (Dq p γ σ)=true:=by
 cases o<;>first|rfl|skip
 next i=>
 replace h:nN σ₀[i]? σ[i]?=true:=h;show nN (Dq p γ σ₀)[Jb p γ.length i]? (Dq p γ σ)[Jb p γ.length i]?=true;rw[HB l₀,HB l];exact bJ h
theorem GS{α:Type}{f:α->α}{o:V}{σ₀:St}(l₀:p<=σ₀.length)(b:Bool){m m':Mo α}(h:AV p γ f m m'):AV p γ f (Aa (λσ=>if(stays o σ₀ σ&&b)=true then .ok () σ else .stuck) λ_=>m) (Aa (λσ=>if(stays (Am p γ.length o) (Dq p γ σ₀) σ&&b)=true then .ok () σ else .stuck) λ_=>m'):=by
 refine Al (f:=id) (λσ l=>?_) λ_=>h;by_cases c:(stays o σ₀ σ&&b)=true
 ·rw[if_pos c];have c2:(stays (Am p γ.length o) (Dq p γ σ₀) (Dq p γ σ)&&b)=true:=by
   rw[Bool.and_eq_true]at c⊢;exact⟨UK l₀ l c.1,c.2⟩
  show E9 p γ id _ (if _ then _ else _);rw[if_pos c2];exact⟨l,rfl⟩
 ·rw[if_neg c];trivial
theorem LZ{o:V}{σ₀:St}(l₀:p<=σ₀.length){f f':V->Mo (List V)}(h:∀v,AV p γ (List.map (Am p γ.length)) (f v) (f' (Am p γ.length v))):∀vs:List V,AV p γ (List.map (Am p γ.length)) (Cg o σ₀ f vs) (Cg (Am p γ.length o) (Dq p γ σ₀) f' (vs.map (Am p γ.length)))
 |[]=>Ak rfl
 |a::r=>by refine Al (h a) λx=>?_;rw[List.length_map];refine GS (o:=o) l₀ (decide (x.length<=256)) (Al (LZ l₀ h r) λy=>Ak ?_);rw[List.map_append]
theorem VD(o:V){f f':V->Mo (List V)}(h:∀v,AV p γ (List.map (Am p γ.length)) (f v) (f' (Am p γ.length v))):AV p γ (List.map (Am p γ.length)) (Bt o f) (Bt (Am p γ.length o) f'):=λσ l=>by refine Al (JX o) (λvs=>?_) σ l;rw[List.length_map];exact Aq (LZ l h vs) Ah
noncomputable def A4(p g:Nat)(fr:Fm):Fm:=λx=>(fr x).map (Am p g)
theorem IC(p g:Nat)(fr:Fm)(x:Str)(v:V):Ac (A4 p g fr) x (Am p g v)=A4 p g (Ac fr x v):=by
 funext y;show(if y=x then some (Am p g v) else(fr y).map (Am p g))=(if y=x then some v else fr y).map (Am p g);by_cases h:y=x;·rw[if_pos h,if_pos h];rfl
 ·rw[if_neg h,if_neg h]
theorem Jx(p g:Nat)(s:Scope)(fr:Fm):Bh s (A4 p g fr)=A4 p g (Bh s fr):=by
 funext y;show(match s.names.lookup y with|some .free=>(fr y).map (Am p g)|_=>none)=(match s.names.lookup y with|some .free=>fr y|_=>none).map (Am p g);cases s.names.lookup y with
 |none=>rfl
 |some k=>cases k<;>rfl
theorem J7{p g:Nat}:∀{xs:List Str}{vs:List V}{fr fr':Fm},Ca fr xs vs=some fr'->Ca (A4 p g fr) xs (vs.map (Am p g))=some (A4 p g fr')
 |[],[],fr,fr',h=>by rw[<-Option.some.inj (show some fr=some fr' from h)];rfl
 |x::xs,v::vs,fr,fr',h=>by replace h:Ca (Ac fr x v) xs vs=some fr':=h;show Ca (Ac (A4 p g fr) x (Am p g v)) xs (vs.map (Am p g))=_;rw[IC];exact J7 h
 |[],_::_,_,fr',h|_::_,[],_,fr',h=>(Option.some_ne_none fr' (Eq.symm h)).elim
theorem Wq(p g:Nat)(v:V):CL (Am p g v)=(CL v).map (List.map (Am p g)):=by delta CL;rw[Ms,O4];cases vT v<;>rfl
noncomputable def XJ(p g:Nat):Az->Az
 |.next fr=>.next (A4 p g fr)
 |.rets v=>.rets (Am p g v)
 |.cont fr=>.cont (A4 p g fr)
theorem Ic{o:V}{σ₀:St}(l₀:p<=σ₀.length){f f':V->Fm->Mo Az}(h:∀v fr,AV p γ (XJ p γ.length) (f v fr) (f' (Am p γ.length v) (A4 p γ.length fr))):∀(vs:List V) (fr:Fm),AV p γ (XJ p γ.length) (BO o σ₀ f vs fr) (BO (Am p γ.length o) (Dq p γ σ₀) f' (vs.map (Am p γ.length)) (A4 p γ.length fr))
 |[],_=>Ak rfl
 |a::r,fr=>by
  refine Al (FW (h a fr)) λq=>?_;cases q with
  |rets v=>exact Ak rfl
  |next fr'=>have:=GS (o:=o) l₀ true (Ic (o:=o) l₀ h r fr');simp only[Bool.and_true]at this;exact this
  |cont fr'=>have:=GS (o:=o) l₀ true (Ic (o:=o) l₀ h r fr');simp only[Bool.and_true]at this;exact this
end
end
noncomputable section
section
structure Gh(p:Nat)(γ:St)(c:Cx):Prop where
 glb:∀x v,c.glb x=some v->Am p γ.length v=v
 call:∀f vs,AV p γ (Am p γ.length) (c.call f vs) (c.call f (vs.map (Am p γ.length)))
theorem Gh.comp(h:Gh p γ c)(s:Scope):Gh p γ (C5 c s):=⟨h.glb,h.call⟩
theorem HG(hc:Gh p γ c)(fr:Fm)(x:Str):AV p γ (Am p γ.length) (EH c fr x) (EH c (A4 p γ.length fr) x):=by
 refine Bs id ?_;have loc:AV p γ (Am p γ.length) (Af (fr x)) (Af (A4 p γ.length fr x)):=BY λv h=>by show(fr x).map _=_;rw[h];rfl
 have gl:AV p γ (Am p γ.length) (Af (c.glb x)) (Af (c.glb x)):=BY λv h=>by rw[h,hc.glb x v h]
 cases c.kind x with
 |none=>exact Ah
 |some k=>cases k<;>first|exact Ah|exact loc|exact gl
noncomputable def oU(p g:Nat):B4->B4
 |.meth f o=>.meth f (Am p g o)
 |.plain f=>.plain f
theorem RU(hc:Gh p γ c)(f:B4)(vs:List V):AV p γ (Am p γ.length) (DB c f vs) (DB c (oU p γ.length f) (vs.map (Am p γ.length))):=by
 cases f with
 |meth f o=>exact hc.call f (o::vs)
 |plain f=>exact hc.call f vs
theorem RG(v:V):AV p γ (oU p γ.length) (I2 v) (I2 (Am p γ.length v)):=by
 cases v<;>first|exact Ah|skip
 exact Aq Ah (Ak rfl)
theorem Pw(h1:AV p γ f a a')(h2:AV p γ f b b'):AV p γ f (Bz op q a b) (Bz op q a' b'):=by cases op<;>cases q<;>assumption
theorem PO(k:Const):AV p γ (Am p γ.length) (SJ k) (SJ k):=by cases k<;>first|exact Ah|exact Ak rfl
theorem RJ:(A4 p g fr x).isSome=(fr x).isSome:=Option.isSome_map
theorem UX(h0:AV p γ (Am p γ.length) (ev it c0 fr0) (ev it c0 (A4 p γ.length fr0)))(h1:AV p γ (Am p γ.length) (ev it c fr) (ev it c (A4 p γ.length fr)))
  (ht:∀x v,AV p γ id (GH ifs c (Ac fr x v)) (GH ifs c (A4 p γ.length (Ac fr x v)))) (hg:∀x v,AV p γ (List.map (Am p γ.length)) (gen gs false c (Ac fr x v) c0 fr0 k) (gen gs false c (A4 p γ.length (Ac fr x v)) c0 (A4 p γ.length fr0) k')) :
  AV p γ (List.map (Am p γ.length)) (gen (⟨t,it,ifs,ia⟩::gs) first c fr c0 fr0 k) (gen (⟨t,it,ifs,ia⟩::gs) first c (A4 p γ.length fr) c0 (A4 p γ.length fr0) k'):=by
 show AV p γ _ (match Ei t with
  |none=>AB
  |some x=>if(fr x).isSome=true then AB else Aa (if first=true then ev it c0 fr0 else ev it c fr) λsrc=>
    Bt src λv=>Aa (GH ifs c (Ac fr x v)) λq=>if q=true then gen gs false c (Ac fr x v) c0 fr0 k else ret []) (match Ei t with
  |none=>AB
  |some x=>if(A4 p γ.length fr x).isSome=true then AB else Aa (if first=true then ev it c0 (A4 p γ.length fr0) else ev it c (A4 p γ.length fr)) λsrc=>
    Bt src λv=>Aa (GH ifs c (Ac (A4 p γ.length fr) x v)) λq=>if q=true then gen gs false c (Ac (A4 p γ.length fr) x v) c0 (A4 p γ.length fr0) k' else ret [])
 cases Ei t with
 |none=>exact Ah
 |some x=>dsimp only;rw[RJ];refine Aq Ah (Al (Aq h0 h1) λsrc=>VD src λv=>?_);rw[IC];exact Al (ht x v) λq=>Aq (hg x v) (Ak rfl)
mutual
theorem AM(e:Expr){c:Cx}(fr:Fm)(hc:Gh p γ c):AV p γ (Am p γ.length) (ev e c fr) (ev e c (A4 p γ.length fr)):=by
 cases e with
 |Constant k _ _=>exact PO k
 |Name x _=>exact HG hc fr x
 |BoolOp op xs _=>exact JD xs op fr hc
 |BinOp l op r _=>exact Al (AM l fr hc) λa=>Al (AM r fr hc) λb=>PL op a b
 |UnaryOp op x _=>exact Al (AM x fr hc) λa=>Vb op a
 |IfExp t b o _=>exact Al (FE t fr hc (AM t fr hc)) λ_=>Aq (AM b fr hc) (AM o fr hc)
 |Compare l ops rs _=>exact Aq (Al (AM l fr hc) λa=>Al (IE rs ops a fr hc) λ_=>Ak rfl) Ah
 |Call f args _ _=>exact Aq (Al (WM f fr hc) λg=>Al (FU args fr hc) λvs=>RU hc g vs) Ah
 |Attribute o name _=>exact Aq (Al (AM o fr hc) λov=>TN c ov name) Ah
 |Subscript o i _=>exact Al (AM o fr hc) λov=>Al (ME i fr hc) λk=>PT c ov k
 |List xs _=>exact Aq (Lx (.list [])) (Aq (Al (FU xs fr hc) λvs=>Ak (LL _ _ _).symm) Ah)
 |Tuple xs _ _=>exact Aq (Al (FU xs fr hc) λvs=>Ak (Uu _ _ _).symm) Ah
 |Dict _ _ _=>exact Aq (Lx (.dict [] 0)) Ah
 |ListComp elt gens scope _=>exact Aq (Al (FW (by have:=Kl gens true (c:=C5 c scope) (fr:=Bh scope fr) (c0:=c) (fr0:=fr) (hc.comp scope) hc (k:=λfr'=>Aa (ev elt (C5 c scope) fr') λy=>ret [y]) (k':=λfr'=>Aa (ev elt (C5 c scope) fr') λy=>ret [y]) λfr'=>Al (AM elt fr' (hc.comp scope)) λy=>Ak rfl;rw[<-Jx]at this;exact this)) λl=>Ak (LL _ _ _).symm) Ah
 |DictComp ke ve gens scope _=>exact Aq (Al (FW (by have:=Kl gens true (c:=C5 c scope) (fr:=Bh scope fr) (c0:=c) (fr0:=fr) (hc.comp scope) hc (k:=λfr'=>Aa (ev ke (C5 c scope) fr') λk=>Aa (ev ve (C5 c scope) fr') λy=>ret [.tup [k,y]]) (k':=λfr'=>Aa (ev ke (C5 c scope) fr') λk=>Aa (ev ve (C5 c scope) fr') λy=>ret [.tup [k,y]]) λfr'=>Al (AM ke fr' (hc.comp scope)) λk=>Al (AM ve fr' (hc.comp scope)) λy=>Ak rfl;rw[<-Jx]at this;exact this)) λl=>Jv l) Ah
 |_=>exact Ah
theorem ME(e:Expr){c:Cx}(fr:Fm)(hc:Gh p γ c):AV p γ (qL p γ.length) (Yo e c fr) (Yo e c (A4 p γ.length fr)):=by
 cases e with
 |Slice lo hi st _=>exact Al (KO lo fr hc) λa=>Al (KO hi fr hc) λb=>Al (KO st fr hc) λd=>Ak rfl
 |Constant k _ _=>exact Al (PO k) λ_=>Ak rfl
 |Name x _=>exact Al (HG hc fr x) λ_=>Ak rfl
 |BinOp l op r _=>exact Al (AM l fr hc) λa=>Al (AM r fr hc) λb=>Al (PL op a b) λ_=>Ak rfl
 |UnaryOp op x _=>exact Al (AM x fr hc) λa=>Al (Vb op a) λ_=>Ak rfl
 |Subscript o i _=>exact Al (AM o fr hc) λov=>Al (ME i fr hc) λk=>Al (PT c ov k) λ_=>Ak rfl
 |_=>exact Ah
theorem WM(e:Expr){c:Cx}(fr:Fm)(hc:Gh p γ c):AV p γ (oU p γ.length) (bC e c fr) (bC e c (A4 p γ.length fr)):=by
 cases e with
 |Attribute o name _=>exact Al (AM o fr hc) λov=>Al (S6 c ov name) λf=>Ak rfl
 |Name x _=>exact Aq (Al (HG hc fr x) λv=>RG v) Ah
 |_=>exact Ah
theorem FU:∀(e:List Expr) {c:Cx}(fr:Fm),Gh p γ c->AV p γ (List.map (Am p γ.length)) (GX e c fr) (GX e c (A4 p γ.length fr))
 |[],_,_,_=>Ak rfl
 |e::r,_,fr,hc=>Al (AM e fr hc) λv=>Al (FU r fr hc) λvs=>Ak rfl
theorem KO:∀(e:Option Expr) {c:Cx}(fr:Fm),Gh p γ c->AV p γ (Am p γ.length) (YW e c fr) (YW e c (A4 p γ.length fr))
 |none,_,_,_=>Ak rfl
 |some e,_,fr,hc=>AM e fr hc
theorem JD:∀(e:List Expr) (op:BoolOp) {c:Cx}(fr:Fm),Gh p γ c->AV p γ (Am p γ.length) (JN e op c fr) (JN e op c (A4 p γ.length fr))
 |[],_,_,_,_=>Ah
 |e::r,op,_,fr,hc=>Al (AM e fr hc) λv=>Aq (Ak rfl) (Al (LS v) λq=>Pw (Ak rfl) (JD r op fr hc))
theorem FE(e:Expr){c:Cx}(fr:Fm)(hc:Gh p γ c){wm wm':Mo V}(h:AV p γ (Am p γ.length) wm wm'):AV p γ id (tst e c fr wm) (tst e c (A4 p γ.length fr) wm'):=by
 cases e with
 |UnaryOp op x _=>cases op<;>first|exact Al (FE x fr hc (AM x fr hc)) λq=>Ak rfl|exact Al h λv=>LS v
 |BoolOp op xs _=>exact MJ xs op fr hc
 |Compare l ops rs _=>exact Aq (Al (AM l fr hc) λa=>IE rs ops a fr hc) Ah
 |IfExp _ _ _ _=>exact Ah
 |_=>exact Al h λv=>LS v
theorem MJ:∀(e:List Expr) (op:BoolOp) {c:Cx}(fr:Fm),Gh p γ c->AV p γ id (NH e op c fr) (NH e op c (A4 p γ.length fr))
 |[],_,_,_,_=>Ak rfl
 |e::r,op,_,fr,hc=>Al (FE e fr hc (AM e fr hc)) λq=>Pw (Ak rfl) (MJ r op fr hc)
theorem Md:∀(e:List Expr) {c:Cx}(fr:Fm),Gh p γ c->AV p γ id (GH e c fr) (GH e c (A4 p γ.length fr))
 |[],_,_,_=>Ak rfl
 |e::r,_,fr,hc=>Al (FE e fr hc (AM e fr hc)) λq=>Aq (Md r fr hc) (Ak rfl)
theorem IE:∀(e:List Expr) (ops:List CmpOp) (a:V) {c:Cx}(fr:Fm),Gh p γ c->AV p γ id (Hj e ops a c fr) (Hj e ops (Am p γ.length a) c (A4 p γ.length fr))
 |[],_,_,_,_,_=>Ah
 |e::r,ops,a,_,fr,hc=>by
  cases ops with
  |nil=>exact Ah
  |cons op ops=>exact Al (AM e fr hc) λb=>Al (XE op a b) λq=>Aq (Aq (Ak rfl) Ah) (Aq (IE r ops b fr hc) (Ak rfl))
theorem Kl:∀(gs:List Comprehension) (first:Bool) {c:Cx}{fr:Fm}{c0:Cx}{fr0:Fm},Gh p γ c->Gh p γ c0->∀{k k':Fm->Mo (List V)},(∀fr,AV p γ (List.map (Am p γ.length)) (k fr) (k' (A4 p γ.length fr)))->
  AV p γ (List.map (Am p γ.length)) (gen gs first c fr c0 fr0 k) (gen gs first c (A4 p γ.length fr) c0 (A4 p γ.length fr0) k')
 |[],_,_,fr,_,_,_,_,_,_,hk=>hk fr
 |⟨t,it,ifs,ia⟩::gs,first,c,fr,c0,fr0,hc,hc0,k,k',hk=>UX (AM it fr0 hc0) (AM it fr hc) (λx v=>Md ifs (Ac fr x v) hc) λx v=>Kl gs false (fr:=Ac fr x v) hc hc0 hk
end
end
end
section
noncomputable section
section
variable{γ:St}
theorem M6(ns:List Str)(l:List V)(c:Cx)(fr:Fm):AV p γ (A4 p γ.length) (D6 ns l c fr) (D6 ns (l.map (Am p γ.length)) c (A4 p γ.length fr)):=by unfold D6;rw[List.length_map];exact Aq (BY λfr' h=>J7 h) Ah
theorem V8(xs:List Expr)(v:V)(c:Cx)(fr:Fm):AV p γ (A4 p γ.length) (match names xs,CL v with|some ns,some l=>D6 ns l c fr|_,_=>AB) (match names xs,CL (Am p γ.length v) with|some ns,some l=>D6 ns l c (A4 p γ.length fr)|_,_=>AB):=by
 rw[Wq];cases names xs with
 |none=>exact Ah
 |some ns=>cases CL v with
  |none=>exact Ah
  |some l=>exact M6 ns l c fr
theorem IL(t:Expr)(v:V)(c:Cx)(fr:Fm):AV p γ (A4 p γ.length) (CS t v c fr) (CS t (Am p γ.length v) c (A4 p γ.length fr)):=by
 delta CS;cases Ei t with
 |some x=>exact Aq (Ak (IC _ _ _ _ _)) Ah
 |none=>
  cases Fc t with
  |some xs=>exact V8 xs v c fr
  |none=>exact Ah
set_option tactic.hygienic true in
theorem QZ(ns:List Str)(v:V)(c:Cx)(fr:Fm):AV p γ (A4 p γ.length) (Fo ns v c fr) (Fo ns (Am p γ.length v) c (A4 p γ.length fr)):=by
 cases v<;>first|exact Ah|skip
 next l=>
 show AV p γ _ (if(ns.length==l.length)=true then D6 ns.reverse l.reverse c fr else AB) (if(ns.length==(DO p γ.length l).length)=true then D6 ns.reverse (DO p γ.length l).reverse c (A4 p γ.length fr) else AB);rw[Br,List.length_map,<-List.map_reverse];exact Aq (M6 _ _ c fr) Ah
theorem VP(t:Expr)(v:V)(value:Expr)(fr:Fm)(hc:Gh p γ c):AV p γ (A4 p γ.length) (HL t v value c fr) (HL t (Am p γ.length v) value c (A4 p γ.length fr)):=by
 cases t with
 |Attribute o name pos=>exact Al (AM o fr hc) λov=>Al (Ni c ov name v) λ_=>Ak rfl
 |Subscript o i pos=>exact Al (AM o fr hc) λov=>Al (AM i fr hc) λk=>Al (MS ov k v) λ_=>Ak rfl
 |Name x pos=>exact IL (.Name x pos) v c fr
 |Tuple xs n pos=>
  show AV p γ _ (match Nn c xs value with|some none=>CS (.Tuple xs n pos) v c fr|some (some ns)=>Fo ns v c fr|none=>AB) (match Nn c xs value with|some none=>CS (.Tuple xs n pos) (Am p γ.length v) c (A4 p γ.length fr)|some (some ns)=>Fo ns (Am p γ.length v) c (A4 p γ.length fr)|none=>AB);rcases Nn c xs value with _|_|ns;·exact Ah
  ·exact IL _ v c fr
  ·exact QZ ns v c fr
 |_=>exact Ah
theorem VU(t:Expr)(v:V):Em t (Am p γ.length v)=Em t v:=congrArg (λn=>decide (t.ctorIdx=23)||(decide (t.ctorIdx=25)&&decide (n=9))) (EX p γ.length v)
theorem We(h:CU C vs=some e):CU C (vs.map (Am p γ.length))=some e:=by cases Ln h<;>exact h
theorem JR(n:Nat)(x:Expr)(fr:Fm)(hc:Gh p γ c):AV p γ (XJ p γ.length) (BH n x c fr) (BH n x c (A4 p γ.length fr)):=by
 unfold BH;cases Ie x with
 |none=>exact Ah
 |some q=>
  dsimp only;cases Ei q.1 with
  |none=>exact Ah
  |some nm=>
   refine Aq (Aq (Al (FW (FU q.2.1 fr hc)) λvs σ l=>?_) Ah) Ah;show E9 p γ _ (match(Fx c nm).bind λC=>CU C vs with|some e=>.exc (e.up n) σ|none=>.stuck) (match(Fx c nm).bind λC=>CU C (vs.map (Am p γ.length)) with|some e=>.exc (e.up n) (Dq p γ σ)|none=>.stuck);cases e:Fx c nm with
   |none=>trivial
   |some C=>
    rw[Option.bind_some,Option.bind_some];cases e2:CU C vs with
    |none=>trivial
    |some x=>rw[We e2];exact⟨l,rfl⟩
theorem Gh.plain(h:Gh p γ c):Gh p γ c.off:=⟨h.glb,h.call⟩
theorem L6(n:Nat)(suite:List Stmt)(fr:Fm)(hc:Gh p γ c):AV p γ (XJ p γ.length) (Eg n suite c fr) (Eg n suite c (A4 p γ.length fr)):=by
 cases suite with
 |nil=>exact Ah
 |cons st r=>
  refine Aq ?_ Ah;unfold Pt;cases MF st with
  |some e=>exact Al (FW (AM e fr hc)) λv=>Ak rfl
  |none=>
   dsimp only;cases Ph st with
   |none=>exact Ah
   |some q=>exact Aq (Aq (JR _ _ fr hc) Ah) Ah
theorem YK(hs:List ExceptHandler)(fr:Fm)(hc:Gh p γ c)(h:AV p γ (XJ p γ.length) body body'):AV p γ (XJ p γ.length) (Jo body hs c fr) (Jo body' hs c (A4 p γ.length fr)):=by
 intro σ l;have q:=h σ l;unfold Jo;cases e:body σ with
 |ok f σ'=>rw[e]at q;rw[q.2];exact⟨q.1,rfl⟩
 |stuck=>trivial
 |exc x σ'=>
  rw[e]at q;rw[q.2];rcases hs with _|⟨⟨t,nm,suite,pos⟩,_|⟨h2,r⟩⟩
  ·trivial
  rotate_left
  ·cases t<;>cases nm<;>trivial
  cases t with
  |none=>cases nm<;>trivial
  |some t=>cases nm with
   |none=>
    show E9 p γ _ (if Cu c t x=true then Eg x.d suite c.off fr σ' else .stuck) (if Cu c t x=true then Eg x.d suite c.off (A4 p γ.length fr) (Dq p γ σ') else .stuck);by_cases ht:Cu c t x=true;·rw[if_pos ht,if_pos ht];exact L6 _ _ fr hc.plain σ' q.1
    ·rw[if_neg ht];trivial
   |some n=>cases x with
    |bad=>trivial
    |trap a v d=>
     show E9 p γ _ (if(Cu c t (.trap a v d)&&c.kind n==some .local&&Om suite)=true then Eg 2 suite c.off (Ac fr n (.exn a v)) σ' else .stuck) (if(Cu c t (.trap a v d)&&c.kind n==some .local&&Om suite)=true then Eg 2 suite c.off (Ac (A4 p γ.length fr) n (.exn a v)) (Dq p γ σ') else .stuck);by_cases ht:(Cu c t (.trap a v d)&&c.kind n==some .local&&Om suite)=true;·rw[if_pos ht,if_pos ht];have:=L6 (p:=p) (γ:=γ) 2 suite (Ac fr n (.exn a v)) hc.plain σ' q.1;rw[<-IC]at this;exact this
     ·rw[if_neg ht];trivial
mutual
theorem XT(s:Stmt){c:Cx}(fr:Fm)(hc:Gh p γ c):AV p γ (XJ p γ.length) (Ny s c fr) (Ny s c (A4 p γ.length fr)):=by
 cases s with
 |Return e _=>
  cases e with
  |none=>exact Ak rfl
  |some e=>exact Al (AM e fr hc) λv=>Ak rfl
 |Assign ts v _=>
  rcases ts with _|⟨t,_|⟨t2,r⟩⟩
  ·exact Ah
  ·exact Aq (Al (AM v fr hc) λx=>Al (VP t x v fr hc) λfr'=>Ak rfl) Ah
  ·exact Ah
 |For t it body orelse _=>refine Aq (Al (AM it fr hc) λsrc σ l=>?_) Ah;refine Al (JX src) (λvs=>?_) σ l;rw[VU,List.length_map];exact Aq (Ic l (λv fr=>Al (IL t v c fr) λfr'=>DV body fr' hc) vs fr) Ah
 |If t a b _=>exact Al (FE t fr hc (AM t fr hc)) λq=>Aq (DV a fr hc) (DV b fr hc)
 |Raise x cause _=>
  cases x<;>cases cause<;>first|exact Ah|skip
  exact Aq (JR 0 _ fr hc) Ah
 |Try body hs orelse CA _=>refine Aq (YK hs fr hc ?_) Ah;rw[show c.cl (A4 p γ.length fr)=c.cl fr from congrArg (λf=>{c with calm:=true,okn:=f}) (funext λx=>Option.isNone_map)];exact DV body (c:=(c.cl fr)) fr ⟨hc.glb,hc.call⟩
 |Expr e _=>refine Aq (Al (AM e fr hc) λv=>?_) Ah;cases v<;>first|exact Ah|exact Ak rfl
 |Pass _=>exact Ak rfl
 |Continue _=>exact Ak rfl
 |_=>exact Ah
theorem DV:∀(s:List Stmt) {c:Cx}(fr:Fm),Gh p γ c->AV p γ (XJ p γ.length) (Fv s c fr) (Fv s c (A4 p γ.length fr))
 |[],_,_,_=>Ak rfl
 |s::r,c,fr,hc=>by
  refine Al (XT s fr hc) λq=>?_;cases q with
  |next fr'=>exact DV r fr' hc
  |rets v=>exact Ak rfl
  |cont fr'=>exact Ak rfl
end
theorem Xe(h:AV p γ (XJ p γ.length) m m'):AV p γ (Am p γ.length) (F7 m) (F7 m'):=by
 intro σ l;have q:=h σ l;unfold F7;cases e:m σ with
 |stuck=>trivial
 |exc x σ'=>rw[e]at q;rw[q.2];exact⟨q.1,rfl⟩
 |ok f σ'=>
  rw[e]at q;rw[q.2];cases f with
  |next fr=>exact⟨q.1,rfl⟩
  |rets v=>exact⟨q.1,rfl⟩
  |cont fr=>trivial
end
end
end
section
noncomputable section
section
variable{γ:St}
abbrev pU(p:Nat)(γ:St)(F F':V->Mo V):Prop:=∀v,AV p γ (Am p γ.length) (F v) (F' (Am p γ.length v))
theorem B8(h:pU p γ F F'):AV p γ (Am p γ.length) (GN vs F) (GN (vs.map (Am p γ.length)) F'):=by
 cases vs with
 |nil=>exact Ah
 |cons a r=>show AV p γ _ (if r.isEmpty=true then F a else AB) (if(r.map (Am p γ.length)).isEmpty=true then F' (Am p γ.length a) else AB);rw[List.isEmpty_map];exact Aq (h a) Ah
theorem FN(h:∀a,pU p γ (F a) (F' (Am p γ.length a))):AV p γ (Am p γ.length) (Nw vs F) (Nw (vs.map (Am p γ.length)) F'):=by
 cases vs with
 |nil=>exact Ah
 |cons a r=>exact B8 (h a)
theorem MV(h:∀a b,pU p γ (F a b) (F' (Am p γ.length a) (Am p γ.length b))):AV p γ (Am p γ.length) (Vi vs F) (Vi (vs.map (Am p γ.length)) F'):=by
 cases vs with
 |nil=>exact Ah
 |cons a r=>exact FN (h a)
theorem DH(h:∀i,AV p γ (Am p γ.length) (F i) (F' i)):AV p γ (Am p γ.length) (G0 v F) (G0 (Am p γ.length v) F'):=by cases v<;>first|exact Ah|exact h _
theorem NV(h:∀i,AV p γ (Am p γ.length) (F i) (F' i)):AV p γ (Am p γ.length) (K8 v F) (K8 (Am p γ.length v) F'):=by cases v<;>first|exact Ah|exact h _
theorem GU(h:∀l,AV p γ (Am p γ.length) (F l) (F' (l.map (Am p γ.length)))):AV p γ (Am p γ.length) (J5 v F) (J5 (Am p γ.length v) F'):=by
 cases v<;>first|exact Ah|skip
 show AV p γ _ (F _) (F' (DO _ _ _));rw[Br];exact h _
theorem C0(h:∀i,AV p γ (Am p γ.length) (F i) (F' (Jb p γ.length i))):AV p γ (Am p γ.length) (FG v F) (FG (Am p γ.length v) F'):=by cases v<;>first|exact Ah|exact h _
theorem Fs(h:∀ns,AV p γ (Am p γ.length) (F ns) (F' ns)):AV p γ (Am p γ.length) (CB l F) (CB (l.map (Am p γ.length)) F'):=by
 unfold CB;cases e:CI l with
 |none=>exact Ah
 |some ns=>rw[M5 e];exact h ns
noncomputable def pT(F:List (V×V)->Nat->Mo V):AO->Mo V
 |.dict es n=>F es n
 |_=>AB
theorem HJ(i:Nat)(F:List (V×V)->Nat->Mo V)(σ:St):BJ i F σ=match σ[i]? with|some o=>pT F o σ|none=>.stuck:=by
 unfold BJ;cases σ[i]? with
 |none=>rfl
 |some o=>cases o<;>rfl
theorem Di(h:∀es n,AV p γ (Am p γ.length) (F es n) (F' (es.map (E7 p γ.length)) n)):AV p γ (Am p γ.length) (BJ i F) (BJ (Jb p γ.length i) F'):=EI (HJ i F) (HJ _ F') (Dt λo=>by cases o<;>first|exact Ah|exact h _ _)
noncomputable def qA(F:List V->Mo V):AO->Mo V
 |.list l=>F l
 |_=>AB
theorem I5(i:Nat)(F:List V->Mo V)(σ:St):Ft i F σ=match σ[i]? with|some o=>qA F o σ|none=>.stuck:=by
 unfold Ft;cases σ[i]? with
 |none=>rfl
 |some o=>cases o<;>rfl
theorem Od(h:∀l,AV p γ (Am p γ.length) (F l) (F' (l.map (Am p γ.length)))):AV p γ (Am p γ.length) (Ft i F) (Ft (Jb p γ.length i) F'):=EI (I5 i F) (I5 _ F') (Dt λo=>by cases o<;>first|exact Ah|exact h _)
theorem YL(p g:Nat)(es:List (V×V)):(es.map (E7 p g)).map (·.1)=(es.map (·.1)).map (Am p g):=by rw[List.map_map,List.map_map];rfl
theorem O5(p g:Nat)(o:Option V)(d:V):(o.map (Am p g)).getD (Am p g d)=Am p g (o.getD d):=by cases o<;>rfl
theorem Zl(vs:List V):AV p γ (Am p γ.length) (N9 vs) (N9 (vs.map (Am p γ.length))):=by
 unfold N9;rw[List.length_map];refine Aq ?_ ?_;·refine FN λo k=>C0 λi=>Di λes _=>?_;rw[EP,E2];exact Bs id (Ak (O5 _ _ _ .none))
 ·refine MV λo k d=>C0 λi=>Di λes _=>?_;rw[EP,E2];exact Bs id (Ak (O5 _ _ _ _))
theorem O6(i:Nat)(o:AO)(h:w=Am p γ.length v):AV p γ (Am p γ.length) (λσ=>.ok v (σ.set i o)) (λσ=>.ok w (σ.set (Jb p γ.length i) (Hq p γ.length o))):=λσ l=>⟨Ld l,by rw[LN l,h]⟩
theorem Zq(vs:List V):AV p γ (Am p γ.length) (Ts vs) (Ts (vs.map (Am p γ.length))):=by
 refine MV λo k d=>C0 λi=>Di λes n=>?_;rw[EP,E2,Ov,List.length_map,OD];refine Bs id ?_;cases AI es k with
 |none=>exact Ak rfl
 |some v=>exact O6 i (.dict (EK es k) (n+1)) rfl
theorem Y2(vs:List V):AV p γ (Am p γ.length) (X6 vs) (X6 (vs.map (Am p γ.length))):=by refine FN λo v=>C0 λi=>Od λl=>?_;rw[List.length_map];refine Bs id ?_;have:=O6 (p:=p) (γ:=γ) i (.list (l++[v])) (v:=.none) rfl;rw[Vh,List.map_append]at this;exact this
theorem bL(f:String)(vs:List V):AV p γ (Am p γ.length) (iG f vs) (iG f (vs.map (Am p γ.length))):=by
 unfold iG;refine Aq (B8 λv=>DH λi=>Ak rfl) (Aq (FN λv u=>DH λa=>DH λb=>Ak rfl) (Aq ?_ (Aq ?_ (Aq ?_ (Aq (Zl vs) (Aq (Zq vs) (Aq (Y2 vs) Ah)))))));·refine B8 λv=>C0 λi=>Di λes _=>?_;rw[List.length_map];exact Bs id (Ak rfl)
 ·exact B8 λv=>GU λl=>Fs λns=>Ak rfl
 ·refine B8 λv=>C0 λi=>Di λes _=>?_;rw[YL];refine Fs λns=>Bs id (Ak ?_);rw[LL,NF p γ.length (λi:Int=>i)]
theorem VG(v:V)(h:AV p γ (Am p γ.length) m m'):AV p γ (Am p γ.length) (XG v m) (XG (Am p γ.length v) m'):=by cases v<;>first|exact h|exact Ak rfl
theorem fZ(f:String)(vs:List V):AV p γ (Am p γ.length) (hY f vs) (hY f (vs.map (Am p γ.length))):=by
 unfold hY;refine Aq (B8 λv=>NV λi=>Ak rfl) (Aq (B8 λv=>DH λi=>Ak rfl) (Aq (B8 λv=>DH λi=>Bs id (Ak rfl)) (Aq ?_ (Aq ?_ Ah))));·refine B8 λv=>GU λl=>?_;rw[List.length_map];exact Bs id (Jv l)
 ·exact B8 λv=>VG v (GU λl=>Fs λns=>Bs id (Ak rfl))
structure dA(p:Nat)(γ:St)(T:LW):Prop where
 glb:∀x v,T.glb x=some v->Am p γ.length v=v
 dfl:∀a k fe,T.fn a k=some fe->fe.dfl.map (Am p γ.length)=fe.dfl
theorem Mx{α:Type}(f:V->V)(x:Str):∀(ps:List Str) (l:List V),(ps.zip (l.map f)).lookup x=((ps.zip l).lookup x).map f
 |[],_=>rfl
 |_::_,[]=>rfl
 |q::ps,a::l=>by show(match x==q with|true=>some (f a)|false=>(ps.zip (l.map f)).lookup x)=(match x==q with|true=>some a|false=>(ps.zip l).lookup x).map f;cases x==q<;>first|rfl|exact Mx (α:=α) f x ps l
theorem ON{fe:BQ}(h:fe.dfl.map (Am p γ.length)=fe.dfl)(vs:List V):A9 fe (vs.map (Am p γ.length))=A4 p γ.length (A9 fe vs):=by funext x;show(fe.ps.zip (vs.map _++fe.dfl)).lookup x=((fe.ps.zip (vs++fe.dfl)).lookup x).map _;rw[<-Mx (α:=Nat),List.map_append,h]
theorem PG{T:LW}(hT:dA p γ T){call:Value->List V->Mo V}(hc:∀f vs,AV p γ (Am p γ.length) (call f vs) (call f (vs.map (Am p γ.length)))){fe:BQ}(h:fe.dfl.map (Am p γ.length)=fe.dfl)(vs:List V):AV p γ (Am p γ.length) (GQ T call fe vs) (GQ T call fe (vs.map (Am p γ.length))):=by refine Xe ?_;rw[ON h];exact DV fe.body (c:=T.cx fe.scope call) _ ⟨hT.glb,hc⟩
theorem GR{T:LW}(hT:dA p γ T):∀n f vs,AV p γ (Am p γ.length) (Ab T n f vs) (Ab T n f (vs.map (Am p γ.length)))
 |0,_,_=>Ah
 |n+1,f,vs=>by
  have ih:=GR hT n;cases f with
  |builtin f=>exact bL f vs
  |type f=>exact fZ f vs
  |ref a=>
   show AV p γ _ (MA T (Ab T n) a vs) (MA T (Ab T n) a _);unfold MA;rw[List.length_map];cases e:T.fn a vs.length with
   |some fe=>exact PG hT ih (hT.dfl _ _ _ e) vs
   |none=>
    dsimp only;cases T.cls a with
    |none=>exact Ah
    |some init=>
     dsimp only;unfold Yp;rw[List.length_map];cases e2:T.fn init (vs.length+1) with
     |none=>exact Ah
     |some fe=>
      intro σ l;have l1:p<=(σ++[AO.inst a []]).length:=by rw[List.length_append];lia
      have e3:Dq p γ σ++[AO.inst a []]=Dq p γ (σ++[AO.inst a []]):=(OJ l (AO.inst a [])).symm;dsimp only;rw[Pg l,e3];exact Al (PG hT ih (hT.dfl _ _ _ e2) (.obj σ.length::vs)) (λr=>by cases r<;>first|exact Ah|exact Ak rfl) _ l1
  |_=>exact Ah
noncomputable def cJ:V->Bool
 |.none=>true
 |.int _=>true
 |.str _=>true
 |.glob _=>true
 |_=>false
theorem Wt(h:cJ v=true):Am p g v=v:=by cases v<;>first|rfl|cases h
theorem Xr(y:Value):cJ (nG y)=true:=by cases y<;>rfl
theorem Zh:(nM.all λq=>q.dfl.all cJ)=true:=by kernel_rfl
theorem Ow:dA p γ Ad where
 glb:=λx v h=>by
  cases gU h with
  |sz=>rfl
  |@gm y m=>exact Wt (Xr y)
  |gb=>rfl
 dfl:=λa k fe h=>by have:=List.all_eq_true.mp (Lv Zh (J1 h));refine(List.map_congr_left λv hv=>Wt (this v hv)).trans (List.map_id _)
theorem KY(p:Nat)(γ:St)(l:p<=σ.length)(e:Ab Ad n f vs σ=.ok v σ'):Ab Ad n f (vs.map (Am p γ.length)) (Dq p γ σ)=.ok (Am p γ.length v) (Dq p γ σ'):=by have q:=GR (Ow (p:=p) (γ:=γ)) n f vs σ l;rw[e]at q;exact q.2
end
end
end
noncomputable section
noncomputable def Hh(n:Nat)(x2 x5 x7:V):Mo Az:=Aa (BZ x5 "attach") λf8=>Aa (Aj .Mult (.int 8) (.int 64)) λx9=>Aa (Aj .Mult (.int 9) (.int 64)) λx10=>Aa (Ab Ad n (.type "bytes") [(.lst [x2,(.int 0),(.int 0),(.int 0)])]) λx11=>Aa (Ab Ad n (.ref 516) [x11]) λx12=>Aa (Ab Ad n f8 [x5,x9,x10,x12]) λx13=>By x13 (Aa (Ab Ad n (.ref 170) [(.int 6)]) λx14=>Aa (Ab Ad n (.ref 249) [x5,x14]) λx15=>Aa (Ap .Eq x7 (.int 2)) λq16=>Aa (Ab Ad n (.type "int") [(.bool q16)]) λx17=>Aa (Aj .Mult (.int 128) x17) λx18=>Aa (Aj .Add (.int 64) x18) λx19=>Aa (Aa (Aa (Aa (Aa (Aa (Aj .FloorDiv x2 (.int 64)) λy21=>Aj .Mult y21 (.int 64)) λy22=>Aj .Mod y22 (.int 256)) λy23=>Aj .BitAnd y23 x19) λy24=>Aa (Ap .Eq y24 x19) λq25=>ret q25) λq20=>if q20=true then ret (.int 33) else Aa (Aa (Ci (.lst [(.int 1),(.int 5),(.int 7)]) x7) λy26=>ret [y26,(.int 33)]) λy27=>ret (.tup y27)) λx28=>Aa (KQ (Aa (BZ x15 "translate") λf32=>Aa (Aj .Mult (.int 8) (.int 64)) λx33=>Aa (Ci (.lst [(.str "fetch"),(.str "load"),(.str "store")]) x7) λx34=>Aa (Ab Ad n f32 [x15,x33,(.int 33),x34,(.int 0)]) λx35=>Aa (Ap .Eq x35 x28) λq36=>ret (.rets (.bool q36))) (λc37 w38=>Aa (Cs (Aa (Aa (Aa (at_ (.exn c37 w38) "cause") λy47=>Aa (Aa (at_ (.exn c37 w38) "value") λy48=>ret [y48]) λy49=>ret (y47::y49)) λy50=>ret (.tup y50)) λy51=>Aa (Aa (Ap .Eq y51 x28) λq53=>ret q53) λq52=>ret (.bool q52))) λy54=>ret (.rets y54))) λq29=>(match q29 with|.next fr30=>ret (.next fr30)|.rets v=>ret (.rets v)|.cont fr30=>ret (.cont fr30)))
noncomputable def aS(n:Nat)(a0:V):Mo Az:=Aa (Aa (Aj .Mod a0 (.int 3)) λk=>ret (Ek.item k)) λi1=>Aa (B9 (El 0) (.lst [(.int 31),(.int 95),(.int 223)]) i1) λx2=>Aa (Aj .Mult (.int 8) (.int 64)) λx3=>Aa (Ab Ad n (.ref 474) [x3]) λx4=>Aa (Ab Ad n (.ref 616) [x4]) λx5=>Aa (Aj .FloorDiv a0 (.int 3)) λx6=>Aa (Aj .Mod x6 (.int 3)) λx7=>Hh n x2 x5 x7
theorem Rv(n:Nat)(a0:V):Bg Ad (Ab Ad n) IF [a0]=aS n a0:=by kernel_rfl
noncomputable def Tp:C6 Az->Bool
 |.ok f _=>(match f with
  |.rets v=>(match v with
   |.bool b=>b
   |_=>false)
  |_=>false)
 |_=>false
theorem cX(h:Tp r=true):∃σ,r=.ok (.rets (.bool true)) σ:=by
 cases r with
 |exc e σ=>cases h
 |stuck=>cases h
 |ok f σ=>cases f with
  |next fr=>cases h
  |cont fr=>cases h
  |rets v=>
   cases v<;>first|cases h|skip
   exact⟨σ,rfl⟩
theorem Z5(n:Nat):Tp (Hh (n+12) (.int 31) (.obj 2) (.int 0) [.inst 474 [("size",.int 512),("begin",.int 0),("end",.int 512),("words",.obj 1)],.dict [] 0,.inst 616 [("memory",.obj 0),("stretches",.obj 3)],.list []])=true:=by kernel_rfl
theorem fH(n:Nat):Tp (Hh (n+12) (.int 31) (.obj 2) (.int 1) [.inst 474 [("size",.int 512),("begin",.int 0),("end",.int 512),("words",.obj 1)],.dict [] 0,.inst 616 [("memory",.obj 0),("stretches",.obj 3)],.list []])=true:=by kernel_rfl
theorem aM(n:Nat):Tp (Hh (n+12) (.int 31) (.obj 2) (.int 2) [.inst 474 [("size",.int 512),("begin",.int 0),("end",.int 512),("words",.obj 1)],.dict [] 0,.inst 616 [("memory",.obj 0),("stretches",.obj 3)],.list []])=true:=by kernel_rfl
theorem aY(n:Nat):Tp (Hh (n+12) (.int 95) (.obj 2) (.int 0) [.inst 474 [("size",.int 512),("begin",.int 0),("end",.int 512),("words",.obj 1)],.dict [] 0,.inst 616 [("memory",.obj 0),("stretches",.obj 3)],.list []])=true:=by kernel_rfl
theorem gW(n:Nat):Tp (Hh (n+12) (.int 95) (.obj 2) (.int 1) [.inst 474 [("size",.int 512),("begin",.int 0),("end",.int 512),("words",.obj 1)],.dict [] 0,.inst 616 [("memory",.obj 0),("stretches",.obj 3)],.list []])=true:=by kernel_rfl
theorem dZ(n:Nat):Tp (Hh (n+12) (.int 95) (.obj 2) (.int 2) [.inst 474 [("size",.int 512),("begin",.int 0),("end",.int 512),("words",.obj 1)],.dict [] 0,.inst 616 [("memory",.obj 0),("stretches",.obj 3)],.list []])=true:=by kernel_rfl
theorem gB(n:Nat):Tp (Hh (n+12) (.int 223) (.obj 2) (.int 0) [.inst 474 [("size",.int 512),("begin",.int 0),("end",.int 512),("words",.obj 1)],.dict [] 0,.inst 616 [("memory",.obj 0),("stretches",.obj 3)],.list []])=true:=by kernel_rfl
theorem cL(n:Nat):Tp (Hh (n+12) (.int 223) (.obj 2) (.int 1) [.inst 474 [("size",.int 512),("begin",.int 0),("end",.int 512),("words",.obj 1)],.dict [] 0,.inst 616 [("memory",.obj 0),("stretches",.obj 3)],.list []])=true:=by kernel_rfl
theorem aP(n:Nat):Tp (Hh (n+12) (.int 223) (.obj 2) (.int 2) [.inst 474 [("size",.int 512),("begin",.int 0),("end",.int 512),("words",.obj 1)],.dict [] 0,.inst 616 [("memory",.obj 0),("stretches",.obj 3)],.list []])=true:=by kernel_rfl
section
theorem Yd{fl kd:Int}{R:C6 Az}(h1:B9 (El 0) (.lst [(.int 31),(.int 95),(.int 223)]) (.item (.int (a.fmod 3))) []=.ok (.int fl) [])(h2:(a.fdiv 3).fmod 3=kd)(h:Hh (n+12) (.int fl) (.obj 2) (.int kd) [.inst 474 [("size",.int 512),("begin",.int 0),("end",.int 512),("words",.obj 1)],.dict [] 0,.inst 616 [("memory",.obj 0),("stretches",.obj 3)],.list []]=R):Bg Ad (Ab Ad (n+12)) IF [.int a] []=R:=by rw[Rv];refine bk (a:=Ek.item (.int (a.fmod 3))) (σ':=[]) (by kernel_rfl) (bk h1 ?_);refine bk (a:=V.int 512) (σ':=[]) (by kernel_rfl) ?_;refine bk (a:=V.obj 0) (σ':=[.inst 474 [("size",.int 512),("begin",.int 0),("end",.int 512),("words",.obj 1)],.dict [] 0]) (by kernel_rfl) ?_;refine bk (a:=V.obj 2) (σ':=[.inst 474 [("size",.int 512),("begin",.int 0),("end",.int 512),("words",.obj 1)],.dict [] 0,.inst 616 [("memory",.obj 0),("stretches",.obj 3)],.list []]) (by kernel_rfl) ?_;refine br (V.int (a.fdiv 3)) ?_;exact bk (a:=V.int kd) (by rw[<-h2];kernel_rfl) h
theorem fW(a:Int):∃ρ,Ab Ad (n+13) (.ref 675) [.int a] []=.ok (.bool true) ρ:=by
 have h1:a.fmod 3=a%3:=Int.fmod_eq_emod_of_nonneg _ (by decide);have h2:(a.fdiv 3).fmod 3=(a.fdiv 3)%3:=Int.fmod_eq_emod_of_nonneg _ (by decide);have q:∀{fl kd:Int},B9 (El 0) (.lst [(.int 31),(.int 95),(.int 223)]) (.item (.int (a.fmod 3))) []=.ok (.int fl) []->(a.fdiv 3).fmod 3=kd->Tp (Hh (n+12) (.int fl) (.obj 2) (.int kd) [.inst 474 [("size",.int 512),("begin",.int 0),("end",.int 512),("words",.obj 1)],.dict [] 0,.inst 616 [("memory",.obj 0),("stretches",.obj 3)],.list []])=true->∃ρ,Ab Ad (n+13) (.ref 675) [.int a] []=.ok (.bool true) ρ:=λ{fl kd} q1 q2 q3=>by obtain⟨σ,e⟩:=cX q3;exact⟨σ,AD (fe:=IF) (by kernel_rfl) (Yd q1 q2 e)⟩
 have i0:a.fmod 3=0\/a.fmod 3=1\/a.fmod 3=2:=by(clear q h2 h1;lia)
 have j0:(a.fdiv 3).fmod 3=0\/(a.fdiv 3).fmod 3=1\/(a.fdiv 3).fmod 3=2:=by(clear i0 q h2 h1;lia)
 rcases i0 with i|i|i
 ·have e:B9 (El 0) (.lst [(.int 31),(.int 95),(.int 223)]) (.item (.int (a.fmod 3))) []=.ok (.int 31) []:=by rw[i];kernel_rfl
  rcases j0 with j|j|j;·exact q e j (Z5 n)
  ·exact q e j (fH n)
  ·exact q e j (aM n)
 ·have e:B9 (El 0) (.lst [(.int 31),(.int 95),(.int 223)]) (.item (.int (a.fmod 3))) []=.ok (.int 95) []:=by rw[i];kernel_rfl
  rcases j0 with j|j|j;·exact q e j (aY n)
  ·exact q e j (gW n)
  ·exact q e j (dZ n)
 ·have e:B9 (El 0) (.lst [(.int 31),(.int 95),(.int 223)]) (.item (.int (a.fmod 3))) []=.ok (.int 223) []:=by rw[i];kernel_rfl
  rcases j0 with j|j|j;·exact q e j (gB n)
  ·exact q e j (cL n)
  ·exact q e j (aP n)
end
end
section
noncomputable section
noncomputable def Vr(fr1:Fm)(x3:V)(x50:V)(x57:V)(x59:V):Mo Az:=Aa (Aa (Af ((Ac fr1 "place" x3) "frame")) λy60=>Aa (Aj .Mod y60 (.int 3)) λk=>ret (Ek.item k)) λi61=>Aa (B9 (El 0) (.lst [x50,x57,x59]) i61) λx62=>Aa (Af ((Ac fr1 "place" x3) "cells")) λx63=>Aa (A8 x63 x3 x62) λ_=>ret (.next (Ac fr1 "place" x3))
noncomputable def Td(fr1:Fm)(x3:V)(x54:V)(x50:V):Mo Az:=Aa (Af ((Ac fr1 "place" x3) "flags")) λx55=>Aa (Aj .Mod x55 (.int 2)) λx56=>Aa (Aj .Sub x54 x56) λx57=>Aa (Aj .Add (.int 1024) (.int 1)) λx58=>Aa (Aj .Add x58 (.int 4)) λx59=>Vr fr1 x3 x50 x57 x59
noncomputable def Vx(x49:V)(fr1:Fm)(x3:V):Mo Az:=Aa (Aj .Add x49 (.int 1)) λx50=>Aa (Af ((Ac fr1 "place" x3) "frame")) λx51=>Aa (Aj .Mult (.int 1024) x51) λx52=>Aa (Af ((Ac fr1 "place" x3) "flags")) λx53=>Aa (Aj .Add x52 x53) λx54=>Td fr1 x3 x54 x50
noncomputable def V1(fr1:Fm)(x3:V):Mo Az:=Aa (Af ((Ac fr1 "place" x3) "shape")) λx23=>Aa (Ap .Eq x23 (.int 5)) λq24=>if q24=true then Aa (Af ((Ac fr1 "place" x3) "many")) λx25=>Aa (Aj .Mult (.int 1024) x25) λx26=>Aa (Af ((Ac fr1 "place" x3) "frame")) λx27=>Aa (Aj .Mod x27 (.int 3)) λx28=>Aa (Aj .Mult x26 x28) λx29=>Aa (Af ((Ac fr1 "place" x3) "flags")) λx30=>Aa (Aj .Add x29 x30) λx31=>Aa (Af ((Ac fr1 "place" x3) "cells")) λx32=>Aa (A8 x32 x3 x31) λ_=>ret (.next (Ac fr1 "place" x3)) else Aa (Af ((Ac fr1 "place" x3) "shape")) λx33=>Aa (Ap .Eq x33 (.int 6)) λq34=>if q34=true then Aa (Af ((Ac fr1 "place" x3) "many")) λx35=>Aa (Af ((Ac fr1 "place" x3) "frame")) λx36=>Aa (Aj .Mod x36 (.int 3)) λx37=>Aa (Aj .Mult x35 x37) λx38=>Aa (Aj .Add x38 (.int 1)) λx39=>Aa (Af ((Ac fr1 "place" x3) "frame")) λx40=>Aa (Af ((Ac fr1 "place" x3) "many")) λx41=>Aa (Aj .Sub x41 (.int 1)) λx42=>Aa (Aj .Mod x40 x42) λx43=>Aa (Aj .Add x39 x43) λx44=>Aa (Aj .Mult (.int 1024) x44) λx45=>Aa (Af ((Ac fr1 "place" x3) "flags")) λx46=>Aa (Aj .Add x45 x46) λx47=>Aa (Af ((Ac fr1 "place" x3) "cells")) λx48=>Aa (A8 x48 x3 x47) λ_=>ret (.next (Ac fr1 "place" x3)) else Aa (Aj .Mult (.int 1024) (.int 999)) λx49=>Vx x49 fr1 x3
noncomputable def fQ(n:Nat)(a0 a1 a2 a3:V):Mo Az:=Aa (K7 ["first", "second", "flags", "frame", "kind", "mode", "extra", "shape", "offset"] a3 (A9 DU [a0,a1,a2,a3])) λfr1=>Aa (Af (fr1 "first")) λx2=>Aa (Aj .Mult (.int 4) x2) λx3=>Aa (Af ((Ac fr1 "place" x3) "shape")) λx4=>Aa (Ap .Lt x4 (.int 5)) λq5=>if q5=true then Aa (Af ((Ac fr1 "place" x3) "first")) λx6=>Aa (Aj .Add x6 (.int 1)) λx7=>Aa (Aj .Mult (.int 1024) x7) λx8=>Aa (Aj .Add x8 (.int 1)) λx9=>Aa (Af ((Ac fr1 "place" x3) "cells")) λx10=>Aa (A8 x10 x3 x9) λ_=>Aa (Af ((Ac fr1 "place" x3) "frame")) λx11=>Aa (Aj .Mult (.int 1024) x11) λx12=>Aa (Af ((Ac fr1 "place" x3) "flags")) λx13=>Aa (Aj .Add x12 x13) λx14=>Aa (Af ((Ac fr1 "place" x3) "cells")) λx15=>Aa (Af ((Ac fr1 "place" x3) "page")) λx16=>Aa (Af ((Ac fr1 "place" x3) "first")) λx17=>Aa (Aj .Add x17 (.int 1)) λx18=>Aa (Aj .Mult x16 x18) λx19=>Aa (Af ((Ac fr1 "place" x3) "second")) λx20=>Aa (Aj .Mult (.int 4) x20) λx21=>Aa (Aj .Add x19 x21) λx22=>Aa (A8 x15 x22 x14) λ_=>ret (.next (Ac fr1 "place" x3)) else V1 fr1 x3
theorem ER(n:Nat)(a0 a1 a2 a3:V):Bg Ad (Ab Ad n) DU [a0,a1,a2,a3]=fQ n a0 a1 a2 a3:=by kernel_rfl
section
variable{ad m s x f se fl fr sh off a v:Int}
theorem gY(l:DI):(Aw l).map (λq=>(Am p gg q.1,Am p gg q.2))=Aw l:=by unfold Aw;rw[List.map_map];exact List.map_congr_left λ_ _=>rfl
theorem HD(l:DI)(n:Nat):Hq p gg (.dict (Aw l) n)=.dict (Aw l) n:=congrArg (AO.dict · n) (gY l)
theorem ZA:Dq 7 γ (SE g W wn C cn ρ)=SE g W wn C cn (γ++ρ.map (Hq 7 γ.length)):=by show(Ai g::Bm g::Hq 7 γ.length (.dict (Aw W) wn)::Hq 7 γ.length (.dict (Aw C) cn)::Ey::.list []::Fw::[])++γ++ρ.map (Hq 7 γ.length)=_;rw[HD,HD,List.append_assoc];rfl
theorem PZ:Dq 4 γ (Ai g::Bm g::.dict (Aw W) wn::.dict (Aw C) cn::ρ)=Ai g::Bm g::.dict (Aw W) wn::.dict (Aw C) cn::(γ++ρ.map (Hq 4 γ.length)):=by show(Ai g::Bm g::Hq 4 γ.length (.dict (Aw W) wn)::Hq 4 γ.length (.dict (Aw C) cn)::[])++γ++ρ.map (Hq 4 γ.length)=_;rw[HD,HD,List.append_assoc];rfl
theorem TO(H:Ag g C W (AE C))(w:Bj g (AE C) ad k m s x R)(h0:0<=ad)(h1:ad<2^40)(hm:m=0\/m=1)(hx:x=0\/x=1):∃wn' ρ',Ab Ad (n+11) (.ref 656) [.obj 1,.obj 6,.obj 3,.int (Ar g),.int (AJ g),.int ad,(BI f se fl fr k m s x sh off)] (SE g W wn C cn ρ)=.ok (.bool true) (SE g (JU (AE C) W R) wn' (G6 C R) (LJ C cn R) ρ'):=by refine AP (eW (n:=n) (wn:=wn) (cn:=cn) (f:=f) (se:=se) (fl:=fl) (fr:=fr) (sh:=sh) (off:=off) H w h0 h1 hm hx) λwn' e=>?_;have:=KY 7 ρ (by exact Nat.le_refl 7) e;rw[ZA,ZA,List.map_nil,List.append_nil]at this;exact⟨wn',_,this⟩
theorem WE{v pl e:Int}(H:Ag g C W (AE C))(w:Bj g (AE C) ad k m s x (.ok v pl e))(hE:e=AE C pl)(h0:0<=ad)(h1:ad<2^40):∃W' wn' ρ',Ab Ad (n+13) (.ref 663) [.obj 1,.obj 0,.obj 3,.int ad,(BI f se fl fr k m s x sh off),.int v,.int pl] (SE g W wn C cn ρ)=.ok (.bool true) (SE g W' wn' C cn ρ')/\Ag g C W' (AE C):=by refine iK (Ye (n:=n) (wn:=wn) (cn:=cn) (f:=f) (se:=se) (fl:=fl) (fr:=fr) (sh:=sh) (off:=off) H w hE h0 h1) λW' wn' ρ' e A=>?_;have:=KY 4 (Ey::.list []::Fw::ρ) (by exact Nat.le_refl 4) e;rw[PZ,List.map_nil,List.append_nil]at this;have e2:=PZ (g:=g) (W:=W') (wn:=wn') (C:=C) (cn:=cn) (γ:=Ey::.list []::Fw::ρ) (ρ:=Ey::.list []::Fw::lN 2 11::ρ');exact⟨W',wn',_,this.trans (congrArg (C6.ok (V.bool true)) e2),A⟩
theorem Ve(H:Ag g C W (AE C))(h0:0<=ad)(h1:ad<2^40):∃C' W' wn' cn' ρ',Ab Ad (n+13) (.ref 668) [.obj 1,.obj 0,.obj 3,.int ad,(BI f se fl fr k m s x sh off)] (SE g W wn C cn ρ)=.ok (.bool true) (SE g W' wn' C' cn' ρ')/\Ag g C' W' (AE C'):=by refine lA (Wm (n:=n) (wn:=wn) (cn:=cn) (f:=f) (se:=se) (fl:=fl) (frr:=fr) (k0:=k) (m0:=m) (s0:=s) (x0:=x) (sh:=sh) (off:=off) H h0 h1) λC' W' wn' cn' ρ' e A=>?_;have:=KY 4 (Ey::.list []::Fw::ρ) (by exact Nat.le_refl 4) e;rw[PZ,List.map_nil,List.append_nil]at this;have e2:=PZ (g:=g) (W:=W') (wn:=wn') (C:=C') (cn:=cn') (γ:=Ey::.list []::Fw::ρ) (ρ:=Ey::.list []::Fw::lN 20 8::ρ');exact⟨C',W',wn',cn',_,this.trans (congrArg (C6.ok (V.bool true)) e2),A⟩
theorem aE(a:Int)(σ:St):∃ρ,Ab Ad (n+13) (.ref 675) [.int a] σ=.ok (.bool true) (σ++ρ):=by
 refine AP (fW (n:=n) a) λρ e=>?_;have:=KY 0 σ (by exact Nat.zero_le _) e;have e1:∀τ:St,Dq 0 σ τ=σ++τ.map (Hq 0 σ.length):=λτ=>by show[]++σ++_=_;rw[List.nil_append];rfl
 rw[e1,e1,List.map_nil,List.append_nil]at this;exact⟨_,this⟩
noncomputable def Cq(a:Int)(p:Int):V:=.tup [.int (a.fmod 3),.int ((a.fdiv 3).fmod 2),.int ((a.fdiv 6).fmod 256),.int ((a.fdiv 1536).fmod 24),.int ((a.fdiv 36864).fmod 3),.int ((a.fdiv 110592).fmod 2),.lst [.int ((a.fdiv 221184).fmod 2),.int ((a.fdiv 442368).fmod 2)],.int ((a.fdiv 884736).fmod 8),.int ((a.fdiv 7).fmod p)]
theorem Xk(n:Nat)(g:Bool)(a:Int)(σ:St):Ab Ad (n+1) (.ref 627) [.int a,.int (Ar g)] σ=.ok (Cq a (Ar g)) σ:=by
 refine AD (fe:=HS) (by kernel_rfl) ?_;cases g;·exact congrFun (show Bg Ad (Ab Ad n) HS [.int a,.int 64]=ret (.rets (Cq a 64)) by kernel_rfl) σ
 ·exact congrFun (show Bg Ad (Ab Ad n) HS [.int a,.int 4096]=ret (.rets (Cq a 4096)) by kernel_rfl) σ
noncomputable def Jc(g:Bool)(v:V):Prop:=∃f se fl fr k m s x sh off,v=BI f se fl fr k m s x sh off/\(0<=f/\f<3)/\(0<=se/\se<2)/\(0<=fl/\fl<256)/\(0<=fr/\fr<24)/\(m=0\/m=1)/\(s=0\/s=1)/\(x=0\/x=1)/\(0<=sh/\sh<8)/\(0<=off/\off<Ar g)
theorem iM(g:Bool)(a:Int):Jc g (Cq a (Ar g)):=by
 have hp:=Fb g;have b:∀(y:Int) {q:Int},0<q->0<=y.fmod q/\y.fmod q<q:=λy q h=>⟨Int.fmod_nonneg_of_pos _ h,Int.fmod_lt_of_pos _ h⟩
 have t:∀y:Int,y.fmod 2=0\/y.fmod 2=1:=λy=>by have:=b y (q:=2) (by decide);(clear this b hp;lia)
 have hk:∃k:Kd,(a.fdiv 36864).fmod 3=k.i:=by
  have:=b (a.fdiv 36864) (q:=3) (by decide);have c:(a.fdiv 36864).fmod 3=0\/(a.fdiv 36864).fmod 3=1\/(a.fdiv 36864).fmod 3=2:=by(clear this t b hp;lia)
  rcases c with c|c|c;·exact⟨.fe,c⟩
  ·exact⟨.lo,c⟩
  ·exact⟨.st,c⟩
 refine AP hk λk hk=>?_;refine⟨a.fmod 3,(a.fdiv 3).fmod 2,(a.fdiv 6).fmod 256,(a.fdiv 1536).fmod 24,k,(a.fdiv 110592).fmod 2,(a.fdiv 221184).fmod 2,(a.fdiv 442368).fmod 2,(a.fdiv 884736).fmod 8,(a.fdiv 7).fmod (Ar g),?_,b _ (by decide),b _ (by decide),b _ (by decide),b _ (by decide),t _,t _,t _,b _ (by decide),b _ (by lia)⟩;unfold Cq BI;rw[hk]
end
end
end
section
noncomputable section
structure CK(g:Bool)(C:DI)(L:Nat):Prop where
 nc:(C.map (·.1)).Nodup
 ck:∀a∈C.map (·.1),0<=a/\a+4<=B2 g/\a%4=0
 cl:C.length<=L
 cb:Fq C
section
variable{m s x f se fl fr sh off a v:Int}
theorem CK.set(H:CK g C L)(h0:0<=a)(h1:a+4<=B2 g)(h2:a%4=0)(v0:0<=v)(v1:v<2^30):CK g (BA C a v) (L+1) where
 nc:=Kr _ _ H.nc
 ck:=λb hb=>by
  rcases I4 _ _ hb with rfl|q;·exact⟨h0,h1,h2⟩
  ·exact H.ck b q
 cl:=Nat.le_trans (Lo _ _ _) (Nat.succ_le_succ H.cl)
 cb:=λb=>by
  rw[CW];split;·exact⟨v0,v1⟩
  ·exact H.cb b
theorem CK.up(H:CK g C L):CK g C (L+1):=⟨H.nc,H.ck,Nat.le_succ_of_le H.cl,H.cb⟩
noncomputable def cE(C:DI)(cn:Nat)(a:Int):Nat:=if(C.lookup a).isSome=true then cn else cn+1
theorem S3(hc:C.length<=4096)(a v:Int):A8 (.obj 3) (.int a) (.int v) (SE g W wn C cn ρ)=.ok () (SE g W wn (BA C a v) (cE C cn a) ρ):=mU (i:=3) rfl hc a v
noncomputable def fL(g:Bool)(f se fl fr:Int)(k:Kd)(m s x sh off:Int):Fm:=Ac (Ac (Ac (Ac (Ac (Ac (Ac (Ac (Ac (A9 DU [.obj 3,.int (Ar g),.int (AJ g),(BI f se fl fr k m s x sh off)]) "first" (.int f)) "second" (.int se)) "flags" (.int fl)) "frame" (.int fr)) "kind" (.int k.i)) "mode" (.int m)) "extra" (.lst [.int s,.int x])) "shape" (.int sh)) "offset" (.int off)
theorem lW(hc:C.length<=4095)(h:sh<5):Ab Ad (n+1) (.ref 634) [.obj 3,.int (Ar g),.int (AJ g),(BI f se fl fr k m s x sh off)] (SE g W wn C cn ρ)=.ok .none (SX (Ai g) g (Aw W) wn (.dict (Aw (BA (BA C (4*f) (1024*(f+1)+1)) (Ar g*(f+1)+4*se) (1024*fr+fl))) (cE (BA C (4*f) (1024*(f+1)+1)) (cE C cn (4*f)) (Ar g*(f+1)+4*se))) ρ):=by refine BC (fe:=DU) (fr:=(Ac (fL g f se fl fr k m s x sh off) "place" (.int (4*f)))) (by kernel_rfl) ?_;rw[ER];refine br (fL g f se fl fr k m s x sh off) ?_;refine br (V.int f) ?_;refine br (V.int (4*f)) ?_;refine br (V.int sh) ?_;refine Ja (EA (q:=sh<5) rfl h) ?_;refine br (V.int f) ?_;refine br (V.int (f+1)) ?_;refine br (V.int (1024*(f+1))) ?_;refine br (V.int (1024*(f+1)+1)) ?_;refine br (V.obj 3) ?_;refine bk (S3 (by(clear h;lia)) _ _) ?_;refine br (V.int fr) ?_;refine br (V.int (1024*fr)) ?_;refine br (V.int fl) ?_;refine br (V.int (1024*fr+fl)) ?_;refine br (V.obj 3) ?_;refine br (V.int (Ar g)) ?_;refine br (V.int f) ?_;refine br (V.int (f+1)) ?_;refine bk (a:=V.int (Ar g*(f+1))) (σ':=(SX (Ai g) g (Aw W) wn (.dict (Aw (BA C (4*f) (1024*(f+1)+1))) (cE C cn (4*f))) ρ)) (g.rec (by kernel_rfl) (by kernel_rfl)) ?_;refine br (V.int se) ?_;refine br (V.int (4*se)) ?_;refine br (V.int (Ar g*(f+1)+4*se)) ?_;refine bk (S3 (by have:=Lo (4*f) (1024*(f+1)+1) C;(clear h;lia)) _ _) ?_;rfl
theorem kW(hc:C.length<=4095)(h:sh=5):Ab Ad (n+1) (.ref 634) [.obj 3,.int (Ar g),.int (AJ g),(BI f se fl fr k m s x sh off)] (SE g W wn C cn ρ)=.ok .none (SE g W wn (BA C (4*f) (1024*AJ g*fr.fmod 3+fl)) (cE C cn (4*f)) ρ):=by refine BC (fe:=DU) (fr:=(Ac (fL g f se fl fr k m s x sh off) "place" (.int (4*f)))) (by kernel_rfl) ?_;rw[ER];refine br (fL g f se fl fr k m s x sh off) ?_;refine br (V.int f) ?_;refine br (V.int (4*f)) ?_;refine br (V.int sh) ?_;refine Dk (EL (q:=sh<5) rfl (by(clear hc;lia))) ?_;refine br (V.int sh) ?_;refine Ja (Dd.trans (by rw[decide_eq_true h])) ?_;refine br (V.int (AJ g)) ?_;refine br (V.int (1024*AJ g)) ?_;refine br (V.int fr) ?_;refine br (V.int (fr.fmod 3)) ?_;refine bk (a:=V.int (1024*AJ g*fr.fmod 3)) (σ':=(SE g W wn C cn ρ)) (g.rec (by kernel_rfl) (by kernel_rfl)) ?_;refine br (V.int fl) ?_;refine br (V.int (1024*AJ g*fr.fmod 3+fl)) ?_;refine br (V.obj 3) ?_;refine bk (S3 (by(clear h;lia)) _ _) ?_;rfl
theorem nH(hc:C.length<=4095)(h:sh=6):Ab Ad (n+1) (.ref 634) [.obj 3,.int (Ar g),.int (AJ g),(BI f se fl fr k m s x sh off)] (SE g W wn C cn ρ)=.ok .none (SX (Ai g) g (Aw W) wn (.dict (Aw (BA C (4*f) (1024*(AJ g*fr.fmod 3+1+fr.fmod (AJ g-1))+fl))) (cE C cn (4*f))) ρ):=by refine BC (fe:=DU) (fr:=(Ac (fL g f se fl fr k m s x sh off) "place" (.int (4*f)))) (by kernel_rfl) ?_;rw[ER];refine br (fL g f se fl fr k m s x sh off) ?_;refine br (V.int f) ?_;refine br (V.int (4*f)) ?_;refine br (V.int sh) ?_;refine Dk (EL (q:=sh<5) rfl (by(clear hc;lia))) ?_;refine br (V.int sh) ?_;refine Dk (Dd.trans (by rw[decide_eq_false (by(clear hc;lia))])) ?_;refine br (V.int sh) ?_;refine Ja (Dd.trans (by rw[decide_eq_true h])) ?_;refine br (V.int (AJ g)) ?_;refine br (V.int fr) ?_;refine br (V.int (fr.fmod 3)) ?_;refine bk (a:=V.int (AJ g*fr.fmod 3)) (σ':=(SE g W wn C cn ρ)) (g.rec (by kernel_rfl) (by kernel_rfl)) ?_;refine br (V.int (AJ g*fr.fmod 3+1)) ?_;refine br (V.int fr) ?_;refine br (V.int (AJ g)) ?_;refine br (V.int (AJ g-1)) ?_;refine bk (a:=V.int (fr.fmod (AJ g-1))) (σ':=(SE g W wn C cn ρ)) (g.rec (by kernel_rfl) (by kernel_rfl)) ?_;refine br (V.int (AJ g*fr.fmod 3+1+fr.fmod (AJ g-1))) ?_;refine br (V.int (1024*(AJ g*fr.fmod 3+1+fr.fmod (AJ g-1)))) ?_;refine br (V.int fl) ?_;refine br (V.int (1024*(AJ g*fr.fmod 3+1+fr.fmod (AJ g-1))+fl)) ?_;refine br (V.obj 3) ?_;refine bk (S3 (by(clear h;lia)) _ _) ?_;rfl
theorem Uy(hc:C.length<=4095)(h:6<sh)(hv:B9 (El 0) (.lst [.int 1022977,.int (1024*fr+fl-fl.fmod 2),.int 1029]) (.item (.int (fr.fmod 3))) (SE g W wn C cn ρ)=.ok (.int v) (SE g W wn C cn ρ)):Ab Ad (n+1) (.ref 634) [.obj 3,.int (Ar g),.int (AJ g),(BI f se fl fr k m s x sh off)] (SE g W wn C cn ρ)=.ok .none (SE g W wn (BA C (4*f) v) (cE C cn (4*f)) ρ):=by refine BC (fe:=DU) (fr:=(Ac (fL g f se fl fr k m s x sh off) "place" (.int (4*f)))) (by kernel_rfl) ?_;rw[ER];refine br (fL g f se fl fr k m s x sh off) ?_;refine br (V.int f) ?_;refine br (V.int (4*f)) ?_;refine br (V.int sh) ?_;refine Dk (EL (q:=sh<5) rfl (by(clear hv hc;lia))) ?_;refine br (V.int sh) ?_;refine Dk (Dd.trans (by rw[decide_eq_false (by(clear hv hc;lia))])) ?_;refine br (V.int sh) ?_;refine Dk (Dd.trans (by rw[decide_eq_false (by(clear hv hc;lia))])) ?_;refine br (V.int (1024*999)) ?_;refine br (V.int 1022977) ?_;refine br (V.int fr) ?_;refine br (V.int (1024*fr)) ?_;refine br (V.int fl) ?_;refine br (V.int (1024*fr+fl)) ?_;refine br (V.int fl) ?_;refine br (V.int (fl.fmod 2)) ?_;refine br (V.int (1024*fr+fl-fl.fmod 2)) ?_;refine br (V.int 1025) ?_;refine br (V.int 1029) ?_;refine br (Ek.item (.int (fr.fmod 3))) ?_;refine bk (hv) ?_;refine br (V.obj 3) ?_;refine bk (S3 (by(clear hv h;lia)) _ _) ?_;rfl
theorem eZ(y:Int){q:Int}(h:0<q):0<=y.fmod q/\y.fmod q<q:=⟨Int.fmod_nonneg_of_pos _ h,Int.fmod_lt_of_pos _ h⟩
theorem lS{y q:Int}(h:y<q+1):y<=q:=Int.lt_add_one_iff.mp h
theorem Pr{A y q:Int}(hA:0<=A)(h:y<q+1):A*y<=A*q:=Int.mul_le_mul_of_nonneg_left (lS h) hA
theorem pE{A y B z:Int}(hA:0<=A)(hy:0<=y)(hB:0<=B)(hz:0<=z):0<=A*y+B*z:=Int.add_nonneg (Int.mul_nonneg hA hy) (Int.mul_nonneg hB hz)
theorem qX{f:Int}(f0:0<=f/\f<3):0<=1024*(f+1)+1/\1024*(f+1)+1<2^30:=⟨Int.add_nonneg (Int.mul_nonneg (by decide) (Int.add_nonneg f0.1 (by decide))) (by decide),Int.lt_of_le_of_lt (Int.add_le_add_right (Int.mul_le_mul_of_nonneg_left (Int.add_one_le_of_lt f0.2) (by decide)) _) (by decide)⟩
theorem oB{fr fl:Int}(fr0:0<=fr/\fr<24)(fl0:0<=fl/\fl<256):0<=1024*fr+fl/\1024*fr+fl<2^30:=⟨Int.add_nonneg (Int.mul_nonneg (by decide) fr0.1) fl0.1,Int.lt_trans (Int.add_lt_add (Int.mul_lt_mul_of_pos_left fr0.2 (by decide)) fl0.2) (by decide)⟩
theorem sF(f0:0<=f/\f<3):0<=4*f/\4*f+4<=B2 g/\4*f%4=0:=by have h:4*2+4<=B2 g:=g.rec (by decide) (by decide);exact⟨Int.mul_nonneg (by decide) f0.1,Int.le_trans (Int.add_le_add_right (Pr (by decide) f0.2) _) h,Int.mul_emod_right ..⟩
theorem rJ(f0:0<=f/\f<3)(s0:0<=se/\se<2):0<=Ar g*(f+1)+4*se/\Ar g*(f+1)+4*se+4<=B2 g/\(Ar g*(f+1)+4*se)%4=0:=by
 have hp:0<=Ar g:=Int.le_of_lt (Fb g).2.2.1;have h:Ar g*3+4*1+4<=B2 g:=g.rec (by decide) (by decide);refine⟨pE hp (Int.add_nonneg f0.1 (by decide)) (by decide) s0.1,?_,?_⟩;·exact Int.le_trans (Int.add_le_add_right (Int.add_le_add (Int.mul_le_mul_of_nonneg_left (Int.add_one_le_of_lt f0.2) hp) (Pr (by decide) s0.2)) _) h
 ·rw[Int.add_mul_emod_self_left,<-(Fb g).1,Int.mul_assoc];exact Int.mul_emod_right ..
theorem rG{r:Int}(r0:0<=r/\r<3)(fl0:0<=fl/\fl<256):0<=1024*AJ g*r+fl/\1024*AJ g*r+fl<2^30:=by have hp:0<=1024*AJ g:=g.rec (by decide) (by decide);have h:1024*AJ g*2+256<2^30:=g.rec (by decide) (by decide);exact⟨Int.add_nonneg (Int.mul_nonneg hp r0.1) fl0.1,Int.lt_of_le_of_lt (Int.add_le_add (Pr hp r0.2) (Int.le_of_lt fl0.2)) h⟩
theorem rF{r e:Int}(r0:0<=r/\r<3)(e0:0<=e/\e<AJ g-1)(fl0:0<=fl/\fl<256):0<=1024*(AJ g*r+1+e)+fl/\1024*(AJ g*r+1+e)+fl<2^30:=by have hp:0<=AJ g:=Int.le_of_lt (Fb g).2.2.2.1;refine⟨Int.add_nonneg (Int.mul_nonneg (by decide) (Int.add_nonneg (Int.add_nonneg (Int.mul_nonneg hp r0.1) (by decide)) e0.1)) fl0.1,?_⟩;have h:1024*(AJ g*2+1+(AJ g-1))+256<2^30:=g.rec (by decide) (by decide);exact Int.lt_of_le_of_lt (Int.add_le_add (Int.mul_le_mul_of_nonneg_left (Int.add_le_add (Int.add_le_add_right (Pr hp r0.2) _) (Int.le_of_lt e0.2)) (by decide)) (Int.le_of_lt fl0.2)) h
theorem eL{y:Int}(h:0<=y):y%2<=y:=by lia
theorem qE{fr fl:Int}(fr0:0<=fr/\fr<24)(fl0:0<=fl/\fl<256):0<=1024*fr+fl-fl.fmod 2/\1024*fr+fl-fl.fmod 2<2^30:=by
 have l0:=eZ fl (q:=2) (by decide);have e:fl.fmod 2<=fl:=by rw[Int.fmod_eq_emod_of_nonneg _ (by decide)];exact eL fl0.1
 exact⟨Int.sub_nonneg_of_le (Int.le_trans e (Int.le_add_of_nonneg_left (Int.mul_nonneg (by decide) fr0.1))),Int.lt_of_le_of_lt (Int.sub_le_self _ l0.1) (oB fr0 fl0).2⟩
theorem lE{r:Int}(r0:0<=r/\r<3):r=0\/r=1\/r=2:=by lia
theorem dT{v:V}(hs:Jc g v)(H:CK g C L)(hL:L<=4000):∃C' cn',Ab Ad (n+1) (.ref 634) [.obj 3,.int (Ar g),.int (AJ g),v] (SE g W wn C cn ρ)=.ok .none (SE g W wn C' cn' ρ)/\CK g C' (L+2):=by
 obtain⟨f,se,fl,fr,k,m,s,x,sh,off,rfl,f0,se0,fl0,fr0,m0,s0,x0,sh0,off0⟩:=hs;have hl:C.length<=4095:=Nat.le_trans H.cl (Nat.le_trans hL (by decide));have hf:=sF (g:=g) f0;have r0:=eZ fr (q:=3) (by decide);by_cases c:sh<5;·have hx:=rJ (g:=g) f0 se0;exact⟨_,_,lW hl c,(H.set hf.1 hf.2.1 hf.2.2 (qX f0).1 (qX f0).2).set hx.1 hx.2.1 hx.2.2 (oB fr0 fl0).1 (oB fr0 fl0).2⟩
 ·by_cases c5:sh=5;·have hy:=rG (g:=g) r0 fl0;exact⟨_,_,kW hl c5,(H.set hf.1 hf.2.1 hf.2.2 hy.1 hy.2).up⟩
  ·by_cases c6:sh=6;·have hz:=rF (g:=g) r0 (eZ fr (q:=AJ g-1) (g.rec (by decide) (by decide))) fl0;exact⟨_,_,nH hl c6,(H.set hf.1 hf.2.1 hf.2.2 hz.1 hz.2).up⟩
   ·have c7:6<sh:=by(clear r0 hf hl off0 x0 s0 m0 fr0 fl0 se0 f0 hL H;lia)
    rcases lE r0 with c|c|c;·exact⟨_,_,Uy (v:=1022977) hl c7 (by rw[c];kernel_rfl),(H.set hf.1 hf.2.1 hf.2.2 (by decide) (by decide)).up⟩
    ·exact⟨_,_,Uy (v:=1024*fr+fl-fl.fmod 2) hl c7 (by rw[c];kernel_rfl),(H.set hf.1 hf.2.1 hf.2.2 (qE fr0 fl0).1 (qE fr0 fl0).2).up⟩
    ·exact⟨_,_,Uy (v:=1029) hl c7 (by rw[c];kernel_rfl),(H.set hf.1 hf.2.1 hf.2.2 (by decide) (by decide)).up⟩
end
end
end
noncomputable section
noncomputable def l1(n:Nat)(v17:V)(fr18:Fm):Mo Az:=Aa (Af ((Ac fr18 "scene" v17) "cells")) λx21=>Aa (Af ((Ac fr18 "scene" v17) "page")) λx22=>Aa (Af ((Ac fr18 "scene" v17) "many")) λx23=>Aa (Ab Ad n (.ref 634) [x21,x22,x23,v17]) λx24=>By x24 (ret (.next (Ac fr18 "scene" v17)))
noncomputable def l2(n:Nat)(v26:V)(fr27:Fm):Mo Az:=Aa (Af ((Ac fr27 "place" v26) "memory")) λx30=>Aa (BZ x30 "put_word") λf31=>Aa (Af ((Ac fr27 "place" v26) "cells")) λx32=>Aa (Ci x32 v26) λx33=>Aa (Ab Ad n f31 [x30,v26,x33]) λx34=>By x34 (ret (.next (Ac fr27 "place" v26)))
noncomputable def oH(fr51:Fm)(v50:V)(x62:V)(n:Nat)(x77:V)(x78:V):Mo Az:=Aa (Af ((Ac (Ac fr51 "scene" v50) "address" x62) "many")) λx79=>Aa (Af ((Ac (Ac fr51 "scene" v50) "address" x62) "memory")) λx80=>Aa (at_ x80 "end") λx81=>Aa (Ab Ad n (.ref 639) [x77,x78,x79,x81,x62,v50]) λx82=>Aa (K7 ["due", "place"] x82 (Ac (Ac fr51 "scene" v50) "address" x62)) λfr83=>Aa (Aa (Aa (Af (fr83 "due")) λy86=>Aa (Ap .IsNot y86 .none) λq87=>ret q87) λq85=>Bz .And q85 (ret q85) (Aa (Aa (Aa (Aa (Aa (Af (fr83 "memory")) λy90=>Aa (Aa (Af (fr83 "layout")) λy91=>Aa (Aa (Af (fr83 "cells")) λy92=>Aa (Aa (Af (fr83 "address")) λy93=>Aa (Aa (Af (fr83 "scene")) λy94=>Aa (Aa (Af (fr83 "due")) λy95=>Aa (Aa (Af (fr83 "place")) λy96=>ret [y96]) λy97=>ret (y95::y97)) λy98=>ret (y94::y98)) λy99=>ret (y93::y99)) λy100=>ret (y92::y100)) λy101=>ret (y91::y101)) λy102=>ret (y90::y102)) λy103=>Ab Ad n (.ref 663) y103) BS) λq89=>ret (!q89)) λq88=>Bz .And q88 (ret q88) (ret true))) λq84=>if q84=true then ret (.rets (.bool false)) else ret (.next fr83)
noncomputable def pZ(fr51:Fm)(v50:V)(x62:V)(n:Nat)(x70:V)(x71:V)(x72:V)(x73:V):Mo Az:=Aa (Af ((Ac (Ac fr51 "scene" v50) "address" x62) "many")) λx74=>Aa (Ab Ad n (.ref 656) [x70,x71,x72,x73,x74,x62,v50]) λx75=>Aa (BS x75) λq76=>if(!q76)=true then ret (.rets (.bool false)) else Aa (Af ((Ac (Ac fr51 "scene" v50) "address" x62) "cells")) λx77=>Aa (Af ((Ac (Ac fr51 "scene" v50) "address" x62) "page")) λx78=>oH fr51 v50 x62 n x77 x78
noncomputable def pF(x65:V)(x66:V)(x67:V)(x68:V)(fr51:Fm)(v50:V)(x62:V)(n:Nat):Mo Az:=Aa (Ap .NotEq x65 (.tup [x66,x67,x68])) λq69=>if q69=true then ret (.rets (.bool false)) else Aa (Af ((Ac (Ac fr51 "scene" v50) "address" x62) "memory")) λx70=>Aa (Af ((Ac (Ac fr51 "scene" v50) "address" x62) "walker")) λx71=>Aa (Af ((Ac (Ac fr51 "scene" v50) "address" x62) "cells")) λx72=>Aa (Af ((Ac (Ac fr51 "scene" v50) "address" x62) "page")) λx73=>pZ fr51 v50 x62 n x70 x71 x72 x73
noncomputable def oV(x63:V)(n:Nat)(x62:V)(v50:V)(fr51:Fm):Mo Az:=Aa (BZ x63 "parts") λf64=>Aa (Ab Ad n f64 [x63,x62]) λx65=>Aa (Ci v50 (.int 0)) λx66=>Aa (Ci v50 (.int 1)) λx67=>Aa (Ci v50 (.int 8)) λx68=>pF x65 x66 x67 x68 fr51 v50 x62 n
noncomputable def oA(fr51:Fm)(v50:V)(x58:V)(n:Nat):Mo Az:=Aa (Af ((Ac fr51 "scene" v50) "page")) λx59=>Aa (Aj .Mult x58 x59) λx60=>Aa (Ci v50 (.int 8)) λx61=>Aa (Aj .Add x60 x61) λx62=>Aa (Af ((Ac (Ac fr51 "scene" v50) "address" x62) "layout")) λx63=>oV x63 n x62 v50 fr51
noncomputable def l3(n:Nat)(v50:V)(fr51:Fm):Mo Az:=Aa (Ci v50 (.int 0)) λx54=>Aa (Af ((Ac fr51 "scene" v50) "many")) λx55=>Aa (Aj .Mult x54 x55) λx56=>Aa (Ci v50 (.int 1)) λx57=>Aa (Aj .Add x56 x57) λx58=>oA fr51 v50 x58 n
noncomputable def jQ(fr53:Fm)(x106:V)(x115:V)(x138:V)(n:Nat)(x154:V)(x155:V):Mo Az:=Aa (Af ((Ac (Ac (Ac fr53 "scene" x106) "address" x115) "far" x138) "cells")) λx156=>Aa (Af ((Ac (Ac (Ac fr53 "scene" x106) "address" x115) "far" x138) "page")) λx157=>Aa (Af ((Ac (Ac (Ac fr53 "scene" x106) "address" x115) "far" x138) "many")) λx158=>Aa (Af ((Ac (Ac (Ac fr53 "scene" x106) "address" x115) "far" x138) "scenes")) λx159=>Aa (Ci x159 (.int 0)) λx160=>Aa (Ab Ad n (.ref 656) [x154,x155,x156,x157,x158,x138,x160]) λx161=>ret (.rets x161)
noncomputable def mO(x136:V)(x134:V)(fr53:Fm)(x106:V)(x115:V)(n:Nat):Mo Az:=Aa (Aj .Mod x136 (.int 1000)) λx137=>Aa (Aj .Add x134 x137) λx138=>Aa (Aa (Aa (Aa (Aa (Af ((Ac (Ac (Ac fr53 "scene" x106) "address" x115) "far" x138) "layout")) λy141=>Aa (BZ y141 "parts") λf142=>ret (B4.meth f142 y141)) λg143=>Aa (Aa (Th .USub (.int 1)) λy144=>ret [y144]) λy145=>DB (El n) g143 y145) λy146=>Aa (Ap .IsNot y146 .none) λq147=>ret q147) λq140=>Bz .Or q140 (ret q140) (Aa (Aa (Aa (Aa (Af ((Ac (Ac (Ac fr53 "scene" x106) "address" x115) "far" x138) "layout")) λy149=>Aa (BZ y149 "parts") λf150=>ret (B4.meth f150 y149)) λg151=>DB (El n) g151 [x138]) λy152=>Aa (Ap .IsNot y152 .none) λq153=>ret q153) λq148=>Bz .Or q148 (ret q148) (ret false))) λq139=>if q139=true then ret (.rets (.bool false)) else Aa (Af ((Ac (Ac (Ac fr53 "scene" x106) "address" x115) "far" x138) "memory")) λx154=>Aa (Af ((Ac (Ac (Ac fr53 "scene" x106) "address" x115) "far" x138) "walker")) λx155=>jQ fr53 x106 x115 x138 n x154 x155
noncomputable def jD(x130:V)(x131:V)(fr53:Fm)(x106:V)(x115:V)(n:Nat):Mo Az:=Aa (Aj .Mult x130 x131) λx132=>Aa (Af ((Ac (Ac fr53 "scene" x106) "address" x115) "many")) λx133=>Aa (Aj .Mult x132 x133) λx134=>Aa (Af ((Ac (Ac fr53 "scene" x106) "address" x115) "marks")) λx135=>Aa (Ci x135 (.int 0)) λx136=>mO x136 x134 fr53 x106 x115 n
noncomputable def kN(x106:V)(x113:V)(fr53:Fm)(n:Nat):Mo Az:=Aa (Ci x106 (.int 8)) λx114=>Aa (Aj .Add x113 x114) λx115=>Aa (Aa (Aa (Aa (Aa (Aa (Af ((Ac (Ac fr53 "scene" x106) "address" x115) "memory")) λy119=>Aa (Aa (Af ((Ac (Ac fr53 "scene" x106) "address" x115) "layout")) λy120=>Aa (Aa (Af ((Ac (Ac fr53 "scene" x106) "address" x115) "cells")) λy121=>ret [y121,x115,x106]) λy122=>ret (y120::y122)) λy123=>ret (y119::y123)) λy124=>Ab Ad n (.ref 668) y124) BS) λq118=>ret (!q118)) λq117=>Bz .Or q117 (ret q117) (Aa (Aa (Aa (Aa (Aa (Aa (Af ((Ac (Ac fr53 "scene" x106) "address" x115) "marks")) λy127=>Ci y127 (.int 0)) λy128=>ret [y128]) λy129=>Ab Ad n (.ref 675) y129) BS) λq126=>ret (!q126)) λq125=>Bz .Or q125 (ret q125) (ret false))) λq116=>if q116=true then ret (.rets (.bool false)) else Aa (Af ((Ac (Ac fr53 "scene" x106) "address" x115) "page")) λx130=>Aa (Af ((Ac (Ac fr53 "scene" x106) "address" x115) "many")) λx131=>jD x130 x131 fr53 x106 x115 n
noncomputable def jW(x107:V)(x108:V)(x106:V)(fr53:Fm)(n:Nat):Mo Az:=Aa (Aj .Mult x107 x108) λx109=>Aa (Ci x106 (.int 1)) λx110=>Aa (Aj .Add x109 x110) λx111=>Aa (Af ((Ac fr53 "scene" x106) "page")) λx112=>Aa (Aj .Mult x111 x112) λx113=>kN x106 x113 fr53 n
noncomputable def rU(n:Nat)(fr53:Fm):Mo Az:=Aa (Af (fr53 "scenes")) λx104=>Aa (Aa (Th .USub (.int 1)) λk=>ret (Ek.item k)) λi105=>Aa (B9 (El 0) x104 i105) λx106=>Aa (Ci x106 (.int 0)) λx107=>Aa (Af ((Ac fr53 "scene" x106) "many")) λx108=>jW x107 x108 x106 fr53 n
noncomputable def k3(n:Nat)(q52:Az):Mo Az:=(match q52 with|.next fr53=>rU n fr53|.rets v=>ret (.rets v)|.cont fr53=>ret (.cont fr53))
noncomputable def k2(n:Nat)(q28:Az):Mo Az:=(match q28 with|.next fr29=>Aa (Af (fr29 "layout")) λx35=>Aa (at_ x35 "page") λx36=>Aa (Af (fr29 "layout")) λx37=>Aa (at_ x37 "entries") λx38=>Aa (Af (fr29 "layout")) λx39=>Aa (at_ x39 "end") λx40=>Aa (Af (fr29 "page")) λx41=>Aa (Af (fr29 "many")) λx42=>Aa (Af (fr29 "page")) λx43=>Aa (Af (fr29 "many")) λx44=>Aa (Aj .Mult x43 x44) λx45=>Aa (Af (fr29 "many")) λx46=>Aa (Aj .Mult x45 x46) λx47=>Aa (Ap .NotEq (.lst [x36,x38,x40]) (.lst [x41,x42,x47])) λq48=>if q48=true then ret (.rets (.bool false)) else Aa (Af (fr29 "scenes")) λx49=>Gj true x49 (l3 n) fr29 (k3 n)|.rets v=>ret (.rets v)|.cont fr29=>ret (.cont fr29))
noncomputable def k1(n:Nat)(q19:Az):Mo Az:=(match q19 with|.next fr20=>Aa (Af (fr20 "cells")) λx25=>Gj true x25 (l2 n) fr20 (k2 n)|.rets v=>ret (.rets v)|.cont fr20=>ret (.cont fr20))
noncomputable def bO(x6:V)(x5:V)(n:Nat)(a1:V)(x4:V)(a0:V)(x3:V):Mo Az:=Aa (Aj .Pow (.int 2) x6) λx7=>Aa (Aj .Mult (.int 8) x5) λx8=>Aa (Ab Ad n (.ref 474) [x8]) λx9=>Aa (Ej (.dict [] 0)) λx10=>Aa ((Aa (Cs (Bt a1 λv12=>Aa (Ab Ad n (.ref 627) [v12,x5]) λy13=>ret [y13])) λl11=>ret (.lst l11))) λx14=>Aa (Ab Ad n (.ref 616) [x9]) λx15=>Aa (Ab Ad n (.ref 249) [x15,x4]) λx16=>Gj true x14 (l1 n) (Ac (Ac (Ac (Ac (Ac (Ac (Ac (Ac (Ac (A9 AF [a0]) "marks" a1) "bits" x3) "layout" x4) "page" x5) "many" x7) "scenes" x14) "cells" x10) "memory" x9) "walker" x16) (k1 n)
noncomputable def lQ(n:Nat)(a0 a1:V):Mo Az:=Aa (Aa (Ab Ad n (.builtin "sum") [a1]) λy1=>Aa (Aj .Mod y1 (.int 2)) λk=>ret (Ek.item k)) λi2=>Aa (B9 (El 0) (.lst [(.int 6),(.int 12)]) i2) λx3=>Aa (Ab Ad n (.ref 170) [x3]) λx4=>Aa (Aj .Pow (.int 2) x3) λx5=>Aa (Aj .Sub x3 (.int 2)) λx6=>bO x6 x5 n a1 x4 a0 x3
noncomputable def XZ(n:Nat)(a0:V):Mo Az:=Aa ((Aa (Cs (Aa (My a0 .none (.int 6) .none) λs6=>Bt s6 λv2=>Aa (Aa (Ab Ad n (.builtin "abs") [v2]) λy3=>Aa (Aj .Pow (.int 10) (.int 12)) λy4=>Aj .Mod y3 y4) λy5=>ret [y5])) λl1=>ret (.lst l1))) λx7=>Aa (Ej (.list [])) λx8=>Aa (Ap .Eq a0 x8) λq9=>Aa (Ab Ad n (.type "int") [(.bool q9)]) λx10=>Aa (Aj .Mult (.lst [(.int 339990),(.int 17)]) x10) λx11=>Aa (Aj .Add x7 x11) λx12=>ret (.next (Ac (A9 AF [a0]) "marks" x12))
theorem Ze(n:Nat)(a0:V):Ii (AF.body.take 1) (Ad.cx AF.scope (Ab Ad n)) (A9 AF [a0]) ret=XZ n a0:=by kernel_rfl
theorem XB(n:Nat)(a0 a1:V):Ii (AF.body.drop 1) (Ad.cx AF.scope (Ab Ad n)) (Ac (A9 AF [a0]) "marks" a1) ret=lQ n a0 a1:=by kernel_rfl
end
noncomputable section
structure PW(fr:Fm)(g:Bool)(scs ms:List V):Prop where
 cells:fr "cells" = some (.obj 3)
 page:fr "page" = some (.int (Ar g))
 many:fr "many" = some (.int (AJ g))
 memory:fr "memory" = some (.obj 1)
 layout:fr "layout" = some (.obj 0)
 walker:fr "walker" = some (.obj 6)
 scenes:fr "scenes" = some (.lst scs)
 marks:fr "marks" = some (.lst ms)
section
theorem PW.sc(H:PW fr g scs ms):PW (Ac fr "scene" v) g scs ms:=⟨Eq.trans (b:=fr "cells") (by kernel_rfl) H.cells,Eq.trans (b:=fr "page") (by kernel_rfl) H.page,Eq.trans (b:=fr "many") (by kernel_rfl) H.many,Eq.trans (b:=fr "memory") (by kernel_rfl) H.memory,Eq.trans (b:=fr "layout") (by kernel_rfl) H.layout,Eq.trans (b:=fr "walker") (by kernel_rfl) H.walker,Eq.trans (b:=fr "scenes") (by kernel_rfl) H.scenes,Eq.trans (b:=fr "marks") (by kernel_rfl) H.marks⟩
theorem PW.pl(H:PW fr g scs ms):PW (Ac fr "place" v) g scs ms:=⟨Eq.trans (b:=fr "cells") (by kernel_rfl) H.cells,Eq.trans (b:=fr "page") (by kernel_rfl) H.page,Eq.trans (b:=fr "many") (by kernel_rfl) H.many,Eq.trans (b:=fr "memory") (by kernel_rfl) H.memory,Eq.trans (b:=fr "layout") (by kernel_rfl) H.layout,Eq.trans (b:=fr "walker") (by kernel_rfl) H.walker,Eq.trans (b:=fr "scenes") (by kernel_rfl) H.scenes,Eq.trans (b:=fr "marks") (by kernel_rfl) H.marks⟩
theorem jU(H:PW fr g scs ms)(hs:Jc g v)(K:CK g C L)(hL:L<=4000):∃C' cn',l1 (n+1) v fr (SE g W wn C cn ρ)=.ok (.next (Ac fr "scene" v)) (SE g W wn C' cn' ρ)/\CK g C' (L+2):=by obtain⟨C',cn',e,K'⟩:=dT (n:=n) (wn:=wn) (cn:=cn) (W:=W) (ρ:=ρ) hs K hL;refine⟨C',cn',?_,K'⟩;refine bk (a:=V.obj 3) (Bn H.cells (by kernel_rfl)) ?_;refine bk (a:=V.int (Ar g)) (Bn H.page (by kernel_rfl)) ?_;refine bk (a:=V.int (AJ g)) (Bn H.many (by kernel_rfl)) ?_;refine bk (e) ?_;rw[AH];rfl
theorem Mj(l:List V){fr:Fm}{C:DI}{cn L:Nat}(hs:∀v∈l,Jc g v)(H:PW fr g scs ms)(K:CK g C L)(hL:L+2*l.length<=4000):∃fr' C' cn',BO (.lst src) σ0 (l1 (n+1)) l fr (SE g W wn C cn ρ)=.ok (.next fr') (SE g W wn C' cn' ρ)/\PW fr' g scs ms/\CK g C' (L+2*l.length):=by
 cases l with
 |nil=>exact⟨fr,C,cn,rfl,H,K⟩
 |cons a l=>have hL':L+2*(l.length+1)<=4000:=hL;refine CX (jU (n:=n) (wn:=wn) (cn:=cn) (W:=W) (ρ:=ρ) H (hs a (.head _)) K (by(clear hL' K H hs;lia))) λC1 cn1 e1 K1=>?_;obtain⟨fr2,C2,cn2,e2,H2,K2⟩:=Mj l (λv hv=>hs v (.tail _ hv)) H.sc K1 (by(clear K1 e1 hL K H hs;lia));refine⟨fr2,C2,cn2,bk (Bk e1) (bk (a:=()) rfl e2),H2,?_⟩;rw[show L+2*(a::l).length=L+2+2*l.length by rw[List.length_cons];(clear K2 H2 e2 K1 e1 hL' hL K H hs;lia)];exact K2
theorem oQ(H:Ag g C W μ)(ha:a∈C.map (·.1)){v:Int}(h0:0<=v)(h1:v<2^30)(c:AO)(wn:Nat)(ρ:St):∃W' wn',Ab Ad (n+3) (.ref 354) [.obj 1,.int a,.int v] (SX (Ai g) g (Aw W) wn c ρ)=.ok .none (SX (Ai g) g (Aw W') wn' c ρ)/\Ag g C W' (λj=>if j=a then v else μ j):=by refine B0 (H.ck a ha) λa1 a2 a3=>?_;have:=Oe n g a v (Ai g) (Aw W) wn (c::Ey::.list []::Fw::ρ) a3 a1 a2 (FO W) (JE W) (by rw[EU];have:=H.wl;(clear a3 a2 a1 h1 h0 ha H;lia));rw[KU v h0 (by(clear this a3 a2 a1 h0 ha H;lia)),LG]at this;exact⟨_,_,this,H.put ha h0 h1⟩
theorem jS(H:PW fr g scs ms)(A:Ag g C W μ)(ha:a∈C.map (·.1)):∃W' wn',l2 (n+3) (.int a) fr (SE g W wn C cn ρ)=.ok (.next (Ac fr "place" (.int a))) (SE g W' wn' C cn ρ)/\Ag g C W' (λj=>if j=a then AE C a else μ j):=by refine CX (oQ (n:=n) A ha (A.cb a).1 (A.cb a).2 (.dict (Aw C) cn) wn ρ) λW' wn' e A'=>?_;refine⟨W',wn',?_,A'⟩;refine bk (a:=V.obj 1) (Bn H.memory (by kernel_rfl)) ?_;refine bk (a:=Value.ref 354) (σ':=(SE g W wn C cn ρ)) (g.rec (by kernel_rfl) (by kernel_rfl)) ?_;refine bk (a:=V.obj 3) (Bn H.cells (by kernel_rfl)) ?_;refine bk (a:=V.int (AE C a)) (Hd (i:=3) (cn:=cn) rfl ha) ?_;refine bk (e) ?_;rw[AH];rfl
theorem X2(h0:σ0[i]?=some (.dict (Aw C) cn))(h:σ[i]?=some (.dict (Aw C) cn)):stays (.obj i) σ0 σ=true:=by
 show(match σ0[i]?,σ[i]? with
  |some (.dict es n),some (.dict es' n')=>decide (n=n')&&A6 (es.map (·.1)) (es'.map (·.1))
  |some (.list l),some (.list l')=>A6 l l'
  |_,_=>false)=true
 rw[h,h0];show(decide (cn=cn)&&A6 ((Aw C).map (·.1)) ((Aw C).map (·.1)))=true;rw[Bx,decide_eq_true rfl];rfl
theorem Me(h0:σ0[3]?=some (.dict (Aw C) cn))(l:List Int){fr:Fm}{W:DI}{wn:Nat}{μ:Int->Int}(hl:∀a∈l,a∈C.map (·.1))(H:PW fr g scs ms)(A:Ag g C W μ)(hz:∀a,μ a=0\/μ a=AE C a):∃fr' W' wn' μ',BO (.obj 3) σ0 (l2 (n+3)) (l.map .int) fr (SE g W wn C cn ρ)=.ok (.next fr') (SE g W' wn' C cn ρ)/\PW fr' g scs ms/\Ag g C W' μ'/\(∀a,μ' a=0\/μ' a=AE C a)/\∀a,(a∈l\/μ a=AE C a)->μ' a=AE C a:=by
 cases l with
 |nil=>exact⟨fr,W,wn,μ,rfl,H,A,hz,λa h=>h.elim (λh=>nomatch h) id⟩
 |cons a l=>
  refine CX (jS (n:=n) (wn:=wn) (cn:=cn) (ρ:=ρ) H A (hl a (.head _))) λW1 wn1 e1 A1=>?_;obtain⟨fr2,W2,wn2,μ2,e2,H2,A2,z2,d2⟩:=Me h0 l (λb hb=>hl b (.tail _ hb)) H.pl A1 λj=>by
   split;·rename_i z;rw[z];exact .inr rfl
   ·exact hz j
  refine⟨fr2,W2,wn2,μ2,bk (Bk e1) (bk (a:=()) (if_pos (X2 h0 rfl)) e2),H2,A2,z2,λj hj=>d2 j ?_⟩;rcases hj with hj|hj
  ·rcases List.mem_cons.mp hj with q|q;·exact .inr (by rw[if_pos q,q])
   ·exact .inl q
  ·refine .inr ?_;split;·rename_i z;rw[z]
   ·exact hj
end
end
section
noncomputable section
section
variable{a ad f se fl frr m s x sh off:Int}
theorem jJ{q n p r:Int}(hq:q<n)(r1:r<p)(hp:0<p):q*p+r<n*p:=by refine Int.lt_of_lt_of_le (Int.add_lt_add_left r1 _) ?_;have:=Int.mul_le_mul_of_nonneg_right (Int.add_one_le_of_lt hq) (Int.le_of_lt hp);rw[Int.add_mul,Int.one_mul]at this;exact this
theorem SW(f0:0<=f/\f<3)(s0:0<=se/\se<2)(o0:0<=off/\off<Ar g):0<=((f*AJ g+se)*Ar g+off)/\((f*AJ g+se)*Ar g+off)<CZ g/\(((f*AJ g+se)*Ar g+off).fdiv (Ar g)).fdiv (AJ g)=f/\(((f*AJ g+se)*Ar g+off).fdiv (Ar g)).fmod (AJ g)=se/\((f*AJ g+se)*Ar g+off).fmod (Ar g)=off:=by
 refine NB (Fb g) λ_ _ hp hn he=>?_;have n2:se<AJ g:=Int.lt_of_lt_of_le s0.2 (g.rec (by decide) (by decide));have n3:f<AJ g:=Int.lt_of_lt_of_le f0.2 (g.rec (by decide) (by decide));have d1:=aD (q:=f*AJ g+se) hp o0.1 o0.2;have d2:=aD (q:=f) hn s0.1 n2;refine⟨Int.add_nonneg (Int.mul_nonneg (Int.add_nonneg (Int.mul_nonneg f0.1 (Int.le_of_lt hn)) s0.1) (Int.le_of_lt hp)) o0.1,?_,?_,?_,d1.2⟩;·rw[he,Int.mul_comm (Ar g)];exact jJ (jJ n3 n2 hn) o0.2 hp
 ·rw[d1.1];exact d2.1
 ·rw[d1.1];exact d2.2
theorem JB:∀{l:DI}{a v:Int},l.lookup a=some v->BA l a v=l
 |(b,u)::r,a,v,h=>by
  rw[D8]at h;rw[EN];by_cases c:b=a;·rw[if_pos c]at h⊢;cases h;rfl
  ·rw[if_neg c]at h⊢;rw[JB h]
theorem Ox(w:Bj g (AE C) ad k m s x R)(hb:Fq C):Bj g (AE (G6 C R)) ad k m s x R/\G6 (G6 C R) R=G6 C R/\∀v pl e,R=.ok v pl e->e=AE (G6 C R) pl:=by
 cases R with
 |af=>exact⟨w,rfl,λ_ _ _ h=>nomatch h⟩
 |pf=>exact⟨w,rfl,λ_ _ _ h=>nomatch h⟩
 |ok v pl e=>
  have e1:=(DJ w rfl).1;have e2:AE (BA C pl e) pl=e:=by rw[CW,if_pos rfl]
  have w2:=Iu w (KS (μ':=AE (BA C pl e)) (hb pl).1 k λa=>by rw[CW,e1]) rfl;rw[e2,e1,PN,<-e1]at w2;refine⟨w2,JB ?_,λv' pl' e' h=>?_⟩;·show(BA C pl e).lookup pl=some e;rw[HK,if_pos rfl]
  ·cases h;exact e2.symm
noncomputable def f3(fr:Fm)(v:V)(ad:Int)(k:Kd)(R:PR):Fm:=Ac (Ac (Ac (Ac fr "scene" v) "address" (.int ad)) "due" (Kz R)) "place" (Lp k R)
theorem gZ(H:PW fr g scs ms):PW (f3 fr v ad k R) g scs ms:=⟨Eq.trans (b:=fr "cells") (by kernel_rfl) H.cells,Eq.trans (b:=fr "page") (by kernel_rfl) H.page,Eq.trans (b:=fr "many") (by kernel_rfl) H.many,Eq.trans (b:=fr "memory") (by kernel_rfl) H.memory,Eq.trans (b:=fr "layout") (by kernel_rfl) H.layout,Eq.trans (b:=fr "walker") (by kernel_rfl) H.walker,Eq.trans (b:=fr "scenes") (by kernel_rfl) H.scenes,Eq.trans (b:=fr "marks") (by kernel_rfl) H.marks⟩
theorem E4(σ:St)(h0:0<=a)(h1:a<2^40):Aj .Mult (.int a) (.int b) σ=.ok (.int (a*b)) σ:=Of (by lia)
theorem T8(H:PW fr g scs ms)(f0:0<=f/\f<3)(s0:0<=se/\se<2)(o0:0<=off/\off<Ar g)(h1:Ab Ad (n+1) (.ref 656) [.obj 1,.obj 6,.obj 3,.int (Ar g),.int (AJ g),.int ((f*AJ g+se)*Ar g+off),(BI f se fl frr k m s x sh off)] (SE g W wn C cn ρ)=.ok (.bool true) σ')(hm:σ'[1]?=some (Bm g))(h2:Ab Ad (n+1) (.ref 639) [.obj 3,.int (Ar g),.int (AJ g),.int (B2 g),.int ((f*AJ g+se)*Ar g+off),(BI f se fl frr k m s x sh off)] σ'=.ok (.tup [Kz R,Lp k R]) σ2)
  (h3:(Aa (Aa (Aa (Af ((f3 fr (BI f se fl frr k m s x sh off) ((f*AJ g+se)*Ar g+off) k R) "due")) λy98=>Aa (Ap .IsNot y98 .none) λq99=>ret q99) λq97=>Bz .And q97 (ret q97) (Aa (Aa (Aa (Aa (Aa (Af ((f3 fr (BI f se fl frr k m s x sh off) ((f*AJ g+se)*Ar g+off) k R) "memory")) λy102=>Aa (Aa (Af ((f3 fr (BI f se fl frr k m s x sh off) ((f*AJ g+se)*Ar g+off) k R) "layout")) λy103=>Aa (Aa (Af ((f3 fr (BI f se fl frr k m s x sh off) ((f*AJ g+se)*Ar g+off) k R) "cells")) λy104=>Aa (Aa (Af ((f3 fr (BI f se fl frr k m s x sh off) ((f*AJ g+se)*Ar g+off) k R) "address")) λy105=>Aa (Aa (Af ((f3 fr (BI f se fl frr k m s x sh off) ((f*AJ g+se)*Ar g+off) k R) "scene")) λy106=>Aa (Aa (Af ((f3 fr (BI f se fl frr k m s x sh off) ((f*AJ g+se)*Ar g+off) k R) "due")) λy107=>Aa (Aa (Af ((f3 fr (BI f se fl frr k m s x sh off) ((f*AJ g+se)*Ar g+off) k R) "place")) λy108=>ret [y108]) λy109=>ret (y107::y109)) λy110=>ret (y106::y110)) λy111=>ret (y105::y111)) λy112=>ret (y104::y112)) λy113=>ret (y103::y113)) λy114=>ret (y102::y114)) λy115=>Ab Ad (n+1) (.ref 663) y115) BS) λq101=>ret (!q101)) λq100=>Bz .And q100 (ret q100) (ret true))) λq96=>if q96=true then ret (Az.rets (.bool false)) else ret (.next (f3 fr (BI f se fl frr k m s x sh off) ((f*AJ g+se)*Ar g+off) k R))) σ2=R'):l3 (n+1) (BI f se fl frr k m s x sh off) fr (SE g W wn C cn ρ)=R':=by
 refine NB (SW f0 s0 o0) λd0 d1 d2 d3 d4=>?_;refine br (V.int f) ?_;refine bk (a:=V.int (AJ g)) (Bn H.many (by kernel_rfl)) ?_;refine bk (a:=V.int (f*AJ g)) (E4 _ f0.1 (by(clear d4 d3 d2 d1 d0 h3 h2 hm h1 o0 s0 H;lia))) ?_;refine br (V.int se) ?_;refine br (V.int (f*AJ g+se)) ?_;refine bk (a:=V.int (Ar g)) (Bn H.page (by kernel_rfl)) ?_;refine bk (a:=V.int ((f*AJ g+se)*Ar g)) (E4 _ (by cases g;show 0<=f*16+se;(clear d4 d3 d2 d1 d0 h3 h2 hm h1 o0 H;lia);show 0<=f*1024+se;lia) (by cases g;show f*16+se<_;(clear d4 d3 d2 d1 d0 h3 h2 hm h1 o0 H;lia);show f*1024+se<_;lia)) ?_;refine br (V.int off) ?_;refine br (V.int ((f*AJ g+se)*Ar g+off)) ?_;refine bk (a:=V.obj 0) (Bn H.layout (by kernel_rfl)) ?_;refine bk (a:=Value.ref 117) (σ':=(SE g W wn C cn ρ)) (g.rec (by kernel_rfl) (by kernel_rfl)) ?_;refine bk (HI d0 d1 _) ?_;refine br (V.int f) ?_;refine br (V.int se) ?_;refine br (V.int off) ?_;rw[d2,d3,d4];refine Dk (MO (EO (d:=.tuple [.int f,.int se,.int off]) rfl rfl)) ?_;refine bk (a:=V.obj 1) (Bn H.memory (by kernel_rfl)) ?_;refine bk (a:=V.obj 6) (Bn H.walker (by kernel_rfl)) ?_;refine bk (a:=V.obj 3) (Bn H.cells (by kernel_rfl)) ?_;refine bk (a:=V.int (Ar g)) (Bn H.page (by kernel_rfl)) ?_;refine bk (a:=V.int (AJ g)) (Bn H.many (by kernel_rfl)) ?_;refine bk (h1) ?_;refine iL rfl ?_;refine bk (a:=V.obj 3) (Bn H.cells (by kernel_rfl)) ?_;refine bk (a:=V.int (Ar g)) (Bn H.page (by kernel_rfl)) ?_;refine bk (a:=V.int (AJ g)) (Bn H.many (by kernel_rfl)) ?_;refine bk (a:=V.obj 1) (Bn H.memory (by kernel_rfl)) ?_;refine bk (a:=V.int (B2 g)) (ZD hm (g.rec (by kernel_rfl) (by kernel_rfl))) ?_;refine bk (h2) ?_;refine br (f3 fr (BI f se fl frr k m s x sh off) ((f*AJ g+se)*Ar g+off) k R) ?_;exact h3
theorem OA(H:PW fr g scs ms)(f0:0<=f/\f<3)(s0:0<=se/\se<2)(o0:0<=off/\off<Ar g)(h1:Ab Ad (n+1) (.ref 656) [.obj 1,.obj 6,.obj 3,.int (Ar g),.int (AJ g),.int ((f*AJ g+se)*Ar g+off),(BI f se fl frr k m s x sh off)] (SE g W wn C cn ρ)=.ok (.bool true) σ')(hm:σ'[1]?=some (Bm g))(h2:Ab Ad (n+1) (.ref 639) [.obj 3,.int (Ar g),.int (AJ g),.int (B2 g),.int ((f*AJ g+se)*Ar g+off),(BI f se fl frr k m s x sh off)] σ'=.ok (.tup [Kz R,Lp k R]) σ2)(hR:∀v pl e,R≠.ok v pl e):l3 (n+1) (BI f se fl frr k m s x sh off) fr (SE g W wn C cn ρ)=.ok (.next (f3 fr (BI f se fl frr k m s x sh off) ((f*AJ g+se)*Ar g+off) k R)) σ2:=by
 refine T8 (σ2:=σ2) H f0 s0 o0 h1 hm h2 (Dk ((Ae (a:=false) ?_).trans rfl) rfl);cases R with
 |af=>kernel_rfl
 |pf=>kernel_rfl
 |ok v pl e=>exact absurd rfl (hR v pl e)
theorem Yk{σ' σ2 σ3:St}{vv pl e:Int}(H:PW fr g scs ms)(f0:0<=f/\f<3)(s0:0<=se/\se<2)(o0:0<=off/\off<Ar g)(h1:Ab Ad (n+1) (.ref 656) [.obj 1,.obj 6,.obj 3,.int (Ar g),.int (AJ g),.int ((f*AJ g+se)*Ar g+off),(BI f se fl frr k m s x sh off)] (SE g W wn C cn ρ)=.ok (.bool true) σ')(hm:σ'[1]?=some (Bm g))(h2:Ab Ad (n+1) (.ref 639) [.obj 3,.int (Ar g),.int (AJ g),.int (B2 g),.int ((f*AJ g+se)*Ar g+off),(BI f se fl frr k m s x sh off)] σ'=.ok (.tup [Kz (.ok vv pl e),Lp k (.ok vv pl e)]) σ2)(h3:Ab Ad (n+1) (.ref 663) [.obj 1,.obj 0,.obj 3,.int ((f*AJ g+se)*Ar g+off),(BI f se fl frr k m s x sh off),.int vv,.int pl] σ2=.ok (.bool true) σ3):l3 (n+1) (BI f se fl frr k m s x sh off) fr (SE g W wn C cn ρ)=.ok (.next (f3 fr (BI f se fl frr k m s x sh off) ((f*AJ g+se)*Ar g+off) k (.ok vv pl e))) σ3:=by refine T8 (σ2:=σ2) H f0 s0 o0 h1 hm h2 (Dk (σ':=σ3) ((Ae (a:=true) (σ':=σ2) (by kernel_rfl)).trans ((Ae (a:=false) (σ':=σ3) ?_).trans rfl)) rfl);refine bk (a:=true) (bk (a:=V.bool true) (bk (a:=[V.obj 1,.obj 0,.obj 3,.int ((f*AJ g+se)*Ar g+off),(BI f se fl frr k m s x sh off),.int vv,.int pl]) ?_ h3) rfl) rfl;refine bk (Bn H.memory (by kernel_rfl)) (bk (a:=[V.obj 0,.obj 3,.int ((f*AJ g+se)*Ar g+off),(BI f se fl frr k m s x sh off),.int vv,.int pl]) ?_ rfl);refine bk (Bn H.layout (by kernel_rfl)) (bk (a:=[V.obj 3,.int ((f*AJ g+se)*Ar g+off),(BI f se fl frr k m s x sh off),.int vv,.int pl]) ?_ rfl);exact bk (Bn H.cells (by kernel_rfl)) (bk (a:=[V.int ((f*AJ g+se)*Ar g+off),(BI f se fl frr k m s x sh off),.int vv,.int pl]) (by kernel_rfl) rfl)
theorem jI(H:PW fr g scs ms)(hs:Jc g v)(A:Ag g C W (AE C)):∃fr' C' W' wn' cn' ρ',l3 (n+13) v fr (SE g W wn C cn ρ)=.ok (.next fr') (SE g W' wn' C' cn' ρ')/\PW fr' g scs ms/\Ag g C' W' (AE C'):=by
 obtain⟨f,se,fl,frr,k,m,s,x,sh,off,rfl,f0,se0,fl0,fr0,m0,s0,x0,sh0,off0⟩:=hs;refine NB (SW f0 se0 off0) λd0 d1 d2 d3 d4=>?_;have ed:CZ g<=4294967296:=g.rec (by decide) (by decide);have hc:=A.cl;refine AP (Lu g (AE C) ((f*AJ g+se)*Ar g+off) k m s x) λR w=>?_;refine KH (TO (n:=n+2) (wn:=wn) (cn:=cn) (ρ:=ρ) (f:=f) (se:=se) (fl:=fl) (fr:=frr) (sh:=sh) (off:=off) A w d0 (by(clear w hc d4 d3 d2 d0 off0 sh0 x0 s0 m0 fr0 fl0 se0 f0 A H;lia)) m0 x0) λwn1 ρ1 e1=>?_;have A1:=Ho A w;refine B0 (Ox w A.cb) λw2 cc he=>?_;have e2:=Ia (n:=n+11) (f:=f) (se:=se) (fl:=fl) (fr:=frr) (sh:=sh) (off:=off) (σ:=SE g (JU (AE C) W R) wn1 (G6 C R) (LJ C cn R) ρ1) w2 d0 m0 x0 A1.cb rfl (by have:=A1.cl;(clear he cc w2 A1 e1 w hc ed d4 d3 d2 d1 d0 off0 sh0 x0 s0 m0 fr0 fl0 se0 f0 A H;lia));rw[TF,cc,Ot]at e2;cases R with
 |af=>exact⟨_,_,_,_,_,_,OA (n:=n+12) H f0 se0 off0 e1 rfl e2 (λ_ _ _ h=>nomatch h),gZ H,A1⟩
 |pf=>exact⟨_,_,_,_,_,_,OA (n:=n+12) H f0 se0 off0 e1 rfl e2 (λ_ _ _ h=>nomatch h),gZ H,A1⟩
 |ok vv pl e=>obtain⟨W3,wn3,ρ3,e3,A3⟩:=WE (n:=n) (f:=f) (se:=se) (fl:=fl) (fr:=frr) (sh:=sh) (off:=off) A1 w2 (he _ _ _ rfl) d0 (by(clear e2 he cc w2 A1 e1 w hc d4 d3 d2 d0 off0 sh0 x0 s0 m0 fr0 fl0 se0 f0 A H;lia));exact⟨_,_,_,_,_,_,Yk (n:=n+12) H f0 se0 off0 e1 rfl e2 e3,gZ H,A3⟩
end
end
end
noncomputable section
section
theorem Ij(l:List V){fr:Fm}{C W:DI}{wn cn:Nat}{ρ:St}(hs:∀v∈l,Jc g v)(H:PW fr g scs ms)(A:Ag g C W (AE C)):∃fr' C' W' wn' cn' ρ',BO (.lst src) σ0 (l3 (n+13)) l fr (SE g W wn C cn ρ)=.ok (.next fr') (SE g W' wn' C' cn' ρ')/\PW fr' g scs ms/\Ag g C' W' (AE C'):=by
 cases l with
 |nil=>exact⟨fr,C,W,wn,cn,ρ,rfl,H,A⟩
 |cons a l=>refine lX (jI (n:=n) (wn:=wn) (cn:=cn) (ρ:=ρ) H (hs a (.head _)) A) λfr1 C1 W1 wn1 cn1 ρ1 e1 H1 A1=>?_;obtain⟨fr2,C2,W2,wn2,cn2,ρ2,e2,H2,A2⟩:=Ij l (λv hv=>hs v (.tail _ hv)) H1 A1;exact⟨fr2,C2,W2,wn2,cn2,ρ2,bk (Bk e1) (bk (a:=()) rfl e2),H2,A2⟩
theorem Wh(a:V)(l:List V):IP (a::l) 0 σ=.ok a σ:=by
 have h:seqIndex? 0 (a::l).length=some 0:=by show(if(decide ((0:Int)<=0)&&decide ((0:Int)<((a::l).length:Int)))=true then some (0:Int).toNat else none)=some 0;rw[if_pos (by rw[List.length_cons,decide_eq_true (p:=(0:Int)<_) (by lia)];rfl)];rfl
 refine(Dv (by decide)).trans ?_;rw[h];rfl
theorem Tq(h:0<n):seqIndex? (-1) n=some (n-1):=by
 cases n with
 |zero=>exact absurd h (Nat.lt_irrefl _)
 |succ k=>
  have e:(-1:Int)+((k+1:Nat):Int)=k:=by omega
  show(if(decide (0<=(-1:Int)+((k+1:Nat):Int))&&decide ((-1:Int)+((k+1:Nat):Int)<((k+1:Nat):Int)))=true then some ((-1:Int)+((k+1:Nat):Int)).toNat else none)=_;rw[e,if_pos (Bool.and_eq_true_iff.mpr ⟨decide_eq_true (Int.natCast_nonneg k),decide_eq_true (Int.ofNat_lt.mpr (Nat.lt_succ_self k))⟩)];rfl
theorem kH(hl:l≠[]):∃v∈l,IP l (-1) σ=.ok v σ:=by
 have h0:=List.length_pos_iff.mpr hl;have h:seqIndex? (-1) l.length=some (l.length-1):=by exact Tq h0
 have hi:l.length-1<l.length:=Nat.sub_lt h0 Nat.one_pos;refine⟨l[l.length-1],List.getElem_mem _,(Dv (by decide)).trans ?_⟩;rw[h];dsimp only;rw[List.getElem?_eq_getElem hi];rfl
theorem LB{src:V}{body:V->Fm->Mo Az}{kk:Az->Mo Az}{vs:List V}{R:C6 Az}(hi:A5 src σ=.ok vs σ)(hl:vs.length<=4096)(h:Aa (BO src σ body vs fr) kk σ=R):Gj true src body fr kk σ=R:=by refine bk hi ?_;rw[if_pos (by rw[decide_eq_true hl];rfl)];exact h
theorem Xm{f m:Mo Bool}{σ σ':St}{R:C6 Bool}(e:f σ=.ok false σ')(h:m σ'=R):Aa f (λq=>Bz .Or q (ret q) m) σ=R:=(Ae e).trans h
theorem jY(H:PW fr g scs ms)(A:Ag g C W (AE C)){v0:V}{scl:List V}(he:scs=v0::scl)(hs:∀v∈scs,Jc g v){ml:List V}(hm:ms=.int m0::ml):∃σ',k3 (n+13) (.next fr) (SE g W wn C cn ρ)=.ok (.rets (.bool true)) σ':=by
 refine Au (kH (σ:=(SE g W wn C cn ρ)) (l:=scs) (by rw[he];exact List.cons_ne_nil _ _)) λv hv el=>?_;obtain⟨f,se,fl,frr,k,m,s,x,sh,off,rfl,f0,se0,fl0,fr0,mm0,s0,x0,sh0,off0⟩:=hs v hv;refine NB (SW f0 se0 off0) λd0 d1 _ _ _=>?_;have ed:CZ g<=4294967296/\0<CZ g:=g.rec (by decide) (by decide);refine lA (Ve (n:=n) (wn:=wn) (cn:=cn) (ρ:=ρ) (f:=f) (se:=se) (fl:=fl) (fr:=frr) (k:=k) (m:=m) (s:=s) (x:=x) (sh:=sh) (off:=off) A d0 (by(clear d0 off0 sh0 x0 s0 mm0 fr0 fl0 se0 f0 el hv hm hs he A H;lia))) λC1 W1 wn1 cn1 ρ1 e1 A1=>?_;refine AP (aE (n:=n) m0 (SE g W1 wn1 C1 cn1 ρ1)) λρ2 e2=>?_;have r0:0<=m0.fmod 1000/\m0.fmod 1000<1000:=⟨Int.fmod_nonneg_of_pos _ (by decide),Int.fmod_lt_of_pos _ (by decide)⟩
 obtain⟨f',se',fl',frr',k',m',s',x',sh',off',hv0,_,_,_,_,mm',_,xx',_,_⟩:=hs v0 (by rw[he];exact .head _);refine AP (Lu g (AE C1) (CZ g+m0.fmod 1000) k' m' s' x') λR w=>?_;refine KH (TO (n:=n+2) (wn:=wn1) (cn:=cn1) (ρ:=ρ1++ρ2) (f:=f') (se:=se') (fl:=fl') (fr:=frr') (sh:=sh') (off:=off') A1 w (by(clear w xx' mm' hv0 r0 e2 A1 e1 ed off0 sh0 x0 s0 mm0 fr0 fl0 se0 f0 el hv hm hs he A H;lia)) (by(clear w xx' mm' hv0 r0 e2 A1 e1 d1 d0 off0 sh0 x0 s0 mm0 fr0 fl0 se0 f0 el hv hm hs he A H;lia)) mm' xx') λwn3 ρ3 e3=>?_;rw[<-hv0]at e3;refine⟨SE g (JU (AE C1) W1 R) wn3 (G6 C1 R) (LJ C1 cn1 R) ρ3,?_⟩;refine bk (a:=V.lst scs) (σ':=(SE g W wn C cn ρ)) (Bn H.scenes (by kernel_rfl)) ?_;refine br (Ek.item (.int (-1))) ?_;refine bk (a:=(BI f se fl frr k m s x sh off)) (σ':=(SE g W wn C cn ρ)) el ?_;refine br (V.int f) ?_;refine bk (a:=V.int (AJ g)) (σ':=(SE g W wn C cn ρ)) (Bn H.many (by kernel_rfl)) ?_;refine bk (a:=V.int (f*AJ g)) (E4 _ f0.1 (by(clear e3 w xx' mm' hv0 r0 e2 A1 e1 ed d1 d0 off0 sh0 x0 s0 mm0 fr0 fl0 se0 el hv hm hs he A H;lia))) ?_;refine br (V.int se) ?_;refine br (V.int (f*AJ g+se)) ?_;refine bk (a:=V.int (Ar g)) (Bn H.page (by kernel_rfl)) ?_;refine bk (a:=V.int ((f*AJ g+se)*Ar g)) (E4 _ (by cases g;show 0<=f*16+se;(clear e3 w e2 A1 e1 ed d1 d0 off0 el hs A H xx' mm' hv0 r0 sh0 x0 s0 mm0 fr0 fl0 hv hm he;lia);show 0<=f*1024+se;lia) (by cases g;show f*16+se<_;(clear e3 w e2 A1 e1 ed d1 d0 off0 el hs A H xx' mm' hv0 r0 sh0 x0 s0 mm0 fr0 fl0 hv hm he;lia);show f*1024+se<_;lia)) ?_;refine br (V.int off) ?_;refine br (V.int ((f*AJ g+se)*Ar g+off)) ?_;refine Dk (σ':=(SE g W1 wn1 C1 cn1 (ρ1++ρ2))) (Xm (σ':=(SE g W1 wn1 C1 cn1 ρ1)) ?_ (Xm (σ':=(SE g W1 wn1 C1 cn1 (ρ1++ρ2))) ?_ rfl)) ?_;·refine bk (a:=true) (bk (a:=V.bool true) (bk (a:=[V.obj 1,.obj 0,.obj 3,.int ((f*AJ g+se)*Ar g+off),(BI f se fl frr k m s x sh off)]) ?_ e1) rfl) rfl;refine bk (Bn H.memory (by kernel_rfl)) (bk (a:=[V.obj 0,.obj 3,.int ((f*AJ g+se)*Ar g+off),(BI f se fl frr k m s x sh off)]) ?_ rfl);refine bk (Bn H.layout (by kernel_rfl)) (bk (a:=[V.obj 3,.int ((f*AJ g+se)*Ar g+off),(BI f se fl frr k m s x sh off)]) ?_ rfl);exact bk (Bn H.cells (by kernel_rfl)) rfl
 ·refine bk (a:=true) (bk (a:=V.bool true) (bk (a:=[V.int m0]) ?_ e2) rfl) rfl;exact bk (a:=V.int m0) (bk (Bn H.marks (by kernel_rfl)) (by rw[hm];exact Wh _ _)) rfl
 refine bk (a:=V.int (Ar g)) (Bn H.page (by kernel_rfl)) ?_;refine bk (a:=V.int (AJ g)) (Bn H.many (by kernel_rfl)) ?_;refine bk (a:=V.int (Ar g*AJ g)) (σ':=(SE g W1 wn1 C1 cn1 (ρ1++ρ2))) (g.rec (by kernel_rfl) (by kernel_rfl)) ?_;refine bk (a:=V.int (AJ g)) (Bn H.many (by kernel_rfl)) ?_;refine bk (a:=V.int (CZ g)) (σ':=(SE g W1 wn1 C1 cn1 (ρ1++ρ2))) (g.rec (by kernel_rfl) (by kernel_rfl)) ?_;refine bk (a:=V.lst ms) (Bn H.marks (by kernel_rfl)) ?_;refine bk (a:=V.int m0) (by rw[hm];exact Wh _ _) ?_;refine br (V.int (m0.fmod 1000)) ?_;refine br (V.int (CZ g+m0.fmod 1000)) ?_;refine Dk (σ':=(SE g W1 wn1 C1 cn1 (ρ1++ρ2))) (Xm (σ':=(SE g W1 wn1 C1 cn1 (ρ1++ρ2))) ?_ (Xm (σ':=(SE g W1 wn1 C1 cn1 (ρ1++ρ2))) ?_ rfl)) ?_;·refine bk (a:=V.none) (σ':=(SE g W1 wn1 C1 cn1 (ρ1++ρ2))) (bk (a:=B4.meth (.ref 117) (.obj 0)) (σ':=(SE g W1 wn1 C1 cn1 (ρ1++ρ2))) (bk (Bn H.layout (by kernel_rfl)) (bk (a:=Value.ref 117) (σ':=(SE g W1 wn1 C1 cn1 (ρ1++ρ2))) (g.rec (by kernel_rfl) (by kernel_rfl)) rfl)) ?_) (by kernel_rfl);exact bk (a:=[V.int (-1)]) (by kernel_rfl) (show Ab Ad (n+13) (.ref 117) [.obj 0,.int (-1)] (SE g W1 wn1 C1 cn1 (ρ1++ρ2))=.ok .none (SE g W1 wn1 C1 cn1 (ρ1++ρ2)) from Rw (n+12) g (-1) _ (by decide))
 ·refine bk (a:=V.none) (σ':=(SE g W1 wn1 C1 cn1 (ρ1++ρ2))) (bk (a:=B4.meth (.ref 117) (.obj 0)) (σ':=(SE g W1 wn1 C1 cn1 (ρ1++ρ2))) (bk (Bn H.layout (by kernel_rfl)) (bk (a:=Value.ref 117) (σ':=(SE g W1 wn1 C1 cn1 (ρ1++ρ2))) (g.rec (by kernel_rfl) (by kernel_rfl)) rfl)) ?_) (by kernel_rfl);exact Gm (n+12) g (CZ g+m0.fmod 1000) _ (by(clear e3 w xx' mm' hv0 r0 e2 A1 e1 ed off0 sh0 x0 s0 mm0 fr0 fl0 se0 f0 el hv hm hs he A H;lia)) (by(clear e3 w xx' mm' hv0 r0 e2 A1 e1 ed d1 d0 off0 sh0 x0 s0 mm0 fr0 fl0 se0 f0 el hv hm hs he A H;lia))
 refine bk (a:=V.obj 1) (Bn H.memory (by kernel_rfl)) ?_;refine bk (a:=V.obj 6) (Bn H.walker (by kernel_rfl)) ?_;refine bk (a:=V.obj 3) (Bn H.cells (by kernel_rfl)) ?_;refine bk (a:=V.int (Ar g)) (Bn H.page (by kernel_rfl)) ?_;refine bk (a:=V.int (AJ g)) (Bn H.many (by kernel_rfl)) ?_;refine bk (a:=V.lst scs) (Bn H.scenes (by kernel_rfl)) ?_;refine bk (a:=v0) (by rw[he];exact Wh _ _) ?_;exact bk e3 rfl
end
end
set_option backward.match.sparseCases true
section
open Builtin Builtin.Float
noncomputable def jK:FormatSpec:={fill:=32,align:=62,sign:=none,noNeg0:=false,alt:=false,width:=none,grouping:=none,precision:=none,type:=some 120}
noncomputable def R5(a:Int):Str:=intField' jK (decide (a<0)) [] ((Nat.toDigits 16 a.natAbs).map λc=>(if(120:Nat)==88 then c.toUpper else c).toNat) [] 4
theorem Mu(h0:0<=a)(h1:a<2^40):(R5 a).length<=10:=by
 have hl:(Nat.toDigits 16 a.natAbs).length<=10:=(Nat.length_toDigits_le_iff (by decide) (by decide)).mpr (by lia);have hp:=tDigits_len_ge 16 a.natAbs;unfold R5;rw[intField'_length_plain _ _ _ _ (by decide) (by decide) (by
  cases e:Nat.toDigits 16 a.natAbs with
  |nil=>rw[e]at hp;simp at hp
  |cons x y=>rfl)]
 rw[decide_eq_false (by lia),show jK.width=none from by decide];simp;lia
theorem Tz(a:Int)(t u:Tok):Builtin.«int.__format__» ⟨[.int a t,.str (Str.ofString "x") u],[]⟩=(typeNameOf (.str (Str.ofString "x") u) >>= λ_=>typeNameOfCut 200 (.int a t) >>= λ_=>retStr (R5 a)):=by kernel_rfl
theorem kB(a:Int)(h0:0<=a)(h1:a<2^40)(t u:Tok):Meets (Builtin.«int.__format__» ⟨[.int a t,.str (Str.ofString "x") u],[]⟩) (λ_ R s=>∀t' k,R (.ok (.ret (.str (R5 a) t'))) {s with toks:=k}):=by rw[Tz];have hl:=Mu h0 h1;generalize R5 a=T at hl⊢;apply KPc.meets_of;intro _ _ _ s Q E hQ;refine wpAny_bind (wpAny_typeNameOf (T := "str") (typeIs_str _ _ _) (by decide) λ_=>?_);refine wpAny_bind (wpAny_typeNameOfCut_int ?_);exact KXf.ret_text rfl (by rw[sizeLine_eq];lia) hQ
theorem WC(hX:spec=Str.ofString "x")(h0:0<=a)(h1:a<2^40)
  (h:∀(T:PySem.Str) t' k,T.length<=10->Q (.str T t') {s with toks:=k}):wpAny (model prog w) A (formatField (.int a t) spec) Q E s:=by
 have hl:=Mu h0 h1;have hf:=kB a h0 h1 t;generalize R5 a=T at hl hf;exact KXf.field_int (spec':=Str.ofString "x") hX (by decide +kernel) (by decide +kernel) hf λt' k=>h T t' k hl
end
section
structure Jq(K:Frag)(C:Addr):Prop where
 cls:∃(oc:Value) (odd:Option Addr) (cd:ClassData) (sl:Array (Option Value)),K.lookup C=some ⟨oc,odd,.cls cd,sl⟩/\cd.mro=DX C/\cd.hasDict=true
 sub:subIn K (.ref C) (.type "ValueError")=some true
 set:findIn K (.ref C) "__setattr__" = some (some (.builtin "object.__setattr__"))
 taker:∀n:Str,n = "reason" \/n = "cause" \/n = "value" \/n = "address" ->takerIn K C n=some none
section
theorem Cn(hk:ce.scope.kind=.function)(k:ce.kindOf x=some .local)(hd:(x==("__debug__" : Str))=false)(n:s.heap.Ns ce.locals cm)(e:cm x=some v)(q:Q v s):wpAny (model prog w) A (eval (.Name x pos) ce) Q E s:=wpAny_Name (wpAny_loadName_local hk k n e q) hd
theorem OT(hk:ce.scope.kind=.function)(k:ce.kindOf x=some .globalImplicit)(hd:(x==("__debug__" : Str))=false)(n:s.heap.Ns ce.globals mg)(b:s.heap.Ns ce.builtins mb)(e:mg x=some v\/(mg x=none/\mb x=some v))(q:Q v s):wpAny (model prog w) A (eval (.Name x pos) ce) Q E s:=by
 refine wpAny_Name ?_ hd;rw[loadName_read hk k];rcases e with e|⟨e1,e2⟩
 ·exact Calls.loadGlobal_global n e q
 ·exact Calls.loadGlobal_builtin n e1 b e2 q
end
section
variable{K:Frag}
theorem NO{ce:Env}{h:Heap}{gs:Array GenState}{dr:Drawn}{tk:Nat}{os:OsState}{m:Str->Option Value}{Q:Flow->Shared->Prop}{x C:Addr}{r:Value}{vs:Array Value}{p1 p2 p3 p4 p5 p6 p7 p8 p9 p10:Pos}
  (hk:ce.scope.kind=.function) (hg:ce.globals=mainGlobals) (hb:ce.builtins=builtinsNs) (k1:ce.kindOf "self" = some .local) (k2:ce.kindOf "reason" = some .local) (k3:ce.kindOf "ValueError" = some .globalImplicit)
  (F:Fr g ce.locals h m) (N:News g ce.locals h [(x,{cls:=.ref C,data:=.fields vs})]) (B:base.StaysIn g) (X:K.In base) (gl:base.Ns mainGlobals mg) (bl:base.Ns builtinsNs mb) (e1:mg "ValueError" = none) (e2:mb "ValueError" = some (.type "ValueError"))
  (m1:m "self" = some (.ref x)) (m2:m "reason" = some r) (c:Jq K C) {a₀:Value}(h0:vs[0]?=some a₀)
  (hE:eval (.Call (.Attribute (.Name "ValueError" p1) "__init__" p2) [.Name "self" p3,.Name "reason" p4] [] p5) ce=(do
   let ov<-eval (.Name "ValueError" p1) ce
   standAt p2.atName
   let(f,first)<-holding [ov] (getMethod ov "__init__" (do return (<-importBound (.Name "ValueError" p1) ce).getD true))
   callWith p5 f first (backTo p5 (starEach [.Name "self" p3,.Name "reason" p4] ce)) []))
  (ret:∀(t2 dx:Addr) (h':Heap) (tk':Nat) (hs:Int) (kt:Tok),Fr g ce.locals h' m->News g ce.locals h' [(dx,dictOf [⟨hs,.str "reason" kt,r⟩] 1),(t2,Bu [r]),(x,{cls:=.ref C,dict:=some dx,data:=.fields (vs.setIfInBounds 0 (.ref t2))})]->Q .next ⟨h',gs,dr,tk',os⟩) :
  wpAny (model prog w) A (execs [.Expr (.Call (.Attribute (.Name "ValueError" p1) "__init__" p2) [.Name "self" p3,.Name "reason" p4] [] p5) p6,.Assign [.Attribute (.Name "self" p7) "reason" p8] (.Name "reason" p9) p10] ce) Q E ⟨h,gs,dr,tk,os⟩:=by
 refine hM c.cls λoc odd cd sl hc hm hdct=>?_;have Xg:K.In g:=X.keeps B;have keep:∀{h'},Fr g ce.locals h' m->∀b o,base.get? b=some o->h'.get? b=some o:=λF b o e=>F.keep _ _ (B b o e);refine wpAny_execs_cons (wpAny_Expr_any ?_ (by unfold interactive;rw[hk];rfl) (by kernel_rfl));have n1:=hg▸gl.keeps (keep F);have n2:=hb▸bl.keeps (keep F);refine MethodCall_ (pl:=(do return (<-importBound (.Name "ValueError" p1) ce).getD true)) ?_ hE;with_reducible show wpAny _ _ _ _ _ _
 refine OT hk k3 (by kernel_rfl) n1 n2 (.inr ⟨e1,e2⟩) ?_;have f1:typeOf (.type "ValueError")=pure (.type "type"):=by kernel_rfl
 have f2:Manifest.isStub "ValueError" = false:=by kernel_rfl
 have f3:findCls K (.type "ValueError") (.type "type") "__init__" = some (.val (.builtin "ValueError.__init__")):=by kernel_rfl
 have f4:handedIn (.builtin "ValueError.__init__")=true:=by kernel_rfl
 with_reducible show wpAny _ _ _ _ _ _
 with_reducible refine method_type F Xg f1 f2 f3 f4 ?_
 with_reducible show wpAny _ _ _ _ _ _
 refine PyProof.Rows.callWith_builtin1 ?_ rfl rfl;with_reducible show wpAny _ _ _ _ _ _
 refine spliced_more ?_ rfl;with_reducible show wpAny _ _ _ _ _ _
 refine Cn hk k1 (by kernel_rfl) F.ns m1 ?_;with_reducible show wpAny _ _ _ _ _ _
 refine spliced_more ?_ rfl;with_reducible show wpAny _ _ _ _ _ _
 refine Cn hk k2 (by kernel_rfl) F.ns m2 ?_;with_reducible show wpAny _ _ _ _ _ _
 refine spliced_none ?_;with_reducible show wpAny _ _ _ _ _ _
 refine mX F Xg N (.head λ_ h=>nomatch h) hc c.sub h0 (by show(1:Nat)<=sizeLine;rw[sizeLine_eq];decide) λt2 h' F' N' l1=>?_;refine wpAny_execs_cons ?_;refine plainObj_wpAny_Assign_Attribute ?_ (by kernel_rfl);with_reducible show wpAny _ _ _ _ _ _
 refine Cn hk k2 (by kernel_rfl) F'.ns m2 ?_;with_reducible show wpAny _ _ _ _ _ _
 refine Cn hk k1 (by kernel_rfl) F'.ns m1 ?_;have nx:t2≠x:=λe=>absurd (l1 _ (.head _)) (by rw[e];exact Nat.lt_irrefl _);with_reducible show wpAny _ _ _ _ _ _
 refine QC F' Xg N' (.tail nx (.head λ_ h=>nomatch h)) c.set (by unfold clsIn;rw[hc]) hm hdct (c.taker _ (.inl rfl)) λdx h'' F'' N'' l2=>?_;exact wpAny_execs_nil (ret t2 dx h'' _ _ _ F'' N'')
theorem Gq(y:CellsAre cm cs cells)(e:cs = []):cells = []:=by subst e;cases y;rfl
theorem IH{dv:List Value}{b:Heap}(h:∀base κ,Bo base κ [] dv):dv = []:=by cases h b ⟨[],[]⟩;rfl
theorem L9:Oz.body = [.Expr (.Call (.Attribute (.Name "ValueError" ⟨8,8,8,18⟩) "__init__" ⟨8,8,8,27⟩) [.Name "self" ⟨8,28,8,32⟩,.Name "reason" ⟨8,34,8,40⟩] [] ⟨8,8,8,41⟩) ⟨8,8,8,41⟩,.Assign [.Attribute (.Name "self" ⟨9,8,9,12⟩) "reason" ⟨9,8,9,19⟩] (.Name "reason" ⟨9,22,9,28⟩) ⟨9,8,9,28⟩]:=by kernel_rfl
structure Y6(K:Frag)(base:Heap)(mg mb:Str->Option Value):Prop where
 X:K.In base
 T:base.NoLimit
 gl:base.Ns mainGlobals mg
 bl:base.Ns builtinsNs mb
 ve:mg "ValueError" = none/\mb "ValueError" = some (.type "ValueError")
 be:mg "BoardError" = some (.ref 39)
 fb:AS K Oz
 c39:specialIn K (.ref 39) "__getattribute__" = some (some (.builtin "type.__getattribute__"))/\(∃mc,typeIn K (.ref 39)=some mc/\readsIn K 39 mc=true/\findCls K (.ref 39) mc "__init__" = some (.val (.ref 36)))/\keepIn K (.ref 36)=true
theorem Vy{x C:Addr}{r:Value}{vs:Array Value}{s:Shared}(o:Y6 K base mg mb)(hA:A.frames=some outer)(W:V6 base outer s.heap)(R:Sn base outer s.heap [(x,{cls:=.ref C,data:=.fields vs})])(hroom:A.depth<recursionLimit)(c:Jq K C){a₀:Value}(h0:vs[0]?=some a₀)
  (ret:∀(t2 dx:Addr) (h':Heap) (tk':Nat) (hs:Int) (kt:Tok),W5 [x] s.heap h'->s.heap.get? t2=none->s.heap.get? dx=none->dx≠x->t2≠x->t2≠dx->h'.get? x=some {cls:=.ref C,dict:=some dx,data:=.fields (vs.setIfInBounds 0 (.ref t2))}->
   h'.get? dx=some (dictOf [⟨hs,.str "reason" kt,r⟩] 1)->h'.get? t2=some (Bu [r])->R₀ (.ok (.ret .none)) {s with heap:=h',toks:=tk'}) :
  codeAny (model prog w) A (.call (.ref 36) ⟨[.ref x,r],[]⟩) R₀ s:=by
 have fo:=o.fb;obtain⟨name,params,dV,kV,doc,pm,cdv,ct,oc,an,od,osl,ho,hcd,hb⟩:=fo.at_;obtain⟨dv,hdv,hbind⟩:=hb s [.ref x,r] (o.X.keeps W.stays) rfl;have:dv = []:=IH (b:=base) hdv;subst this;refine HC (binds:=Oz.ps.zip ([.ref x,r]++[])) hA W o.X o.T R ho hcd hroom hbind (by kernel_rfl) fo.nd (λg L' h₁ tk cells hg st F' N' Y B l=>?_) fo.co fo.gen fo.kind;have:cells = []:=Gq Y (by kernel_rfl);subst this;obtain⟨hh,gs,dr,tks,os⟩:=s;rw[L9];refine NO (g:=g) (base:=base) (r:=r) fo.kind rfl rfl (by kernel_rfl) (by kernel_rfl) (by kernel_rfl) F' N' B.stays o.X o.gl o.bl o.ve.1 o.ve.2 (by kernel_rfl) (by kernel_rfl) c h0 (by kernel_rfl) λt2 dx h' tk' hs kt F'' N''=>?_;have mx:∀q∈[(x,({cls:=.ref C,data:=.fields vs}:Obj))],q.1∈[x]\/q∈[(dx,dictOf [⟨hs,.str "reason" kt,r⟩] 1),(t2,Bu [r]),(x,{cls:=.ref C,dict:=some dx,data:=.fields (vs.setIfInBounds 0 (.ref t2))})]:=λq hq=>by rw[List.mem_singleton.mp hq];exact .inl (.head _)
 have ndx:dx≠x:=λe=>by have a:=(N'' _ (.head _)).1;rw[show dx=x from e,(N'' _ (.tail _ (.tail _ (.head _)))).1]at a;exact absurd (Option.some.inj a) (by simp[dictOf])
 have nt2:t2≠x:=λe=>by have a:=(N'' _ (.tail _ (.head _))).1;rw[show t2=x from e,(N'' _ (.tail _ (.tail _ (.head _)))).1]at a;exact absurd (Option.some.inj a) (by simp)
 have ntd:t2≠dx:=λe=>by have a:=(N'' _ (.tail _ (.head _))).1;rw[show t2=dx from e,(N'' _ (.head _)).1]at a;exact absurd (Option.some.inj a) (by simp[dictOf])
 refine ret t2 dx h' tk' hs kt (Nb [x] hg R F'' N'' mx) (LK hg N'' (.tail _ (.head _)) λq hq=>by rw[List.mem_singleton.mp hq];exact Ne.symm nt2) (LK hg N'' (.head _) λq hq=>by rw[List.mem_singleton.mp hq];exact Ne.symm ndx) ndx nt2 ntd
  (N'' _ (.tail _ (.tail _ (.head _)))).1 (N'' _ (.head _)).1 (N'' _ (.tail _ (.head _))).1
end
end
section
theorem OY(n:Str)(hs:Int)(k v:Value):∀es:List DictEntry,(putL n hs k v es).length<=es.length+1
 |[]=>Nat.le_refl _
 |e::r=>by
  unfold putL;split;·exact Nat.le_succ _
  ·exact Nat.succ_le_succ (OY n hs k v r)
section
variable{K:Frag}{os:OsState}
structure hZ(base:Heap)(outer:List Env)(A A₀:Around)(ce:Env)(g h:Heap)(m:Str->Option Value)(news:List (Addr×Obj)):Prop where
 hk:ce.scope.kind=.function
 hg:ce.globals=mainGlobals
 hb:ce.builtins=builtinsNs
 hf:ce.frame=some ce.locals
 hA:A.frames=some (ce::outer)
 room:A.depth+2<recursionLimit
 B:Below A₀ base outer g
 F:Fr g ce.locals h m
 N:News g ce.locals h news
theorem Il(o:Y6 K base mg mb)(f:hZ base outer A A₀ ce g h m [(x,{cls:=.ref C,data:=.fields vs})])(c:Jq K C)(h0:vs[0]?=some a₀)
  (k1:ce.kindOf "self" = some .local) (k3:ce.kindOf "BoardError" = some .globalImplicit) (m1:m "self" = some (.ref x)) (hs1:starEach [J] ce = [(false,eval J ce)])
  (hJ:∀{Q:Value->Shared->Prop}{E:Value->Shared->Prop}{tk:Nat},(∀T t tk',Q (.str T t) ⟨h,gs,dr,tk',os⟩)->wpAny (model prog w) A (eval J ce) Q E ⟨h,gs,dr,tk,os⟩)
  (hE:eval (.Call (.Attribute (.Name "BoardError" p1) "__init__" p2) [.Name "self" p3,J] [] p5) ce=(do
   let ov<-eval (.Name "BoardError" p1) ce
   standAt p2.atName
   let(f,first)<-holding [ov] (getMethod ov "__init__" (do return (<-importBound (.Name "BoardError" p1) ce).getD true))
   callWith p5 f first (backTo p5 (starEach [.Name "self" p3,J] ce)) []))
  (ret:∀(dx t2:Addr) (h':Heap) (tk':Nat) (hs:Int) (kt:Tok) (r:Value),dx≠x->hZ base outer A A₀ ce g h' m [(dx,dictOf [⟨hs,.str "reason" kt,r⟩] 1),(x,{cls:=.ref C,dict:=some dx,data:=.fields (vs.setIfInBounds 0 (.ref t2))})]->Q .next ⟨h',gs,dr,tk',os⟩) :
  wpAny (model prog w) A (exec (.Expr (.Call (.Attribute (.Name "BoardError" p1) "__init__" p2) [.Name "self" p3,J] [] p5) p6) ce) Q E ⟨h,gs,dr,tk,os⟩:=by
 have Xg:K.In g:=o.X.keeps f.B.stays;have keep:∀b o,base.get? b=some o->h.get? b=some o:=λb o e=>f.F.keep _ _ (f.B.stays b o e);have n1:=f.hg▸o.gl.keeps keep;have n2:=f.hb▸o.bl.keeps keep;obtain⟨c1,⟨mc,c2,c3,c4⟩,c5⟩:=o.c39;refine wpAny_Expr_any ?_ (by unfold interactive;rw[f.hk];rfl) (by kernel_rfl);refine MethodCall_ (pl:=(do return (<-importBound (.Name "BoardError" p1) ce).getD true)) ?_ hE;refine OT f.hk k3 (by kernel_rfl) n1 n2 (.inl o.be) ?_;with_reducible show wpAny _ _ _ _ _ _
 with_reducible refine method_of_cls f.F Xg c1 ?_
 have h1:handedIn (.ref 36)=true:=by kernel_rfl
 with_reducible refine cls_val f.F Xg c2 c3 c4 h1 ?_
 with_reducible show wpAny _ _ _ _ _ _
 have s1:starEach [.Name "self" p3,J] ce=(false,eval (.Name "self" p3) ce)::starEach [J] ce:=rfl;have s2:(backTo p5 (starEach [J] ce)).any (·.1)=false:=by rw[hs1];rfl
 with_reducible refine callWith_K (o.X.keeps keep) c5 ?_ s1 s2
 refine spliced_more ?_ s1;refine Cn f.hk k1 (by kernel_rfl) f.F.ns m1 ?_;with_reducible show wpAny _ _ _ _ _ _
 refine spliced_more ?_ hs1;refine hJ λT t tk'=>?_;with_reducible show wpAny _ _ _ _ _ _
 refine spliced_none ⟨o.X.keeps keep,?_⟩;refine wpAny_call ?_;refine Vy (base:=base) (vs:=vs) o f.hA (Kx (s:=⟨h,gs,dr,tk',os⟩) f.B f.F f.hf f.hk) (M4 (s:=⟨h,gs,dr,tk',os⟩) f.B f.F f.N f.hf λq hq=>hq) (by have:=f.room;lia) c h0 λt2 dx h' tk'' hs kt kp n1 n2 nd nt ntd e1 e2 e3=>?_;refine AG (fT (s:=⟨h,gs,dr,tk',os⟩) f.F f.N (.head λ_ hq=>nomatch hq) kp e1) λF' N'=>?_;have N'':=RY f.F n2 F' N' e2;exact ret dx t2 h' tk'' hs kt (.str T t) nd ⟨f.hk,f.hg,f.hb,f.hf,f.hA,f.room,f.B,F',N''⟩
theorem HQ{Q:Flow->Shared->Prop}{x C dx:Addr}{n:Str}{v:Value}{vs:Array Value}{es:List DictEntry}{k:Nat}{p1 p2 p3 p4:Pos}(o:Y6 K base mg mb)(f:hZ base outer A A₀ ce g h m [(dx,dictOf es k),(x,{cls:=.ref C,dict:=some dx,data:=.fields vs})])(c:Jq K C)(nd:dx≠x)
  (hn:n = "reason" \/n = "cause" \/n = "value" \/n = "address") (k1:ce.kindOf "self" = some .local) (k2:ce.kindOf n=some .local) (hd:(n==("__debug__" : Str))=false) (m1:m "self" = some (.ref x)) (m2:m n=some v) (hl:(getL n es).isSome=true) (hz:es.length<1000)
  (ret:∀(h':Heap) (tk':Nat) (t:Tok),hZ base outer A A₀ ce g h' m [(dx,dictOf (putL n (PyData.keyHash w.params n) (.str n t) v es) (putN n es k)),(x,{cls:=.ref C,dict:=some dx,data:=.fields vs})]->Q .next ⟨h',gs,dr,tk',os⟩) :
  wpAny (model prog w) A (exec (.Assign [.Attribute (.Name "self" p1) n p2] (.Name n p3) p4) ce) Q E ⟨h,gs,dr,tk,os⟩:=by
 refine hM c.cls λoc odd cd sl hc hm hdct=>?_;have Xg:K.In g:=o.X.keeps f.B.stays;refine plainObj_wpAny_Assign_Attribute ?_ (by kernel_rfl);refine Cn f.hk k2 hd f.F.ns m2 ?_;with_reducible show wpAny _ _ _ _ _ _
 refine Cn f.hk k1 (by kernel_rfl) f.F.ns m1 ?_;with_reducible show wpAny _ _ _ _ _ _
 refine Y3 f.F Xg f.N (Tu f.N (.tail _ (.head _)) (.head _)) rfl c.set (by unfold clsIn;rw[hc]) hm hdct (c.taker _ hn) hl rfl (.head λq hq=>by rw[List.mem_singleton.mp hq];exact Ne.symm nd) ?_ λh' F' N'=>?_;·exact Nat.le_trans (OY _ _ _ _ es) hz
 ·exact ret h' _ _ ⟨f.hk,f.hg,f.hb,f.hf,f.hA,f.room,f.B,F',N'⟩
end
end
section
section
variable{os:OsState}
theorem Nj(hk:ce.scope.kind=.function)(k1:ce.kindOf n=some .local)(hd:(n==("__debug__" : Str))=false)(ns:h.Ns ce.locals m)(m1:m n=some (.int v t))(h0:0<=v)(h1:v<2^40)(ho:out.length<=k)(hkk:k+10<=5000)
  (q:∀T t tk',Q (.str T t) ⟨h,gs,dr,tk',os⟩):wpAny (model prog w) A (joinParts out (eval (.FormattedValue (.Name n p1) (-1) (some (.JoinedStr [.Constant (.str "x") 0 p2] p3)) p4) ce::evalEach [] ce)) Q E ⟨h,gs,dr,tk,os⟩:=by
 refine joinParts_cons ?_;refine wpAny_FormattedValue_spec ?_;refine Cn hk k1 hd ns m1 ?_;with_reducible show wpAny _ _ _ _ _ _
 refine JoinedStr_one ?_;refine Calls.Constant_str ?_;refine⟨_,_,rfl,?_⟩;refine WC rfl h0 h1 λT t' k' hl=>⟨?_,?_⟩
 ·rw[Str.length_append,sizeLine_eq];(clear q h1 h0 m1 ns hd k1 hk;lia)
 ·exact joinParts_nil (q _ _ _) (by rw[Str.length_append,sizeLine_eq];(clear q h1 h0 m1 ns hd k1 hk;lia))
theorem Ih(hx:x.length<=j)(ho:out.length<=k)(hkk:k+j<=5000)(q:∀T tk',T.length<=k+j->wpAny (model prog w) A (joinParts T (evalEach rest ce)) Q E ⟨h,gs,dr,tk',os⟩):
  wpAny (model prog w) A (joinParts out (eval (.Constant (.str x) 0 p1) ce::evalEach rest ce)) Q E ⟨h,gs,dr,tk,os⟩:=by
 refine joinParts_cons ?_;refine Calls.Constant_str ⟨?_,q _ _ ?_⟩;·rw[Str.length_append,sizeLine_eq];(clear q;lia)
 ·rw[Str.length_append];(clear q hkk;lia)
theorem VI(hk:ce.scope.kind=.function)(k1:ce.kindOf n=some .local)(hd:(n==("__debug__" : Str))=false)(ns:h.Ns ce.locals m)(m1:m n=some (.int v t))(h0:0<=v)(h1:v<16)(ho:out.length<=k)(hkk:k+1921<=5000)
  (q:∀T tk',T.length<=k+1921->wpAny (model prog w) A (joinParts T (evalEach rest ce)) Q E ⟨h,gs,dr,tk',os⟩):wpAny (model prog w) A (joinParts out (eval (.FormattedValue (.Name n p1) (-1) none p4) ce::evalEach rest ce)) Q E ⟨h,gs,dr,tk,os⟩:=by
 have hl:Nat.log2 v.natAbs<1920:=by
  by_cases hz:v.natAbs=0;·rw[hz];decide
  ·exact(Nat.log2_lt hz).mpr (Nat.lt_of_lt_of_le (show v.natAbs<2^4 by(clear hz q hkk ho m1 ns hd k1 hk;lia)) (Nat.pow_le_pow_right (by decide) (by decide)))
 have hle:=int_text_len_1921 hl;refine joinParts_cons ?_;refine FormattedValue_plain ?_;refine Cn hk k1 hd ns m1 ?_;with_reducible show wpAny _ _ _ _ _ _
 refine wpAny_formatField_int hl ⟨?_,q _ _ ?_⟩;·rw[Str.length_append,sizeLine_eq];(clear hl q h1 h0 m1 ns hd k1 hk;lia)
 ·rw[Str.length_append];(clear hl q hkk h1 h0 m1 ns hd k1 hk;lia)
end
section
variable{K:Frag}
noncomputable abbrev MK(t:Value):Array Value := #[t,.none,.none,.none,.bool false,.none]
theorem NG:FJ.body = [.Expr (.Call (.Attribute (.Name "BoardError" ⟨34,8,34,18⟩) "__init__" ⟨34,8,34,27⟩) [.Name "self" ⟨34,28,34,32⟩,.JoinedStr [.Constant (.str "trap ") 0 ⟨34,36,34,41⟩,.FormattedValue (.Name "cause" ⟨34,42,34,47⟩) (-1) none ⟨34,41,34,48⟩,.Constant (.str " with ") 0 ⟨34,48,34,54⟩,
  .FormattedValue (.Name "value" ⟨34,55,34,60⟩) (-1) (some (.JoinedStr [.Constant (.str "x") 0 ⟨34,61,34,62⟩] ⟨34,60,34,62⟩)) ⟨34,54,34,63⟩] ⟨34,34,34,64⟩] [] ⟨34,8,34,65⟩) ⟨34,8,34,65⟩,
  .Assign [.Attribute (.Name "self" ⟨35,8,35,12⟩) "cause" ⟨35,8,35,18⟩] (.Name "cause" ⟨35,21,35,26⟩) ⟨35,8,35,26⟩,.Assign [.Attribute (.Name "self" ⟨36,8,36,12⟩) "value" ⟨36,8,36,18⟩] (.Name "value" ⟨36,21,36,26⟩) ⟨36,8,36,26⟩]:=by kernel_rfl
theorem QM:F6.body = [.Expr (.Call (.Attribute (.Name "BoardError" ⟨15,8,15,18⟩) "__init__" ⟨15,8,15,27⟩) [.Name "self" ⟨15,28,15,32⟩,.JoinedStr [.Constant (.str "address ") 0 ⟨15,36,15,44⟩,
  .FormattedValue (.Name "address" ⟨15,45,15,52⟩) (-1) (some (.JoinedStr [.Constant (.str "x") 0 ⟨15,53,15,54⟩] ⟨15,52,15,54⟩)) ⟨15,44,15,55⟩] ⟨15,34,15,56⟩] [] ⟨15,8,15,57⟩) ⟨15,8,15,57⟩,
  .Assign [.Attribute (.Name "self" ⟨16,8,16,12⟩) "address" ⟨16,8,16,20⟩] (.Name "address" ⟨16,23,16,30⟩) ⟨16,8,16,30⟩]:=by kernel_rfl
noncomputable def UR(x C:Addr)(P:Obj->Prop)(h h':Heap):Prop:=∃dx t2 od,W5 [x] h h'/\h.get? dx=none/\dx≠x/\h'.get? x=some {cls:=.ref C,dict:=some dx,data:=.fields (MK (.ref t2))}/\h'.get? dx=some od/\P od
theorem PC(hg:∀b o,h.get? b=some o->b∉[(x,({cls:=.ref C,data:=.fields (MK t)}:Obj))].map (·.1)->g.get? b=some o)(R:Sn base outer h [(x,{cls:=.ref C,data:=.fields (MK t)})])
  (F:Fr g L h' m) (N:News g L h' [(dx,od),(x,{cls:=.ref C,dict:=some dx,data:=.fields (MK (.ref t2))})]) (nd:dx≠x) (hp:P od):UR x C P h h':=
 ⟨dx,t2,od,Nb [x] hg R F N λq hq=>by rw[List.mem_singleton.mp hq];exact .inl (.head _),LK hg N (.head _) λq hq=>by rw[List.mem_singleton.mp hq];exact Ne.symm nd,nd,(N _ (.tail _ (.head _))).1,(N _ (.head _)).1,hp⟩
theorem WQ(o:Y6 K base mg mb)(fo:AS K FJ)(hc:Jq K 91)(hA:A.frames=some outer)(W:V6 base outer s.heap)(R:Sn base outer s.heap [(x,{cls:=.ref 91,data:=.fields (MK t)})])(hroom:A.depth+3<recursionLimit)(c0:0<=c)(c1:c<16)(v0:0<=v)(v1:v<2^40)
  (ret:∀(h':Heap) (tk':Nat),UR x 91 (λo=>Pn o c v) s.heap h'->R₀ (.ok (.ret .none)) {s with heap:=h',toks:=tk'}) :
  codeAny (model prog w) A (.call (.ref 88) ⟨[.ref x,.int c t1,.int v t2],[]⟩) R₀ s:=by
 obtain⟨name,params,dV,kV,doc,pm,cdv,ct,oc,an,od,osl,ho,hcd,hb⟩:=fo.at_;obtain⟨dv,hdv,hbind⟩:=hb s [.ref x,.int c t1,.int v t2] (o.X.keeps W.stays) rfl;have:dv = []:=IH (b:=base) hdv;subst this;refine HC (binds:=FJ.ps.zip ([.ref x,.int c t1,.int v t2]++[])) hA W o.X o.T R ho hcd (by(clear hbind hdv hb hcd ho ret v1 v0 c1 c0 R W hA hc fo o;lia)) hbind (by kernel_rfl) fo.nd (λg L' h₁ tk cells hg st F' N' Y B l=>?_) fo.co fo.gen fo.kind;have:cells = []:=Gq Y (by kernel_rfl);subst this;obtain⟨hh,gs,dr,tks,os⟩:=s;rw[NG];have f:hZ base outer (A.deeper (envOfC FJ.qual FJ.scope L' 88 cdv)) A (envOfC FJ.qual FJ.scope L' 88 cdv) g h₁ _ [(x,{cls:=.ref 91,data:=.fields (MK t)})]:=⟨fo.kind,rfl,rfl,rfl,Around.frames_deeper hA,by show A.depth+1+2<_;(clear st hg hbind ret R W Y N' l B F' hdv hb hcd ho v1 v0 c1 c0 hA hc fo o;lia),B,F',N'⟩
 refine wpAny_execs_cons (Il o f hc rfl (by kernel_rfl) (by kernel_rfl) (by kernel_rfl) rfl (λ{Q E tk} q=>?_) (by kernel_rfl) λdx tt h' tk' hs kt r nd f'=>?_);·refine JoinedStr_many ?_;refine Ih (k:=0) (j:=5) (rest:=[_,_,_]) (by decide +kernel) (by decide +kernel) (by decide) λT tk' hT=>?_;refine joinParts_consE (VI (t:=t1) fo.kind (by kernel_rfl) (by kernel_rfl) F'.ns (by kernel_rfl) c0 c1 hT (by decide) λT tk' hT=>?_);refine joinParts_consE (Ih (j:=6) (by decide +kernel) hT (by decide) λT tk' hT=>?_);exact joinParts_consE (Nj (t:=t2) fo.kind (by kernel_rfl) (by kernel_rfl) F'.ns (by kernel_rfl) v0 v1 hT (by decide) q)
 refine wpAny_execs_cons (HQ (v:=.int c t1) o f' hc nd (.inr (.inl rfl)) (by kernel_rfl) (by kernel_rfl) (by kernel_rfl) (by kernel_rfl) (by kernel_rfl) (by kernel_rfl) (by show(1:Nat)<1000;decide) λh' tk' t3 f'=>?_);refine wpAny_execs_cons (HQ (v:=.int v t2) o f' hc nd (.inr (.inr (.inl rfl))) (by kernel_rfl) (by kernel_rfl) (by kernel_rfl) (by kernel_rfl) (by kernel_rfl) (by kernel_rfl) (by show(2:Nat)<1000;decide) λh' tk' t4 f'=>?_);exact wpAny_execs_nil (ret h' tk' (PC hg R f'.F f'.N nd ⟨_,_,_,_,_,_,_,_,_,_,rfl⟩))
theorem gC(o:Y6 K base mg mb)(fo:AS K F6)(hc:Jq K 71)(hA:A.frames=some outer)(W:V6 base outer s.heap)(R:Sn base outer s.heap [(x,{cls:=.ref 71,data:=.fields (MK t)})])(hroom:A.depth+3<recursionLimit)(v0:0<=v)(v1:v<2^40)
  (ret:∀(h':Heap) (tk':Nat),UR x 71 (λ_=>True) s.heap h'->R₀ (.ok (.ret .none)) {s with heap:=h',toks:=tk'}) :
  codeAny (model prog w) A (.call (.ref 68) ⟨[.ref x,.int v t2],[]⟩) R₀ s:=by
 obtain⟨name,params,dV,kV,doc,pm,cdv,ct,oc,an,od,osl,ho,hcd,hb⟩:=fo.at_;obtain⟨dv,hdv,hbind⟩:=hb s [.ref x,.int v t2] (o.X.keeps W.stays) rfl;have:dv = []:=IH (b:=base) hdv;subst this;refine HC (binds:=F6.ps.zip ([.ref x,.int v t2]++[])) hA W o.X o.T R ho hcd (by(clear hbind hdv hb hcd ho ret v1 v0 R W hA hc fo o;lia)) hbind (by kernel_rfl) fo.nd (λg L' h₁ tk cells hg st F' N' Y B l=>?_) fo.co fo.gen fo.kind;have:cells = []:=Gq Y (by kernel_rfl);subst this;obtain⟨hh,gs,dr,tks,os⟩:=s;rw[QM];have f:hZ base outer (A.deeper (envOfC F6.qual F6.scope L' 68 cdv)) A (envOfC F6.qual F6.scope L' 68 cdv) g h₁ _ [(x,{cls:=.ref 71,data:=.fields (MK t)})]:=⟨fo.kind,rfl,rfl,rfl,Around.frames_deeper hA,by show A.depth+1+2<_;(clear st hg hbind ret R W Y N' l B F' hdv hb hcd ho v1 v0 hA hc fo o;lia),B,F',N'⟩
 refine wpAny_execs_cons (Il o f hc rfl (by kernel_rfl) (by kernel_rfl) (by kernel_rfl) rfl (λ{Q E tk} q=>?_) (by kernel_rfl) λdx tt h' tk' hs kt r nd f'=>?_);·refine JoinedStr_many ?_;refine Ih (k:=0) (j:=8) (rest:=[_]) (by decide +kernel) (by decide +kernel) (by decide) λT tk' hT=>?_;exact joinParts_consE (Nj (t:=t2) fo.kind (by kernel_rfl) (by kernel_rfl) F'.ns (by kernel_rfl) v0 v1 hT (by decide) q)
 refine wpAny_execs_cons (HQ (v:=.int v t2) o f' hc nd (.inr (.inr (.inr rfl))) (by kernel_rfl) (by kernel_rfl) (by kernel_rfl) (by kernel_rfl) (by kernel_rfl) (by kernel_rfl) (by show(1:Nat)<1000;decide) λh' tk' t3 f'=>?_);exact wpAny_execs_nil (ret h' tk' (PC hg R f'.F f'.N nd trivial))
end
end
theorem OP(W:V6 base outer h)(o:Obj):V6 base outer (h.push o):=⟨λb x e=>Heap.get?_push_of_some _ (W.stays b x e),W.frames.of_keeps λb x e _=>⟨x,Heap.get?_push_of_some _ e,rfl⟩⟩
theorem jM(W:V6 base outer h)(hx:h.objs.size<=x):base.get? x=none/\x∉outer.filterMap (·.frame):=by
 refine⟨?_,λhm=>?_⟩
 ·cases e:base.get? x with
  |none=>rfl
  |some o=>exact absurd (Heap.lt_size (W.stays _ _ e)) (Nat.not_lt.mpr hx)
 ·refine AG (W.frames.mem hm) λ_ Hx=>?_;obtain⟨o,ho,_⟩:=Hx;exact absurd (Heap.lt_size ho) (Nat.not_lt.mpr hx)
inductive Calls(K:Frag)(C fI:Addr):Prop
 |mk (nm q N bs bm hdct sn sub ab col dd k0 k1 k2 k3 k5) (h1:K.lookup C=some (excClassObj nm q C N bs bm hdct sn sub ab col dd k0 k1 k2 k3 k5 "ValueError.__new__"))
  (h2:(Value.ref C::bm).contains (.type "ValueError")=true) (h3:(Value.ref C::bm).contains (.type "AttributeError")=false) (h4:(Value.ref C::bm).contains (.type "NameError")=false)
  (h5:specialIn K (.ref C) "__call__" = some (some (.builtin "type.__call__"))) (h6:instIn K (.ref C) (.type "type")=some true) (h7:findIn K (.ref C) "__init__" = some (some (.ref fI))) (h8:typeIn K (.ref fI)=some (.type "function")):Calls K C fI
section
theorem iN(nm:Lj Γ κ Γ.env ex m cel fr)(d:DN Γ κ ex σ h g m led cel im)(hcd:e.d=0)(hp:∀o,P o->Fz e o)(md:UR (h.objs.size+1) (Bp e) P ((h.push (Bu xs)).push (Cb (Bp e) h.objs.size)) h'):
  ∃dx od a0 BP,Ly Γ κ ex σ h' g m led cel im e (h.objs.size+1) dx od a0 .none .none BP .none:=by
 obtain⟨dx,t2,od,kp,n1,n2,e1,e2,po⟩:=md;have k2:∀b o,h.get? b=some o->((h.push (Bu xs)).push (Cb (Bp e) h.objs.size)).get? b=some o:=λb o e=>Heap.get?_push_of_some _ (Heap.get?_push_of_some _ e);have k:∀b o,h.get? b=some o->h'.get? b=some o:=λb o eb=>kp b o (k2 b o eb) (λq=>by have:=Heap.lt_size eb;rw[List.mem_singleton.mp q]at this;exact absurd this (Nat.not_lt.mpr (Nat.le_succ _)));have hx:h.get? (h.objs.size+1)=none:=Heap.get?_none_of_le (Nat.le_succ _);have hdx:h.get? dx=none:=by
  cases q:h.get? dx with
  |none=>rfl
  |some o=>rw[k2 _ _ q]at n1;cases n1
 obtain⟨oL,_,_,hL,_⟩:=d.F.ns;have gn:∀{a},h.get? a=none->g.get? a=none:=λ{a} ha=>kts_none d.F.keep ha;have nl:∀{a},h.get? a=none->a≠Γ.env.locals:=λ{a} ha q=>by rw[q,hL]at ha;cases ha
 refine⟨dx,od,.ref t2,.bool false,⟨d.same ⟨d.F.ns.at' λo e=>k _ o e,λb o e=>k b o (d.F.keep b o e),d.F.above⟩ λq hq=>⟨k _ _ (d.N q hq).1,(d.N q hq).2⟩,λq hq=>?_,n2,λq hq=>⟨λz=>?_,λz=>?_⟩,hp _ po,?_⟩⟩
 ·rcases List.mem_cons.mp hq with rfl|hq;·exact⟨e1,nl hx,gn hx⟩
  ·rcases List.mem_cons.mp hq with rfl|hq;·exact⟨e2,nl hdx,gn hdx⟩
   ·exact⟨k _ _ (d.N q hq).1,(d.N q hq).2⟩
 ·have:=(d.N q hq).1;rw[z,hx]at this;cases this
 ·have:=(d.N q hq).1;rw[z,hdx]at this;cases this
 ·refine hcd.symm▸?_;rfl
noncomputable def pA(Γ:BG)(κ:Wd)(ex:List (Addr×Obj))(fr:Fm)(σ:St)(e:Ex)(Q:Value->Shared->Prop):Prop:=∀κ' g m led cel im x dx od a0 BP h' tk',κ.Le κ'->Lj Γ κ' Γ.env ex m cel fr->Ly Γ κ' ex σ h' g m led cel im e x dx od a0 .none .none BP .none->Q (.ref x) (Γ.at h' tk')
noncomputable def oP(Γ:BG)(A:Around)(C fI:Addr)(xs:List Value)(P:Obj->Prop)(h:Heap)(tk:Nat):Prop:=
 ∀{R₀:Result->Shared->Prop},V6 Γ.base (Γ.env::Γ.outer) ((h.push (Bu xs)).push (Cb C h.objs.size))->Sn Γ.base (Γ.env::Γ.outer) ((h.push (Bu xs)).push (Cb C h.objs.size)) [(h.objs.size+1,Cb C h.objs.size)]->
  (∀h' tk',UR (h.objs.size+1) C P ((h.push (Bu xs)).push (Cb C h.objs.size)) h'->R₀ (.ok (.ret .none)) (Γ.at h' tk'))->
  codeAny Γ.M (A.under (.builtin "type.__call__" ⟨.ref C::xs,[]⟩)) (.call (.ref fI) ⟨.ref (h.objs.size+1)::xs,[]⟩) R₀ (Γ.at ((h.push (Bu xs)).push (Cb C h.objs.size)) tk)
theorem ZE(o:Y6 Γ.K Γ.base Γ.mg Γ.mb)(ok:Γ.Ok)(ar:AR Γ κ Γ.env ex fr σ h)(CA:pA Γ κ ex fr σ e Q)(kc:Calls Γ.K C fI)(hC:C=Bp e)(hcd:e.d=0)(hp:∀o,P o->Fz e o)(hl:xs.length<=16)
  (run:oP Γ A C fI xs P h tk):wpAny Γ.M A (PySem.call (.ref C) xs) Q E (Γ.at h tk):=by
 obtain⟨g,m,led,cel,im,d,nm⟩:=ar;have W0:V6 Γ.base (Γ.env::Γ.outer) h:=Kx (s:=Γ.at h 0) d.B d.F ok.frame ok.kind;have Xs:=o.X.keeps W0.stays;cases kc with
 |mk _ _ _ _ _ _ _ _ _ _ _ _ _ _ _ _ q1 q2 q3 q4 q5 q6 q7 q8=>
 refine wpAny_call (Wb (fI:=fI) (C:=C) Xs (Xs C _ q1) q2 q3 q4 q5 q6 q7 q8 (Nat.le_trans hl (by rw[sizeLine_eq];decide)) ?_);have hge:=jM W0 (x:=h.objs.size+1) (Nat.le_succ _);refine run (OP (OP W0 (Bu xs)) (Cb C h.objs.size)) (λq hq=>by rw[List.mem_singleton.mp hq];exact⟨by heap_get,hge.1,hge.2⟩) λh' tk' md=>⟨rfl,?_⟩
 subst hC;refine oM (iN nm d hcd hp md) λdx od a0 BP n=>?_;exact CA κ g m led cel im _ dx od a0 BP h' tk' .refl nm n
theorem Px(hd:a+8<recursionLimit)(h:b<=a+2)(hk:k<=6):b+k<recursionLimit:=Nat.lt_of_le_of_lt (Nat.le_trans (Nat.add_le_add h hk) (Nat.le_of_eq (Nat.add_assoc a 2 6))) hd
theorem fJ(o:Y6 Γ.K Γ.base Γ.mg Γ.mb)(f88:AS Γ.K FJ)(f68:AS Γ.K F6)(c91:Jq Γ.K 91)(c71:Jq Γ.K 71)(k91:Calls Γ.K 91 88)(k71:Calls Γ.K 71 68)(ok:Γ.Ok)(hA:A.frames=some (Γ.env::Γ.outer))(hd:A.depth+8<recursionLimit):lZ Γ A:=by
 intro C e vs xs κ ex fr σ h tk Q E he ar rs CA;refine GO (Mg A C xs) λu1 u2 _ _=>?_;cases Ln he with
 |trap p q p0 p1 q0 q1=>
  cases rs.cc with
  |mk r1 rt=>cases rt.cc with
   |mk r2 r3=>cases r1.ii;cases r2.ii;cases r3.nn;exact ZE (fI:=88) o ok ar CA k91 rfl rfl (λ_ z=>z) (show 2<=16 by decide) λW R ret=>WQ o f88 c91 (u1.trans hA) W R (Px hd u2 (by decide)) p0 p1 q0 q1 ret
 |bad p p0 p1=>
  cases rs.cc with
  |mk r1 r2=>cases r1.ii;cases r2.nn;exact ZE (fI:=68) o ok ar CA k71 rfl rfl (λ_ _=>trivial) (show 1<=16 by decide) λW R ret=>gC o f68 c71 (u1.trans hA) W R (Px hd u2 (by decide)) p0 p1 ret
end
theorem WG(P:Params):Jq (Ax P) 91 where
 cls:=⟨_,none,{name := "Trap",bases:=[.ref 39],mro:=DX 91,ns:=90,qualname := "Trap" },⟨[some (.ref 74),none,some (.str "Trap" 265),some (.str "Trap" 273),some (.builtin "ValueError.__new__"),some (.bool true)]⟩,show(Ax P).lookup 91=some ⟨.type "type",_,_,_⟩ by kernel_rfl,rfl,rfl⟩
 sub:=by kernel_rfl
 set:=by kernel_rfl
 taker:=λn hn=>by rcases hn with rfl|rfl|rfl|rfl<;>kernel_rfl
theorem Yb(P:Params):Jq (Ax P) 71 where
 cls:=⟨_,none,{name := "BadAddress",bases:=[.ref 39],mro:=DX 71,ns:=70,qualname := "BadAddress" },⟨[some (.ref 55),none,some (.str "BadAddress" 240),some (.str "BadAddress" 248),some (.builtin "ValueError.__new__"),some (.bool true)]⟩,show(Ax P).lookup 71=some ⟨.type "type",_,_,_⟩ by kernel_rfl,rfl,rfl⟩
 sub:=by kernel_rfl
 set:=by kernel_rfl
 taker:=λn hn=>by rcases hn with rfl|rfl|rfl|rfl<;>kernel_rfl
theorem Ue(P:Params):Calls (Ax P) 91 88:=⟨"Trap", "Trap",90,[.ref 39],[.ref 39,.type "ValueError",.type "Exception",.type "BaseException",.type "object"],true,[],[],false,none,none,some (.ref 74),none,some (.str "Trap" 265),some (.str "Trap" 273),some (.bool true),by kernel_rfl,by kernel_rfl,by kernel_rfl,by kernel_rfl,by kernel_rfl,by kernel_rfl,by kernel_rfl,by kernel_rfl⟩
theorem Uk(P:Params):Calls (Ax P) 71 68:=⟨"BadAddress", "BadAddress",70,[.ref 39],[.ref 39,.type "ValueError",.type "Exception",.type "BaseException",.type "object"],true,[],[],false,none,none,some (.ref 55),none,some (.str "BadAddress" 240),some (.str "BadAddress" 248),some (.bool true),by kernel_rfl,by kernel_rfl,by kernel_rfl,by kernel_rfl,by kernel_rfl,by kernel_rfl,by kernel_rfl,by kernel_rfl⟩
theorem rS{w:World}{base:Heap}{mg mb:Str->Option Value}(X:(Ax w.params).In base)(T:base.NoLimit)(g:base.Ns mainGlobals mg)(b:base.Ns builtinsNs mb)(hb:∀x:Str,x≠ "__name__" ->mb x=bootBuiltins x):Y6 (Ax w.params) base mg mb where
 X:=X
 T:=T
 gl:=g
 bl:=b
 ve:=⟨(E5 X g _).trans (by kernel_rfl),(hb _ (by decide +kernel)).trans (by kernel_rfl)⟩
 be:=(E5 X g _).trans (by kernel_rfl)
 fb:=Tb w.params
 c39:=⟨by kernel_rfl,⟨.type "type",by kernel_rfl,by kernel_rfl,by kernel_rfl⟩,by kernel_rfl⟩
section
theorem YR{s₁:Shared}(X:(Ax w.params).In s₁.heap)(g:s₁.heap.Ns mainGlobals mg)(b:s₁.heap.Ns builtinsNs mb)(T:s₁.heap.NoLimit)(hb:∀x:Str,x≠ "__name__" ->mb x=bootBuiltins x)(sy:∃o,s₁.heap.get? sysModules=some o){l:Addr}{vs:List Value}{ns:List Int}
  (hl:s₁.heap.get? l=some (KP vs.toArray 0)) (hI:IntsAre vs ns) {σ':St}(ev:GQ Ad (Ab Ad 20) AF [.lst (ns.map .int)] []=.ok (.bool true) σ')
  (q:∀h' tk',(∀b o,s₁.heap.get? b=some o->h'.get? b=some o)->Q (.bool true) {s₁ with heap:=h',toks:=tk'}):wpAny (model prog w) callerA (PySem.call (.ref 680) [.ref l]) Q E s₁:=by
 let Γ:BG:={prog:=prog,w:=w,K:=Ax w.params,base:=s₁.heap,outer:=[],env:={scope:=Lb,locals:=0,globals:=0,cells:=[]},h₀:=s₁.heap,trk:=[],im₀:=[],s₀:=s₁,A₀:=callerA,dp:=0,un:=0,hsh:=Lg prog w,mg:=mg,mb:=mb,keep:=none}
 have ok0:Γ.Ok0:=⟨X,g,b,T,rfl,sy⟩
 have uq:∀{a:Addr}{m m':Str->Option Value},s₁.heap.Ns a m->s₁.heap.Ns a m'->∀x,m x=m' x:=by
  rintro a m m' ⟨o,es,ep,e1,e2,_,e3⟩ ⟨o',es',ep',e1',e2',_,e3'⟩ x
  have:=Option.some.inj (e1.symm.trans e1');subst this;rw[e2]at e2';cases e2';exact(e3 x).symm.trans (e3' x)
 have tok:iD prog w (Ax w.params) s₁.heap mg mb Ad:=aF X g hb λΓ' A e1 e2 e3 e4 ok hA hd hu=>by
  have gl:=ok.gl;have bl:=ok.bl;rw[e4]at gl bl;have o:Y6 Γ'.K Γ'.base Γ'.mg Γ'.mb:=by rw[e3,e4];exact rS X T gl bl λx hx=>(uq bl b x).trans (hb x hx)
  exact fJ o (e3▸Ww w.params) (e3▸Tt w.params) (e3▸WG w.params) (e3▸Yb w.params) (e3▸Ue w.params) (e3▸Uk w.params) ok hA hd
 refine wpAny_call ?_;refine J2 (Γ:=Γ) (outer:=[]) (tk:=s₁.toks) (κ:=⟨[],[]⟩) (led:=[]) (σ:=[]) (vs:=[.lst (ns.map .int)]) ok0 (Kc w.params) rfl (by decide +kernel) ⟨λ_ _ z=>z,trivial⟩ (λq hq=>nomatch hq) .nil .nil (λp hp=>nomatch hp) (.cons (.lst (.inl hl) (L8 hI)) .nil) rfl λL' cdv h₁ tk₁ ok ek ar=>?_;have aok:Gb (Γ.innerO [] callerA ⟨[],[]⟩ s₁.heap [] (envOfC AF.qual AF.scope L' 680 cdv)) (callerA.deeper (envOfC AF.qual AF.scope L' 680 cdv)) true:=⟨rfl,λ_=>rfl,rfl,rfl⟩
 refine(PV _).2 AF.body (Nat.lt_succ_self _) _ (Ad.cx AF.scope (Ab Ad 20)) [] (λ_=>True) (XF _) _ ⟨[],[]⟩ _ [] h₁ tk₁ _ _ (Pk (Pj 20) tok ok ek (λ_=>rfl) rfl (by show callerA.depth+1+4*20+16<recursionLimit;decide +kernel) (by show callerA.units+3+16*20+64<cLine;decide +kernel)) aok trivial ar ?_;unfold GQ F7 at ev;cases er:Fv AF.body (Ad.cx AF.scope (Ab Ad 20)) (A9 AF [.lst (ns.map .int)]) [] with
 |stuck=>rw[er]at ev;cases ev
 |exc e σ₁=>rw[er]at ev;cases ev
 |ok f σ₁=>
  rw[er]at ev;cases f with
  |next=>cases ev
  |cont=>cases ev
  |rets v=>cases ev;intro κ' h₂ tk₂ y fr' _ ar₂ rv;cases rv.bb;exact q h₂ tk₂ λb o e=>ar₂.kept e
end
set_option tactic.hygienic true
section
set_option maxHeartbeats 0
noncomputable abbrev P9:Option Value:=some (.ref 6)
theorem bV(w:World):(λos=>topGo treeTable pw w 11 P9 12 ⟨boot_heap w.params,⟨[]⟩,boot_drawn,boot_toks,os⟩ (topStub pw))=λos=>some (⟨hp (L0 w.params),⟨[]⟩,{},187,os⟩,⟨denote treeTable BD,BD,p0,[topFrame p0]⟩):=by kernel_rfl
theorem VX(w:World):(λos=>segRun treeTable pw w 11 P9 1 1 ⟨hp (L0 w.params),⟨[]⟩,{},187,os⟩ (blockOf (behindTheImports pw) GB BD p0 [topFrame p0]))=λos=>some (.next,(st (L0 w.params) 15 187 os).abs,BD,p0):=by kernel_rfl
theorem cH(w:World):(λos=>topRun treeTable pw w 11 P9 2 (st (L4 w.params) 681 1255 os).abs ⟨doneF .next,BD,⟨525,0,553,76⟩,[topFrame p0]⟩)=λos=>some ⟨hp (L4 w.params),⟨[]⟩,{},1255,os⟩:=by kernel_rfl
theorem Wz:behindTheImports pw=JM 0 4++(JM 4 16++(JM 20 3++(JM 23 1++(JM 24 4++(JM 28 8++(JM 36 1++(JM 37 2++(JM 39 12++[])))))))):=by kernel_rfl
theorem XQ:opening pw=plainProg pw.main.scope.names:=by kernel_rfl
theorem Ut(s:Shared):fenceModules? pw s=some s:=by kernel_rfl
theorem Xw(w:World):((boot_heap w.params).isNs mainGlobals&&(⟨[]⟩:Array GenState).size==0,(boot_heap w.params).objs.size,(boot_heap w.params).nsMap mainGlobals "__annotations__")=(true,11,P9):=by kernel_rfl
theorem W7(w:World):(λos=>segRunT treeTable pw w 11 (some (.ref 6)) 1 472 (st (L0 w.params) 15 187 os) (piecesOf (JM 0 4) GB BD ⟨0,0,0,0⟩ [topFrame p0]))=λos=>some (Flow.next,st (nZ w.params) 55 240 os,BD,⟨10,0,11,8⟩):=by kernel_rfl
theorem dW(w:World):(λos=>segRunT treeTable pw w 11 (some (.ref 6)) 1 769 (st (nZ w.params) 55 240 os) (piecesOf (JM 4 16) GB BD ⟨10,0,11,8⟩ [topFrame p0]))=λos=>some (Flow.next,st (L1 w.params) 94 349 os,BD,⟨50,0,50,5⟩):=by kernel_rfl
theorem KJ(w:World):(λos=>segRunT treeTable pw (w.withFollow "special-get-raises" true) 11 (some (.ref 6)) 1 204 (st (L1 (w.withFollow "special-get-raises" true).params) 94 349 os) (piecesOf (JM 20 3) GB BD ⟨50,0,50,5⟩ [topFrame p0]))=λos=>some (Flow.next,st (nF (w.withFollow "special-get-raises" true).params) 96 365 os,BD,⟨53,0,53,9⟩):=by kernel_rfl
theorem Jp(w:World):(λos=>segRunT treeTable pw (w.withFollow "special-get-raises" false) 11 (some (.ref 6)) 1 204 (st (L1 (w.withFollow "special-get-raises" false).params) 94 349 os) (piecesOf (JM 20 3) GB BD ⟨50,0,50,5⟩ [topFrame p0]))=λos=>some (Flow.next,st (nF (w.withFollow "special-get-raises" false).params) 96 365 os,BD,⟨53,0,53,9⟩):=by kernel_rfl
theorem eA(w:World):(λos=>segRunT treeTable pw w 11 (some (.ref 6)) 1 493 (st (nF w.params) 96 365 os) (piecesOf (JM 23 1) GB BD ⟨53,0,53,9⟩ [topFrame p0]))=λos=>some (Flow.next,st (L2 w.params) 175 470 os,BD,⟨54,0,91,51⟩):=by kernel_rfl
theorem WY(w:World):(λos=>segRunT treeTable pw w 11 (some (.ref 6)) 1 514 (st (L2 w.params) 175 470 os) (piecesOf (JM 24 4) GB BD ⟨54,0,91,51⟩ [topFrame p0]))=λos=>some (Flow.next,st (pV w.params) 254 602 os,BD,⟨106,0,166,44⟩):=by kernel_rfl
theorem eV(w:World):(λos=>segRunT treeTable pw w 11 (some (.ref 6)) 1 427 (st (pV w.params) 254 602 os) (piecesOf (JM 28 8) GB BD ⟨106,0,166,44⟩ [topFrame p0]))=λos=>some (Flow.next,st (L3 w.params) 305 693 os,BD,⟨202,0,204,53⟩):=by kernel_rfl
theorem Zk(w:World):(λos=>segRunT treeTable pw w 11 (some (.ref 6)) 1 959 (st (L3 w.params) 305 693 os) (piecesOf (JM 36 1) GB BD ⟨202,0,204,53⟩ [topFrame p0]))=λos=>some (Flow.next,st (oE w.params) 479 931 os,BD,⟨205,0,322,16⟩):=by kernel_rfl
theorem Yx(w:World):(λos=>segRunT treeTable pw w 11 (some (.ref 6)) 1 615 (st (oE w.params) 479 931 os) (piecesOf (JM 37 2) GB BD ⟨205,0,322,16⟩ [topFrame p0]))=λos=>some (Flow.next,st (oZ w.params) 556 1039 os,BD,⟨339,0,351,52⟩):=by kernel_rfl
theorem bD(w:World):(λos=>segRunT treeTable pw w 11 (some (.ref 6)) 1 803 (st (oZ w.params) 556 1039 os) (piecesOf (JM 39 12) GB BD ⟨339,0,351,52⟩ [topFrame p0]))=λos=>some (Flow.next,st (L4 w.params) 681 1255 os,BD,⟨525,0,553,76⟩):=by kernel_rfl
end
section
set_option maxHeartbeats 0
theorem dB(w:World)(os:OsState):topRun treeTable pw w 11 P9 5271 ⟨boot_heap w.params,⟨[]⟩,boot_drawn,boot_toks,os⟩ (topStub pw)=some (CA w os):=by have p2:∀w:World,(λos=>segRunT treeTable pw w 11 (some (.ref 6)) 1 204 (st (L1 w.params) 94 349 os) (piecesOf (JM 20 3) GB BD ⟨50,0,50,5⟩ [topFrame p0]))=λos=>some (Flow.next,st (nF w.params) 96 365 os,BD,⟨53,0,53,9⟩):=byRow2 "special-get-raises" Jp KJ;refine go_top (n:=12) (N:=5259) (congrFun (bV w) os) ?_;refine piece_block (n:=1) (N:=5258) (congrFun (VX w) os) ?_;rw[Wz];refine piece_app (n:=472) (N:=4786) (segRun_of (congrFun (W7 w) os)) ?_;refine piece_app (n:=769) (N:=4017) (segRun_of (congrFun (dW w) os)) ?_;refine piece_app (n:=204) (N:=3813) (segRun_of (congrFun (p2 w) os)) ?_;refine piece_app (n:=493) (N:=3320) (segRun_of (congrFun (eA w) os)) ?_;refine piece_app (n:=514) (N:=2806) (segRun_of (congrFun (WY w) os)) ?_;refine piece_app (n:=427) (N:=2379) (segRun_of (congrFun (eV w) os)) ?_;refine piece_app (n:=959) (N:=1420) (segRun_of (congrFun (Zk w) os)) ?_;refine piece_app (n:=615) (N:=805) (segRun_of (congrFun (Yx w) os)) ?_;refine piece_app (n:=803) (N:=2) (segRun_of (congrFun (bD w) os)) ?_;exact piece_nil (congrFun (cH w) os)
noncomputable def HX:Hook:=kHook Ax O9 (λ_=>by kernel_rfl)
theorem X5(w:World):(λos=>HX.obs (CA w os))=λ_=>HX.val w:=by kernel_rfl
theorem X3:LeftO pw Hn iA (λs=>xlAt Hn iF s&&recOk Challenge.rw_nu0094_01.row.toRowW.records s) HX.obs HX.val 10620:=
 LeftO.of_pieces (H₀:=boot_heap) (H₁:=λP=>hp (L4 P)) (gs₀:=⟨[]⟩) (gs₁:=⟨[]⟩) (d₀:=boot_drawn) (d₁:={}) (k₀:=boot_toks) (k₁:=1255) (m₀:=11) (ann:=P9) (M:=5271) (boot_open (N:=10620) XQ rfl Ut) Xw dB rfl
  (λw=>funext λos=>Prod.ext (congrFun (lG w) os) (Prod.ext (congrFun (mJ w) os) (congrFun (X5 w) os)))
theorem sC:namesResolve PySem.Challenge.rw_nu0094_01.row.prog=true:=by kernel_rfl
theorem rY:noRoadLSs {strict := !(importedModules PySem.Challenge.rw_nu0094_01.row.prog.main.body).all cThrough.contains,foot:=none,bare:=(["vars", "dir", "locals"]:List Str).filter (readsOut PySem.Challenge.rw_nu0094_01.row.prog PySem.Challenge.rw_nu0094_01.row.prog.main.body)} PySem.Challenge.rw_nu0094_01.row.prog.main.body=true:=by kernel_rfl
theorem rM:namesMeet PySem.Challenge.rw_nu0094_01.row.prog PySem.Challenge.rw_nu0094_01.row.prog.main.body (λ_ n=>attrL n)=true:=by kernel_rfl
theorem rP:looksOpen PySem.Challenge.rw_nu0094_01.row.prog=true:=by
 delta looksOpen
 repeat' with_reducible refine look_both ?_ ?_
 all_goals first|with_reducible exact sC|with_reducible exact rY|with_reducible exact rM|kernel_rfl
theorem rH:PySem.Challenge.rw_nu0094_01.row.partSaid=true:=by
 delta OpenRow.partSaid
 repeat' with_reducible refine look_both ?_ ?_
 all_goals first|with_reducible exact rP|kernel_rfl
theorem Zd:PySem.Challenge.rw_nu0094_01.wellSaid=true:=by
 delta OpenLaw.wellSaid OpenRow.wellSaid
 repeat' with_reducible refine look_both ?_ ?_
 all_goals first|with_reducible exact rH|kernel_rfl
noncomputable def gS:DefRec:={name := "law",params:=fP (S 50),body:=fB (S 50),scope:=fS (S 50),pos:=⟨525,0,553,76⟩}
theorem Zj(walk:WalkO Hn iA (XL Hn iF) HX.says PySem.Challenge.rw_nu0094_01.row.toRowW gS [] λf vs=>PySem.call f vs):PySem.Challenge.rw_nu0094_01.Holds:=by
 refine holds_law Zd λsaid=>?_;refine holds_open (q:=Hn) (loose:=iA) (Xt:=λs=>xlAt Hn iF s&&recOk (RowW.records PySem.Challenge.rw_nu0094_01.row.toRowW) s) (XP:=XL Hn iF) (Yf:=HX.obs) (Ya:=HX.val) (YP:=HX.says) (N:=10620) X3 HX.of HX.keeps
  (λs e=>xl_of s (Bool.and_eq_true_iff.mp e).1) XL.keeps (d:=gS) (kwd:=[]) (by kernel_rfl) (by kernel_rfl) (by kernel_rfl) (λs e=>recFacts_of (Bool.and_eq_true_iff.mp e).2) (by kernel_rfl) said (by kernel_rfl) ⟨rfl,rfl,rfl,rfl,rfl,by kernel_rfl⟩ ⟨[.list []],by kernel_rfl,by kernel_rfl⟩ walk
end
noncomputable def S2:Prop:=∀ns:List Int,ns.length<=63->∃σ,GQ Ad (Ab Ad 20) AF [.lst (ns.map .int)] []=.ok (.bool true) σ
theorem Y9(law:S2):WalkO Hn iA (XL Hn iF) HX.says PySem.Challenge.rw_nu0094_01.row.toRowW gS [] λf vs=>PySem.call f vs:=by
 w_on
 intro w s₀ s₁ mg mb G Y fa o pm cd doc dV kV ho hd hcd hD hmg hg args vals as hpre hlay hrd hwl hlo;refine Ground.open G ?_;intro T B D TE TW;have KX:(Ax w.params).In s₁.heap:=kIn_of Y
 wrow_args hpre hlay hrd hwl hlo
 rename_i ns _ _ _ _ _ _ _ l vs _ hLst _ wl _ hI _ hlen _;have hl:s₁.heap.get? l=some (KP vs.toArray 0):=by
  obtain⟨o',h1,h2,h3⟩:=hLst;cases wl with
  |list e _=>rw[h1]at e;cases e;obtain⟨n,h3⟩:=h3;cases h3;exact h1
 have hfa:fa=680:=by
  have e:=(E5 KX T.g "law").symm.trans hmg;have e2:JT w.params "law" = some (.ref 680):=by kernel_rfl
  rw[e2]at e;cases e;rfl
 subst hfa;obtain⟨σ,ev⟩:=law ns (by omega);show wpAny (model pw w) callerA (PySem.call (.ref 680) [.ref l]) _ _ s₁;refine YR KX T.g T.b T.nolimit T.builtins ⟨_,KX 1 _ (show(Ax w.params).lookup 1=some ((L4 w.params)[1]?.getD {cls:=.none}) by kernel_rfl)⟩ hl hI ev λh' tk' k=>GoodW.toG ?_;refine⟨.inl ⟨.bool true,.bool true,[],rfl,raisesW_false ?_,.bool true,?_,λ_=>⟨List.nodup_nil,λa ha=>nomatch ha⟩⟩,k,rfl,hg⟩
 ·wrow_none_raised
 ·wrow_post
theorem Vl(law:S2):PySem.Challenge.rw_nu0094_01.Holds:=Zj (Y9 law)
set_option tactic.hygienic false
set_option backward.match.sparseCases false
noncomputable section
section
theorem kC(H:PW fr g scs ms)(A:Ag g C W (AE C))(he:scs=v0::scl)(hs:∀v∈scs,Jc g v)(hm:ms=.int m0::ml)(hl:scs.length<=4096):∃σ',k2 (n+13) (.next fr) (SE g W wn C cn ρ)=.ok (.rets (.bool true)) σ':=by refine lX (Ij (n:=n) (σ0:=(SE g W wn C cn ρ)) (src:=scs) (wn:=wn) (cn:=cn) (ρ:=ρ) scs hs H A) λfr2 C2 W2 wn2 cn2 ρ2 e2 H2 A2=>?_;refine AP (jY (n:=n) (wn:=wn2) (cn:=cn2) (ρ:=ρ2) H2 A2 he hs hm) λσ' e3=>?_;refine⟨σ',?_⟩;refine bk (a:=V.obj 0) (Bn H.layout (by kernel_rfl)) ?_;refine bk (a:=V.int (Ar g)) (σ':=(SE g W wn C cn ρ)) (g.rec (by kernel_rfl) (by kernel_rfl)) ?_;refine bk (a:=V.obj 0) (Bn H.layout (by kernel_rfl)) ?_;refine bk (a:=V.int (AJ g)) (σ':=(SE g W wn C cn ρ)) (g.rec (by kernel_rfl) (by kernel_rfl)) ?_;refine bk (a:=V.obj 0) (Bn H.layout (by kernel_rfl)) ?_;refine bk (a:=V.int (CZ g)) (σ':=(SE g W wn C cn ρ)) (g.rec (by kernel_rfl) (by kernel_rfl)) ?_;refine bk (a:=V.int (Ar g)) (Bn H.page (by kernel_rfl)) ?_;refine bk (a:=V.int (AJ g)) (Bn H.many (by kernel_rfl)) ?_;refine bk (a:=V.int (Ar g)) (Bn H.page (by kernel_rfl)) ?_;refine bk (a:=V.int (AJ g)) (Bn H.many (by kernel_rfl)) ?_;refine bk (a:=V.int (Ar g*AJ g)) (σ':=(SE g W wn C cn ρ)) (g.rec (by kernel_rfl) (by kernel_rfl)) ?_;refine bk (a:=V.int (AJ g)) (Bn H.many (by kernel_rfl)) ?_;refine bk (a:=V.int (CZ g)) (σ':=(SE g W wn C cn ρ)) (g.rec (by kernel_rfl) (by kernel_rfl)) ?_;refine Dk (σ':=(SE g W wn C cn ρ)) (g.rec (by kernel_rfl) (by kernel_rfl)) ?_;refine bk (a:=V.lst scs) (Bn H.scenes (by kernel_rfl)) ?_;exact LB rfl hl (bk e2 e3)
theorem lV(H:PW fr g scs ms)(K:CK g C 12)(he:scs=v0::scl)(hs:∀v∈scs,Jc g v)(hm:ms=.int m0::ml)(hl:scs.length<=4096):∃σ',k1 (n+13) (.next fr) (SX (Ai g) g (Aw []) 0 (.dict (Aw C) cn) [])=.ok (.rets (.bool true)) σ':=by
 have A0:Ag g C [] (λ_=>0):=⟨K.nc,List.nodup_nil,K.ck,K.cl,K.cb,(λ_ h=>nomatch h),(λ_ h=>nomatch h),λ_=>rfl,λ_=>⟨Int.le_refl 0,by show(0:Int)<2^30;decide⟩⟩
 refine nW (Me (n:=n+10) (cn:=cn) (ρ:=[]) (σ0:=(SX (Ai g) g (Aw []) 0 (.dict (Aw C) cn) [])) (wn:=0) rfl (C.map (·.1)) (λ_ h=>h) H A0 λ_=>.inl rfl) λfr2 W2 wn2 μ2 e2 H2 A2 z2 d2=>?_;have A3:Ag g C W2 (AE C):=A2.cong λa=>by
  by_cases h:AE C a=0
  ·rcases z2 a with q|q;·rw[q,h]
   ·exact q
  ·exact d2 a (.inl (FF h))
 refine AP (kC (n:=n) (wn:=wn2) (cn:=cn) (ρ:=[]) H2 A3 he hs hm hl) λσ' e3=>?_;refine⟨σ',?_⟩;refine bk (Bn H.cells rfl) (LB (vs:=(C.map (·.1)).map .int) (by rw[<-IM];rfl) (by rw[List.length_map,List.length_map];have:=K.cl;(clear e3 A3 d2 z2 A2 H2 e2 A0 hl hm hs he K H;lia)) (bk e2 e3))
theorem Y4(mi:List Int)(σ:St):Ab Ad (n+1) (.builtin "sum") [.lst (mi.map .int)] σ=.ok (.int mi.sum) σ:=by show CB (mi.map .int) (λns=>ret (.int ns.sum)) σ=_;unfold CB;rw[H7];rfl
theorem NM(F:Int->α):∀l:List Int,(l.flatMap λa=>[F a])=l.map F
 |[]=>rfl
 |a::r=>by rw[List.flatMap_cons,NM F r];rfl
theorem fF(g:Bool):Ab Ad (n+2) (.ref 170) [.int (LX g)] []=.ok (.obj 0) [Ai g]:=g.rec (by kernel_rfl) (by kernel_rfl)
theorem eH(g:Bool):Ab Ad (n+3) (.ref 474) [.int (B2 g)] [Ai g]=.ok (.obj 1) [Ai g,Bm g,.dict [] 0]:=g.rec (by kernel_rfl) (by kernel_rfl)
theorem lY(h:q=0\/q=1):∃g:Bool,∀σ,B9 (El 0) (.lst [.int 6,.int 12]) (.item (.int q)) σ=.ok (.int (LX g)) σ:=by
 rcases h with rfl|rfl;·exact⟨false,λσ=>by kernel_rfl⟩
 ·exact⟨true,λσ=>by kernel_rfl⟩
theorem YD(sc:V)(m0:Int)(ml:List Int)(hl:ml.length<=5):∃σ',lQ (n+13) sc (.lst ((m0::ml).map .int)) []=.ok (.rets (.bool true)) σ':=by
 have h2:((m0::ml).sum).fmod 2=0\/((m0::ml).sum).fmod 2=1:=by
  have a:=Int.fmod_nonneg_of_pos ((m0::ml).sum) (b:=2) (by decide);have b:=Int.fmod_lt_of_pos ((m0::ml).sum) (b:=2) (by decide)
  (clear b a hl;lia)
 refine AP (lY h2) λg hg=>?_;have hs:∀v∈(m0::ml).map (λa=>Cq a (Ar g)),Jc g v:=λv hv=>by refine Au (List.mem_map.mp hv) λa _ eqq2=>?_;subst eqq2;exact iM g a
 have hlen:((m0::ml).map (λa=>Cq a (Ar g))).length=ml.length+1:=by rw[List.length_map,List.length_cons]
 have P0:PW (Ac (Ac (Ac (Ac (Ac (Ac (Ac (Ac (Ac (A9 AF [sc]) "marks" (.lst ((m0::ml).map .int))) "bits" (.int (LX g))) "layout" (.obj 0)) "page" (.int (Ar g))) "many" (.int (AJ g))) "scenes" (.lst ((m0::ml).map (λa=>Cq a (Ar g))))) "cells" (.obj 3)) "memory" (.obj 1)) "walker" (.obj 6)) g ((m0::ml).map (λa=>Cq a (Ar g))) ((m0::ml).map .int):=⟨by kernel_rfl,by kernel_rfl,by kernel_rfl,by kernel_rfl,by kernel_rfl,by kernel_rfl,by kernel_rfl,by kernel_rfl⟩
 have K0:CK g [] 0:=⟨List.nodup_nil,(λ_ h=>nomatch h),Nat.le_refl 0,λ_=>⟨Int.le_refl 0,by show(0:Int)<2^30;decide⟩⟩
 refine Jh (Mj (n:=n+12) (σ0:=(SX (Ai g) g (Aw []) 0 (.dict (Aw []) 0) [])) (src:=(m0::ml).map (λa=>Cq a (Ar g))) (W:=[]) (wn:=0) (ρ:=[]) (cn:=0) _ hs P0 K0 (by rw[hlen];(clear K0 P0 hlen hs hg h2;lia))) λfr2 C2 cn2 e2 H2 K2=>?_;have K3:CK g C2 12:=⟨K2.nc,K2.ck,by have:=K2.cl;rw[hlen]at this;(clear K2 H2 e2 K0 P0 hlen hs hg h2;lia),K2.cb⟩
 refine AP (lV (n:=n) (cn:=cn2) H2 K3 rfl hs rfl (by rw[hlen];(clear K3 K2 H2 e2 K0 P0 hlen hs hg h2;lia))) λσ' e3=>?_;refine⟨σ',?_⟩;refine bk (a:=Ek.item (.int (((m0::ml).sum).fmod 2))) (σ':=[]) (bk (Y4 _ _) (by kernel_rfl)) ?_;refine bk (hg _) ?_;refine bk (fF g) ?_;refine bk (a:=V.int (Ar g)) (σ':=[Ai g]) (g.rec (by kernel_rfl) (by kernel_rfl)) ?_;refine bk (a:=V.int (LX g-2)) (σ':=[Ai g]) (g.rec (by kernel_rfl) (by kernel_rfl)) ?_;refine bk (a:=V.int (AJ g)) (σ':=[Ai g]) (g.rec (by kernel_rfl) (by kernel_rfl)) ?_;refine bk (a:=V.int (B2 g)) (σ':=[Ai g]) (g.rec (by kernel_rfl) (by kernel_rfl)) ?_;refine bk (eH g) ?_;refine bk (a:=V.obj 3) (σ':=[Ai g,Bm g,.dict [] 0,.dict [] 0]) rfl ?_;refine bk (a:=V.lst ((m0::ml).map (λa=>Cq a (Ar g)))) (σ':=[Ai g,Bm g,.dict [] 0,.dict [] 0]) (bk (a:=(m0::ml).map (λa=>Cq a (Ar g))) (σ':=[Ai g,Bm g,.dict [] 0,.dict [] 0]) (Bk ?h) rfl) ?_;·exact(Hv (F:=λa=>[Cq a (Ar g)]) (l:=m0::ml) (by rw[List.length_cons];(clear e3 K3 K2 H2 e2 K0 P0 hlen hs hg h2;lia)) λa _=>⟨bk (Xk (n+12) g a _) rfl,by show 1<=256;decide⟩).trans (congrArg (C6.ok · [Ai g,Bm g,.dict [] 0,.dict [] 0]) (NM (λa=>Cq a (Ar g)) (m0::ml)))
 refine bk (Np (n:=n+11) g (Aw []) (Aw []) 0 0) ?_;refine bk (NL (n:=n+11) g (Aw []) (Aw []) 0 0) ?_;exact LB rfl (by rw[hlen];(clear e3 K3 K2 H2 e2 K0 P0 hlen hs hg h2;lia)) (bk e2 e3)
end
end
noncomputable section
theorem iO:∀n:Fin 64,sliceRange (sliceBounds none (some 6) none n.val).1 (sliceBounds none (some 6) none n.val).2.1 (sliceBounds none (some 6) none n.val).2.2=List.range (min 6 n.val):=by decide +kernel
theorem Ib(l:List V):∀k:Nat,(List.range k).filterMap (l[·]?)=l.take k
 |0=>rfl
 |k+1=>by rw[List.range_succ,List.filterMap_append,Ib l k,List.take_add_one];congr 1
theorem dY{l:List V}(h:l.length<=63):Ep l none (some 6) none=l.take 6:=by
 have:=iO ⟨l.length,by lia⟩;dsimp only at this;unfold Ep;rw[this,Ib,Nat.min_comm,List.take_eq_take_iff]
 (clear this h;lia)
noncomputable def So(a:Int):Int:=(if a<0 then -a else a).fmod 1000000000000
theorem TH:∀l:List Int,DD (l.map V.int)=some (l.map PyData.int)/\PyData.canLayAll0 (l.map PyData.int)=true/\PyData.depthAll (l.map PyData.int)=0
 |[]=>⟨rfl,rfl,rfl⟩
 |a::r=>by
  refine B0 (TH r) λh1 h2 h3=>?_;refine⟨?_,h2,?_⟩
  ·show(match Hk (.int a),DD (r.map V.int) with
    |some d,some ds=>some (d::ds)
    |_,_=>none)=_
   rw[h1];rfl
  ·show max 0 (PyData.depthAll (r.map PyData.int))=0;rw[h3];rfl
theorem dC(a:Int)(r:List Int):Ap .Eq (.lst ((a::r).map .int)) (.obj 0) [.list []]=.ok false [.list []]:=by refine B0 (TH (a::r)) λh1 h2 h3=>?_;show Af (Pe (Hk (.lst ((a::r).map .int)))) [.list []]=_;rw[show Hk (.lst ((a::r).map .int))=some (.list ((a::r).map PyData.int)) from congrArg (Option.map PyData.list) h1];have hs:SeqAt.shaped (.list ((a::r).map PyData.int))=true:=Bool.and_eq_true_iff.mpr ⟨h2,decide_eq_true (by show PyData.depthAll ((a::r).map PyData.int)+1<=64;(clear h2 h1;lia))⟩;show Af (if SeqAt.shaped (.list ((a::r).map PyData.int))=true then some (PyData.eqv (.list ((a::r).map PyData.int)) (.list [])) else none) [.list []]=_;rw[if_pos hs];rfl
theorem SA:XZ 20 (.lst []) []=.ok (.next (Ac (A9 AF [V.lst []]) "marks" (V.lst [V.int 339990,.int 17]))) [.list []]:=by kernel_rfl
theorem QO(n:Nat)(a:Int)(r:List Int)(h:(a::r).length<=63):XZ (n+1) (.lst ((a::r).map .int)) []=.ok (.next (Ac (A9 AF [V.lst ((a::r).map V.int)]) "marks" (V.lst ((((a::r).take 6).map So).map V.int)))) [.list []]:=by
 have hl:(((a::r).take 6).map So).length<=6:=by rw[List.length_map,List.length_take];(clear h;lia)
 refine bk (a:=V.lst ((((a::r).take 6).map So).map .int)) (σ':=[]) (bk (a:=(((a::r).take 6).map So).map V.int) (σ':=[]) (Bk ?_) rfl) ?_
 ·refine bk (a:=V.lst (((a::r).take 6).map .int)) (σ':=[]) ?_ ?_;·show Eb (decide ((none:Option Int)≠some 0/\((a::r).map V.int).length<=4096)) (ret (V.lst (Ep ((a::r).map V.int) none (some 6) none))) []=_;rw[dY (by rw[List.length_map];exact h),<-List.map_take];exact Dv (decide_eq_true ⟨by decide,by rw[List.length_map];(clear hl;lia)⟩)
  ·refine(Hv (F:=λa=>[V.int (So a)]) (l:=(a::r).take 6) (by rw[List.length_take];(clear hl h;lia)) λb _=>⟨?_,by show 1<=256;decide⟩).trans ?_;·exact bk (a:=V.int (So b)) (by kernel_rfl) rfl
   ·rw[NM (λa=>V.int (So a)),List.map_map];rfl
 ·refine bk (a:=V.obj 0) rfl (bk (dC a r) ?_);refine bk (a:=V.int 0) (σ':=[.list []]) (by kernel_rfl) (bk (a:=V.lst []) (σ':=[.list []]) (by kernel_rfl) ?_);refine bk (a:=V.lst ((((a::r).take 6).map So).map .int)) ?_ rfl;show Eb (decide (((((a::r).take 6).map So).map V.int).length+([]:List V).length<=4096)) (ret (V.lst (((((a::r).take 6).map So).map V.int)++[]))) [.list []]=_;rw[List.append_nil];exact Dv (decide_eq_true (by rw[List.length_map];show _+0<=4096;(clear h;lia)))
theorem OW:∀(a b:List Stmt) {fr fr':Fm}{σ σ':St},Fv a c fr σ=.ok (.next fr') σ'->Fv (a++b) c fr σ=Fv b c fr' σ'
 |[],b,fr,fr',σ,σ',h=>by cases h;rfl
 |s::r,b,fr,fr',σ,σ',h=>by
  show Aa (Ny s c fr) (λq=>match q with|.next fr'=>Fv (r++b) c fr'|q=>ret q) σ=_;replace h:Aa (Ny s c fr) (λq=>match q with|.next fr'=>Fv r c fr'|q=>ret q) σ=.ok (.next fr') σ':=h;cases e:Ny s c fr σ with
  |stuck=>rw[Ao e]at h;cases h
  |exc x τ=>rw[AQ e]at h;cases h
  |ok q τ=>
   rw[Ae e]at h⊢;cases q with
   |next f=>exact OW r b h
   |rets v=>cases h
   |cont f=>cases h
theorem PM(p g:Nat)(l:List Int):Am p g (.lst (l.map .int))=.lst (l.map .int):=by show V.lst (DO p g (l.map .int))=_;rw[Br,List.map_map];rfl
theorem PK(v:V)(hv:∃ns:List Int,v=.lst (ns.map .int))(m0:Int)(ml:List Int)(hl:ml.length<=5)(h:XZ 20 v []=.ok (.next (Ac (A9 AF [v]) "marks" (V.lst ((m0::ml).map .int)))) [.list []]):∃σ,GQ Ad (Ab Ad 20) AF [v] []=.ok (.bool true) σ:=by
 refine AP hv λns eqq1=>?_;subst eqq1;refine AP (YD (n:=7) (.lst (ns.map .int)) m0 ml hl) λσ' e=>?_;rw[<-XB,Dw,FC]at e;rw[<-Ze,Dw,FC]at h;have hc:Gh 0 [AO.list []] (Ad.cx AF.scope (Ab Ad 20)):=⟨Ow.glb,λf vs=>GR Ow 20 f vs⟩
 have q:=DV (p:=0) (γ:=[AO.list []]) (AF.body.drop 1) (Ac (A9 AF [.lst (ns.map .int)]) "marks" (V.lst ((m0::ml).map .int))) hc [] (Nat.le_refl 0);rw[e]at q;have e2:=q.2;have ef:A4 0 1 (Ac (A9 AF [.lst (ns.map .int)]) "marks" (V.lst ((m0::ml).map .int)))=Ac (A9 AF [.lst (ns.map .int)]) "marks" (V.lst ((m0::ml).map .int)):=by have d:AF.dfl.map (Am 0 [AO.list []].length)=AF.dfl:=rfl;have:=ON (p:=0) (γ:=[AO.list []]) d [.lst (ns.map .int)];rw[<-IC,PM];refine congrArg (λf=>Ac f "marks" (V.lst ((m0::ml).map .int))) (this.symm.trans ?_);rw[List.map_cons,PM];rfl
 refine⟨Dq 0 [.list []] σ',?_⟩;show F7 (Fv AF.body (Ad.cx AF.scope (Ab Ad 20)) (A9 AF [.lst (ns.map .int)])) []=_;have eb:AF.body=AF.body.take 1++AF.body.drop 1:=(List.take_append_drop 1 _).symm;have e3:Fv AF.body (Ad.cx AF.scope (Ab Ad 20)) (A9 AF [.lst (ns.map .int)]) []=.ok (.rets (.bool true)) (Dq 0 [.list []] σ'):=by rw[eb,OW _ _ h,<-ef];exact e2
 unfold F7;rw[e3]
theorem cF:S2:=λns hn=>by
 cases ns with
 |nil=>exact PK (.lst []) ⟨[],rfl⟩ 339990 [17] (by decide) SA
 |cons a r=>refine PK _ ⟨a::r,rfl⟩ (So a) ((r.take 5).map So) (by rw[List.length_map,List.length_take];(clear hn;lia)) ?_;exact QO 19 a r hn
theorem all_holds:PySem.Challenge.rw_nu0094_01.Holds:=Vl cF
end
end Internal
end Mine
theorem PySem.Challenge.cw_nu0094_01_holds : PySem.Challenge.rw_nu0094_01.Holds :=
  Mine.Internal.all_holds
