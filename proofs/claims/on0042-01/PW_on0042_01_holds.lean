import PyProof.Rows.All
import Wide.All
import OpenK.AllK
import Wide.FinOn
import Lean
import PySem.Challenge.RW_on0042_01
set_option Elab.async false
set_option linter.all false
set_option bootstrap.genMatcherCode false
set_option genSizeOf false
set_option genInjectivity false
set_option autoImplicit false
set_option maxRecDepth 100000
noncomputable section
section
namespace Mine
theorem aF{α:Type}{a b:α}(h:some a=some b):a=b:=Option.some.inj h
theorem aP{a b:Nat}(h:Nat.ble a b=true):a<=b:=Nat.le_of_ble_eq_true h
theorem aT{a b:Nat}(h:Nat.beq a b=true):a=b:=Nat.eq_of_beq_eq_true h
theorem al__3{a b c:Nat}(h:a<=b)(k:b<=c):a<=c:=Nat.le_trans h k
theorem aZ{α:Type}{l:List α}{p:α->Bool}(h:l.all p=true):∀x∈l,p x=true:=List.all_eq_true.mp h
theorem bD{p:Prop}[Decidable p](h:decide p=true):p:=of_decide_eq_true h
theorem cA{a b:Nat}(h:a<=b):Nat.ble a b=true:=Nat.ble_eq_true_of_le h
theorem bN{α:Type}{a b:α}{l:List α}(h:a∈b::l):a=b\/a∈l:=List.mem_cons.mp h
theorem cK{a b:Nat}(h:a<=b)(c:Nat):a+c<=b+c:=Nat.add_le_add_right h c
section
theorem cps{T:Prop}(h:∀G:Prop,(T->G)->G):T:=h T id
theorem ff{p:Prop}(e:false=true):p:=absurd e Bool.false_ne_true
theorem nf{α:Type}{a:α}{p:Prop}(e:none=some a):p:=nomatch e
theorem aG{a b:Bool}(h:(a&&b)=true):a=true/\b=true:=by rcases a with _|_;exact ff h;exact⟨rfl,h⟩
theorem bZ{x0 x1:Bool}{G:Prop}(h:(x0&&x1)=true)(k:x0=true->x1=true->G):G:=k (aG h).1 (aG h).2
theorem mJ{x0 x1 x2:Bool}{G:Prop}(h:((x0&&x1)&&x2)=true)(k:x0=true->x1=true->x2=true->G):G:=bZ h fun h y=>bZ h fun a0 a1=>k a0 a1 y
theorem AS{x0 x1 x2 x3:Bool}{G:Prop}(h:(((x0&&x1)&&x2)&&x3)=true)(k:x0=true->x1=true->x2=true->x3=true->G):G:=bZ h fun h y=>mJ h fun a0 a1 a2=>k a0 a1 a2 y
theorem M0{x0 x1 x2 x3 x4:Bool}{G:Prop}(h:((((x0&&x1)&&x2)&&x3)&&x4)=true)(k:x0=true->x1=true->x2=true->x3=true->x4=true->G):G:=bZ h fun h y=>AS h fun a0 a1 a2 a3=>k a0 a1 a2 a3 y
theorem GI{x0 x1 x2 x3 x4 x5:Bool}{G:Prop}(h:(((((x0&&x1)&&x2)&&x3)&&x4)&&x5)=true)(k:x0=true->x1=true->x2=true->x3=true->x4=true->x5=true->G):G:=bZ h fun h y=>M0 h fun a0 a1 a2 a3 a4=>k a0 a1 a2 a3 a4 y
theorem NQ{x0 x1 x2 x3 x4 x5 x6:Bool}{G:Prop}(h:((((((x0&&x1)&&x2)&&x3)&&x4)&&x5)&&x6)=true)(k:x0=true->x1=true->x2=true->x3=true->x4=true->x5=true->x6=true->G):G:=bZ h fun h y=>GI h fun a0 a1 a2 a3 a4 a5=>k a0 a1 a2 a3 a4 a5 y
theorem NR{x0 x1 x2 x3 x4 x5 x6 x7:Bool}{G:Prop}(h:(((((((x0&&x1)&&x2)&&x3)&&x4)&&x5)&&x6)&&x7)=true)(k:x0=true->x1=true->x2=true->x3=true->x4=true->x5=true->x6=true->x7=true->G):G:=bZ h fun h y=>NQ h fun a0 a1 a2 a3 a4 a5 a6=>k a0 a1 a2 a3 a4 a5 a6 y
theorem NS{x0 x1 x2 x3 x4 x5 x6 x7 x8:Bool}{G:Prop}(h:((((((((x0&&x1)&&x2)&&x3)&&x4)&&x5)&&x6)&&x7)&&x8)=true)(k:x0=true->x1=true->x2=true->x3=true->x4=true->x5=true->x6=true->x7=true->x8=true->G):G:=bZ h fun h y=>NR h fun a0 a1 a2 a3 a4 a5 a6 a7=>k a0 a1 a2 a3 a4 a5 a6 a7 y
theorem GG{x0 x1 x2 x3 x4 x5 x6 x7 x8 x9:Bool}{G:Prop}(h:(((((((((x0&&x1)&&x2)&&x3)&&x4)&&x5)&&x6)&&x7)&&x8)&&x9)=true)(k:x0=true->x1=true->x2=true->x3=true->x4=true->x5=true->x6=true->x7=true->x8=true->x9=true->G):G:=bZ h fun h y=>NS h fun a0 a1 a2 a3 a4 a5 a6 a7 a8=>k a0 a1 a2 a3 a4 a5 a6 a7 a8 y
theorem GH{x0 x1 x2 x3 x4 x5 x6 x7 x8 x9 x10:Bool}{G:Prop}(h:((((((((((x0&&x1)&&x2)&&x3)&&x4)&&x5)&&x6)&&x7)&&x8)&&x9)&&x10)=true)(k:x0=true->x1=true->x2=true->x3=true->x4=true->x5=true->x6=true->x7=true->x8=true->x9=true->x10=true->G):G:=bZ h fun h y=>GG h fun a0 a1 a2 a3 a4 a5 a6 a7 a8 a9=>k a0 a1 a2 a3 a4 a5 a6 a7 a8 a9 y
theorem JR{x0 x1 x2 x3 x4 x5 x6 x7 x8 x9 x10 x11:Bool}{G:Prop}(h:(((((((((((x0&&x1)&&x2)&&x3)&&x4)&&x5)&&x6)&&x7)&&x8)&&x9)&&x10)&&x11)=true)(k:x0=true->x1=true->x2=true->x3=true->x4=true->x5=true->x6=true->x7=true->x8=true->x9=true->x10=true->x11=true->G):G:=bZ h fun h y=>GH h fun a0 a1 a2 a3 a4 a5 a6 a7 a8 a9 a10=>k a0 a1 a2 a3 a4 a5 a6 a7 a8 a9 a10 y
theorem NT{x0 x1:Bool}{G:Prop}(h:(x0&&x1)=true)(k:x0=true->x1=true->G):G:=k (aG h).1 (aG h).2
theorem Js{x0 x1 x2:Bool}{G:Prop}(h:(x0&&(x1&&x2))=true)(k:x0=true->x1=true->x2=true->G):G:=bZ h fun y h=>NT h (k y)
theorem M1{x0 x1 x2 x3:Bool}{G:Prop}(h:(x0&&(x1&&(x2&&x3)))=true)(k:x0=true->x1=true->x2=true->x3=true->G):G:=bZ h fun y h=>Js h (k y)
theorem NU{x0 x1 x2 x3 x4:Bool}{G:Prop}(h:(x0&&(x1&&(x2&&(x3&&x4))))=true)(k:x0=true->x1=true->x2=true->x3=true->x4=true->G):G:=bZ h fun y h=>M1 h (k y)
theorem M2{x0 x1 x2 x3 x4 x5:Bool}{G:Prop}(h:(x0&&(x1&&(x2&&(x3&&(x4&&x5)))))=true)(k:x0=true->x1=true->x2=true->x3=true->x4=true->x5=true->G):G:=bZ h fun y h=>NU h (k y)
theorem NV{x0 x1 x2 x3 x4 x5 x6:Bool}{G:Prop}(h:(x0&&(x1&&(x2&&(x3&&(x4&&(x5&&x6))))))=true)(k:x0=true->x1=true->x2=true->x3=true->x4=true->x5=true->x6=true->G):G:=bZ h fun y h=>M2 h (k y)
theorem OY{x0 x1 x2 x3 x4 x5 x6 x7:Bool}{G:Prop}(h:(x0&&(x1&&(x2&&(x3&&(x4&&(x5&&(x6&&x7)))))))=true)(k:x0=true->x1=true->x2=true->x3=true->x4=true->x5=true->x6=true->x7=true->G):G:=bZ h fun y h=>NV h (k y)
theorem kX{x0 x1 x2 x3 x4 x5 x6:Bool}{G:Prop}(h:(x0&&(x1&&((((x2&&x3)&&x4)&&x5)&&x6)))=true)(k:x0=true->x1=true->x2=true->x3=true->x4=true->x5=true->x6=true->G):G:=k (aG h).1 (aG (aG h).2).1 (aG (aG (aG (aG (aG (aG h).2).2).1).1).1).1 (aG (aG (aG (aG (aG (aG h).2).2).1).1).1).2 (aG (aG (aG (aG (aG h).2).2).1).1).2 (aG (aG (aG (aG h).2).2).1).2 (aG (aG (aG h).2).2).2
theorem jN{x0 x1 x2 x3 x4 x5 x6 x7:Bool}{G:Prop}(h:((((x0&&x1)&&x2)&&x3)&&(((x4&&x5)&&x6)&&x7))=true)(k:x0=true->x1=true->x2=true->x3=true->x4=true->x5=true->x6=true->x7=true->G):G:=k (aG (aG (aG (aG h).1).1).1).1 (aG (aG (aG (aG h).1).1).1).2 (aG (aG (aG h).1).1).2 (aG (aG h).1).2 (aG (aG (aG (aG h).2).1).1).1 (aG (aG (aG (aG h).2).1).1).2 (aG (aG (aG h).2).1).2 (aG (aG h).2).2
theorem cO{a b:Bool}(x:a=true)(y:b=true):(a&&b)=true:=by rw[x,y];rfl
theorem bI{α β:Type}{o:Option α}{f:α->Option β}{b:β}{G:Prop}(h:o.bind f=some b)(k:∀a,o=some a->f a=some b->G):G:=by
 rcases o with _|a
 ·exact nf h
 ·exact k a rfl h
def gd{β:Type}(c:Bool)(o:Option β):Option β:=match c with
|true=>o
|false=>none
theorem dG{β:Type}{c:Bool}{o:Option β}{b:β}{G:Prop}(h:gd c o=some b)(k:c=true->o=some b->G):G:=by
 rcases c with _|_
 ·exact nf h
 ·exact k rfl h
end
section
theorem oA{A B G:Prop}(h:A/\B)(k:A->B->G):G:=k h.1 h.2
theorem oE{a:Type}{A:a->Prop}{G:Prop}(h:∃x,A x)(k:∀x,A x->G):G:=h.elim fun x g=>k x g
theorem s8{A B C G:Prop}(h:A/\B/\C)(k:A->B->C->G):G:=k h.1 h.2.1 h.2.2
theorem qD{a:Type}{A G:Prop}{B:a->Prop}(h:A/\∃x,B x)(k:A->∀x,B x->G):G:=h.2.elim fun x g=>k h.1 x g
theorem oEA{a:Type}{A B:a->Prop}{G:Prop}(h:∃x,A x/\B x)(k:∀x,A x->B x->G):G:=h.elim fun x g=>k x g.1 g.2
theorem H9{a b:Type}{A:a->b->Prop}{G:Prop}(h:∃x y,A x y)(k:∀x y,A x y->G):G:=h.elim fun x g=>g.elim fun y f=>k x y f
theorem pN{A B C D G:Prop}(h:A/\B/\C/\D)(k:A->B->C->D->G):G:=k h.1 h.2.1 h.2.2.1 h.2.2.2
theorem cZ{a:Type}{A G:Prop}{B C:a->Prop}(h:A/\∃x,B x/\C x)(k:A->∀x,B x->C x->G):G:=h.2.elim fun x g=>k h.1 x g.1 g.2
theorem oEAA{a:Type}{A B C:a->Prop}{G:Prop}(h:∃x,A x/\B x/\C x)(k:∀x,A x->B x->C x->G):G:=h.elim fun x g=>k x g.1 g.2.1 g.2.2
theorem LV{a b:Type}{A:a->Prop}{B:a->b->Prop}{G:Prop}(h:∃x,A x/\∃y,B x y)(k:∀x,A x->∀y,B x y->G):G:=h.elim fun x g=>g.2.elim fun y f=>k x g.1 y f
theorem cX{a b:Type}{A B:a->b->Prop}{G:Prop}(h:∃x y,A x y/\B x y)(k:∀x y,A x y->B x y->G):G:=h.elim fun x g=>g.elim fun y f=>k x y f.1 f.2
theorem LW{a b c:Type}{A:a->b->c->Prop}{G:Prop}(h:∃x y z,A x y z)(k:∀x y z,A x y z->G):G:=h.elim fun x g=>g.elim fun y f=>f.elim fun z h2=>k x y z h2
theorem zM{a:Type}{A G:Prop}{B C D:a->Prop}(h:A/\∃x,B x/\C x/\D x)(k:A->∀x,B x->C x->D x->G):G:=h.2.elim fun x g=>k h.1 x g.1 g.2.1 g.2.2
theorem Dp{a b:Type}{A G:Prop}{B C:a->b->Prop}(h:A/\∃x y,B x y/\C x y)(k:A->∀x y,B x y->C x y->G):G:=h.2.elim fun x g=>g.elim fun y f=>k h.1 x y f.1 f.2
theorem Dq{a:Type}{A B C D:a->Prop}{G:Prop}(h:∃x,A x/\B x/\C x/\D x)(k:∀x,A x->B x->C x->D x->G):G:=h.elim fun x g=>k x g.1 g.2.1 g.2.2.1 g.2.2.2
theorem vC{a b:Type}{A B:a->Prop}{C:a->b->Prop}{G:Prop}(h:∃x,A x/\B x/\∃y,C x y)(k:∀x,A x->B x->∀y,C x y->G):G:=h.elim fun x g=>g.2.2.elim fun y f=>k x g.1 g.2.1 y f
theorem fS{a b:Type}{A:a->Prop}{B C:a->b->Prop}{G:Prop}(h:∃x,A x/\∃y,B x y/\C x y)(k:∀x,A x->∀y,B x y->C x y->G):G:=h.elim fun x g=>g.2.elim fun y f=>k x g.1 y f.1 f.2
theorem aY{a b:Type}{A B C:a->b->Prop}{G:Prop}(h:∃x y,A x y/\B x y/\C x y)(k:∀x y,A x y->B x y->C x y->G):G:=h.elim fun x g=>g.elim fun y f=>k x y f.1 f.2.1 f.2.2
theorem c_{a b c:Type}{A B:a->b->c->Prop}{G:Prop}(h:∃x y z,A x y z/\B x y z)(k:∀x y z,A x y z->B x y z->G):G:=h.elim fun x g=>g.elim fun y f=>f.elim fun z h2=>k x y z h2.1 h2.2
theorem zK{a:Type}{A B C G:Prop}{D E:a->Prop}(h:A/\B/\C/\∃x,D x/\E x)(k:A->B->C->∀x,D x->E x->G):G:=h.2.2.2.elim fun x g=>k h.1 h.2.1 h.2.2.1 x g.1 g.2
theorem cV{a b:Type}{A G:Prop}{B C D:a->b->Prop}(h:A/\∃x y,B x y/\C x y/\D x y)(k:A->∀x y,B x y->C x y->D x y->G):G:=h.2.elim fun x g=>g.elim fun y f=>k h.1 x y f.1 f.2.1 f.2.2
theorem cJ{a:Type}{A B C D E:a->Prop}{G:Prop}(h:∃x,A x/\B x/\C x/\D x/\E x)(k:∀x,A x->B x->C x->D x->E x->G):G:=h.elim fun x g=>k x g.1 g.2.1 g.2.2.1 g.2.2.2.1 g.2.2.2.2
theorem fM{a b c:Type}{A:a->Prop}{B C:a->b->c->Prop}{G:Prop}(h:∃x,A x/\∃y z,B x y z/\C x y z)(k:∀x,A x->∀y z,B x y z->C x y z->G):G:=h.elim fun x g=>g.2.elim fun y f=>f.elim fun z h2=>k x g.1 y z h2.1 h2.2
theorem fN{a b:Type}{A B C D:a->b->Prop}{G:Prop}(h:∃x y,A x y/\B x y/\C x y/\D x y)(k:∀x y,A x y->B x y->C x y->D x y->G):G:=h.elim fun x g=>g.elim fun y f=>k x y f.1 f.2.1 f.2.2.1 f.2.2.2
theorem dT{a b c:Type}{A B C:a->b->c->Prop}{G:Prop}(h:∃x y z,A x y z/\B x y z/\C x y z)(k:∀x y z,A x y z->B x y z->C x y z->G):G:=h.elim fun x g=>g.elim fun y f=>f.elim fun z h2=>k x y z h2.1 h2.2.1 h2.2.2
theorem Fv{a b c d:Type}{A B:a->b->c->d->Prop}{G:Prop}(h:∃x y z u,A x y z u/\B x y z u)(k:∀x y z u,A x y z u->B x y z u->G):G:=h.elim fun x g=>g.elim fun y f=>f.elim fun z h2=>h2.elim fun u g3=>k x y z u g3.1 g3.2
theorem Fw{a b c d e:Type}{A:a->b->c->d->e->Prop}{G:Prop}(h:∃x y z u v,A x y z u v)(k:∀x y z u v,A x y z u v->G):G:=h.elim fun x g=>g.elim fun y f=>f.elim fun z h2=>h2.elim fun u g3=>g3.elim fun v f4=>k x y z u v f4
theorem pO{a b c:Type}{A B G:Prop}{C D:a->b->c->Prop}(h:A/\B/\∃x y z,C x y z/\D x y z)(k:A->B->∀x y z,C x y z->D x y z->G):G:=h.2.2.elim fun x g=>g.elim fun y f=>f.elim fun z h2=>k h.1 h.2.1 x y z h2.1 h2.2
theorem B5{a:Type}{A B C D E F:a->Prop}{G:Prop}(h:∃x,A x/\B x/\C x/\D x/\E x/\F x)(k:∀x,A x->B x->C x->D x->E x->F x->G):G:=h.elim fun x g=>k x g.1 g.2.1 g.2.2.1 g.2.2.2.1 g.2.2.2.2.1 g.2.2.2.2.2
theorem vD{a b:Type}{A B C D E:a->b->Prop}{G:Prop}(h:∃x y,A x y/\B x y/\C x y/\D x y/\E x y)(k:∀x y,A x y->B x y->C x y->D x y->E x y->G):G:=h.elim fun x g=>g.elim fun y f=>k x y f.1 f.2.1 f.2.2.1 f.2.2.2.1 f.2.2.2.2
theorem fD{a b c:Type}{A B C D:a->b->c->Prop}{G:Prop}(h:∃x y z,A x y z/\B x y z/\C x y z/\D x y z)(k:∀x y z,A x y z->B x y z->C x y z->D x y z->G):G:=h.elim fun x g=>g.elim fun y f=>f.elim fun z h2=>k x y z h2.1 h2.2.1 h2.2.2.1 h2.2.2.2
theorem kP{a b c d:Type}{A B C:a->b->c->d->Prop}{G:Prop}(h:∃x y z u,A x y z u/\B x y z u/\C x y z u)(k:∀x y z u,A x y z u->B x y z u->C x y z u->G):G:=h.elim fun x g=>g.elim fun y f=>f.elim fun z h2=>h2.elim fun u g3=>k x y z u g3.1 g3.2.1 g3.2.2
theorem B6{a b c d e:Type}{A B:a->b->c->d->e->Prop}{G:Prop}(h:∃x y z u v,A x y z u v/\B x y z u v)(k:∀x y z u v,A x y z u v->B x y z u v->G):G:=h.elim fun x g=>g.elim fun y f=>f.elim fun z h2=>h2.elim fun u g3=>g3.elim fun v f4=>k x y z u v f4.1 f4.2
theorem zL{a b c d e:Type}{A B G:Prop}{C:a->b->c->d->e->Prop}(h:A/\B/\∃x y z u v,C x y z u v)(k:A->B->∀x y z u v,C x y z u v->G):G:=h.2.2.elim fun x g=>g.elim fun y f=>f.elim fun z h2=>h2.elim fun u g3=>g3.elim fun v f4=>k h.1 h.2.1 x y z u v f4
theorem gY{a b c d:Type}{A G:Prop}{B C D:a->b->c->d->Prop}(h:A/\∃x y z u,B x y z u/\C x y z u/\D x y z u)(k:A->∀x y z u,B x y z u->C x y z u->D x y z u->G):G:=h.2.elim fun x g=>g.elim fun y f=>f.elim fun z h2=>h2.elim fun u g3=>k h.1 x y z u g3.1 g3.2.1 g3.2.2
theorem rD{a b:Type}{A B C D E F:a->b->Prop}{G:Prop}(h:∃x y,A x y/\B x y/\C x y/\D x y/\E x y/\F x y)(k:∀x y,A x y->B x y->C x y->D x y->E x y->F x y->G):G:=h.elim fun x g=>g.elim fun y f=>k x y f.1 f.2.1 f.2.2.1 f.2.2.2.1 f.2.2.2.2.1 f.2.2.2.2.2
theorem eV{a b c:Type}{A B C D E:a->b->c->Prop}{G:Prop}(h:∃x y z,A x y z/\B x y z/\C x y z/\D x y z/\E x y z)(k:∀x y z,A x y z->B x y z->C x y z->D x y z->E x y z->G):G:=h.elim fun x g=>g.elim fun y f=>f.elim fun z h2=>k x y z h2.1 h2.2.1 h2.2.2.1 h2.2.2.2.1 h2.2.2.2.2
theorem lT{a b c d:Type}{A B C D:a->b->c->d->Prop}{G:Prop}(h:∃x y z u,A x y z u/\B x y z u/\C x y z u/\D x y z u)(k:∀x y z u,A x y z u->B x y z u->C x y z u->D x y z u->G):G:=h.elim fun x g=>g.elim fun y f=>f.elim fun z h2=>h2.elim fun u g3=>k x y z u g3.1 g3.2.1 g3.2.2.1 g3.2.2.2
theorem hO{a b c d:Type}{A G:Prop}{B C D E:a->b->c->d->Prop}(h:A/\∃x y z u,B x y z u/\C x y z u/\D x y z u/\E x y z u)(k:A->∀x y z u,B x y z u->C x y z u->D x y z u->E x y z u->G):G:=h.2.elim fun x g=>g.elim fun y f=>f.elim fun z h2=>h2.elim fun u g3=>k h.1 x y z u g3.1 g3.2.1 g3.2.2.1 g3.2.2.2
theorem wE{a b:Type}{A B C D E F H:a->b->Prop}{G:Prop}(h:∃x y,A x y/\B x y/\C x y/\D x y/\E x y/\F x y/\H x y)(k:∀x y,A x y->B x y->C x y->D x y->E x y->F x y->H x y->G):G:=h.elim fun x g=>g.elim fun y f=>k x y f.1 f.2.1 f.2.2.1 f.2.2.2.1 f.2.2.2.2.1 f.2.2.2.2.2.1 f.2.2.2.2.2.2
theorem hU{a b c d:Type}{A B:a->b->Prop}{C D E:a->b->c->d->Prop}{G:Prop}(h:∃x y,A x y/\B x y/\∃z u,C x y z u/\D x y z u/\E x y z u)(k:∀x y,A x y->B x y->∀z u,C x y z u->D x y z u->E x y z u->G):G:=h.elim fun x g=>g.elim fun y f=>f.2.2.elim fun z h2=>h2.elim fun u g3=>k x y f.1 f.2.1 z u g3.1 g3.2.1 g3.2.2
theorem wF{a b c:Type}{A B C D E F:a->b->c->Prop}{G:Prop}(h:∃x y z,A x y z/\B x y z/\C x y z/\D x y z/\E x y z/\F x y z)(k:∀x y z,A x y z->B x y z->C x y z->D x y z->E x y z->F x y z->G):G:=h.elim fun x g=>g.elim fun y f=>f.elim fun z h2=>k x y z h2.1 h2.2.1 h2.2.2.1 h2.2.2.2.1 h2.2.2.2.2.1 h2.2.2.2.2.2
theorem jU{a b c d:Type}{A B C D E:a->b->c->d->Prop}{G:Prop}(h:∃x y z u,A x y z u/\B x y z u/\C x y z u/\D x y z u/\E x y z u)(k:∀x y z u,A x y z u->B x y z u->C x y z u->D x y z u->E x y z u->G):G:=h.elim fun x g=>g.elim fun y f=>f.elim fun z h2=>h2.elim fun u g3=>k x y z u g3.1 g3.2.1 g3.2.2.1 g3.2.2.2.1 g3.2.2.2.2
theorem wG{a b c d e p:Type}{A B C:a->b->c->d->e->p->Prop}{G:Prop}(h:∃x y z u v w,A x y z u v w/\B x y z u v w/\C x y z u v w)(k:∀x y z u v w,A x y z u v w->B x y z u v w->C x y z u v w->G):G:=h.elim fun x g=>g.elim fun y f=>f.elim fun z h2=>h2.elim fun u g3=>g3.elim fun v f4=>f4.elim fun w h5=>k x y z u v w h5.1 h5.2.1 h5.2.2
theorem f_{a b c d:Type}{A G:Prop}{B C D E F:a->b->c->d->Prop}(h:A/\∃x y z u,B x y z u/\C x y z u/\D x y z u/\E x y z u/\F x y z u)(k:A->∀x y z u,B x y z u->C x y z u->D x y z u->E x y z u->F x y z u->G):G:=h.2.elim fun x g=>g.elim fun y f=>f.elim fun z h2=>h2.elim fun u g3=>k h.1 x y z u g3.1 g3.2.1 g3.2.2.1 g3.2.2.2.1 g3.2.2.2.2
theorem lS{a b c d:Type}{A:a->Prop}{B C D E F:a->b->c->d->Prop}{G:Prop}(h:∃x,A x/\∃y z u,B x y z u/\C x y z u/\D x y z u/\E x y z u/\F x y z u)(k:∀x,A x->∀y z u,B x y z u->C x y z u->D x y z u->E x y z u->F x y z u->G):G:=h.elim fun x g=>g.2.elim fun y f=>f.elim fun z h2=>h2.elim fun u g3=>k x g.1 y z u g3.1 g3.2.1 g3.2.2.1 g3.2.2.2.1 g3.2.2.2.2
theorem s9{a b c:Type}{A B C D E F H:a->b->c->Prop}{G:Prop}(h:∃x y z,A x y z/\B x y z/\C x y z/\D x y z/\E x y z/\F x y z/\H x y z)(k:∀x y z,A x y z->B x y z->C x y z->D x y z->E x y z->F x y z->H x y z->G):G:=h.elim fun x g=>g.elim fun y f=>f.elim fun z h2=>k x y z h2.1 h2.2.1 h2.2.2.1 h2.2.2.2.1 h2.2.2.2.2.1 h2.2.2.2.2.2.1 h2.2.2.2.2.2.2
theorem lU{a b c d:Type}{A B C D E F:a->b->c->d->Prop}{G:Prop}(h:∃x y z u,A x y z u/\B x y z u/\C x y z u/\D x y z u/\E x y z u/\F x y z u)(k:∀x y z u,A x y z u->B x y z u->C x y z u->D x y z u->E x y z u->F x y z u->G):G:=h.elim fun x g=>g.elim fun y f=>f.elim fun z h2=>h2.elim fun u g3=>k x y z u g3.1 g3.2.1 g3.2.2.1 g3.2.2.2.1 g3.2.2.2.2.1 g3.2.2.2.2.2
theorem bR{a b c d:Type}{A G:Prop}{B C D E F H:a->b->c->d->Prop}(h:A/\∃x y z u,B x y z u/\C x y z u/\D x y z u/\E x y z u/\F x y z u/\H x y z u)(k:A->∀x y z u,B x y z u->C x y z u->D x y z u->E x y z u->F x y z u->H x y z u->G):G:=h.2.elim fun x g=>g.elim fun y f=>f.elim fun z h2=>h2.elim fun u g3=>k h.1 x y z u g3.1 g3.2.1 g3.2.2.1 g3.2.2.2.1 g3.2.2.2.2.1 g3.2.2.2.2.2
theorem j8{a b c d e:Type}{A B C D E F:a->b->c->d->e->Prop}{G:Prop}(h:∃x y z u v,A x y z u v/\B x y z u v/\C x y z u v/\D x y z u v/\E x y z u v/\F x y z u v)(k:∀x y z u v,A x y z u v->B x y z u v->C x y z u v->D x y z u v->E x y z u v->F x y z u v->G):G:=h.elim fun x g=>g.elim fun y f=>f.elim fun z h2=>h2.elim fun u g3=>g3.elim fun v f4=>k x y z u v f4.1 f4.2.1 f4.2.2.1 f4.2.2.2.1 f4.2.2.2.2.1 f4.2.2.2.2.2
theorem dZ{a b c d e p:Type}{A B C D E:a->b->c->d->e->p->Prop}{G:Prop}(h:∃x y z u v w,A x y z u v w/\B x y z u v w/\C x y z u v w/\D x y z u v w/\E x y z u v w)(k:∀x y z u v w,A x y z u v w->B x y z u v w->C x y z u v w->D x y z u v w->E x y z u v w->G):G:=h.elim fun x g=>g.elim fun y f=>f.elim fun z h2=>h2.elim fun u g3=>g3.elim fun v f4=>f4.elim fun w h5=>k x y z u v w h5.1 h5.2.1 h5.2.2.1 h5.2.2.2.1 h5.2.2.2.2
theorem pP{a b c d:Type}{A B C D E F H I:a->b->c->d->Prop}{G:Prop}(h:∃x y z u,A x y z u/\B x y z u/\C x y z u/\D x y z u/\E x y z u/\F x y z u/\H x y z u/\I x y z u)(k:∀x y z u,A x y z u->B x y z u->C x y z u->D x y z u->E x y z u->F x y z u->H x y z u->I x y z u->G):G:=h.elim fun x g=>g.elim fun y f=>f.elim fun z h2=>h2.elim fun u g3=>k x y z u g3.1 g3.2.1 g3.2.2.1 g3.2.2.2.1 g3.2.2.2.2.1 g3.2.2.2.2.2.1 g3.2.2.2.2.2.2.1 g3.2.2.2.2.2.2.2
theorem mO{a b c d e p:Type}{A B:a->b->Prop}{C D:a->b->c->d->Prop}{E F H:a->b->c->d->e->p->Prop}{G:Prop}(h:∃x y,A x y/\B x y/\∃z u,C x y z u/\D x y z u/\∃v w,E x y z u v w/\F x y z u v w/\H x y z u v w)(k:∀x y,A x y->B x y->∀z u,C x y z u->D x y z u->∀v w,E x y z u v w->F x y z u v w->H x y z u v w->G):G:=h.elim fun x g=>g.elim fun y f=>f.2.2.elim fun z h2=>h2.elim fun u g3=>g3.2.2.elim fun v f4=>f4.elim fun w h5=>k x y f.1 f.2.1 z u g3.1 g3.2.1 v w h5.1 h5.2.1 h5.2.2
theorem mQ{a b c d e:Type}{A B C D E F H I:a->b->c->d->e->Prop}{G:Prop}(h:∃x y z u v,A x y z u v/\B x y z u v/\C x y z u v/\D x y z u v/\E x y z u v/\F x y z u v/\H x y z u v/\I x y z u v)(k:∀x y z u v,A x y z u v->B x y z u v->C x y z u v->D x y z u v->E x y z u v->F x y z u v->H x y z u v->I x y z u v->G):G:=h.elim fun x g=>g.elim fun y f=>f.elim fun z h2=>h2.elim fun u g3=>g3.elim fun v f4=>k x y z u v f4.1 f4.2.1 f4.2.2.1 f4.2.2.2.1 f4.2.2.2.2.1 f4.2.2.2.2.2.1 f4.2.2.2.2.2.2.1 f4.2.2.2.2.2.2.2
theorem gZ{a b c d e:Type}{A G:Prop}{B C D E F H I J:a->b->c->d->e->Prop}(h:A/\∃x y z u v,B x y z u v/\C x y z u v/\D x y z u v/\E x y z u v/\F x y z u v/\H x y z u v/\I x y z u v/\J x y z u v)(k:A->∀x y z u v,B x y z u v->C x y z u v->D x y z u v->E x y z u v->F x y z u v->H x y z u v->I x y z u v->J x y z u v->G):G:=h.2.elim fun x g=>g.elim fun y f=>f.elim fun z h2=>h2.elim fun u g3=>g3.elim fun v f4=>k h.1 x y z u v f4.1 f4.2.1 f4.2.2.1 f4.2.2.2.1 f4.2.2.2.2.1 f4.2.2.2.2.2.1 f4.2.2.2.2.2.2.1 f4.2.2.2.2.2.2.2
theorem i7{a b c d e:Type}{A B C G:Prop}{D E F H I J L M N:a->b->c->d->e->Prop}(h:A/\B/\C/\∃x y z u v,D x y z u v/\E x y z u v/\F x y z u v/\H x y z u v/\I x y z u v/\J x y z u v/\L x y z u v/\M x y z u v/\N x y z u v)(k:A->B->C->∀x y z u v,D x y z u v->E x y z u v->F x y z u v->H x y z u v->I x y z u v->J x y z u v->L x y z u v->M x y z u v->N x y z u v->G):G:=h.2.2.2.elim fun x g=>g.elim fun y f=>f.elim fun z h2=>h2.elim fun u g3=>g3.elim fun v f4=>k h.1 h.2.1 h.2.2.1 x y z u v f4.1 f4.2.1 f4.2.2.1 f4.2.2.2.1 f4.2.2.2.2.1 f4.2.2.2.2.2.1 f4.2.2.2.2.2.2.1 f4.2.2.2.2.2.2.2.1 f4.2.2.2.2.2.2.2.2
theorem i8{a b c d e p q r s t:Type}{A B C D E F H:a->b->c->d->e->p->q->r->s->t->Prop}{G:Prop}(h:∃x y z u v w s t r q,A x y z u v w s t r q/\B x y z u v w s t r q/\C x y z u v w s t r q/\D x y z u v w s t r q/\E x y z u v w s t r q/\F x y z u v w s t r q/\H x y z u v w s t r q)(k:∀x y z u v w s t r q,A x y z u v w s t r q->B x y z u v w s t r q->C x y z u v w s t r q->D x y z u v w s t r q->E x y z u v w s t r q->F x y z u v w s t r q->H x y z u v w s t r q->G):G:=h.elim fun x g=>g.elim fun y f=>f.elim fun z h2=>h2.elim fun u g3=>g3.elim fun v f4=>f4.elim fun w h5=>h5.elim fun s g6=>g6.elim fun t f7=>f7.elim fun r h8=>h8.elim fun q g9=>k x y z u v w s t r q g9.1 g9.2.1 g9.2.2.1 g9.2.2.2.1 g9.2.2.2.2.1 g9.2.2.2.2.2.1 g9.2.2.2.2.2.2
end
end Mine
end
section
open PySem
namespace Mine
section
inductive Tr(β:Type) where
|lf
|nd (l:Tr β) (k:Nat) (v:β) (r:Tr β)
def Tr.look{β:Type}(k:Nat)(t:Tr β):Option β:=@Tr.rec β (fun _=>Option β) none (fun _ a b _ x y=>match Nat.beq a k with|true=>some b|false=>match Nat.blt k a with|true=>x|false=>y) t
noncomputable def nmT:Tr String:=(.nd (.nd (.nd (.nd (.nd (.nd (.nd (.nd .lf 0 "range" .lf) 1 "enumerate" (.nd .lf 2 "append" .lf)) 3 "pop" (.nd (.nd .lf 4 "extend" .lf) 5 "get" .lf)) 6 "isupper" (.nd (.nd (.nd .lf 7 "number" .lf) 8 "kind" (.nd .lf 9 "MOST_BITS" .lf)) 10 "low" (.nd (.nd .lf 11 "high" .lf) 12 "int_range" .lf))) 13 "is_in_range" (.nd (.nd (.nd (.nd .lf 14 "op" .lf) 15 "value" (.nd .lf 16 "isinstance" .lf)) 17 "bool" (.nd (.nd .lf 18 "int" .lf) 19 "within_range" .lf)) 20 "is_unsigned" (.nd (.nd (.nd .lf 21 "a" .lf) 22 "b" (.nd .lf 23 "const_quotient" .lf)) 24 "bytes" (.nd (.nd .lf 25 "sort" .lf) 26 "sort_of_const" .lf)))) 27 "COMPARISONS" (.nd (.nd (.nd (.nd (.nd .lf 28 "const_compared" .lf) 29 "const_shift" (.nd .lf 30 "int_binary" .lf)) 31 "world" (.nd (.nd .lf 32 "scope" .lf) 33 "package" .lf)) 34 "name" (.nd (.nd (.nd .lf 35 "spot" .lf) 36 "is_wanted" (.nd .lf 37 "entry" .lf)) 38 "settled" (.nd (.nd .lf 39 "find" .lf) 40 "around" .lf))) 41 "exported_entry" (.nd (.nd (.nd (.nd .lf 42 "path" .lf) 43 "SYNC_TYPES" (.nd .lf 44 "packages" .lf)) 45 "find_exported" (.nd (.nd .lf 46 "scopes" .lf) 47 "self" .lf)) 48 "const_reader" (.nd (.nd (.nd .lf 49 "typex" .lf) 50 "type_entry" (.nd .lf 51 "read" .lf)) 52 "length" (.nd (.nd .lf 53 "key" .lf) 54 "all" .lf))))) 55 "struct" (.nd (.nd (.nd (.nd (.nd (.nd .lf 56 "interface" .lf) 57 "typexes" (.nd .lf 58 "tuple" .lf)) 59 "one" (.nd (.nd .lf 60 "expr" .lf) 61 "told" .lf)) 62 "MOST_LENGTH" (.nd (.nd (.nd .lf 63 "late_keys" .lf) 64 "rows" (.nd .lf 65 "names" .lf)) 66 "inner" (.nd (.nd .lf 67 "is_embedded" .lf) 68 "found" .lf))) 69 "base" (.nd (.nd (.nd (.nd .lf 70 "base_of" .lf) 71 "sorted" (.nd .lf 72 "iota" .lf)) 73 "UNTYPED_INT" (.nd (.nd .lf 74 "UNTYPED_RUNE" .lf) 75 "UNTYPED_TEXT" .lf)) 76 "named" (.nd (.nd (.nd .lf 77 "selected" .lf) 78 "of_one" (.nd .lf 79 "of_two" .lf)) 80 "called" (.nd (.nd .lf 81 "reckoned" .lf) 82 "const_unary" .lf)))) 83 "kind_of" (.nd (.nd (.nd (.nd (.nd .lf 84 "left" .lf) 85 "right" (.nd .lf 86 "const_binary" .lf)) 87 "common" (.nd (.nd .lf 88 "UNTYPED_BOOL" .lf) 89 "NUMBERS" .lf)) 90 "representable" (.nd (.nd (.nd .lf 91 "call" .lf) 92 "ConstReader" (.nd .lf 93 "TypeReader" .lf)) 94 "const_of" (.nd (.nd .lf 95 "T" .lf) 96 "met" .lf))) 97 "here" (.nd (.nd (.nd (.nd .lf 98 "underlying_of" .lf) 99 "row" (.nd .lf 100 "is_open" .lf)) 101 "done" (.nd (.nd .lf 102 "look" .lf) 103 "look_at_named" .lf)) 104 "underlying" (.nd (.nd (.nd .lf 105 "is_comparable" .lf) 106 "decl" (.nd .lf 107 "word" .lf)) 108 "tree" (.nd (.nd .lf 109 "len" .lf) 110 "str" .lf)))))) 111 "files" (.nd (.nd (.nd (.nd (.nd (.nd (.nd .lf 112 "KNOWN" .lf) 113 "own_names" (.nd .lf 114 "taken" .lf)) 115 "imported" (.nd (.nd .lf 116 "told_names" .lf) 117 "used" .lf)) 118 "selected_names" (.nd (.nd (.nd .lf 119 "alias" .lf) 120 "wanted" (.nd .lf 121 "MAIN" .lf)) 122 "name_of" (.nd (.nd .lf 123 "is_exported" .lf) 124 "owner" .lf))) 125 "is_checked" (.nd (.nd (.nd (.nd .lf 126 "is_used" .lf) 127 "outer" (.nd .lf 128 "ScopeRow" .lf)) 129 "methods" (.nd (.nd .lf 130 "text" .lf) 131 "adding" .lf)) 132 "held" (.nd (.nd (.nd .lf 133 "locks" .lf) 134 "PLAIN" (.nd .lf 135 "waits" .lf)) 136 "NamedRow" (.nd (.nd .lf 137 "Scope" .lf) 138 "INT_KINDS" .lf)))) 139 "declare" (.nd (.nd (.nd (.nd (.nd .lf 140 "ERROR" .lf) 141 "BUILTINS" (.nd .lf 142 "known_rows" .lf)) 143 "globals" (.nd (.nd .lf 144 "consts" .lf) 145 "funcs" .lf)) 146 "bodies" (.nd (.nd (.nd .lf 147 "order" .lf) 148 "starts" (.nd .lf 149 "settle" .lf)) 150 "is_whole" (.nd (.nd .lf 151 "source" .lf) 152 "things" .lf))) 153 "_law_take" (.nd (.nd (.nd (.nd .lf 154 "_law_plain" .lf) 155 "known" (.nd .lf 156 "World" .lf)) 157 "universe" (.nd (.nd .lf 158 "some" .lf) 159 "Packages" .lf)) 160 "_law_face" (.nd (.nd (.nd .lf 161 "_law_one" .lf) 162 "_law_name" (.nd .lf 163 "plus" .lf)) 164 "deep" (.nd (.nd .lf 165 "_law_type" .lf) 166 "written" .lf))))) 167 "ins" (.nd (.nd (.nd (.nd (.nd (.nd .lf 168 "outs" .lf) 169 "turn" (.nd .lf 170 "ptr" .lf)) 171 "face" (.nd (.nd .lf 172 "k" .lf) 173 "is_in" .lf)) 174 "is_compared" (.nd (.nd (.nd .lf 175 "_law_function" .lf) 176 "dict" (.nd .lf 177 "list" .lf)) 178 "way" (.nd (.nd .lf 179 "_law_leaf" .lf) 180 "_law_struct" .lf))) 181 "_law_interface" (.nd (.nd (.nd (.nd .lf 182 "many" .lf) 183 "_law_length" (.nd .lf 184 "int_name" .lf)) 185 "empty" (.nd (.nd .lf 186 "twice" .lf) 187 "bad" .lf)) 188 "_law_answer" (.nd (.nd (.nd .lf 189 "type_of" .lf) 190 "steps" (.nd .lf 191 "other" .lf)) 192 "two" (.nd (.nd .lf 193 "due" .lf) 194 "Holding" .lf)))) 195 "look_at_all" (.nd (.nd (.nd (.nd (.nd .lf 196 "script" .lf) 197 "_law_pool" (.nd .lf 198 "_law_begun" .lf)) 199 "keys" (.nd (.nd .lf 200 "check_late_keys" .lf) 201 "_law_bad_right" .lf)) 202 "_law_holding_right" (.nd (.nd (.nd .lf 203 "_wall" .lf) 204 "rune_octets" (.nd .lf 205 "const_convert" .lf)) 206 "law" (.nd (.nd .lf 207 "ChanError" .lf) 208 "NameFault" .lf))) 209 "TypeFault" (.nd (.nd (.nd (.nd .lf 210 "ConstFault" .lf) 211 "ImportFault" (.nd .lf 212 "takes" .lf)) 213 "cell" (.nd (.nd .lf 214 "big" .lf) 215 "max" .lf)) 216 "stirred" (.nd (.nd (.nd .lf 217 "top" .lf) 218 "figure" .lf) 219 "message" (.nd (.nd .lf 220 "Exception" .lf) 221 "__init__" .lf)))))))
def nms(n:Nat):String:=match nmT.look n with
|some s=>s
|none=>String.ofList (List.replicate (n+50) '#')
def nm(n:Nat):Str:=Str.ofString (nms n)
end
section
inductive SV where
|non
|bol (b:Bool)
|int (i:Int)
|str (s:List Nat)
|byt (s:List Nat)
|glo (a:Nat)
|typ (k:Nat)
|bif (k:Nat)
|loc (i:Nat)
|tup (vs:List SV)
|lam (k:Nat) (cs:List (Nat×Nat))
|dw (k:Nat)
|dt (k:Nat)
|scr
|ub
|nn (b:Bool)
inductive SO where
|lst (vs:List SV)
|dct (es:List (List Nat×SV))
|dcf (es:List (List Nat×SV))
|adc (es:List (Nat×SV))
|ins (c:Nat) (d:Nat)
|cel (v:Option SV)
|src
|kls (n:Nat) (c:Bool) (ks:List Nat)
|lls (n:Nat) (c:Bool) (ks:List Nat)
structure St where
 fr:List (Nat×SV)
 n:Nat
 objs:List SO
 da:List (Option Bool)
 ov:List (Nat×SO)
inductive T where
|nm (n:Nat) (q:Pos)
|tp (ns:List (Nat×Pos)) (q:Pos)
inductive Cm where
|eq|ne|lt|le|gt|ge|is|isn|inn|nin
inductive Bo where
|add|sub|mul|pow|fdv|mod
inductive E where
|lo (n:Nat) (q:Pos)
|gl (n:Nat) (q:Pos)
|ce (n:Nat) (q:Pos)
|non (q:Pos)
|bol (b:Bool) (q:Pos)
|int (i:Int) (q:Pos)
|str (s:List Nat) (l:String) (q:Pos)
|byt (s:List Nat) (q:Pos)
|tup (es:List E) (q:Pos)
|lst (es:List E) (q:Pos)
|dct (ks vs:List E) (q:Pos)
|att (e:E) (n:Nat) (q:Pos)
|sub (e i:E) (q:Pos)
|sli (e u:E) (q q':Pos)
|bin (o:Bo) (a b:E) (q:Pos)
|nt (e:E) (q:Pos)
|bop (isAnd:Bool) (es:List E) (q:Pos)
|cmp (a:E) (os:List Cm) (es:List E) (q:Pos)
|ife (t a b:E) (q:Pos)
|cal (f:E) (as:List E) (q:Pos)
|mca (o:E) (n:Nat) (as:List E) (q q':Pos)
|lam (k:Nat) (q:Pos)
|lc (elt:E) (ts:List T) (its:List E) (cs:List (List E)) (frees:List Nat) (sc:Scope) (q:Pos)
|dc (k v:E) (t:T) (it:E) (frees:List Nat) (sc:Scope) (q:Pos)
|any (e:PySem.Expr)
inductive H where
|ret (n c:Nat) (e:E) (q q' q'':Pos)
|any (h:PySem.ExceptHandler)
inductive S where
|exp (e:E) (q:Pos)
|ret (e:E) (q:Pos)
|ret0 (q:Pos)
|asg (t:T) (e:E) (q:Pos)
|asa (o:E) (n:Nat) (e:E) (q q':Pos)
|ass (o i:E) (e:E) (q q':Pos)
|ife (t:E) (a b:List S) (q:Pos)
|fo (t:T) (it:E) (body:List S) (q:Pos)
|whi (t:E) (body:List S) (q:Pos)
|rai (n c:Nat) (as:List E) (q q' q'':Pos)
|tr (body:List S) (hs:List H) (q:Pos)
|cnt (q:Pos)
|asn (n:Nat) (qn:Pos) (o i e:E) (q q' q'':Pos)
|any (s:PySem.Stmt)
structure Fun where
 params:List (Nat×Pos)
 dflts:List SV
 dfles:List E
 cells:List Nat
 body:List S
 tb:Nat
 sc:Scope
structure Lam where
 params:List (Nat×Pos)
 body:E
 frees:List Nat
 tb:Nat
 sc:Scope
inductive Fl where
|nxt|cnt|ret (v:SV)
structure Cx where
 cl:List (Nat×Nat)
 dp:Nat
 un:Nat
 tb:Nat
noncomputable abbrev Kv:=SV->St->Bool
noncomputable abbrev Ke:=Nat->St->Bool
def Tr.all{β:Type}(f:Nat->β->Bool):Tr β->Bool
|.lf=>true
|.nd l a b r=>f a b&&l.all f&&r.all f
structure P where
 N0:Nat
 F:Tr SO
 G:Tr SV
 funs:Tr Fun
 lams:List Lam
 meth:Tr Nat
 fld:List (Nat×List Nat)
 inits:List (Nat×Nat)
 excs:List (Nat×List Nat)
 bod:Nat->Cx->St->(Fl->St->Bool)->Ke->Option Bool
 bad:Nat->Bool
 key:SV->Option Nat
abbrev lR{α β:Type}(n:β)(c:α->List α->β->β)(l:List α):β:=@List.rec α (fun _=>β) n c l
def look{β:Type}(k:Nat)(l:List (Nat×β)):Option β:=lR none (fun x _ y=>match Nat.beq x.1 k with|true=>some x.2|false=>y) l
def nth{β:Type}(l:List β):Nat->Option β:=lR (fun _=>none) (fun x _ y i=>@Nat.rec (fun _=>Option β) (some x) (fun j _=>y j) i) l
def put{β:Type}(k:Nat)(v:β)(l:List (Nat×β)):List (Nat×β):=lR [(k,v)] (fun x r y=>match Nat.beq x.1 k with|true=>(x.1,v)::r|false=>(x.1,x.2)::y) l
def jJ(l:List Nat):List Nat->Bool:=lR (fun m=>lR true (fun _ _ _=>false) m) (fun a _ y m=>lR false (fun b s _=>match Nat.beq a b with|true=>y s|false=>false) m) l
def y_(l:List Nat):List Nat->Bool:=lR (fun m=>lR false (fun _ _ _=>true) m) (fun a _ y m=>lR false (fun b s _=>match Nat.blt a b with|true=>true|false=>match Nat.beq a b with|true=>y s|false=>false) m) l
def cS{β:Type}(k:List Nat)(l:List (List Nat×β)):Option β:=lR none (fun x _ y=>match jJ x.1 k with|true=>some x.2|false=>y) l
def i9{β:Type}(k:List Nat)(v:β):List (List Nat×β)->List (List Nat×β)
|[]=>[(k,v)]
|(a,b)::r=>match jJ a k with
 |true=>(a,v)::r
 |false=>(a,b)::i9 k v r
def Bx(k:List Nat):List (List Nat)->List (List Nat)
|[]=>[k]
|a::r=>match y_ k a with
 |true=>k::a::r
 |false=>a::Bx k r
def hG:List (List Nat)->List (List Nat)
|[]=>[]
|a::r=>Bx a (hG r)
def wK:List (List Nat)->Bool
|[]=>true
|a::r=>r.all (fun b=>!y_ b a)&&wK r
def setN{β:Type}(l:List β)(i:Nat)(v:β):List β:=lR (fun _=>[]) (fun x r y i=>@Nat.rec (fun _=>List β) (v::r) (fun j _=>x::y j) i) l i
def fc{α β:Type}(l:List α):(List α->β)->β:=lR (fun k=>k []) (fun x _ y k=>y fun r=>k (x::r)) l
noncomputable def St.wf(st:St)(fr:List (Nat×SV))(k:St->Bool):Bool:=match st with
|⟨_,n,objs,da,ov⟩=>k ⟨fr,n,objs,da,ov⟩
def St.get(p:P)(st:St)(i:Nat):Option SO:=match Nat.blt i p.N0 with
|true=>match look i st.ov with
 |some o=>some o
 |none=>p.F.look i
|false=>match Nat.blt (i-p.N0) st.n with
 |true=>nth st.objs (st.n-1-(i-p.N0))
 |false=>none
def St.set(p:P)(st:St)(i:Nat)(o:SO)(k:St->Bool):Bool:=match Nat.blt i p.N0 with
|true=>match look i st.ov with
 |some _=>match st with
  |⟨fr,n,objs,da,ov⟩=>fc (put i o ov) fun ov=>k ⟨fr,n,objs,da,ov⟩
 |none=>false
|false=>match Nat.blt (i-p.N0) st.n with
 |true=>match st with
  |⟨fr,n,objs,da,ov⟩=>fc (setN objs (n-1-(i-p.N0)) o) fun objs=>k ⟨fr,n,objs,da,ov⟩
 |false=>false
noncomputable def St.new(p:P)(st:St)(o:SO)(k:Nat->St->Bool):Bool:=match st with
|⟨fr,n,objs,da,ov⟩=>k (p.N0+n) ⟨fr,n+1,o::objs,da,ov⟩
def bO{α:Type}(o:Option α)(f:α->Bool):Bool:=match o with
|some x=>f x
|none=>false
noncomputable def SO.lst?:SO->Option (List SV)
|.lst x=>some x
|_=>none
noncomputable def SO.dct?:SO->Option (List (List Nat×SV))
|.dct x=>some x
|_=>none
noncomputable def SO.rd?:SO->Option (List (List Nat×SV))
|.dct x=>some x
|.dcf x=>some x
|_=>none
noncomputable def SO.adc?:SO->Option (List (Nat×SV))
|.adc x=>some x
|_=>none
noncomputable def SO.ins?:SO->Option (Nat×Nat)
|.ins c d=>some (c,d)
|_=>none
noncomputable def SO.cel?:SO->Option (Option SV)
|.cel x=>some x
|_=>none
noncomputable def SO.kls?:SO->Option (Nat×Bool×List Nat)
|.kls n c k=>some (n,c,k)
|_=>none
def gL(p:P)(st:St)(i:Nat)(f:List SV->Bool):Bool:=bO (st.get p i) fun o=>bO o.lst? f
def gD(p:P)(st:St)(i:Nat)(f:List (List Nat×SV)->Bool):Bool:=bO (st.get p i) fun o=>bO o.dct? f
def gR(p:P)(st:St)(i:Nat)(f:List (List Nat×SV)->Bool):Bool:=bO (st.get p i) fun o=>bO o.rd? f
def gA(p:P)(st:St)(i:Nat)(f:List (Nat×SV)->Bool):Bool:=bO (st.get p i) fun o=>bO o.adc? f
def gI(p:P)(st:St)(i:Nat)(f:Nat->Nat->Bool):Bool:=bO (st.get p i) fun o=>bO o.ins? fun x=>f x.1 x.2
def gC(p:P)(st:St)(i:Nat)(f:Option SV->Bool):Bool:=bO (st.get p i) fun o=>bO o.cel? f
def gK(p:P)(st:St)(i:Nat)(f:Nat->Bool->List Nat->Bool):Bool:=bO (st.get p i) fun o=>bO o.kls? fun x=>f x.1 x.2.1 x.2.2
noncomputable def CK(f:SV->SV->Option Bool):List SV->List SV->Option Bool
|[],b=>match b with
 |[]=>some true
 |_::_=>some false
|a::r,b=>match b with
 |[]=>some false
 |b::s=>match f a b with
  |none=>none
  |some x=>match x with
   |true=>CK f r s
   |false=>some false
def wV:Nat->SV->SV->Option Bool
|0,_,_=>none
|n+1,a,b=>match a with
 |.non=>match b with
  |.non=>some true
  |.str _=>some false
  |.tup _=>some false
  |_=>none
 |.bol a=>match b with
  |.bol b=>some (a==b)
  |_=>none
 |.int a=>match b with
  |.int b=>some (decide (a=b))
  |_=>none
 |.str a=>match b with
  |.str b=>some (jJ a b)
  |.non=>some false
  |.tup _=>some false
  |_=>none
 |.tup a=>match b with
  |.tup b=>CK (wV n) a b
  |.non=>some false
  |.str _=>some false
  |_=>none
 |.dt a=>match b with
  |.dt b=>match Nat.beq a b with
   |true=>some true
   |false=>none
  |.str _=>some false
  |.non=>some false
  |_=>none
 |_=>none
noncomputable def fH:Nat->SV->Bool
|0,_=>false
|n+1,v=>match v with
 |.non=>true
 |.bol _=>true
 |.int _=>true
 |.str _=>true
 |.dt _=>true
 |.tup vs=>vs.all (fH n)
 |_=>false
def ET(vs:List SV)(i:Int)(f:SV->Bool):Bool:=match i with
|.ofNat k=>bO (nth vs k) fun v=>Nat.ble vs.length 10000&&f v
|.negSucc _=>false
def AT(v:SV):List SV->Option Bool
|[]=>some false
|x::r=>match wV 20 x v with
 |none=>none
 |some b=>match b with
  |true=>some true
  |false=>AT v r
def M5{α β:Type}(o:Option α)(f:α->Option β):Option β:=match o with
|some x=>f x
|none=>none
noncomputable def isNone(a:SV):Option Bool:=match a with
|.non=>some true
|.bol _=>some false
|.int _=>some false
|.str _=>some false
|.loc _=>some false
|.tup _=>some false
|.dt _=>some false
|_=>none
def yQ(a:SV)(vs:List SV)(f:Bool->Bool):Bool:=fH 30 a&&vs.all (fH 30)&&bO (AT a vs) f
def yU(p:P)(a b:SV)(st:St)(f:Bool->Bool):Bool:=match b with
|.tup vs=>yQ a vs f
|.loc i=>bO (st.get p i) fun o=>match o with
 |.lst vs=>yQ a vs f
 |.dct es=>match a with
  |.str k=>f (cS k es).isSome
  |_=>false
 |.kls _ c ks=>match ks with
  |[]=>match a with
   |.bol x=>match x with
    |false=>f c
    |true=>false
   |_=>false
  |_::_=>false
 |_=>false
|_=>false
def J1(p:P)(a b:SV)(st:St)(f:Bool->Bool):Bool:=match a with
|.loc i=>match b with
 |.loc j=>gL p st i fun x=>gL p st j fun y=>match x with
  |[]=>match y with
   |[]=>f true
   |_::_=>f false
  |_::_=>match y with
   |[]=>f false
   |_::_=>false
 |_=>false
|a=>fH 30 a&&fH 30 b&&bO (wV 20 a b) f
noncomputable def lI(a b:SV)(f:Int->Int->Bool):Bool:=match a with
|.int x=>match b with
 |.int y=>f x y
 |_=>false
|_=>false
noncomputable def nN(b:SV)(f:Nat->Bool):Bool:=match b with
|.int y=>match y with
 |.ofNat n=>f n
 |.negSucc _=>false
|_=>false
noncomputable def Do(n:Nat)(st:St)(k:Kv):Bool:=Nat.blt 0 n&&match Nat.ble n 64 with
|true=>(List.range n).all fun r=>k (.int (.ofNat r)) st
|false=>Nat.ble n 2147483648&&k (.nn true) st
def H7(c:Bool)(b:SV)(st:St)(k:Kv):Bool:=match b with
|.nn d=>c&&d&&k (.nn false) st
|b=>nN b fun n=>Nat.ble n 1000000&&k (.nn false) st
def zG(a b:SV)(f:Bool->Bool)(g:Int->Int->Bool):Bool:=match a with
|.nn _=>nN b fun _=>f true&&f false
|a=>lI a b fun x y=>f (g x y)
def qM(p:P)(o:Cm)(a b:SV)(st:St)(f:Bool->Bool):Bool:=match o with
|.is=>match b with
 |.non=>bO (isNone a) f
 |_=>false
|.isn=>match b with
 |.non=>bO (isNone a) fun x=>f (!x)
 |_=>false
|.inn=>yU p a b st f
|.nin=>yU p a b st fun x=>f (!x)
|.eq=>J1 p a b st f
|.ne=>J1 p a b st fun x=>f (!x)
|.lt=>lI a b fun x y=>f (decide (x<y))
|.le=>lI a b fun x y=>f (decide (x<=y))
|.gt=>zG a b f fun x y=>decide (y<x)
|.ge=>zG a b f fun x y=>decide (y<=x)
noncomputable def Ig(x y:Int)(k:Int->Bool):Bool:=match x with
|.ofNat n=>match Nat.beq n 10 with
 |true=>match y with
  |.ofNat m=>Nat.beq m 18&&k 1000000000000000000
  |.negSucc _=>false
 |false=>Nat.beq n 2&&match y with
  |.ofNat m=>match Nat.beq m 30 with
   |true=>k 1073741824
   |false=>Nat.beq m 512&&k (2^512)
  |.negSucc _=>false
|.negSucc _=>false
def GB(p:P)(i j:Nat)(st:St)(k:Kv):Bool:=bO (st.get p i) fun o=>match o with
|.lst x=>gL p st j fun y=>Nat.ble (x.length+y.length) 1000&&fc (x++y) fun xy=>st.new p (.lst xy) fun l st=>k (.loc l) st
|.kls n c ks=>gL p st j fun y=>match y with
 |[v]=>match v with
  |.bol b=>Nat.ble n 1000000&&st.new p (.kls (n+1) (c||!b) ks) fun l st=>k (.loc l) st
  |_=>false
 |_=>false
|_=>false
def A1(p:P)(o:Bo)(a b:SV)(st:St)(k:Kv):Bool:=match o with
|.add=>match a with
 |.nn _=>nN b fun _=>k (.nn false) st
 |.int x=>match b with
  |.int y=>k (.int (x+y)) st
  |_=>false
 |.str x=>match b with
  |.str y=>Nat.ble (x.length+y.length) 10000&&k (.str (x++y)) st
  |_=>false
 |.loc i=>match b with
  |.loc j=>GB p i j st k
  |_=>false
 |_=>false
|.sub=>lI a b fun x y=>k (.int (x-y)) st
|.pow=>lI a b fun x y=>Ig x y fun z=>k (.int z) st
|.mul=>match a with
 |.tup x=>match b with
  |.int y=>match y with
   |.ofNat n=>Nat.ble (n*x.length) 200&&Nat.ble n 200&&k (.tup (List.replicate n x).flatten) st
   |.negSucc _=>false
  |_=>false
 |.nn c=>H7 c b st k
 |.int x=>lI (.int x) b fun x y=>decide (y=0)&&k (.int 0) st
 |_=>false
|.fdv=>match a with
 |.nn _=>nN b fun n=>Nat.blt 0 n&&Nat.ble n 1000000&&k (.nn false) st
 |_=>false
|.mod=>match a with
 |.nn _=>nN b fun n=>Do n st k
 |_=>false
def tH(p:P)(a i:SV)(st:St)(k:Kv):Bool:=match i with
|.int x=>match a with
 |.tup vs=>ET vs x fun v=>k v st
 |.str s=>match x with
  |.ofNat n=>bO (nth s n) fun c=>Nat.ble s.length 10000&&k (.str [c]) st
  |.negSucc _=>false
 |.loc l=>gL p st l fun vs=>ET vs x fun v=>k v st
 |_=>false
|.str s=>match a with
 |.loc l=>gR p st l fun es=>bO (cS s es) fun v=>k v st
 |_=>false
|_=>false
noncomputable def rC(v:SV):Bool:=match v with
|.scr=>false
|_=>true
def EH(p:P)(a:SV)(n:Nat)(st:St)(f:Nat->List (Nat×SV)->Bool):Bool:=match a with
|.loc l=>gI p st l fun c d=>bO (look c p.fld) fun fs=>fs.any (Nat.beq n)&&gA p st d fun es=>f d es
|_=>false
def vX(p:P)(a:SV)(n:Nat)(st:St)(f:SV->Bool):Bool:=EH p a n st fun _ es=>bO (look n es) fun v=>rC v&&f v
def Cp(p:P)(a:SV)(n:Nat)(v:SV)(st:St)(k:St->Bool):Bool:=EH p a n st fun d es=>Nat.ble es.length 900&&fc (put n v es) fun es=>st.set p d (.adc es) k
inductive It where
|fix (vs:List SV)
|lst (l:Nat)
|rng (n:Nat)
|enu (l:Nat)
structure Ev where
 ex:Cx->E->St->Kv->Ke->Bool
 exs:Cx->List E->St->(List SV->St->Bool)->Ke->Bool
 ts:Cx->E->St->(Bool->St->Bool)->Ke->Bool
 sts:Cx->List S->St->(Fl->St->Bool)->Ke->Bool
 call:Nat->Nat->SV->List SV->St->Kv->Ke->Bool
 comp:Cx->E->List T->List E->List (List E)->It->Nat->Nat->St->(St->Bool)->Bool
 loop:Cx->T->List S->It->Nat->St->(Fl->St->Bool)->Ke->Bool
 whil:Cx->E->List S->St->(Fl->St->Bool)->Ke->Bool
noncomputable def pK:Ev:=⟨fun _ _ _ _ _=>false,fun _ _ _ _ _=>false,fun _ _ _ _ _=>false,fun _ _ _ _ _=>false,fun _ _ _ _ _ _ _=>false,
 fun _ _ _ _ _ _ _ _ _ _=>false,fun _ _ _ _ _ _ _ _=>false,fun _ _ _ _ _ _=>false⟩
inductive Src where
|plain (e:E)
|range (e:E)
|enum (e:E)
noncomputable def pV:Nat:=0
noncomputable def uI:Nat:=1
def jD(e:E):Src:=match e with
|.cal g as _=>match g with
 |.gl n _=>match as with
  |[a]=>match Nat.beq n pV with
   |true=>.range a
   |false=>match Nat.beq n uI with
    |true=>.enum a
    |false=>.plain e
  |_=>.plain e
 |_=>.plain e
|_=>.plain e
def BB(p:P)(v:SV)(st:St)(k:It->Bool):Bool:=match v with
|.tup vs=>k (.fix vs)
|.loc l=>gL p st l fun _=>k (.lst l)
|_=>false
def sR(p:P)(it:It)(i:Nat)(st:St)(f:Option SV->Bool):Bool:=match it with
|.fix vs=>f (nth vs i)
|.lst l=>gL p st l fun vs=>f (nth vs i)
|.rng n=>match Nat.blt i n with
 |true=>f (some (.int (.ofNat i)))
 |false=>f none
|.enu l=>gL p st l fun vs=>match nth vs i with
 |some v=>f (some (.tup [.int (.ofNat i),v]))
 |none=>f none
noncomputable def wC(v:SV)(f:Nat->Bool):Bool:=match v with
|.int x=>match x with
 |.ofNat n=>f n
 |.negSucc _=>false
|_=>false
def nF(p:P)(ih:Ev)(cx:Cx)(e:E)(st:St)(k:It->St->Bool)(ke:Ke):Bool:=match jD e with
|.plain e=>ih.ex cx e st (fun v st=>BB p v st fun it=>k it st) ke
|.range a=>ih.ex cx a st (fun v st=>wC v fun n=>Nat.ble n 64&&k (.rng n) st) ke
|.enum a=>ih.ex cx a st (fun v st=>match v with
 |.loc l=>gL p st l fun _=>k (.enu l) st
 |_=>false) ke
noncomputable def eZ:List SV->List (List Nat×SV)->Option (List (List Nat×SV))
|[],es=>some es
|x::r,es=>match x with
 |.tup p=>match p with
  |[a,v]=>match a with
   |.str a=>eZ r (i9 a v es)
   |_=>none
  |_=>none
 |_=>none
noncomputable def yV(v:SV)(k:Nat):Option Bool:=match v with
|.non=>some false
|.bol _=>some (Nat.ble k 1)
|.int _=>some (Nat.beq k 0)
|.byt _=>some (Nat.beq k 2)
|.tup _=>some (Nat.beq k 3)
|.str _=>some (Nat.beq k 4)
|_=>none
def HP(p:P)(v:SV)(st:St)(f:Nat->Bool):Bool:=match v with
|.tup vs=>Nat.ble vs.length 10000&&f vs.length
|.str s=>Nat.ble s.length 10000&&f s.length
|.loc l=>gL p st l fun vs=>Nat.ble vs.length 10000&&f vs.length
|_=>false
def BN(p:P)(v:SV)(st:St)(f:List SV->Bool):Bool:=match v with
|.loc l=>gL p st l f
|_=>false
def A0(p:P)(f:Nat)(as:List SV)(st:St)(k:Kv):Bool:=match as with
|[]=>false
|v::r=>match r with
 |[]=>match f with
  |0=>HP p v st fun n=>k (.int (.ofNat n)) st
  |2=>match v with
   |.loc l=>gD p st l fun es=>Nat.ble es.length 50&&wK (hG (es.map (·.1)))&&st.new p (.lst ((hG (es.map (·.1))).map .str)) fun l st=>k (.loc l) st
   |_=>false
  |_=>false
 |t::r=>match r with
  |[]=>Nat.beq f 1&&match t with
   |.typ t=>Nat.ble t 4&&bO (yV v t) fun b=>k (.bol b) st
   |_=>false
  |_::_=>false
def Jf(p:P)(f:Nat)(as:List SV)(st:St)(k:Kv):Bool:=match as with
|[v]=>match f with
 |0=>match v with
  |.nn c=>k (.nn c) st
  |.bol b=>match b with
   |true=>k (.int 1) st
   |false=>k (.int 0) st
  |_=>false
 |3=>BN p v st fun vs=>Nat.ble vs.length 100&&k (.tup vs) st
 |4=>wC v fun n=>Nat.blt n 10&&k (.str [48+n]) st
 |6=>match v with
  |.tup vs=>Nat.ble vs.length 100&&st.new p (.lst vs) fun l st=>k (.loc l) st
  |_=>false
 |7=>BN p v st fun vs=>bO (eZ vs []) fun es=>Nat.ble vs.length 100&&st.new p (.dct es) fun l st=>k (.loc l) st
 |_=>false
|_=>false
def J3(p:P)(v:SV)(st:St)(f:List SV->Bool):Bool:=match v with
|.tup vs=>f vs
|.loc l=>gL p st l f
|_=>false
def M4(p:P)(l:Nat)(vs:List SV)(n:Nat)(as:List SV)(st:St)(k:Kv):Bool:=Nat.ble vs.length 10000&&match as with
|[]=>Nat.beq n 3&&bO vs.getLast? fun v=>fc vs.dropLast fun vs=>st.set p l (.lst vs) fun st=>k v st
|v::r=>match r with
 |[]=>match n with
  |2=>fc (vs++[v]) fun vs=>st.set p l (.lst vs) fun st=>k .non st
  |4=>J3 p v st fun ws=>Nat.ble ws.length 10000&&fc (vs++ws) fun vs=>st.set p l (.lst vs) fun st=>k .non st
  |_=>false
 |_::_=>false
def M3(es:List (List Nat×SV))(n:Nat)(as:List SV)(st:St)(k:Kv):Bool:=Nat.beq n 5&&match as with
|[]=>false
|a::r=>match a with
 |.str s=>match r with
  |[]=>match cS s es with
   |some v=>k v st
   |none=>k .non st
  |d::r=>match r with
   |[]=>match cS s es with
    |some v=>k v st
    |none=>k d st
   |_::_=>false
 |_=>false
def Gh(p:P)(l:Nat)(n:Nat)(as:List SV)(st:St)(k:Kv):Bool:=bO (st.get p l) fun o=>match o with
|.lst vs=>M4 p l vs n as st k
|.lls m c ks=>match as with
 |[v]=>bO (p.key v) fun i=>Nat.beq n 2&&Nat.ble m 2&&st.set p l (.lls (m+1) (c||p.bad i) ks) fun st=>k .non st
 |_=>false
|.dct es=>M3 es n as st k
|_=>false
def gG:List (Nat×Pos)->List SV->List SV->List (Nat×SV)->Option (List (Nat×SV))
|[],as,_,acc=>match as with
 |[]=>some acc
 |_::_=>none
|n::ns,as,d,acc=>match as with
 |v::vs=>gG ns vs d (acc++[(n.1,v)])
 |[]=>match Nat.blt (ns.length) d.length with
  |true=>Option.bind (nth d (d.length-1-ns.length)) fun v=>gG ns [] d (acc++[(n.1,v)])
  |false=>none
def iV(p:P):List Nat->List (Nat×SV)->St->List (Nat×Nat)->(List (Nat×Nat)->St->Bool)->Bool
|[],_,st,cl,k=>k cl st
|c::r,bs,st,cl,k=>st.new p (.cel (look c bs)) fun l st=>iV p r bs st ((c,l)::cl) k
def c8(cl:List (Nat×Nat)):List Nat->Option (List (Nat×Nat))
|[]=>some []
|n::r=>match look n cl with
 |some l=>match c8 cl r with
  |some cs=>some ((n,l)::cs)
  |none=>none
 |none=>none
noncomputable def dX:Ke:=fun _ _=>false
def C5(p:P)(ih:Ev)(cx:Cx)(e:E)(n:Nat)(st:St)(k:Kv)(ke:Ke):Bool:=ih.ex cx e st (fun v st=>vX p v n st fun x=>k x st) ke
def Dc(p:P)(ih:Ev)(cx:Cx)(a i:E)(st:St)(k:Kv)(ke:Ke):Bool:=ih.ex cx a st (fun v st=>ih.ex cx i st (fun w st=>tH p v w st k) ke) ke
def IM(p:P)(v w:SV)(st:St)(k:Kv):Bool:=wC w fun n=>match v with
 |.str s=>Nat.ble s.length 10000&&Nat.ble n s.length&&k (.str (s.take n)) st
 |.loc l=>gL p st l fun vs=>Nat.ble vs.length 10000&&st.new p (.lst (vs.take n)) fun l st=>k (.loc l) st
 |_=>false
def Db(p:P)(ih:Ev)(cx:Cx)(a u:E)(st:St)(k:Kv)(ke:Ke):Bool:=ih.ex cx a st (fun v st=>ih.ex cx u st (fun w st=>IM p v w st k) ke) ke
def C6(p:P)(ih:Ev)(cx:Cx)(o:Bo)(a b:E)(st:St)(k:Kv)(ke:Ke):Bool:=ih.ex cx a st (fun v st=>ih.ex cx b st (fun w st=>A1 p o v w st k) ke) ke
noncomputable def LS(v:SV)(st:St)(k:Kv):Bool:=match v with
|.bol b=>k (.bol !b) st
|_=>false
def G7(ih:Ev)(cx:Cx)(e:E)(st:St)(k:Kv)(ke:Ke):Bool:=ih.ex cx e st (fun v st=>LS v st k) ke
def GU(p:P)(o:Cm)(v w:SV)(st:St)(k:Kv):Bool:=qM p o v w st fun r=>k (.bol r) st
def uK(p:P)(ih:Ev)(cx:Cx)(a:E)(os:List Cm)(es:List E)(st:St)(k:Kv)(ke:Ke):Bool:=match os with
|[]=>false
|o::os=>match es with
 |[]=>false
 |b::es=>match os with
  |[]=>match es with
   |[]=>ih.ex cx a st (fun v st=>ih.ex cx b st (fun w st=>GU p o v w st k) ke) ke
   |_::_=>false
  |o'::os=>match os with
   |[]=>match es with
    |[c]=>ih.ex cx a st (fun v st=>ih.ex cx b st (fun w st=>qM p o v w st fun r=>match r with
     |true=>ih.ex cx c st (fun x st=>GU p o' w x st k) ke
     |false=>k (.bol false) st) ke) ke
    |_=>false
   |_::_=>false
noncomputable def C9(ih:Ev)(cx:Cx)(t a b:E)(st:St)(k:Kv)(ke:Ke):Bool:=ih.ts cx t st (fun r st=>match r with
 |true=>ih.ex cx a st k ke
 |false=>ih.ex cx b st k ke) ke
noncomputable def C7(ih:Ev)(cx:Cx)(f:E)(as:List E)(st:St)(k:Kv)(ke:Ke):Bool:=ih.ex cx f st (fun g st=>ih.exs cx as st (fun vs st=>ih.call cx.dp cx.un g vs st k ke) ke) ke
noncomputable def xL(o:SO)(n:Nat):Bool:=match o with
|.lst _=>Nat.beq n 2||Nat.beq n 3||Nat.beq n 4
|.lls _ _ _=>Nat.beq n 2
|.dct _=>Nat.beq n 5
|_=>false
def Fk(p:P)(ih:Ev)(cx:Cx)(n:Nat)(as:List E)(l c d:Nat)(st:St)(k:Kv)(ke:Ke):Bool:=match p.meth.look (c*1024+n) with
|some f=>(gA p st d fun es=>match look n es with
  |none=>true
  |some _=>false)&&ih.exs cx as st (fun vs st=>ih.call cx.dp cx.un (.glo f) (.loc l::vs) st k ke) ke
|none=>vX p (.loc l) n st fun g=>ih.exs cx as st (fun vs st=>ih.call cx.dp cx.un g vs st k ke) ke
def LM(p:P)(ih:Ev)(cx:Cx)(n:Nat)(as:List E)(l:Nat)(o:SO)(st:St)(k:Kv)(ke:Ke):Bool:=match o with
|.ins c d=>Fk p ih cx n as l c d st k ke
|o=>xL o n&&ih.exs cx as st (fun vs st=>Gh p l n vs st k) ke
noncomputable def NF(s:List Nat)(vs:List SV)(st:St)(k:Kv):Bool:=match vs with
|[]=>match s with
 |[c]=>Nat.blt c 128&&k (.bol (Nat.blt 64 c&&Nat.blt c 91)) st
 |_=>false
|_::_=>false
def BO(p:P)(ih:Ev)(cx:Cx)(n:Nat)(as:List E)(v:SV)(st:St)(k:Kv)(ke:Ke):Bool:=match v with
 |.loc l=>bO (st.get p l) fun o=>LM p ih cx n as l o st k ke
 |.str s=>Nat.beq n 6&&ih.exs cx as st (fun vs st=>NF s vs st k) ke
 |_=>false
def Da(p:P)(ih:Ev)(cx:Cx)(o:E)(n:Nat)(as:List E)(st:St)(k:Kv)(ke:Ke):Bool:=ih.ex cx o st (fun v st=>BO p ih cx n as v st k ke) ke
def uL(p:P)(cx:Cx)(j:Nat)(st:St)(k:Kv):Bool:=Nat.blt cx.tb 7&&bO (nth p.lams j) fun l=>bO (c8 cx.cl l.frees) fun cs=>k (.lam j cs) st
def vG:List (Nat×Pos)->List SV->List (Nat×SV)->(List (Nat×SV)->Bool)->Bool
|[],vs,fr,k=>match vs with
 |[]=>k fr
 |_::_=>false
|n::ns,vs,fr,k=>match vs with
 |v::vs=>fc (put n.1 v fr) fun fr=>vG ns vs fr k
 |[]=>false
def tY(t:T)(v:SV)(st:St)(k:St->Bool):Bool:=match t with
|.nm n _=>fc (put n v st.fr) fun fr=>st.wf fr k
|.tp ns _=>match v with
 |.tup vs=>vG ns vs st.fr fun fr=>st.wf fr k
 |_=>false
def Bf(p:P)(ih:Ev)(cx:Cx)(elt:E)(ts:List T)(its:List E)(cs:List (List E))(frees:List Nat)(st:St)(k:Kv)(ke:Ke):Bool:=match its with
 |it::_=>bO (c8 cx.cl frees) fun cl=>nF p ih cx it st (fun src st=>
   st.new p (.lst []) fun l st1=>st1.wf [] fun st=>ih.comp {cx with cl} elt ts its cs src 0 l st (fun st2=>st2.wf st1.fr fun st=>k (.loc l) st)) ke
 |[]=>false
noncomputable def still:SO->Bool
|.dcf _=>false
|_=>true
def fP(st:St):Bool:=st.objs.all still&&st.ov.all fun x=>still x.2
def C3(p:P)(l d:Nat)(kv vv:SV)(st:St)(k:St->Bool):Bool:=match kv with
|.str s=>gD p st d fun e0=>e0.isEmpty&&st.set p d (.dct [(s,vv)]) fun st=>bO (st.get p l) fun o=>match o with
 |.dcf es=>match es with
  |[e]=>st.set p l (.dct [e]) fun st=>fP st&&k st
  |_=>false
 |_=>false
|_=>false
def xV(p:P)(ih:Ev)(cx:Cx)(ek ev:E)(t:T)(l d:Nat)(s:List Nat)(st:St)(k:St->Bool):Bool:=
 tY t (.str s) st fun st=>ih.ex cx ek st (fun kv st=>ih.ex cx ev st (fun vv st=>C3 p l d kv vv st k) dX) dX
def G6(p:P)(ih:Ev)(cx:Cx)(ek ev:E)(t:T)(it:E)(frees:List Nat)(st:St)(k:Kv)(ke:Ke):Bool:=bO (c8 cx.cl frees) fun cl=>ih.ex cx it st (fun v st=>match v with
|.loc l=>gD p st l fun es=>match es with
 |[e]=>fP st&&st.set p l (.dcf [e]) fun st=>st.new p (.dct []) fun d st1=>st1.wf [] fun st=>xV p ih {cx with cl} ek ev t l d e.1 st fun st=>st.wf st1.fr fun st=>k (.loc d) st
 |_=>false
|_=>false) ke
noncomputable def xZ(ih:Ev)(cx:Cx):List E->List E->St->(List (List Nat×SV)->St->Bool)->Ke->Bool
|[],_,st,k,_=>k [] st
|a::ks,vs,st,k,ke=>match vs with
 |[]=>false
 |b::vs=>ih.ex cx a st (fun kv st=>match kv with
  |.str s=>ih.ex cx b st (fun vv st=>xZ ih cx ks vs st (fun r st=>k ((s,vv)::r) st) ke) ke
  |_=>false) ke
def Em:List (List Nat×SV)->Bool
|[]=>true
|a::r=>r.all (fun b=>!jJ a.1 b.1)&&Em r
def C8(p:P)(ih:Ev)(cx:Cx)(ks vs:List E)(st:St)(k:Kv)(ke:Ke):Bool:=xZ ih cx ks vs st (fun es st=>Em es&&st.new p (.dct es) fun l st=>k (.loc l) st) ke
def Ey(n:Nat)(st:St)(k:Kv):Bool:=bO (look n st.fr) fun v=>k v st
def Be(p:P)(n:Nat)(st:St)(k:Kv):Bool:=bO (p.G.look n) fun v=>k v st
def G5(p:P)(cx:Cx)(n:Nat)(st:St)(k:Kv):Bool:=bO (look n cx.cl) fun l=>gC p st l fun o=>bO o fun v=>k v st
def Ez(p:P)(ih:Ev)(cx:Cx)(e:E)(st:St)(k:Kv)(ke:Ke):Bool:=match e with
|.lo n _=>Ey n st k
|.gl n _=>Be p n st k
|.ce n _=>G5 p cx n st k
|.non _=>k .non st
|.bol b _=>k (.bol b) st
|.int i _=>k (.int i) st
|.str s _ _=>k (.str s) st
|.byt s _=>k (.byt s) st
|.tup es _=>ih.exs cx es st (fun vs st=>k (.tup vs) st) ke
|.lst es _=>ih.exs cx es st (fun vs st=>st.new p (.lst vs) fun l st=>k (.loc l) st) ke
|.dct ks vs _=>C8 p ih cx ks vs st k ke
|.att e n _=>C5 p ih cx e n st k ke
|.sub a i _=>Dc p ih cx a i st k ke
|.sli a u _ _=>Db p ih cx a u st k ke
|.bin o a b _=>C6 p ih cx o a b st k ke
|.nt e _=>G7 ih cx e st k ke
|.bop _ _ _=>false
|.cmp a os es _=>uK p ih cx a os es st k ke
|.ife t a b _=>C9 ih cx t a b st k ke
|.cal f as _=>C7 ih cx f as st k ke
|.mca o n as _ _=>Da p ih cx o n as st k ke
|.any _=>false
|.lam j _=>uL p cx j st k
|.lc elt ts its cs frees _ _=>Bf p ih cx elt ts its cs frees st k ke
|.dc ek ev t it frees _ _=>G6 p ih cx ek ev t it frees st k ke
noncomputable def AG(v:SV)(st:St)(k:Bool->St->Bool):Bool:=match v with
 |.bol b=>k b st
 |.ub=>k true st&&k false st
 |.non=>k false st
 |_=>false
noncomputable def DJ(ih:Ev)(cx:Cx)(c:Bool)(es:List E)(q:Pos)(st:St)(k:Bool->St->Bool)(ke:Ke):Bool:=match es with
 |[]=>k c st
 |x::r=>ih.ts cx x st (fun b st=>match c with
  |true=>match b with
   |true=>ih.ts cx (.bop c r q) st k ke
   |false=>k false st
  |false=>match b with
   |false=>ih.ts cx (.bop c r q) st k ke
   |true=>k true st) ke
def F9(p:P)(ih:Ev)(cx:Cx)(e:E)(st:St)(k:Bool->St->Bool)(ke:Ke):Bool:=match e with
|.nt e _=>ih.ts cx e st (fun b st=>k (!b) st) ke
|.bop c es q=>DJ ih cx c es q st k ke
|.cmp a os es _=>uK p ih cx a os es st (fun v st=>AG v st k) ke
|.ife _ _ _ _=>false
|.any _=>false
|.lam _ _=>false
|e=>ih.ex cx e st (fun v st=>AG v st k) ke
def nE(p:P)(n c:Nat):Bool:=bO (p.G.look n) fun v=>match v with
|.glo a=>Nat.beq a c
|_=>false
def jR(p:P)(c:Nat):List H->St->(Fl->St->Bool)->Bool
|[],_,_=>false
|h::r,st,k=>match h with
 |.ret n h e _ _ _=>nE p n h&&(look h p.excs).isSome&&bO (look c p.excs) fun l=>match l.any (Nat.beq h) with
  |true=>match e with
   |.str s _ _=>k (.ret (.str s)) st
   |_=>false
  |false=>jR p c r st k
 |.any _=>false
def kE(p:P)(cl:List (Nat×Nat))(n:Nat)(v:SV)(st:St)(k:St->Bool):Bool:=match look n cl with
 |some l=>gC p st l fun _=>st.set p l (.cel (some v)) k
 |none=>fc (put n v st.fr) fun fr=>st.wf fr k
def mW(p:P)(cl:List (Nat×Nat)):List (Nat×Pos)->List SV->St->(St->Bool)->Bool
 |[],vs,st,k=>match vs with
  |[]=>k st
  |_::_=>false
 |n::ns,vs,st,k=>match vs with
  |v::vs=>kE p cl n.1 v st fun st=>mW p cl ns vs st k
  |[]=>false
def Jg(p:P)(v:SV)(st:St)(f:List SV->Bool):Bool:=match v with
|.tup vs=>f vs
|.loc l=>gL p st l f
|_=>false
def eP(p:P)(cl:List (Nat×Nat))(t:T)(v:SV)(st:St)(k:St->Bool):Bool:=match t with
 |.nm n _=>kE p cl n v st k
 |.tp ns _=>Jg p v st fun vs=>Nat.beq ns.length vs.length&&mW p cl ns vs st k
def l_(p:P)(w j v:SV)(st:St)(k:Fl->St->Bool):Bool:=match w with
 |.loc l=>match j with
   |.str s=>gD p st l fun es=>Nat.ble es.length 900&&fc (i9 s v es) fun es=>st.set p l (.dct es) fun st=>k .nxt st
   |.int x=>match x with
    |.ofNat i=>gL p st l fun vs=>Nat.blt i vs.length&&Nat.ble i 1000&&fc (setN vs i v) fun vs=>st.set p l (.lst vs) fun st=>k .nxt st
    |.negSucc _=>false
   |_=>false
 |_=>false
noncomputable def vJ(vs:List SV):Bool:=match vs with
|[]=>false
|a::r=>match a with
 |.str _=>match r with
  |[]=>true
  |b::r=>match b with
   |.int _=>match r with
    |[]=>true
    |_::_=>false
   |_=>false
 |_=>false
def IS(p:P)(ih:Ev)(cx:Cx)(n c:Nat)(as:List E)(st:St)(ke:Ke):Bool:=nE p n c&&(look c p.excs).isSome&&ih.exs cx as st (fun vs st=>vJ vs&&ke c st) ke
def IP(p:P)(ih:Ev)(cx:Cx)(n:Nat)(o i e:E)(st:St)(k:Fl->St->Bool)(ke:Ke):Bool:=ih.ex cx e st (fun v st=>match v with
 |.tup vs=>match vs with
  |[a,b]=>kE p cx.cl n a st fun st=>ih.ex cx o st (fun w st=>ih.ex cx i st (fun j st=>l_ p w j b st k) ke) ke
  |_=>false
 |_=>false) ke
noncomputable def IQ(ih:Ev)(cx:Cx)(t:E)(a b:List S)(st:St)(k:Fl->St->Bool)(ke:Ke):Bool:=ih.ts cx t st (fun r st=>match r with
 |true=>ih.sts cx a st k ke
 |false=>ih.sts cx b st k ke) ke
def Mr(p:P)(ih:Ev)(cx:Cx)(t:T)(it:E)(body:List S)(st:St)(k:Fl->St->Bool)(ke:Ke):Bool:=nF p ih cx it st (fun src st=>ih.loop cx t body src 0 st k ke) ke
noncomputable def G9(v:SV)(b:Bool):Bool:=match v with
 |.non=>b
 |.str _=>b
 |_=>false
def cT(p:P)(ih:Ev)(cx:Cx)(s:S)(st:St)(k:Fl->St->Bool)(ke:Ke):Bool:=match s with
|.exp e _=>ih.ex cx e st (fun v st=>G9 v (k .nxt st)) ke
|.ret e _=>ih.ex cx e st (fun v st=>k (.ret v) st) ke
|.ret0 _=>k (.ret .non) st
|.asg t e _=>ih.ex cx e st (fun v st=>eP p cx.cl t v st fun st=>k .nxt st) ke
|.asa o n e _ _=>ih.ex cx e st (fun v st=>ih.ex cx o st (fun w st=>Cp p w n v st fun st=>k .nxt st) ke) ke
|.ass o i e _ _=>ih.ex cx e st (fun v st=>ih.ex cx o st (fun w st=>ih.ex cx i st (fun j st=>l_ p w j v st k) ke) ke) ke
|.ife t a b _=>IQ ih cx t a b st k ke
|.fo t it body _=>Mr p ih cx t it body st k ke
|.whi t body _=>ih.whil cx t body st k ke
|.rai n c as _ _ _=>IS p ih cx n c as st ke
|.tr body hs _=>ih.sts cx body st k fun c st=>jR p c hs st k
|.cnt _=>k .cnt st
|.any _=>false
|.asn n _ o i e _ _ _=>IP p ih cx n o i e st k ke
noncomputable def Cg(fl:Fl):SV:=match fl with
|.ret v=>v
|_=>.non
def fG(p:P)(ih:Ev)(dp un:Nat)(g:Fun)(as:List SV)(st:St)(k:Kv)(ke:Ke):Bool:=bO (gG g.params as g.dflts []) fun bs=>fc (bs.filter fun b=>!(g.cells.any (Nat.beq b.1))) fun fr=>st.wf fr fun st0=>iV p g.cells bs st0 [] fun cl st1=>
      ih.sts ⟨cl,dp+1,un+3,g.tb⟩ g.body st1 (fun fl st2=>st2.wf st.fr fun st=>k (Cg fl) st) fun c st2=>st2.wf st.fr fun st=>ke c st
noncomputable def H8(v:SV)(b:Bool):Bool:=match v with
|.non=>b
|_=>false
def oR(p:P)(ih:Ev)(dp un a fi:Nat)(as:List SV)(st:St)(k:Kv):Bool:=st.new p (.adc []) fun d st=>st.new p (.ins a d) fun l st=>
      Nat.blt dp 199&&bO (p.funs.look fi) fun g=>fG p ih (dp+1) (un+4) g (.loc l::as) st (fun v st=>H8 v (k (.loc l) st)) dX
def GR(p:P)(ih:Ev)(a:Nat):Ev:={pK with sts:=fun cx ss st k ke=>match p.bod a cx st k ke with
|some b=>b
|none=>ih.sts cx ss st k ke}
def oQ(p:P)(ih:Ev)(dp un a:Nat)(as:List SV)(st:St)(k:Kv)(ke:Ke):Bool:=match p.funs.look a with
|some g=>fG p (GR p ih a) dp un g as st k ke
|none=>bO (look a p.inits) fun fi=>oR p ih dp un a fi as st k
def oS(p:P)(ih:Ev)(dp un j:Nat)(cs:List (Nat×Nat))(as:List SV)(st:St)(k:Kv)(ke:Ke):Bool:=bO (nth p.lams j) fun l=>cs.all (fun c=>l.frees.any (Nat.beq c.1))&&bO (gG l.params as [] []) fun bs=>
    st.wf bs fun st1=>ih.ex ⟨cs,dp+1,un+3,99⟩ l.body st1 (fun v st2=>st2.wf st.fr fun st=>k v st) fun c st2=>st2.wf st.fr fun st=>ke c st
def Eb(p:P)(ih:Ev)(dp un:Nat)(f:SV)(as:List SV)(st:St)(k:Kv)(ke:Ke):Bool:=Nat.blt dp 200&&Nat.blt un 4000&&match f with
 |.glo a=>oQ p ih dp un a as st k ke
 |.lam j cs=>oS p ih dp un j cs as st k ke
 |.bif f=>A0 p f as st k
 |.typ f=>Jf p f as st k
 |_=>false
def BC(p:P)(l m:Nat)(f:Bool)(fs:List Nat)(st:St)(k:St->Bool):Bool:=bO (st.get p l) fun o=>match o with
   |.lst vs=>match vs with
    |[]=>Nat.ble m 1000000&&st.set p l (.kls m f fs) k
    |_::_=>false
   |.kls n g gs=>Nat.ble (n+m) 1000000&&st.set p l (.kls (n+m) (g||f) (gs++fs)) k
   |_=>false
def uB(p:P)(l:Nat)(x:SV)(st:St)(k:St->Bool):Bool:=gL p st l fun xs=>Nat.ble xs.length 10000&&fc (xs++[x]) fun xs=>st.set p l (.lst xs) k
def uM(elt:E)(ts:List T)(cs:List (List E))(st:St)(b:Bool):Bool:=match elt with
|.lo n _=>match ts with
 |[t]=>match t with
  |.nm m _=>match cs with
   |[c]=>match c with
    |[]=>Nat.beq n m&&(look n st.fr).isNone&&b
    |_::_=>false
   |_=>false
  |_=>false
 |_=>false
|_=>false
def xU(p:P)(ih:Ev)(cx:Cx)(elt:E)(ts':List T)(its':List E)(cs':List (List E))(l:Nat)(it':E)(st:St)(k:St->Bool):Bool:=
  ih.ex cx it' st (fun v st=>match v with
 |.loc i=>bO (st.get p i) fun o=>match o with
  |.kls m f fs=>!(Nat.beq i l)&&uM elt ts' cs' st (BC p l m f fs st k)
  |.lst _=>ih.comp cx elt ts' its' cs' (.lst i) 0 l st k
  |_=>false
 |.tup ws=>ih.comp cx elt ts' its' cs' (.fix ws) 0 l st k
 |_=>false) dX
def lD(p:P)(ih:Ev)(cx:Cx)(elt:E)(ts':List T)(its:List E)(cs':List (List E))(l:Nat)(st:St)(k:St->Bool):Bool:=match its with
|[]=>false
|_::r=>match r with
 |it'::its'=>xU p ih cx elt ts' (it'::its') cs' l it' st k
 |[]=>ih.ex cx elt st (fun x st=>uB p l x st k) dX
def Ei(p:P)(ih:Ev)(cx:Cx)(elt:E)(ts:List T)(its:List E)(cs:List (List E))(src:It)(i l:Nat)(st:St)(k:St->Bool):Bool:=
 sR p src i st fun o=>match o with
 |none=>k st
 |some v=>match ts with
  |[]=>false
  |t::ts'=>match cs with
   |[]=>false
   |c::cs'=>tY t v st fun st=>ih.ts cx (.bop true c ⟨0,0,0,0⟩) st (fun b st=>match b with
    |false=>ih.comp cx elt ts its cs src (i+1) l st k
    |true=>lD p ih cx elt ts' its cs' l st fun st=>ih.comp cx elt ts its cs src (i+1) l st k) dX
def Fh(p:P)(ih:Ev)(cx:Cx)(t:T)(body:List S)(src:It)(i:Nat)(st:St)(k:Fl->St->Bool)(ke:Ke):Bool:=sR p src i st fun o=>match o with
|none=>k .nxt st
|some v=>eP p cx.cl t v st fun st=>ih.sts cx body st (fun fl st=>match fl with
 |.ret x=>k (.ret x) st
 |_=>ih.loop cx t body src (i+1) st k ke) ke
noncomputable def AP(ih:Ev)(cx:Cx)(t:E)(body:List S)(st:St)(k:Fl->St->Bool)(ke:Ke):Bool:=
 ih.ts cx t st (fun b st=>match b with
 |false=>k .nxt st
 |true=>ih.sts cx body st (fun fl st=>match fl with
  |.ret x=>k (.ret x) st
  |_=>ih.whil cx t body st k ke) ke) ke
def DH(p:P)(ih:Ev)(cx:Cx)(ss:List S)(st:St)(k:Fl->St->Bool)(ke:Ke):Bool:=match ss with
|[]=>k .nxt st
|s::r=>cT p ih cx s st (fun fl st=>match fl with
 |.nxt=>ih.sts cx r st k ke
 |fl=>k fl st) ke
noncomputable def yF(ih:Ev)(cx:Cx)(es:List E)(st:St)(k:List SV->St->Bool)(ke:Ke):Bool:=match es with
|[]=>k [] st
|e::r=>ih.ex cx e st (fun v st=>ih.exs cx r st (fun vs st=>k (v::vs) st) ke) ke
def step(p:P)(ih:Ev):Ev:=⟨Ez p ih,yF ih,F9 p ih,DH p ih,Eb p ih,Ei p ih,Fh p ih,AP ih⟩
def ev(p:P):Nat->Ev
|0=>pK
|n+1=>step p (ev p n)
end
section
noncomputable def p(a b c:Nat):Pos:=⟨a,b,a,c⟩
abbrev aQ(t:T)(e:E)(u v w:Nat):S:=.asg t e (p u v w)
abbrev bA(e:E)(n:Nat)(u v w:Nat):E:=.att e n (p u v w)
abbrev aR(o:Bo)(x:E)(y:E)(u v w:Nat):E:=.bin o x y (p u v w)
abbrev aX(b:Bool)(u v w:Nat):E:=.bol b (p u v w)
abbrev bW(d:Bool)(x:List E)(u v w:Nat):E:=.bop d x (p u v w)
abbrev aH(f:E)(x:List E)(u v w:Nat):E:=.cal f x (p u v w)
abbrev aW(n:Nat)(u v w:Nat):E:=.ce n (p u v w)
abbrev aJ(e:E)(o:List Cm)(x:List E)(u v w:Nat):E:=.cmp e o x (p u v w)
abbrev bF(e:E)(u v w:Nat):S:=.exp e (p u v w)
abbrev aK(n:Nat)(u v w:Nat):E:=.gl n (p u v w)
abbrev aC(i:Int)(u v w:Nat):E:=.int i (p u v w)
abbrev aA(n:Nat)(u v w:Nat):E:=.lo n (p u v w)
abbrev aS(x:List E)(u v w:Nat):E:=.lst x (p u v w)
abbrev aO(o:E)(n:Nat)(x:List E)(q:Pos)(u v w:Nat):E:=.mca o n x q (p u v w)
abbrev aV(n:Nat)(u v w:Nat):T:=.nm n (p u v w)
abbrev bG(u v w:Nat):E:=.non (p u v w)
abbrev aM(e:E)(u v w:Nat):S:=.ret e (p u v w)
abbrev aB(s:List Nat)(l:String)(u v w:Nat):E:=.str s l (p u v w)
abbrev aI(e:E)(i:E)(u v w:Nat):E:=.sub e i (p u v w)
abbrev cH(n:List (Nat×Pos))(u v w:Nat):T:=.tp n (p u v w)
abbrev aD(x:List E)(u v w:Nat):E:=.tup x (p u v w)
noncomputable abbrev aL:NameKind:=.globalImplicit
noncomputable abbrev aE:NameKind:=.local
noncomputable abbrev a_(l:List (Str×NameKind)):Scope:=⟨.function,l,false,false,[]⟩
def f36:Fun:=
 ⟨[(47,p 7 17 21),(219,p 7 23 30),(35,p 7 32 36)],[.int 0],[aC 0 7 37 38],[],
 [bF (aO (aK 220 8 8 17) 221 [aA 47 8 27 31,aA 219 8 33 40] (p 8 8 26) 8 8 41) 8 8 41,.asa (aA 47 9 8 12) 219 (aA 219 9 23 30) (p 9 8 20) (p 9 8 30),.asa (aA 47 10 8 12) 35 (aA 35 10 20 24) (p 10 8 17) (p 10 8 24)],99,(a_ [("self",aE),("message",aE),("spot",aE),("Exception",aL)])⟩
def J4:Fun:=
 ⟨[(7,p 30 16 22),(8,p 30 24 28)],[],[],[],
 [.ife (aJ (aA 8 31 7 11) [.is] [bG 31 15 19] 31 7 19) [aM (aJ (aR .sub (aC 0 32 15 16) (aR .pow (aC 2 32 19 20) (aK 9 32 24 33) 32 19 33) 32 15 33) [.lt,.lt] [aA 7 32 36 42,aR .pow (aC 2 32 45 46) (aK 9 32 50 59) 32 45 59] 32 15 59) 32 8 59] [] ⟨31,4,32,59⟩,aQ (cH [(10,p 33 4 7),(11,p 33 9 13)] 33 4 13) (aH (aK 12 33 16 25) [aA 8 33 26 30] 33 16 31) 33 4 31,aM (aJ (aA 10 34 11 14) [.le,.le] [aA 7 34 18 24,aA 11 34 28 32] 34 11 32) 34 4 32],99,(a_ [("number",aE),("kind",aE),("low",aE),("high",aE),("MOST_BITS",aL),("int_range",aL)])⟩
def J6:Fun:=
 ⟨[(7,p 35 17 23),(8,p 35 25 29)],[],[],[],
 [.ife (.nt (aH (aK 13 36 11 22) [aA 7 36 23 29,aA 8 36 31 35] 36 11 36) (p 36 7 36)) [.rai 210 76 [aR .add (aB [97,32,99,111,110,115,116,97,110,116,32,105,115,32,116,111,111,32,103,114,101,97,116,32,102,111,114,32] "a constant is too great for " 37 25 55) (.ife (aJ (aA 8 37 75 79) [.is] [bG 37 83 87] 37 75 87) (aB [97,32,99,111,110,115,116,97,110,116] "a constant" 37 59 71) (aA 8 37 93 97) (p 37 59 97)) 37 25 98] (p 37 14 24) (p 37 14 99) (p 37 8 99)] [] ⟨36,4,37,99⟩,aM (aA 7 38 11 17) 38 4 17],99,(a_ [("number",aE),("kind",aE),("is_in_range",aL),("ConstFault",aL)])⟩
def J7:Fun:=
 ⟨[(14,p 52 16 18),(15,p 52 20 25),(8,p 52 27 31)],[.non],[bG 52 32 36],[],
 [.ife (bW true [aJ (aA 14 53 7 9) [.eq] [aB [33] "!" 53 13 16] 53 7 16,aH (aK 16 53 21 31) [aA 15 53 32 37,aK 17 53 39 43] 53 21 44] 53 7 44) [aM (.nt (aA 15 54 19 24) (p 54 15 24)) 54 8 24] [] ⟨53,4,54,24⟩,.ife (bW false [aH (aK 16 55 7 17) [aA 15 55 18 23,aK 17 55 25 29] 55 7 30,.nt (aH (aK 16 55 38 48) [aA 15 55 49 54,aK 18 55 56 59] 55 38 60) (p 55 34 60),aJ (aA 14 55 64 66) [.nin] [aD [aB [43] "+" 55 75 78,aB [45] "-" 55 80 83,aB [94] "^" 55 85 88] 55 74 89] 55 64 89] 55 7 89) [.rai 210 76 [aR .add (aR .add (aB [116,104,101,32,111,112,101,114,97,116,111,114,32] "the operator " 56 25 40) (aA 14 56 43 45) 56 25 45) (aB [32,105,115,32,110,111,110,101,32,111,102,32,116,104,105,115,32,99,111,110,115,116,97,110,116] " is none of this constant" 56 48 75) 56 25 75] (p 56 14 24) (p 56 14 76) (p 56 8 76)] [] ⟨55,4,56,76⟩,.ife (aJ (aA 14 57 7 9) [.eq] [aB [43] "+" 57 13 16] 57 7 16) [aM (aH (aK 19 58 15 27) [aA 15 58 28 33,aA 8 58 35 39] 58 15 40) 58 8 40] [] ⟨57,4,58,40⟩,.ife (aJ (aA 14 59 7 9) [.eq] [aB [45] "-" 59 13 16] 59 7 16) [aM (aH (aK 19 60 15 27) [aR .sub (aC 0 60 28 29) (aA 15 60 32 37) 60 28 37,aA 8 60 39 43] 60 15 44) 60 8 44] [] ⟨59,4,60,44⟩,.ife (bW true [aJ (aA 8 61 7 11) [.isn] [bG 61 19 23] 61 7 23,aH (aK 20 61 28 39) [aA 8 61 40 44] 61 28 45] 61 7 45) [aM (aR .sub (aI (aH (aK 12 62 15 24) [aA 8 62 25 29] 62 15 30) (aC 1 62 31 32) 62 15 33) (aA 15 62 36 41) 62 15 41) 62 8 41] [] ⟨61,4,62,41⟩,aM (aH (aK 19 63 11 23) [aR .sub (.any (.UnaryOp .USub (.Constant (.int 1) 0 (p 63 25 26)) (p 63 24 26))) (aA 15 63 29 34) 63 24 34,aA 8 63 36 40] 63 11 41) 63 4 41],99,(a_ [("op",aE),("value",aE),("kind",aE),("isinstance",aL),("bool",aL),("int",aL),("ConstFault",aL),("within_range",aL),("is_unsigned",aL),("int_range",aL)])⟩
def J8:Fun:=
 ⟨[(14,p 77 15 17),(21,p 77 19 20),(22,p 77 22 23)],[],[],[],
 [.ife (aJ (aA 14 78 7 9) [.eq] [aB [43] "+" 78 13 16] 78 7 16) [aM (aR .add (aA 21 79 15 16) (aA 22 79 19 20) 79 15 20) 79 8 20] [] ⟨78,4,79,20⟩,.ife (aJ (aA 14 80 7 9) [.eq] [aB [45] "-" 80 13 16] 80 7 16) [aM (aR .sub (aA 21 81 15 16) (aA 22 81 19 20) 81 15 20) 81 8 20] [] ⟨80,4,81,20⟩,.ife (aJ (aA 14 82 7 9) [.eq] [aB [42] "*" 82 13 16] 82 7 16) [aM (aR .mul (aA 21 83 15 16) (aA 22 83 19 20) 83 15 20) 83 8 20] [] ⟨82,4,83,20⟩,.ife (aJ (aA 14 84 7 9) [.eq] [aB [47] "/" 84 13 16] 84 7 16) [aM (aH (aK 23 85 15 29) [aA 21 85 30 31,aA 22 85 33 34] 85 15 35) 85 8 35] [] ⟨84,4,85,35⟩,.ife (aJ (aA 14 86 7 9) [.eq] [aB [37] "%" 86 13 16] 86 7 16) [aM (aR .sub (aA 21 87 15 16) (aR .mul (aA 22 87 19 20) (aH (aK 23 87 23 37) [aA 21 87 38 39,aA 22 87 41 42] 87 23 43) 87 19 43) 87 15 43) 87 8 43] [] ⟨86,4,87,43⟩,.ife (aJ (aA 14 88 7 9) [.eq] [aB [38] "&" 88 13 16] 88 7 16) [aM (.any (.BinOp (.Name "a" (p 89 15 16)) .BitAnd (.Name "b" (p 89 19 20)) (p 89 15 20))) 89 8 20] [] ⟨88,4,89,20⟩,.ife (aJ (aA 14 90 7 9) [.eq] [aB [124] "|" 90 13 16] 90 7 16) [aM (.any (.BinOp (.Name "a" (p 91 15 16)) .BitOr (.Name "b" (p 91 19 20)) (p 91 15 20))) 91 8 20] [] ⟨90,4,91,20⟩,.ife (aJ (aA 14 92 7 9) [.eq] [aB [94] "^" 92 13 16] 92 7 16) [aM (.any (.BinOp (.Name "a" (p 93 15 16)) .BitXor (.Name "b" (p 93 19 20)) (p 93 15 20))) 93 8 20] [] ⟨92,4,93,20⟩,.ife (aJ (aA 14 94 7 9) [.eq] [aB [38,94] "&^" 94 13 17] 94 7 17) [aM (.any (.BinOp (.Name "a" (p 95 15 16)) .BitAnd (.BinOp (.UnaryOp .USub (.Constant (.int 1) 0 (p 95 20 21)) (p 95 19 21)) .Sub (.Name "b" (p 95 24 25)) (p 95 19 25)) (p 95 15 25))) 95 8 25] [] ⟨94,4,95,25⟩,.rai 210 76 [aR .add (aR .add (aB [116,104,101,32,111,112,101,114,97,116,111,114,32] "the operator " 96 21 36) (aA 14 96 39 41) 96 21 41) (aB [32,105,115,32,110,111,110,101,32,111,102,32,119,104,111,108,101,32,110,117,109,98,101,114,115] " is none of whole numbers" 96 44 71) 96 21 71] (p 96 10 20) (p 96 10 72) (p 96 4 72)],99,(a_ [("op",aE),("a",aE),("b",aE),("const_quotient",aL),("ConstFault",aL)])⟩
def J9:Fun:=
 ⟨[(15,p 109 18 23)],[],[],[],
 [.ife (aH (aK 16 110 7 17) [aA 15 110 18 23,aK 17 110 25 29] 110 7 30) [aM (aB [98,111,111,108] "bool" 111 15 21) 111 8 21] [] ⟨110,4,111,21⟩,aM (.ife (aH (aK 16 112 23 33) [aA 15 112 34 39,aK 24 112 41 46] 112 23 47) (aB [115,116,114,105,110,103] "string" 112 11 19) (aB [105,110,116] "int" 112 53 58) (p 112 11 58)) 112 4 58],99,(a_ [("value",aE),("isinstance",aL),("bool",aL),("bytes",aL)])⟩
def Ka:Fun:=
 ⟨[(14,p 113 17 19),(21,p 113 21 22),(22,p 113 24 25),(8,p 113 27 31)],[.non],[bG 113 32 36],[],
 [aQ (aV 25 114 4 8) (aH (aK 26 114 11 24) [aA 21 114 25 26] 114 11 27) 114 4 27,.ife (aJ (aA 25 115 7 11) [.ne] [aH (aK 26 115 15 28) [aA 22 115 29 30] 115 15 31] 115 7 31) [.rai 210 76 [aR .add (aB [99,111,110,115,116,97,110,116,115,32,111,102,32,117,110,108,105,107,101,32,115,111,114,116,115,32,98,101,115,105,100,101,32] "constants of unlike sorts beside " 116 25 60) (aA 14 116 63 65) 116 25 65] (p 116 14 24) (p 116 14 66) (p 116 8 66)] [] ⟨115,4,116,66⟩,.ife (aJ (aA 14 117 7 9) [.inn] [aK 27 117 13 24] 117 7 24) [aM (aH (aK 28 118 15 29) [aA 14 118 30 32,aA 21 118 34 35,aA 22 118 37 38] 118 15 39) 118 8 39] [] ⟨117,4,118,39⟩,.ife (bW true [aJ (aA 25 119 7 11) [.eq] [aB [98,111,111,108] "bool" 119 15 21] 119 7 21,aJ (aA 14 119 26 28) [.inn] [aD [aB [38,38] "&&" 119 33 37,aB [124,124] "||" 119 39 43] 119 32 44] 119 26 44] 119 7 44) [aM (.ife (aJ (aA 14 120 26 28) [.eq] [aB [38,38] "&&" 120 32 36] 120 26 36) (bW true [aA 21 120 15 16,aA 22 120 21 22] 120 15 22) (bW false [aA 21 120 42 43,aA 22 120 47 48] 120 42 48) (p 120 15 48)) 120 8 48] [] ⟨119,4,120,48⟩,.ife (bW true [aJ (aA 25 121 7 11) [.eq] [aB [115,116,114,105,110,103] "string" 121 15 23] 121 7 23,aJ (aA 14 121 28 30) [.eq] [aB [43] "+" 121 34 37] 121 28 37] 121 7 37) [aM (aR .add (aA 21 122 15 16) (aA 22 122 19 20) 122 15 20) 122 8 20] [] ⟨121,4,122,20⟩,.ife (aJ (aA 25 123 7 11) [.ne] [aB [105,110,116] "int" 123 15 20] 123 7 20) [.rai 210 76 [aR .add (aR .add (aB [116,104,101,32,111,112,101,114,97,116,111,114,32] "the operator " 124 25 40) (aA 14 124 43 45) 124 25 45) (aB [32,105,115,32,110,111,110,101,32,111,102,32,116,104,101,115,101,32,99,111,110,115,116,97,110,116,115] " is none of these constants" 124 48 77) 124 25 77] (p 124 14 24) (p 124 14 78) (p 124 8 78)] [] ⟨123,4,124,78⟩,.ife (aJ (aA 14 125 7 9) [.inn] [aD [aB [60,60] "<<" 125 14 18,aB [62,62] ">>" 125 20 24] 125 13 25] 125 7 25) [aM (aH (aK 29 126 15 26) [aA 14 126 27 29,aA 21 126 31 32,aA 22 126 34 35,aA 8 126 37 41] 126 15 42) 126 8 42] [] ⟨125,4,126,42⟩,aM (aH (aK 19 127 11 23) [aH (aK 30 127 24 34) [aA 14 127 35 37,aA 21 127 39 40,aA 22 127 42 43] 127 24 44,aA 8 127 46 50] 127 11 51) 127 4 51],99,(a_ [("op",aE),("a",aE),("b",aE),("kind",aE),("sort",aE),("sort_of_const",aL),("ConstFault",aL),("COMPARISONS",aL),("const_compared",aL),("const_shift",aL),("within_range",aL),("int_binary",aL)])⟩
def Kc:Fun:=
 ⟨[(31,p 141 15 20),(32,p 141 22 27),(33,p 141 29 36),(34,p 141 38 42),(35,p 141 44 48),(36,p 141 50 59)],[.bol true],[aX true 141 60 64],[],
 [.ife (aJ (aA 33 142 7 14) [.is] [bG 142 18 22] 142 7 22) [aQ (aV 37 143 8 13) (aO (aA 31 143 16 21) 38 [aO (aA 32 143 30 35) 39 [aA 34 143 41 45] (p 143 30 40) 143 30 46] (p 143 16 29) 143 16 47) 143 8 47] [aQ (aV 40 145 8 14) (aO (aA 32 145 17 22) 39 [aA 33 145 28 35] (p 145 17 27) 145 17 36) 145 8 36,aQ (aV 37 146 8 13) (bG 146 16 20) 146 8 20,.ife (bW true [aJ (aA 40 147 11 17) [.isn] [bG 147 25 29] 147 11 29,aJ (aI (aA 40 147 34 40) (aC 0 147 41 42) 147 34 43) [.eq] [aB [112,97,99,107,97,103,101] "package" 147 47 56] 147 34 56] 147 11 56) [aQ (aV 37 148 12 17) (aH (aK 41 148 20 34) [aA 31 148 35 40,aI (aA 40 148 42 48) (aC 1 148 49 50) 148 42 51,aA 34 148 53 57,aA 35 148 59 63,aA 36 148 65 74] 148 20 75) 148 12 75] [] ⟨147,8,148,75⟩] ⟨142,4,148,75⟩,.ife (bW true [aJ (aA 37 149 7 12) [.isn] [bG 149 20 24] 149 7 24,aJ (aI (aA 37 149 29 34) (aC 0 149 35 36) 149 29 37) [.eq] [aB [116,121,112,101] "type" 149 41 47] 149 29 47] 149 7 47) [aM (aI (aA 37 150 15 20) (aC 1 150 21 22) 150 15 23) 150 8 23] [] ⟨149,4,150,23⟩,.ife (.nt (aA 36 151 11 20) (p 151 7 20)) [aM (bG 152 15 19) 152 8 19] [] ⟨151,4,152,19⟩,.ife (aJ (aA 37 153 7 12) [.is] [bG 153 16 20] 153 7 20) [.rai 208 52 [aR .add (aB [116,104,101,114,101,32,105,115,32,110,111,32,116,121,112,101,32] "there is no type " 154 24 43) (aA 34 154 46 50) 154 24 50,aA 35 154 52 56] (p 154 14 23) (p 154 14 57) (p 154 8 57)] [] ⟨153,4,154,57⟩,.rai 209 64 [aR .add (aA 34 155 20 24) (aB [32,105,115,32,110,111,32,116,121,112,101] " is no type" 155 27 40) 155 20 40,aA 35 155 42 46] (p 155 10 19) (p 155 10 47) (p 155 4 47)],99,(a_ [("world",aE),("scope",aE),("package",aE),("name",aE),("spot",aE),("is_wanted",aE),("entry",aE),("around",aE),("exported_entry",aL),("NameFault",aL),("TypeFault",aL)])⟩
def Kd:Fun:=
 ⟨[(31,p 156 19 24),(42,p 156 26 30),(34,p 156 32 36),(35,p 156 38 42),(36,p 156 44 53)],[.bol true],[aX true 156 54 58],[],
 [.ife (aJ (aA 42 157 7 11) [.eq] [aB [114,117,110,116,105,109,101] "runtime" 157 15 24] 157 7 24) [aM (bG 158 15 19) 158 8 19] [] ⟨157,4,158,19⟩,.ife (aJ (aA 42 159 7 11) [.eq] [aB [115,121,110,99] "sync" 159 15 21] 159 7 21) [aM (.ife (aJ (aA 34 160 54 58) [.inn] [aK 43 160 62 72] 160 54 72) (aD [aB [116,121,112,101] "type" 160 16 22,aD [aB [110,97,109,101,100] "named" 160 25 32,aR .add (aB [115,121,110,99,46] "sync." 160 34 41) (aA 34 160 44 48) 160 34 48] 160 24 49] 160 15 50) (bG 160 78 82) (p 160 15 82)) 160 8 82] [] ⟨159,4,160,82⟩,.ife (bW true [.nt (aA 36 161 11 20) (p 161 7 20),aJ (aO (bA (aA 31 161 25 30) 44 161 25 39) 39 [aA 42 161 45 49,aA 34 161 51 55] (p 161 25 44) 161 25 56) [.ne] [aB [116,121,112,101] "type" 161 60 66] 161 25 66] 161 7 66) [aM (bG 162 15 19) 162 8 19] [] ⟨161,4,162,19⟩,bF (aO (bA (aA 31 163 4 9) 44 163 4 18) 45 [aA 42 163 33 37,aA 34 163 39 43,aA 35 163 45 49] (p 163 4 32) 163 4 50) 163 4 50,aM (aO (aA 31 164 11 16) 38 [aO (aI (bA (aA 31 164 25 30) 46 164 25 37) (aA 42 164 38 42) 164 25 43) 39 [aA 34 164 49 53] (p 164 25 48) 164 25 54] (p 164 11 24) 164 11 55) 164 4 55],99,(a_ [("world",aE),("path",aE),("name",aE),("spot",aE),("is_wanted",aE),("SYNC_TYPES",aL)])⟩
def Kg:Fun:=
 ⟨[(47,p 167 17 21),(31,p 167 23 28),(32,p 167 30 35),(48,p 167 37 49)],[],[],[],
 [.asa (aA 47 168 8 12) 31 (aA 31 168 21 26) (p 168 8 18) (p 168 8 26),.asa (aA 47 169 8 12) 32 (aA 32 169 21 26) (p 169 8 18) (p 169 8 26),.asa (aA 47 170 8 12) 48 (aA 48 170 28 40) (p 170 8 25) (p 170 8 40)],99,(a_ [("self",aE),("world",aE),("scope",aE),("const_reader",aE)])⟩
def f230:Fun:=
 ⟨[(47,p 172 13 17),(49,p 172 19 24)],[],[],[],
 [aQ (cH [(8,p 173 8 12),(35,p 173 14 18)] 173 8 18) (aD [aI (aA 49 173 22 27) (aC 0 173 28 29) 173 22 30,aI (aA 49 173 32 37) (aC 1 173 38 39) 173 32 40] 173 21 41) 173 8 41,.ife (aJ (aA 8 174 11 15) [.eq] [aB [110,97,109,101] "name" 174 19 25] 174 11 25) [aM (aH (aK 50 175 19 29) [bA (aA 47 175 30 34) 31 175 30 40,bA (aA 47 175 42 46) 32 175 42 52,aI (aA 49 175 54 59) (aC 2 175 60 61) 175 54 62,aI (aA 49 175 64 69) (aC 3 175 70 71) 175 64 72,aA 35 175 74 78] 175 19 79) 175 12 79] [] ⟨174,8,175,79⟩,.ife (aJ (aA 8 176 11 15) [.inn] [aD [aB [112,116,114] "ptr" 176 20 25,aB [115,108,105,99,101] "slice" 176 27 34] 176 19 35] 176 11 35) [aM (aD [aA 8 177 20 24,aO (aA 47 177 26 30) 51 [aI (aA 49 177 36 41) (aC 2 177 42 43) 177 36 44] (p 177 26 35) 177 26 45] 177 19 46) 177 12 46] [] ⟨176,8,177,46⟩,.ife (aJ (aA 8 178 11 15) [.eq] [aB [97,114,114,97,121] "array" 178 19 26] 178 11 26) [aM (aD [aB [97,114,114,97,121] "array" 179 20 27,aO (aA 47 179 29 33) 52 [aI (aA 49 179 41 46) (aC 2 179 47 48) 179 41 49] (p 179 29 40) 179 29 50,aO (aA 47 179 52 56) 51 [aI (aA 49 179 62 67) (aC 3 179 68 69) 179 62 70] (p 179 52 61) 179 52 71] 179 19 72) 179 12 72] [] ⟨178,8,179,72⟩,.ife (aJ (aA 8 180 11 15) [.eq] [aB [109,97,112] "map" 180 19 24] 180 11 24) [aM (aD [aB [109,97,112] "map" 181 20 25,aO (aA 47 181 27 31) 53 [aI (aA 49 181 36 41) (aC 2 181 42 43) 181 36 44] (p 181 27 35) 181 27 45,aO (aA 47 181 47 51) 51 [aI (aA 49 181 57 62) (aC 3 181 63 64) 181 57 65] (p 181 47 56) 181 47 66] 181 19 67) 181 12 67] [] ⟨180,8,181,67⟩,.ife (aJ (aA 8 182 11 15) [.eq] [aB [99,104,97,110] "chan" 182 19 25] 182 11 25) [aM (aD [aB [99,104,97,110] "chan" 183 20 26,aI (aA 49 183 28 33) (aC 2 183 34 35) 183 28 36,aO (aA 47 183 38 42) 51 [aI (aA 49 183 48 53) (aC 3 183 54 55) 183 48 56] (p 183 38 47) 183 38 57] 183 19 58) 183 12 58] [] ⟨182,8,183,58⟩,.ife (aJ (aA 8 184 11 15) [.eq] [aB [102,117,110,99] "func" 184 19 25] 184 11 25) [aM (aD [aB [102,117,110,99] "func" 185 20 26,aO (aA 47 185 28 32) 54 [aI (aA 49 185 37 42) (aC 2 185 43 44) 185 37 45] (p 185 28 36) 185 28 46,aO (aA 47 185 48 52) 54 [aI (aA 49 185 57 62) (aC 3 185 63 64) 185 57 65] (p 185 48 56) 185 48 66,aI (aA 49 185 68 73) (aC 4 185 74 75) 185 68 76] 185 19 77) 185 12 77] [] ⟨184,8,185,77⟩,.ife (aJ (aA 8 186 11 15) [.eq] [aB [115,116,114,117,99,116] "struct" 186 19 27] 186 11 27) [aM (aO (aA 47 187 19 23) 55 [aA 49 187 31 36] (p 187 19 30) 187 19 37) 187 12 37] [] ⟨186,8,187,37⟩,aM (aO (aA 47 188 15 19) 56 [aA 49 188 30 35] (p 188 15 29) 188 15 36) 188 8 36],99,(a_ [("self",aE),("typex",aE),("kind",aE),("spot",aE),("type_entry",aL)])⟩
def Kh:Fun:=
 ⟨[(47,p 190 12 16),(57,p 190 18 25)],[],[],[47],
 [aM (aH (aK 58 191 15 20) [.lc (aO (aW 47 191 22 26) 51 [aA 59 191 32 35] (p 191 22 31) 191 22 36) [aV 59 191 41 44] [aA 57 191 48 55] [[]] [47] (a_ [(".0",aE),("one",aE),("self",.free)]) (p 191 21 56)] 191 15 57) 191 8 57],99,⟨.function,[("self",.cell),("typexes",aE),("tuple",aL)],false,false,[("fast",.str "self"),("fast",.str "typexes"),("fast",.str "one")]⟩⟩
def Ki:Fun:=
 ⟨[(47,p 193 15 19),(60,p 193 21 25)],[],[],[],
 [aQ (cH [(61,p 194 8 12),(15,p 194 14 19)] 194 8 19) (aO (aA 47 194 22 26) 48 [aA 60 194 40 44] (p 194 22 39) 194 22 45) 194 8 45,.ife (bW false [aH (aK 16 195 11 21) [aA 15 195 22 27,aK 17 195 29 33] 195 11 34,.nt (aH (aK 16 195 42 52) [aA 15 195 53 58,aK 18 195 60 63] 195 42 64) (p 195 38 64),.nt (aJ (aC 0 195 73 74) [.le,.le] [aA 15 195 78 83,aK 62 195 87 98] 195 73 98) (p 195 69 98)] 195 11 99) [.rai 209 64 [aB [110,111,32,108,101,110,103,116,104,32,111,102,32,97,110,32,97,114,114,97,121] "no length of an array" 196 28 51,aI (aA 60 196 53 57) (aC 1 196 58 59) 196 53 60] (p 196 18 27) (p 196 18 61) (p 196 12 61)] [] ⟨195,8,196,61⟩,aM (aA 15 197 15 20) 197 8 20],99,(a_ [("self",aE),("expr",aE),("told",aE),("value",aE),("isinstance",aL),("bool",aL),("int",aL),("MOST_LENGTH",aL),("TypeFault",aL)])⟩
def Kj:Fun:=
 ⟨[(47,p 199 12 16),(49,p 199 18 23)],[],[],[],
 [aQ (aV 61 200 8 12) (aO (aA 47 200 15 19) 51 [aA 49 200 25 30] (p 200 15 24) 200 15 31) 200 8 31,bF (aO (bA (bA (aA 47 201 8 12) 31 201 8 18) 63 201 8 28) 2 [aD [aA 61 201 37 41,aI (aA 49 201 43 48) (aC 1 201 49 50) 201 43 51] 201 36 52] (p 201 8 35) 201 8 53) 201 8 53,aM (aA 61 202 15 19) 202 8 19],99,(a_ [("self",aE),("typex",aE),("told",aE)])⟩
def Kk:Fun:=
 ⟨[(47,p 204 15 19),(49,p 204 21 26)],[],[],[],
 [aQ (cH [(64,p 205 8 12),(65,p 205 14 19)] 205 8 19) (aD [aS [] 205 23 25,aS [] 205 27 29] 205 22 30) 205 8 30,.fo (cH [(34,p 206 12 16),(66,p 206 18 23),(67,p 206 25 36)] 206 12 36) (aI (aA 49 206 40 45) (aC 2 206 46 47) 206 40 48) [.ife (bW true [aJ (aA 34 207 15 19) [.ne] [aB [95] "_" 207 23 26] 207 15 26,aJ (aA 34 207 31 35) [.inn] [aA 65 207 39 44] 207 31 44] 207 15 44) [.rai 208 52 [aR .add (aR .add (aB [116,104,101,32,102,105,101,108,100,32] "the field " 208 32 44) (aA 34 208 47 51) 208 32 51) (aB [32,105,115,32,116,111,108,100,32,116,119,105,99,101] " is told twice" 208 54 70) 208 32 70,aI (aA 49 208 72 77) (aC 1 208 78 79) 208 72 80] (p 208 22 31) (p 208 22 81) (p 208 16 81)] [] ⟨207,12,208,81⟩,aQ (aV 61 209 12 16) (aO (aA 47 209 19 23) 51 [aA 66 209 29 34] (p 209 19 28) 209 19 35) 209 12 35,.ife (bW true [aA 67 210 15 26,aJ (aI (aA 61 210 31 35) (aC 0 210 36 37) 210 31 38) [.eq] [aB [112,116,114] "ptr" 210 42 47] 210 31 47,aJ (aI (aI (aA 61 210 53 57) (aC 1 210 58 59) 210 53 60) (aC 0 210 61 62) 210 53 63) [.ne] [aB [110,97,109,101,100] "named" 210 67 74] 210 53 74] 210 15 75) [.rai 209 64 [aB [110,111,32,116,121,112,101,32,116,111,32,98,101,32,101,109,98,101,100,100,101,100] "no type to be embedded" 211 32 56,aI (aA 66 211 58 63) (aC 1 211 64 65) 211 58 66] (p 211 22 31) (p 211 22 67) (p 211 16 67)] [] ⟨210,12,211,67⟩,bF (aO (aA 65 212 12 17) 2 [aA 34 212 25 29] (p 212 12 24) 212 12 30) 212 12 30,bF (aO (aA 64 213 12 16) 2 [aD [aA 34 213 25 29,aA 61 213 31 35,aA 67 213 37 48] 213 24 49] (p 213 12 23) 213 12 50) 213 12 50] ⟨206,8,213,50⟩,aM (aD [aB [115,116,114,117,99,116] "struct" 214 16 24,aH (aK 58 214 26 31) [aA 64 214 32 36] 214 26 37] 214 15 38) 214 8 38],99,(a_ [("self",aE),("typex",aE),("rows",aE),("names",aE),("name",aE),("inner",aE),("is_embedded",aE),("told",aE),("NameFault",aL),("TypeFault",aL),("tuple",aL)])⟩
def Kl:Fun:=
 ⟨[(47,p 216 18 22),(49,p 216 24 29)],[],[],[68],
 [aQ (aV 68 217 8 13) (.dct [] [] (p 217 16 18)) 217 8 18,.fo (cH [(34,p 218 12 16),(66,p 218 18 23)] 218 12 23) (aI (aA 49 218 27 32) (aC 2 218 33 34) 218 27 35) [.ife (aJ (aA 34 219 15 19) [.inn] [aW 68 219 23 28] 219 15 28) [.rai 208 52 [aR .add (aR .add (aB [116,104,101,32,109,101,116,104,111,100,32] "the method " 220 32 45) (aA 34 220 48 52) 220 32 52) (aB [32,105,115,32,116,111,108,100,32,116,119,105,99,101] " is told twice" 220 55 71) 220 32 71,aI (aA 49 220 73 78) (aC 1 220 79 80) 220 73 81] (p 220 22 31) (p 220 22 82) (p 220 16 82)] [] ⟨219,12,220,82⟩,.ass (aW 68 221 12 17) (aA 34 221 18 22) (aO (aA 47 221 26 30) 51 [aA 66 221 36 41] (p 221 26 35) 221 26 42) (p 221 12 23) (p 221 12 42)] ⟨218,8,221,42⟩,.fo (aV 66 222 12 17) (aI (aA 49 222 21 26) (aC 3 222 27 28) 222 21 29) [aQ (aV 69 223 12 16) (aO (bA (aA 47 223 19 23) 31 223 19 29) 70 [aO (aA 47 223 38 42) 51 [aA 66 223 48 53] (p 223 38 47) 223 38 54] (p 223 19 37) 223 19 55) 223 12 55,.ife (aJ (aI (aA 69 224 15 19) (aC 0 224 20 21) 224 15 22) [.ne] [aB [105,110,116,101,114,102,97,99,101] "interface" 224 26 37] 224 15 37) [.rai 209 64 [aB [110,111,32,105,110,116,101,114,102,97,99,101,32,116,111,32,98,101,32,101,109,98,101,100,100,101,100] "no interface to be embedded" 225 32 61,aI (aA 66 225 63 68) (aC 1 225 69 70) 225 63 71] (p 225 22 31) (p 225 22 72) (p 225 16 72)] [] ⟨224,12,225,72⟩,.fo (cH [(34,p 226 16 20),(61,p 226 22 26)] 226 16 26) (aI (aA 69 226 30 34) (aC 1 226 35 36) 226 30 37) [.ife (aJ (aO (aW 68 227 19 24) 5 [aA 34 227 29 33,aA 61 227 35 39] (p 227 19 28) 227 19 40) [.ne] [aA 61 227 44 48] 227 19 48) [.rai 208 52 [aR .add (aR .add (aB [116,104,101,32,109,101,116,104,111,100,32] "the method " 228 36 49) (aA 34 228 52 56) 228 36 56) (aB [32,105,115,32,116,111,108,100,32,116,119,105,99,101] " is told twice" 228 59 75) 228 36 75,aI (aA 66 228 77 82) (aC 1 228 83 84) 228 77 85] (p 228 26 35) (p 228 26 86) (p 228 20 86)] [] ⟨227,16,228,86⟩,.ass (aW 68 229 16 21) (aA 34 229 22 26) (aA 61 229 30 34) (p 229 16 27) (p 229 16 34)] ⟨226,12,229,34⟩] ⟨222,8,229,34⟩,aM (aD [aB [105,110,116,101,114,102,97,99,101] "interface" 230 16 27,aH (aK 58 230 29 34) [.lc (aD [aA 34 230 37 41,aI (aW 68 230 43 48) (aA 34 230 49 53) 230 43 54] 230 36 55) [aV 34 230 60 64] [aH (aK 71 230 68 74) [aW 68 230 75 80] 230 68 81] [[]] [68] (a_ [(".0",aE),("name",aE),("found",.free)]) (p 230 35 82)] 230 29 83] 230 15 84) 230 8 84],99,⟨.function,[("self",aE),("typex",aE),("found",.cell),("name",aE),("inner",aE),("base",aE),("told",aE),("NameFault",aL),("TypeFault",aL),("tuple",aL),("sorted",aL)],false,false,[("fast",.str "self"),("fast",.str "typex"),("fast",.str "found"),("fast",.str "name"),("fast",.str "inner"),("fast",.str "base"),("fast",.str "told")]⟩⟩
def Km:Fun:=
 ⟨[(47,p 239 17 21),(31,p 239 23 28),(33,p 239 30 37),(32,p 239 39 44),(72,p 239 46 50)],[],[],[],
 [.asa (aA 47 240 8 12) 31 (aA 31 240 21 26) (p 240 8 18) (p 240 8 26),.asa (aA 47 241 8 12) 33 (aA 33 241 23 30) (p 241 8 20) (p 241 8 30),.asa (aA 47 242 8 12) 32 (aA 32 242 21 26) (p 242 8 18) (p 242 8 26),.asa (aA 47 243 8 12) 72 (aA 72 243 20 24) (p 243 8 17) (p 243 8 24)],99,(a_ [("self",aE),("world",aE),("package",aE),("scope",aE),("iota",aE)])⟩
def Kn:Fun:=
 ⟨[(47,p 245 13 17),(60,p 245 19 23)],[],[],[],
 [aQ (cH [(8,p 246 8 12),(35,p 246 14 18)] 246 8 18) (aD [aI (aA 60 246 22 26) (aC 0 246 27 28) 246 22 29,aI (aA 60 246 31 35) (aC 1 246 36 37) 246 31 38] 246 21 39) 246 8 39,.ife (aJ (aA 8 247 11 15) [.eq] [aB [105,110,116] "int" 247 19 24] 247 11 24) [aM (aD [aK 73 248 20 31,aI (aA 60 248 33 37) (aC 2 248 38 39) 248 33 40] 248 19 41) 248 12 41] [] ⟨247,8,248,41⟩,.ife (aJ (aA 8 249 11 15) [.eq] [aB [114,117,110,101] "rune" 249 19 25] 249 11 25) [aM (aD [aK 74 250 20 32,aI (aA 60 250 34 38) (aC 2 250 39 40) 250 34 41] 250 19 42) 250 12 42] [] ⟨249,8,250,42⟩,.ife (aJ (aA 8 251 11 15) [.eq] [aB [116,101,120,116] "text" 251 19 25] 251 11 25) [aM (aD [aK 75 252 20 32,aI (aA 60 252 34 38) (aC 2 252 39 40) 252 34 41] 252 19 42) 252 12 42] [] ⟨251,8,252,42⟩,.ife (aJ (aA 8 253 11 15) [.eq] [aB [110,97,109,101] "name" 253 19 25] 253 11 25) [aM (aO (aA 47 254 19 23) 76 [aO (bA (aA 47 254 30 34) 32 254 30 40) 39 [aI (aA 60 254 46 50) (aC 2 254 51 52) 254 46 53] (p 254 30 45) 254 30 54,aI (aA 60 254 56 60) (aC 2 254 61 62) 254 56 63,aA 35 254 65 69] (p 254 19 29) 254 19 70) 254 12 70] [] ⟨253,8,254,70⟩,.ife (aJ (aA 8 255 11 15) [.eq] [aB [115,101,108,101,99,116] "select" 255 19 27] 255 11 27) [aM (aO (aA 47 256 19 23) 77 [aA 60 256 33 37] (p 256 19 32) 256 19 38) 256 12 38] [] ⟨255,8,256,38⟩,.ife (aJ (aA 8 257 11 15) [.eq] [aB [117,110,97,114,121] "unary" 257 19 26] 257 11 26) [aM (aO (aA 47 258 19 23) 78 [aA 60 258 31 35] (p 258 19 30) 258 19 36) 258 12 36] [] ⟨257,8,258,36⟩,.ife (aJ (aA 8 259 11 15) [.eq] [aB [98,105,110,97,114,121] "binary" 259 19 27] 259 11 27) [aM (aO (aA 47 260 19 23) 79 [aA 60 260 31 35] (p 260 19 30) 260 19 36) 260 12 36] [] ⟨259,8,260,36⟩,.ife (aJ (aA 8 261 11 15) [.eq] [aB [99,97,108,108] "call" 261 19 25] 261 11 25) [aM (aO (aA 47 262 19 23) 80 [aA 60 262 31 35] (p 262 19 30) 262 19 36) 262 12 36] [] ⟨261,8,262,36⟩,.rai 210 76 [aB [110,111,32,99,111,110,115,116,97,110,116] "no constant" 263 25 38,aA 35 263 40 44] (p 263 14 24) (p 263 14 45) (p 263 8 45)],99,(a_ [("self",aE),("expr",aE),("kind",aE),("spot",aE),("UNTYPED_INT",aL),("UNTYPED_RUNE",aL),("UNTYPED_TEXT",aL),("ConstFault",aL)])⟩
def Ko:Fun:=
 ⟨[(47,p 265 14 18),(37,p 265 20 25),(34,p 265 27 31),(35,p 265 33 37)],[],[],[],
 [aQ (aV 37 266 8 13) (aO (bA (aA 47 266 16 20) 31 266 16 26) 38 [aA 37 266 35 40] (p 266 16 34) 266 16 41) 266 8 41,.ife (bW true [aJ (aA 37 267 11 16) [.eq] [aD [aB [105,111,116,97] "iota" 267 21 27] 267 20 29] 267 11 29,aJ (bA (aA 47 267 34 38) 72 267 34 43) [.isn] [bG 267 51 55] 267 34 55] 267 11 55) [aM (aD [aK 73 268 20 31,bA (aA 47 268 33 37) 72 268 33 42] 268 19 43) 268 12 43] [] ⟨267,8,268,43⟩,.ife (bW false [aJ (aA 37 269 11 16) [.is] [bG 269 20 24] 269 11 24,aJ (aI (aA 37 269 28 33) (aC 0 269 34 35) 269 28 36) [.ne] [aB [99,111,110,115,116] "const" 269 40 47] 269 28 47] 269 11 47) [.rai 210 76 [aR .add (aA 34 270 29 33) (aB [32,105,115,32,110,111,32,99,111,110,115,116,97,110,116] " is no constant" 270 36 53) 270 29 53,aA 35 270 55 59] (p 270 18 28) (p 270 18 60) (p 270 12 60)] [] ⟨269,8,270,60⟩,aM (aD [aI (aA 37 271 16 21) (aC 1 271 22 23) 271 16 24,aI (aA 37 271 26 31) (aC 2 271 32 33) 271 26 34] 271 15 35) 271 8 35],99,(a_ [("self",aE),("entry",aE),("name",aE),("spot",aE),("UNTYPED_INT",aL),("ConstFault",aL)])⟩
def Kq:Fun:=
 ⟨[(47,p 281 16 20),(61,p 281 22 26)],[],[],[],
 [aQ (aV 69 282 8 12) (aO (bA (aA 47 282 15 19) 31 282 15 25) 70 [aA 61 282 34 38] (p 282 15 33) 282 15 39) 282 8 39,aM (.ife (aJ (aI (aA 69 283 26 30) (aC 0 283 31 32) 283 26 33) [.eq] [aB [105,110,116] "int" 283 37 42] 283 26 42) (aI (aA 69 283 15 19) (aC 1 283 20 21) 283 15 22) (bG 283 48 52) (p 283 15 52)) 283 8 52],99,(a_ [("self",aE),("told",aE),("base",aE)])⟩
def Kr:Fun:=
 ⟨[(47,p 285 15 19),(60,p 285 21 25)],[],[],[47,60,61,15],
 [aQ (cH [(61,p 286 8 12),(15,p 286 14 19)] 286 8 19) (aO (aW 47 286 22 26) 51 [aI (aW 60 286 32 36) (aC 3 286 37 38) 286 32 39] (p 286 22 31) 286 22 40) 286 8 40,aM (aD [aW 61 287 16 20,aO (aW 47 287 22 26) 81 [.lam 0 (p 287 36 91),aI (aW 60 287 93 97) (aC 1 287 98 99) 287 93 100] (p 287 22 35) 287 22 101] 287 15 102) 287 8 102],1,(a_ [("self",.cell),("expr",.cell),("told",.cell),("value",.cell)])⟩
def Ks:Fun:=
 ⟨[(47,p 289 15 19),(60,p 289 21 25)],[],[],[47,21,22,84,14,61],
 [aQ (cH [(35,p 290 8 12),(14,p 290 14 16)] 290 8 16) (aD [aI (aA 60 290 20 24) (aC 1 290 25 26) 290 20 27,aI (aA 60 290 29 33) (aC 2 290 34 35) 290 29 36] 290 19 37) 290 8 37,aQ (cH [(84,p 291 8 12),(21,p 291 14 15)] 291 8 15) (aO (aW 47 291 18 22) 51 [aI (aA 60 291 28 32) (aC 3 291 33 34) 291 28 35] (p 291 18 27) 291 18 36) 291 8 36,aQ (cH [(85,p 292 8 13),(22,p 292 15 16)] 292 8 16) (aO (aW 47 292 19 23) 51 [aI (aA 60 292 29 33) (aC 4 292 34 35) 292 29 36] (p 292 19 28) 292 19 37) 292 8 37,.ife (aJ (aW 14 293 11 13) [.inn] [aD [aB [60,60] "<<" 293 18 22,aB [62,62] ">>" 293 24 28] 293 17 29] 293 11 29) [.ife (bW false [aH (aK 16 294 15 25) [aW 21 294 26 27,aK 17 294 29 33] 294 15 34,.nt (aH (aK 16 294 42 52) [aW 21 294 53 54,aK 18 294 56 59] 294 42 60) (p 294 38 60),aH (aK 16 294 64 74) [aW 22 294 75 76,aK 17 294 78 82] 294 64 83,.nt (aH (aK 16 294 92 102) [aW 22 294 103 104,aK 18 294 106 109] 294 92 110) (p 294 88 110)] 294 15 111) [.rai 210 76 [aR .add (aB [110,111,32,119,104,111,108,101,32,110,117,109,98,101,114,115,32,98,101,115,105,100,101,32] "no whole numbers beside " 295 33 59) (aW 14 295 62 64) 295 33 64,aA 35 295 66 70] (p 295 22 32) (p 295 22 71) (p 295 16 71)] [] ⟨294,12,295,71⟩,aM (aD [aW 84 296 20 24,aO (aW 47 296 26 30) 81 [.lam 1 (p 296 40 90),aA 35 296 92 96] (p 296 26 39) 296 26 97] 296 19 98) 296 12 98] [] ⟨293,8,296,98⟩,aQ (aV 61 297 8 12) (aO (aW 47 297 15 19) 87 [aW 84 297 27 31,aW 21 297 33 34,aA 85 297 36 41,aW 22 297 43 44,aA 35 297 46 50] (p 297 15 26) 297 15 51) 297 8 51,aQ (aV 68 298 8 13) (aO (aW 47 298 16 20) 81 [.lam 2 (p 298 30 80),aA 35 298 82 86] (p 298 16 29) 298 16 87) 298 8 87,aM (.ife (aJ (aW 14 299 40 42) [.inn] [aK 27 299 46 57] 299 40 57) (aD [aK 88 299 16 28,aA 68 299 30 35] 299 15 36) (aD [aW 61 299 64 68,aA 68 299 70 75] 299 63 76) (p 299 15 76)) 299 8 76],2,(a_ [("self",.cell),("expr",aE),("spot",aE),("right",aE),("found",aE),("a",.cell),("b",.cell),("left",.cell),("op",.cell),("told",.cell),("isinstance",aL),("bool",aL),("int",aL),("ConstFault",aL),("COMPARISONS",aL),("UNTYPED_BOOL",aL)])⟩
def Kt:Fun:=
 ⟨[(47,p 301 15 19),(84,p 301 21 25),(21,p 301 27 28),(85,p 301 30 35),(22,p 301 37 38),(35,p 301 40 44)],[],[],[],
 [.ife (aJ (aA 84 302 11 15) [.eq] [aA 85 302 19 24] 302 11 24) [aM (aA 84 303 19 23) 303 12 23] [] ⟨302,8,303,23⟩,.ife (bW true [aJ (aA 84 304 11 15) [.inn] [aK 89 304 19 26] 304 11 26,aJ (aA 85 304 31 36) [.inn] [aK 89 304 40 47] 304 31 47] 304 11 47) [aM (aK 74 305 19 31) 305 12 31] [] ⟨304,8,305,31⟩,.ife (bW true [aJ (aI (aA 84 306 11 15) (aC 0 306 16 17) 306 11 18) [.eq] [aB [117,110,116,121,112,101,100] "untyped" 306 22 31] 306 11 31,aJ (aI (aA 85 306 36 41) (aC 0 306 42 43) 306 36 44) [.ne] [aB [117,110,116,121,112,101,100] "untyped" 306 48 57] 306 36 57,aH (aK 90 306 62 75) [aA 21 306 76 77,aO (bA (aA 47 306 79 83) 31 306 79 89) 70 [aA 85 306 98 103] (p 306 79 97) 306 79 104] 306 62 105] 306 11 105) [aM (aA 85 307 19 24) 307 12 24] [] ⟨306,8,307,24⟩,.ife (bW true [aJ (aI (aA 85 308 11 16) (aC 0 308 17 18) 308 11 19) [.eq] [aB [117,110,116,121,112,101,100] "untyped" 308 23 32] 308 11 32,aJ (aI (aA 84 308 37 41) (aC 0 308 42 43) 308 37 44) [.ne] [aB [117,110,116,121,112,101,100] "untyped" 308 48 57] 308 37 57,aH (aK 90 308 62 75) [aA 22 308 76 77,aO (bA (aA 47 308 79 83) 31 308 79 89) 70 [aA 84 308 98 102] (p 308 79 97) 308 79 103] 308 62 104] 308 11 104) [aM (aA 84 309 19 23) 309 12 23] [] ⟨308,8,309,23⟩,.rai 210 76 [aB [99,111,110,115,116,97,110,116,115,32,111,102,32,117,110,108,105,107,101,32,116,121,112,101,115] "constants of unlike types" 310 25 52,aA 35 310 54 58] (p 310 14 24) (p 310 14 59) (p 310 8 59)],99,(a_ [("self",aE),("left",aE),("a",aE),("right",aE),("b",aE),("spot",aE),("NUMBERS",aL),("UNTYPED_RUNE",aL),("representable",aL),("ConstFault",aL)])⟩
def Ku:Fun:=
 ⟨[(47,p 339 17 21),(91,p 339 23 27),(35,p 339 29 33)],[],[],[],
 [.tr [aM (aH (aA 91 341 19 23) [] 341 19 25) 341 12 25] [.any (.ExceptHandler (some (.Name "ConstFault" (p 342 15 25))) (some "fault") [.Raise (some (.Call (.Name "ConstFault" (p 343 18 28)) [.Attribute (.Name "fault" (p 343 29 34)) "message" (p 343 29 42),.Name "spot" (p 343 44 48)] [] (p 343 18 49))) none (p 343 12 49)] ⟨342,8,343,49⟩)] ⟨340,8,343,49⟩],99,(a_ [("self",aE),("call",aE),("spot",aE),("fault",aE),("ConstFault",aL)])⟩
def Kw:Fun:=
 ⟨[(31,p 344 13 18),(33,p 344 20 27),(32,p 344 29 34),(60,p 344 36 40),(72,p 344 42 46)],[.non],[bG 344 47 51],[],
 [aM (aO (aH (aK 92 345 11 22) [aA 31 345 23 28,aA 33 345 30 37,aA 32 345 39 44,aA 72 345 46 50] 345 11 51) 51 [aA 60 345 57 61] (p 345 11 56) 345 11 62) 345 4 62],99,(a_ [("world",aE),("package",aE),("scope",aE),("expr",aE),("iota",aE),("ConstReader",aL)])⟩
def Kx:Fun:=
 ⟨[(31,p 346 12 17),(33,p 346 19 26),(32,p 346 28 33),(49,p 346 35 40)],[],[],[31,33,32],
 [aM (aO (aH (aK 93 347 11 21) [aW 31 347 22 27,aW 32 347 29 34,.lam 3 (p 347 36 86)] 347 11 87) 51 [aA 49 347 93 98] (p 347 11 92) 347 11 99) 347 4 99],0,(a_ [("world",.cell),("package",.cell),("scope",.cell),("typex",aE),("TypeReader",aL)])⟩
def Ky:Fun:=
 ⟨[(31,p 349 18 23),(95,p 349 25 26)],[],[],[],
 [aM (aO (aA 31 350 11 16) 70 [aA 95 350 25 26] (p 350 11 24) 350 11 27) 350 4 27],99,(a_ [("world",aE),("T",aE)])⟩
def Kz:Fun:=
 ⟨[(31,p 351 18 23),(95,p 351 25 26)],[],[],[],
 [aQ (cH [(84,p 352 4 8),(96,p 352 10 13)] 352 4 13) (aD [aS [aA 95 352 18 19] 352 17 20,aS [] 352 22 24] 352 16 25) 352 4 25,.whi (aJ (aA 84 353 10 14) [.ne] [aS [] 353 18 20] 353 10 20) [aQ (aV 97 354 8 12) (aO (aA 84 354 15 19) 3 [] (p 354 15 23) 354 15 25) 354 8 25,.ife (aJ (aA 97 355 11 15) [.inn] [aA 96 355 19 22] 355 11 22) [.cnt (p 356 12 20)] [] ⟨355,8,356,20⟩,bF (aO (aA 96 357 8 11) 2 [aA 97 357 19 23] (p 357 8 18) 357 8 24) 357 8 24,aQ (aV 66 358 8 13) (aH (aK 98 358 16 29) [aA 31 358 30 35,aA 97 358 37 41] 358 16 42) 358 8 42,.ife (aJ (aI (aA 66 359 11 16) (aC 0 359 17 18) 359 11 19) [.inn] [aD [aB [102,117,110,99] "func" 359 24 30,aB [109,97,112] "map" 359 32 37,aB [115,108,105,99,101] "slice" 359 39 46,aB [116,117,112,108,101] "tuple" 359 48 55,aB [110,105,108] "nil" 359 57 62] 359 23 63] 359 11 63) [aM (aX false 360 19 24) 360 12 24] [] ⟨359,8,360,24⟩,.ife (aJ (aI (aA 66 361 11 16) (aC 0 361 17 18) 361 11 19) [.eq] [aB [97,114,114,97,121] "array" 361 23 30] 361 11 30) [bF (aO (aA 84 362 12 16) 2 [aI (aA 66 362 24 29) (aC 2 362 30 31) 362 24 32] (p 362 12 23) 362 12 33) 362 12 33] [.ife (aJ (aI (aA 66 363 13 18) (aC 0 363 19 20) 363 13 21) [.eq] [aB [115,116,114,117,99,116] "struct" 363 25 33] 363 13 33) [bF (aO (aA 84 364 12 16) 4 [.lc (aI (aA 99 364 25 28) (aC 1 364 29 30) 364 25 31) [aV 99 364 36 39] [aI (aA 66 364 43 48) (aC 1 364 49 50) 364 43 51] [[]] [] (a_ [(".0",aE),("row",aE)]) (p 364 24 52)] (p 364 12 23) 364 12 53) 364 12 53] [] ⟨363,8,364,53⟩] ⟨361,8,364,53⟩] ⟨353,4,364,53⟩,aM (aX true 365 11 15) 365 4 15],99,⟨.function,[("world",aE),("T",aE),("left",aE),("met",aE),("here",aE),("inner",aE),("underlying_of",aL)],false,false,[("fast",.str "world"),("fast",.str "T"),("fast",.str "left"),("fast",.str "met"),("fast",.str "here"),("fast",.str "inner"),("fast",.str "row")]⟩⟩
def EC:Fun:=
 ⟨[(47,p 369 17 21),(31,p 369 23 28)],[],[],[],
 [.asa (aA 47 370 8 12) 31 (aA 31 370 21 26) (p 370 8 18) (p 370 8 26),.asa (aA 47 371 8 12) 100 (aS [] 371 23 25) (p 371 8 20) (p 371 8 25),.asa (aA 47 372 8 12) 101 (.dct [] [] (p 372 20 22)) (p 372 8 17) (p 372 8 22)],99,(a_ [("self",aE),("world",aE)])⟩
def ED:Fun:=
 ⟨[(47,p 374 20 24)],[],[],[],
 [.fo (aV 42 375 12 16) (aH (aK 71 375 20 26) [bA (bA (aA 47 375 27 31) 31 375 27 37) 76 375 27 43] 375 20 44) [bF (aO (aA 47 376 12 16) 102 [aD [aB [110,97,109,101,100] "named" 376 23 30,aA 42 376 32 36] 376 22 37] (p 376 12 21) 376 12 38) 376 12 38] ⟨375,8,376,38⟩],99,(a_ [("self",aE),("path",aE),("sorted",aL)])⟩
def f419:Fun:=
 ⟨[(47,p 378 13 17),(61,p 378 19 23)],[],[],[],
 [.ife (aJ (aI (aA 61 379 11 15) (aC 0 379 16 17) 379 11 18) [.eq] [aB [110,97,109,101,100] "named" 379 22 29] 379 11 29) [bF (aO (aA 47 380 12 16) 103 [aI (aA 61 380 31 35) (aC 1 380 36 37) 380 31 38] (p 380 12 30) 380 12 39) 380 12 39] [.ife (aJ (aI (aA 61 381 13 17) (aC 0 381 18 19) 381 13 20) [.eq] [aB [97,114,114,97,121] "array" 381 24 31] 381 13 31) [bF (aO (aA 47 382 12 16) 102 [aI (aA 61 382 22 26) (aC 2 382 27 28) 382 22 29] (p 382 12 21) 382 12 30) 382 12 30] [.ife (aJ (aI (aA 61 383 13 17) (aC 0 383 18 19) 383 13 20) [.eq] [aB [115,116,114,117,99,116] "struct" 383 24 32] 383 13 32) [.fo (cH [(34,p 384 16 20),(66,p 384 22 27),(67,p 384 29 40)] 384 16 40) (aI (aA 61 384 44 48) (aC 1 384 49 50) 384 44 51) [bF (aO (aA 47 385 16 20) 102 [aA 66 385 26 31] (p 385 16 25) 385 16 32) 385 16 32] ⟨384,12,385,32⟩] [] ⟨383,8,385,32⟩] ⟨381,8,385,32⟩] ⟨379,8,385,32⟩],99,(a_ [("self",aE),("told",aE),("name",aE),("inner",aE),("is_embedded",aE)])⟩
def Ha:Fun:=
 ⟨[(47,p 387 22 26),(42,p 387 28 32)],[],[],[],
 [.ife (aJ (aA 42 388 11 15) [.inn] [bA (aA 47 388 19 23) 101 388 19 28] 388 11 28) [.ret0 (p 389 12 18)] [] ⟨388,8,389,18⟩,.ife (aJ (aA 42 390 11 15) [.inn] [bA (aA 47 390 19 23) 100 390 19 31] 390 11 31) [.rai 209 64 [aR .add (aR .add (aB [116,104,101,32,116,121,112,101,32] "the type " 391 28 39) (aA 42 391 42 46) 391 28 46) (aB [32,104,111,108,100,115,32,105,116,115,101,108,102] " holds itself" 391 49 64) 391 28 64] (p 391 18 27) (p 391 18 65) (p 391 12 65)] [] ⟨390,8,391,65⟩,bF (aO (bA (aA 47 392 8 12) 100 392 8 20) 2 [aA 42 392 28 32] (p 392 8 27) 392 8 33) 392 8 33,bF (aO (aA 47 393 8 12) 102 [bA (aI (bA (bA (aA 47 393 18 22) 31 393 18 28) 76 393 18 34) (aA 42 393 35 39) 393 18 40) 104 393 18 51] (p 393 8 17) 393 8 52) 393 8 52,bF (aO (bA (aA 47 394 8 12) 100 394 8 20) 3 [] (p 394 8 24) 394 8 26) 394 8 26,.ass (bA (aA 47 395 8 12) 101 395 8 17) (aA 42 395 18 22) (aX true 395 26 30) (p 395 8 23) (p 395 8 30)],99,(a_ [("self",aE),("path",aE),("TypeFault",aL)])⟩
def f440:Fun:=
 ⟨[(31,p 396 20 25)],[],[],[],
 [aQ (aV 64 397 4 8) (bA (aA 31 397 11 16) 63 397 11 26) 397 4 26,.asa (aA 31 398 4 9) 63 (aS [] 398 22 24) (p 398 4 19) (p 398 4 24),.fo (cH [(61,p 399 8 12),(35,p 399 14 18)] 399 8 18) (aA 64 399 22 26) [.ife (.nt (aH (aK 105 400 15 28) [aA 31 400 29 34,aA 61 400 36 40] 400 15 41) (p 400 11 41)) [.rai 209 64 [aB [107,101,121,115,32,111,102,32,97,32,109,97,112,32,116,104,97,116,32,99,97,110,39,116,32,98,101,32,99,111,109,112,97,114,101,100] "keys of a map that can't be compared" 401 28 66,aA 35 401 68 72] (p 401 18 27) (p 401 18 73) (p 401 12 73)] [] ⟨400,8,401,73⟩] ⟨399,4,401,73⟩],99,(a_ [("world",aE),("rows",aE),("told",aE),("spot",aE),("is_comparable",aL),("TypeFault",aL)])⟩
def KA:Fun:=
 ⟨[(34,p 405 16 20)],[],[],[],
 [aM (aO (.sli (aA 34 406 11 15) (aC 1 406 17 18) (p 406 16 18) (p 406 11 19)) 6 [] (p 406 11 27) 406 11 29) 406 4 29],99,(a_ [("name",aE)])⟩
def KC:Fun:=
 ⟨[(106,p 407 15 19)],[],[],[107],
 [aQ (aV 107 408 4 8) (aI (aA 106 408 11 15) (aC 0 408 16 17) 408 11 18) 408 4 18,.ife (aJ (aW 107 409 7 11) [.eq] [aB [102,117,110,99,100,101,99,108] "funcdecl" 409 15 25] 409 7 25) [aM (.ife (bW false [aJ (aI (aA 106 410 21 25) (aC 3 410 26 27) 410 21 28) [.isn] [bG 410 36 40] 410 21 40,aJ (aI (aA 106 410 44 48) (aC 2 410 49 50) 410 44 51) [.inn] [aD [aB [105,110,105,116] "init" 410 56 62,aB [95] "_" 410 64 67] 410 55 68] 410 44 68] 410 21 68) (aS [] 410 15 17) (aS [aD [aI (aA 106 410 76 80) (aC 2 410 81 82) 410 76 83,aB [102,110] "fn" 410 85 89] 410 75 90] 410 74 91) (p 410 15 91)) 410 8 91] [] ⟨409,4,410,91⟩,.ife (aJ (aW 107 411 7 11) [.eq] [aB [116,121,112,101,100,101,99,108] "typedecl" 411 15 25] 411 7 25) [aM (aS [aD [aI (aA 106 412 17 21) (aC 2 412 22 23) 412 17 24,aB [116,121,112,101] "type" 412 26 32] 412 16 33] 412 15 34) 412 8 34] [] ⟨411,4,412,34⟩,aQ (aV 65 413 4 9) (.ife (aJ (aW 107 413 23 27) [.eq] [aB [118,97,114] "var" 413 31 36] 413 23 36) (aI (aA 106 413 12 16) (aC 2 413 17 18) 413 12 19) (.lc (aA 34 413 43 47) [aV 99 413 52 55,aV 34 413 71 75] [aI (aA 106 413 59 63) (aC 2 413 64 65) 413 59 66,aI (aA 99 413 79 82) (aC 0 413 83 84) 413 79 85] [[],[]] [] (a_ [(".0",aE),("row",aE),("name",aE)]) (p 413 42 86)) (p 413 12 86)) 413 4 86,aM (.lc (aD [aA 34 414 13 17,aW 107 414 19 23] 414 12 24) [aV 34 414 29 33] [aA 65 414 37 42] [[aJ (aA 34 414 46 50) [.ne] [aB [95] "_" 414 54 57] 414 46 57]] [107] (a_ [(".0",aE),("name",aE),("word",.free)]) (p 414 11 58)) 414 4 58],99,⟨.function,[("decl",aE),("word",.cell),("names",aE)],false,false,[("fast",.str "decl"),("fast",.str "word"),("fast",.str "row"),("fast",.str "name"),("fast",.str "names")]⟩⟩
def KD:Fun:=
 ⟨[(108,p 415 19 23)],[],[],[],
 [aQ (cH [(68,p 416 4 9),(84,p 416 11 15)] 416 4 15) (aD [.dct [] [] (p 416 19 21),aS [aA 108 416 24 28] 416 23 29] 416 18 30) 416 4 30,.whi (aJ (aA 84 417 10 14) [.ne] [aS [] 417 18 20] 417 10 20) [aQ (aV 97 418 8 12) (aO (aA 84 418 15 19) 3 [] (p 418 15 23) 418 15 25) 418 8 25,.ife (.nt (aH (aK 16 419 15 25) [aA 97 419 26 30,aK 58 419 32 37] 419 15 38) (p 419 11 38)) [.cnt (p 420 12 20)] [] ⟨419,8,420,20⟩,.ife (bW true [aJ (aH (aK 109 421 11 14) [aA 97 421 15 19] 421 11 20) [.eq] [aC 4 421 24 25] 421 11 25,aJ (aI (aA 97 421 30 34) (aC 0 421 35 36) 421 30 37) [.eq] [aB [115,101,108,101,99,116] "select" 421 41 49] 421 30 49,aH (aK 16 421 54 64) [aI (aA 97 421 65 69) (aC 2 421 70 71) 421 65 72,aK 58 421 74 79] 421 54 80,aJ (aI (aI (aA 97 421 86 90) (aC 2 421 91 92) 421 86 93) (aC 0 421 94 95) 421 86 96) [.eq] [aB [110,97,109,101] "name" 421 100 106] 421 86 106] 421 11 107) [.ass (aA 68 422 12 17) (aI (aI (aA 97 422 18 22) (aC 2 422 23 24) 422 18 25) (.any (.UnaryOp .USub (.Constant (.int 1) 0 (p 422 27 28)) (p 422 26 28))) 422 18 29) (aX true 422 33 37) (p 422 12 30) (p 422 12 37)] [] ⟨421,8,422,37⟩,.ife (bW true [aJ (aH (aK 109 423 11 14) [aA 97 423 15 19] 423 11 20) [.eq] [aC 4 423 24 25] 423 11 25,aJ (aI (aA 97 423 30 34) (aC 0 423 35 36) 423 30 37) [.eq] [aB [110,97,109,101] "name" 423 41 47] 423 30 47,aH (aK 16 423 52 62) [aI (aA 97 423 63 67) (aC 2 423 68 69) 423 63 70,aK 110 423 72 75] 423 52 76] 423 11 76) [.ass (aA 68 424 12 17) (aI (aA 97 424 18 22) (aC 2 424 23 24) 424 18 25) (aX true 424 29 33) (p 424 12 26) (p 424 12 33)] [] ⟨423,8,424,33⟩,bF (aO (aA 84 425 8 12) 4 [aA 97 425 20 24] (p 425 8 19) 425 8 25) 425 8 25] ⟨417,4,425,25⟩,aM (aA 68 426 11 16) 426 4 16],99,(a_ [("tree",aE),("found",aE),("left",aE),("here",aE),("isinstance",aL),("tuple",aL),("len",aL),("str",aL)])⟩
def KE:Fun:=
 ⟨[(47,p 429 17 21),(111,p 429 23 28)],[],[],[47],
 [.asa (aW 47 430 8 12) 111 (.dct [] [] (p 430 21 23)) (p 430 8 18) (p 430 8 23),.asa (aW 47 431 8 12) 65 (.dct [] [] (p 431 21 23)) (p 431 8 18) (p 431 8 23),.fo (cH [(42,p 432 12 16),(61,p 432 18 22)] 432 12 22) (aA 111 432 26 31) [.ife (bW false [aJ (aA 42 433 15 19) [.inn] [bA (aW 47 433 23 27) 111 433 23 33] 433 15 33,aJ (aA 42 433 37 41) [.inn] [aK 112 433 45 50] 433 37 50] 433 15 50) [.rai 211 88 [aR .add (aR .add (aB [116,104,101,32,112,97,99,107,97,103,101,32] "the package " 434 34 48) (aA 42 434 51 55) 434 34 55) (aB [32,105,115,32,116,111,108,100,32,116,119,105,99,101] " is told twice" 434 58 74) 434 34 74] (p 434 22 33) (p 434 22 75) (p 434 16 75)] [] ⟨433,12,434,75⟩,.ass (bA (aW 47 435 12 16) 111 435 12 22) (aA 42 435 23 27) (aA 61 435 31 35) (p 435 12 28) (p 435 12 35),.ass (bA (aW 47 436 12 16) 65 436 12 22) (aA 42 436 23 27) (aO (aW 47 436 31 35) 113 [aA 42 436 46 50,aA 61 436 52 56] (p 436 31 45) 436 31 57) (p 436 12 28) (p 436 12 57)] ⟨432,8,436,57⟩,.asa (aW 47 437 8 12) 114 (.dc (aA 42 437 22 26) (aO (aW 47 437 28 32) 115 [aA 42 437 42 46] (p 437 28 41) 437 28 47) (aV 42 437 52 56) (bA (aW 47 437 60 64) 111 437 60 70) [47] (a_ [(".0",aE),("path",aE),("self",.free)]) (p 437 21 71)) (p 437 8 18) (p 437 8 71)],99,⟨.function,[("self",.cell),("files",aE),("path",aE),("told",aE),("KNOWN",aL),("ImportFault",aL)],false,false,[("fast",.str "self"),("fast",.str "files"),("fast",.str "path"),("fast",.str "told")]⟩⟩
def KF:Fun:=
 ⟨[(47,p 439 18 22),(42,p 439 24 28),(61,p 439 30 34)],[],[],[],
 [aQ (aV 68 440 8 13) (.dct [] [] (p 440 16 18)) 440 8 18,.fo (aV 106 441 12 16) (aI (aA 61 441 20 24) (aC 2 441 25 26) 441 20 27) [.fo (cH [(34,p 442 16 20),(107,p 442 22 26)] 442 16 26) (aH (aK 116 442 30 40) [aA 106 442 41 45] 442 30 46) [.ife (aJ (aA 34 443 19 23) [.inn] [aA 68 443 27 32] 443 19 32) [.rai 208 52 [aR .add (aA 34 444 36 40) (aB [32,105,115,32,116,111,108,100,32,116,119,105,99,101] " is told twice" 444 43 59) 444 36 59,aI (aA 106 444 61 65) (aC 1 444 66 67) 444 61 68] (p 444 26 35) (p 444 26 69) (p 444 20 69)] [] ⟨443,16,444,69⟩,.ass (aA 68 445 16 21) (aA 34 445 22 26) (aA 107 445 30 34) (p 445 16 27) (p 445 16 34)] ⟨442,12,445,34⟩] ⟨441,8,445,34⟩,aM (aA 68 446 15 20) 446 8 20],99,(a_ [("self",aE),("path",aE),("told",aE),("found",aE),("decl",aE),("name",aE),("word",aE),("told_names",aL),("NameFault",aL)])⟩
def KG:Fun:=
 ⟨[(47,p 448 17 21),(42,p 448 23 27)],[],[],[],
 [aQ (cH [(68,p 449 8 13),(117,p 449 15 19)] 449 8 19) (aD [.dct [] [] (p 449 23 25),aH (aK 118 449 27 41) [aI (aI (bA (aA 47 449 42 46) 111 449 42 52) (aA 42 449 53 57) 449 42 58) (aC 2 449 59 60) 449 42 61] 449 27 62] 449 22 63) 449 8 63,.fo (cH [(119,p 450 12 17),(120,p 450 19 25),(35,p 450 27 31)] 450 12 31) (aI (aI (bA (aA 47 450 35 39) 111 450 35 45) (aA 42 450 46 50) 450 35 51) (aC 1 450 52 53) 450 35 54) [.ife (bW false [aJ (aA 120 451 15 21) [.eq] [aK 121 451 25 29] 451 15 29,bW true [aJ (aA 120 451 34 40) [.nin] [aK 112 451 48 53] 451 34 53,aJ (aA 120 451 58 64) [.nin] [bA (aA 47 451 72 76) 111 451 72 82] 451 58 82] 451 34 82] 451 15 83) [.rai 211 88 [aR .add (aB [116,104,101,114,101,32,105,115,32,110,111,32,112,97,99,107,97,103,101,32] "there is no package " 452 34 56) (aA 120 452 59 65) 452 34 65,aA 35 452 67 71] (p 452 22 33) (p 452 22 72) (p 452 16 72)] [] ⟨451,12,452,72⟩,aQ (aV 34 453 12 16) (.ife (aJ (aA 119 453 43 48) [.is] [bG 453 52 56] 453 43 56) (aO (aA 47 453 19 23) 122 [aA 120 453 32 38] (p 453 19 31) 453 19 39) (aA 119 453 62 67) (p 453 19 67)) 453 12 67,.ife (bW false [aJ (aA 34 454 15 19) [.inn] [aA 68 454 23 28] 454 15 28,aJ (aA 34 454 32 36) [.inn] [aI (bA (aA 47 454 40 44) 65 454 40 50) (aA 42 454 51 55) 454 40 56] 454 32 56] 454 15 56) [.rai 211 88 [aR .add (aA 34 455 34 38) (aB [32,105,115,32,116,111,108,100,32,116,119,105,99,101] " is told twice" 455 41 57) 455 34 57,aA 35 455 59 63] (p 455 22 33) (p 455 22 64) (p 455 16 64)] [] ⟨454,12,455,64⟩,.ife (aJ (aA 34 456 15 19) [.ne] [aB [95] "_" 456 23 26] 456 15 26) [.ife (aJ (aA 34 457 19 23) [.nin] [aA 117 457 31 35] 457 19 35) [.rai 211 88 [aR .add (aR .add (aB [116,104,101,32,112,97,99,107,97,103,101,32] "the package " 458 38 52) (aA 120 458 55 61) 458 38 61) (aB [32,105,115,32,110,111,116,32,117,115,101,100] " is not used" 458 64 78) 458 38 78,aA 35 458 80 84] (p 458 26 37) (p 458 26 85) (p 458 20 85)] [] ⟨457,16,458,85⟩,.ass (aA 68 459 16 21) (aA 34 459 22 26) (aA 120 459 30 36) (p 459 16 27) (p 459 16 36)] [] ⟨456,12,459,36⟩] ⟨450,8,459,36⟩,aM (aA 68 460 15 20) 460 8 20],99,(a_ [("self",aE),("path",aE),("found",aE),("used",aE),("alias",aE),("wanted",aE),("spot",aE),("name",aE),("selected_names",aL),("MAIN",aL),("KNOWN",aL),("ImportFault",aL)])⟩
def KH:Fun:=
 ⟨[(47,p 472 13 17),(33,p 472 19 26),(34,p 472 28 32)],[],[],[],
 [aM (aO (aI (bA (aA 47 473 15 19) 65 473 15 25) (aA 33 473 26 33) 473 15 34) 5 [aA 34 473 39 43] (p 473 15 38) 473 15 44) 473 8 44],99,(a_ [("self",aE),("package",aE),("name",aE)])⟩
def KI:Fun:=
 ⟨[(47,p 475 22 26),(33,p 475 28 35),(34,p 475 37 41),(35,p 475 43 47)],[.int 0],[aC 0 475 48 49],[],
 [aQ (aV 68 476 8 13) (aO (aI (bA (aA 47 476 16 20) 65 476 16 26) (aA 33 476 27 34) 476 16 35) 5 [aA 34 476 40 44] (p 476 16 39) 476 16 45) 476 8 45,.ife (bW false [aJ (aA 68 477 11 16) [.is] [bG 477 20 24] 477 11 24,.nt (aH (aK 123 477 32 43) [aA 34 477 44 48] 477 32 49) (p 477 28 49)] 477 11 49) [.rai 208 52 [aR .add (aR .add (aA 33 478 28 35) (aB [32,116,101,108,108,115,32,110,111,32] " tells no " 478 38 50) 478 28 50) (aA 34 478 53 57) 478 28 57,aA 35 478 59 63] (p 478 18 27) (p 478 18 64) (p 478 12 64)] [] ⟨477,8,478,64⟩,aM (aA 68 479 15 20) 479 8 20],99,(a_ [("self",aE),("package",aE),("name",aE),("spot",aE),("found",aE),("is_exported",aL),("NameFault",aL)])⟩
def KJ:Fun:=
 ⟨[(47,p 502 17 21),(34,p 502 23 27),(37,p 502 29 34),(35,p 502 36 40),(124,p 502 42 47),(125,p 502 49 59)],[],[],[],
 [.asa (aA 47 503 8 12) 34 (aA 34 503 20 24) (p 503 8 17) (p 503 8 24),.asa (aA 47 504 8 12) 37 (aA 37 504 21 26) (p 504 8 18) (p 504 8 26),.asa (aA 47 505 8 12) 35 (aA 35 505 20 24) (p 505 8 17) (p 505 8 24),.asa (aA 47 506 8 12) 124 (aA 124 506 21 26) (p 506 8 18) (p 506 8 26),.asa (aA 47 507 8 12) 125 (aA 125 507 26 36) (p 507 8 23) (p 507 8 36),.asa (aA 47 508 8 12) 126 (aX false 508 23 28) (p 508 8 20) (p 508 8 28)],99,(a_ [("self",aE),("name",aE),("entry",aE),("spot",aE),("owner",aE),("is_checked",aE)])⟩
def KK:Fun:=
 ⟨[(47,p 511 17 21),(127,p 511 23 28),(124,p 511 30 35)],[.non],[bG 511 36 40],[],
 [.asa (aA 47 512 8 12) 127 (aA 127 512 21 26) (p 512 8 18) (p 512 8 26),.asa (aA 47 513 8 12) 124 (aA 124 513 21 26) (p 513 8 18) (p 513 8 26),.asa (aA 47 514 8 12) 64 (.dct [] [] (p 514 20 22)) (p 514 8 17) (p 514 8 22)],99,(a_ [("self",aE),("outer",aE),("owner",aE)])⟩
def KL:Fun:=
 ⟨[(47,p 516 16 20),(34,p 516 22 26),(37,p 516 28 33),(35,p 516 35 39),(125,p 516 41 51)],[.bol false],[aX false 516 52 57],[],
 [.ife (aJ (aA 34 517 11 15) [.eq] [aB [95] "_" 517 19 22] 517 11 22) [.ret0 (p 518 12 18)] [] ⟨517,8,518,18⟩,.ife (aJ (aA 34 519 11 15) [.inn] [bA (aA 47 519 19 23) 64 519 19 28] 519 11 28) [.rai 208 52 [aR .add (aA 34 520 28 32) (aB [32,105,115,32,116,111,108,100,32,116,119,105,99,101] " is told twice" 520 35 51) 520 28 51,aA 35 520 53 57] (p 520 18 27) (p 520 18 58) (p 520 12 58)] [] ⟨519,8,520,58⟩,.ass (bA (aA 47 521 8 12) 64 521 8 17) (aA 34 521 18 22) (aH (aK 128 521 26 34) [aA 34 521 35 39,aA 37 521 41 46,aA 35 521 48 52,bA (aA 47 521 54 58) 124 521 54 64,aA 125 521 66 76] 521 26 77) (p 521 8 23) (p 521 8 77)],99,(a_ [("self",aE),("name",aE),("entry",aE),("spot",aE),("is_checked",aE),("NameFault",aL),("ScopeRow",aL)])⟩
def KM:Fun:=
 ⟨[(47,p 526 12 16),(34,p 526 18 22)],[],[],[],
 [aQ (aV 97 527 8 12) (aA 47 527 15 19) 527 8 19,.whi (aJ (aA 97 528 14 18) [.isn] [bG 528 26 30] 528 14 30) [.ife (aJ (aA 34 529 15 19) [.inn] [bA (aA 97 529 23 27) 64 529 23 32] 529 15 32) [aM (aI (bA (aA 97 530 23 27) 64 530 23 32) (aA 34 530 33 37) 530 23 38) 530 16 38] [] ⟨529,12,530,38⟩,aQ (aV 97 531 12 16) (bA (aA 97 531 19 23) 127 531 19 29) 531 12 29] ⟨528,8,531,29⟩,aM (bG 532 15 19) 532 8 19],99,(a_ [("self",aE),("name",aE),("here",aE)])⟩
def KN:Fun:=
 ⟨[(47,p 534 13 17),(34,p 534 19 23),(35,p 534 25 29)],[.non],[bG 534 30 34],[],
 [aQ (aV 68 535 8 13) (aO (aA 47 535 16 20) 99 [aA 34 535 25 29] (p 535 16 24) 535 16 30) 535 8 30,.ife (bW true [aJ (aA 68 536 11 16) [.is] [bG 536 20 24] 536 11 24,aJ (aA 35 536 29 33) [.isn] [bG 536 41 45] 536 29 45] 536 11 45) [.rai 208 52 [aR .add (aB [110,111,116,104,105,110,103,32,104,97,115,32,116,104,101,32,110,97,109,101,32] "nothing has the name " 537 28 51) (aA 34 537 54 58) 537 28 58,aA 35 537 60 64] (p 537 18 27) (p 537 18 65) (p 537 12 65)] [] ⟨536,8,537,65⟩,aM (.ife (aJ (aA 68 538 23 28) [.is] [bG 538 32 36] 538 23 36) (bG 538 15 19) (bA (aA 68 538 42 47) 37 538 42 53) (p 538 15 53)) 538 8 53],99,(a_ [("self",aE),("name",aE),("spot",aE),("found",aE),("NameFault",aL)])⟩
def KO:Fun:=
 ⟨[(47,p 555 17 21),(42,p 555 23 27),(33,p 555 29 36),(104,p 555 38 48),(129,p 555 50 57)],[],[],[],
 [.asa (aA 47 556 8 12) 42 (aA 42 556 20 24) (p 556 8 17) (p 556 8 24),.asa (aA 47 557 8 12) 33 (aA 33 557 23 30) (p 557 8 20) (p 557 8 30),.asa (aA 47 558 8 12) 104 (aA 104 558 26 36) (p 558 8 23) (p 558 8 36),.asa (aA 47 559 8 12) 129 (aA 129 559 23 30) (p 559 8 20) (p 559 8 30)],99,(a_ [("self",aE),("path",aE),("package",aE),("underlying",aE),("methods",aE)])⟩
def KQ:Fun:=
 ⟨[],[],[],[],
 [aQ (aV 130 561 4 8) (aD [aB [102,117,110,99] "func" 561 12 18,aD [] 561 20 22,aD [aD [aB [115,116,114,105,110,103] "string" 561 26 34] 561 25 36] 561 24 38,aX false 561 40 45] 561 11 46) 561 4 46,aQ (aV 131 562 4 10) (aD [aB [102,117,110,99] "func" 562 14 20,aD [aD [aB [105,110,116] "int" 562 24 29,aB [105,110,116] "int" 562 31 36] 562 23 37] 562 22 39,aD [] 562 41 43,aX false 562 45 50] 562 13 51) 562 4 51,aQ (aV 132 563 4 8) (aD [aB [115,116,114,117,99,116] "struct" 563 12 20,aD [aD [aB [115,116,97,116,101] "state" 563 24 31,aD [aB [105,110,116] "int" 563 34 39,aB [105,110,116] "int" 563 41 46] 563 33 47,aX false 563 49 54] 563 23 55] 563 22 57] 563 11 58) 563 4 58,aQ (aV 61 564 4 8) (.dct [aB [69,114,114,111,114] "Error" 564 12 19] [aD [aX false 564 22 27,aA 130 564 29 33,aB [114,117,110,116,105,109,101,46,69,114,114,111,114,46,69,114,114,111,114] "runtime.Error.Error" 564 35 56] 564 21 57] (p 564 11 58)) 564 4 58,aQ (aV 133 565 4 9) (.dct [aB [76,111,99,107] "Lock" 565 13 19,aB [85,110,108,111,99,107] "Unlock" 565 55 63] [aD [aX true 565 22 26,aK 134 565 28 33,aB [115,121,110,99,46,77,117,116,101,120,46,76,111,99,107] "sync.Mutex.Lock" 565 35 52] 565 21 53,aD [aX true 565 66 70,aK 134 565 72 77,aB [115,121,110,99,46,77,117,116,101,120,46,85,110,108,111,99,107] "sync.Mutex.Unlock" 565 79 98] 565 65 99] (p 565 12 100)) 565 4 100,aQ (aV 135 566 4 9) (.dct [aB [65,100,100] "Add" 566 13 18,aB [68,111,110,101] "Done" 566 58 64,aB [87,97,105,116] "Wait" 566 104 110] [aD [aX true 566 21 25,aA 131 566 27 33,aB [115,121,110,99,46,87,97,105,116,71,114,111,117,112,46,65,100,100] "sync.WaitGroup.Add" 566 35 55] 566 20 56,aD [aX true 566 67 71,aK 134 566 73 78,aB [115,121,110,99,46,87,97,105,116,71,114,111,117,112,46,68,111,110,101] "sync.WaitGroup.Done" 566 80 101] 566 66 102,aD [aX true 566 113 117,aK 134 566 119 124,aB [115,121,110,99,46,87,97,105,116,71,114,111,117,112,46,87,97,105,116] "sync.WaitGroup.Wait" 566 126 147] 566 112 148] (p 566 12 149)) 566 4 149,aM (.dct [aB [101,114,114,111,114] "error" 567 12 19,aB [114,117,110,116,105,109,101,46,69,114,114,111,114] "runtime.Error" 567 83 98,aB [115,121,110,99,46,77,117,116,101,120] "sync.Mutex" 567 157 169,aB [115,121,110,99,46,87,97,105,116,71,114,111,117,112] "sync.WaitGroup" 567 216 232] [aH (aK 136 567 21 29) [aB [101,114,114,111,114] "error" 567 30 37,aB [] "" 567 39 41,aD [aB [105,110,116,101,114,102,97,99,101] "interface" 567 44 55,aD [aD [aB [69,114,114,111,114] "Error" 567 59 66,aA 130 567 68 72] 567 58 73] 567 57 75] 567 43 76,.dct [] [] (p 567 78 80)] 567 21 81,aH (aK 136 567 100 108) [aB [114,117,110,116,105,109,101,46,69,114,114,111,114] "runtime.Error" 567 109 124,aB [114,117,110,116,105,109,101] "runtime" 567 126 135,aD [aB [115,116,114,105,110,103] "string" 567 138 146] 567 137 148,aA 61 567 150 154] 567 100 155,aH (aK 136 567 171 179) [aB [115,121,110,99,46,77,117,116,101,120] "sync.Mutex" 567 180 192,aB [115,121,110,99] "sync" 567 194 200,aA 132 567 202 206,aA 133 567 208 213] 567 171 214,aH (aK 136 567 234 242) [aB [115,121,110,99,46,87,97,105,116,71,114,111,117,112] "sync.WaitGroup" 567 243 259,aB [115,121,110,99] "sync" 567 261 267,aA 132 567 269 273,aA 135 567 275 280] 567 234 281] (p 567 11 282)) 567 4 282],99,(a_ [("text",aE),("adding",aE),("held",aE),("told",aE),("locks",aE),("waits",aE),("PLAIN",aL),("NamedRow",aL)])⟩
def KR:Fun:=
 ⟨[],[],[],[],
 [aQ (aV 68 569 4 9) (aH (aK 137 569 12 17) [bG 569 18 22] 569 12 23) 569 4 23,.fo (aV 8 570 8 12) (aK 138 570 16 25) [bF (aO (aA 68 571 8 13) 139 [aA 8 571 22 26,aD [aB [116,121,112,101] "type" 571 29 35,aD [aB [105,110,116] "int" 571 38 43,aA 8 571 45 49] 571 37 50] 571 28 51,aC 0 571 53 54] (p 571 8 21) 571 8 55) 571 8 55] ⟨570,4,571,55⟩,bF (aO (aA 68 572 4 9) 139 [aB [98,121,116,101] "byte" 572 18 24,aD [aB [116,121,112,101] "type" 572 27 33,aD [aB [105,110,116] "int" 572 36 41,aB [117,105,110,116,56] "uint8" 572 43 50] 572 35 51] 572 26 52,aC 0 572 54 55] (p 572 4 17) 572 4 56) 572 4 56,bF (aO (aA 68 573 4 9) 139 [aB [114,117,110,101] "rune" 573 18 24,aD [aB [116,121,112,101] "type" 573 27 33,aD [aB [105,110,116] "int" 573 36 41,aB [105,110,116,51,50] "int32" 573 43 50] 573 35 51] 573 26 52,aC 0 573 54 55] (p 573 4 17) 573 4 56) 573 4 56,bF (aO (aA 68 574 4 9) 139 [aB [98,111,111,108] "bool" 574 18 24,aD [aB [116,121,112,101] "type" 574 27 33,aD [aB [98,111,111,108] "bool" 574 36 42] 574 35 44] 574 26 45,aC 0 574 47 48] (p 574 4 17) 574 4 49) 574 4 49,bF (aO (aA 68 575 4 9) 139 [aB [115,116,114,105,110,103] "string" 575 18 26,aD [aB [116,121,112,101] "type" 575 29 35,aD [aB [115,116,114,105,110,103] "string" 575 38 46] 575 37 48] 575 28 49,aC 0 575 51 52] (p 575 4 17) 575 4 53) 575 4 53,bF (aO (aA 68 576 4 9) 139 [aB [101,114,114,111,114] "error" 576 18 25,aD [aB [116,121,112,101] "type" 576 28 34,aK 140 576 36 41] 576 27 42,aC 0 576 44 45] (p 576 4 17) 576 4 46) 576 4 46,bF (aO (aA 68 577 4 9) 139 [aB [97,110,121] "any" 577 18 23,aD [aB [116,121,112,101] "type" 577 26 32,aD [aB [105,110,116,101,114,102,97,99,101] "interface" 577 35 46,aD [] 577 48 50] 577 34 51] 577 25 52,aC 0 577 54 55] (p 577 4 17) 577 4 56) 577 4 56,bF (aO (aA 68 578 4 9) 139 [aB [116,114,117,101] "true" 578 18 24,aD [aB [99,111,110,115,116] "const" 578 27 34,aD [aB [117,110,116,121,112,101,100] "untyped" 578 37 46,aB [98,111,111,108] "bool" 578 48 54] 578 36 55,aX true 578 57 61] 578 26 62,aC 0 578 64 65] (p 578 4 17) 578 4 66) 578 4 66,bF (aO (aA 68 579 4 9) 139 [aB [102,97,108,115,101] "false" 579 18 25,aD [aB [99,111,110,115,116] "const" 579 28 35,aD [aB [117,110,116,121,112,101,100] "untyped" 579 38 47,aB [98,111,111,108] "bool" 579 49 55] 579 37 56,aX false 579 58 63] 579 27 64,aC 0 579 66 67] (p 579 4 17) 579 4 68) 579 4 68,bF (aO (aA 68 580 4 9) 139 [aB [105,111,116,97] "iota" 580 18 24,aD [aB [105,111,116,97] "iota" 580 27 33] 580 26 35,aC 0 580 37 38] (p 580 4 17) 580 4 39) 580 4 39,bF (aO (aA 68 581 4 9) 139 [aB [110,105,108] "nil" 581 18 23,aD [aB [110,105,108] "nil" 581 26 31] 581 25 33,aC 0 581 35 36] (p 581 4 17) 581 4 37) 581 4 37,.fo (aV 34 582 8 12) (aK 141 582 16 24) [bF (aO (aA 68 583 8 13) 139 [aA 34 583 22 26,aD [aB [98,117,105,108,116,105,110] "builtin" 583 29 38,aA 34 583 40 44] 583 28 45,aC 0 583 47 48] (p 583 8 21) 583 8 49) 583 8 49] ⟨582,4,583,49⟩,aM (aA 68 584 11 16) 584 4 16],99,(a_ [("found",aE),("kind",aE),("name",aE),("Scope",aL),("INT_KINDS",aL),("ERROR",aL),("BUILTINS",aL)])⟩
def KS:Fun:=
 ⟨[(47,p 587 17 21),(44,p 587 23 31)],[.non],[bG 587 32 36],[],
 [.asa (aA 47 588 8 12) 44 (aA 44 588 24 32) (p 588 8 21) (p 588 8 32),.asa (aA 47 589 8 12) 76 (aH (aK 142 589 21 31) [] 589 21 33) (p 589 8 18) (p 589 8 33),.asa (aA 47 590 8 12) 143 (.dct [] [] (p 590 23 25)) (p 590 8 20) (p 590 8 25),.asa (aA 47 591 8 12) 144 (.dct [] [] (p 591 22 24)) (p 591 8 19) (p 591 8 24),.asa (aA 47 592 8 12) 145 (.dct [] [] (p 592 21 23)) (p 592 8 18) (p 592 8 23),.asa (aA 47 593 8 12) 146 (.dct [] [] (p 593 22 24)) (p 593 8 19) (p 593 8 24),.asa (aA 47 594 8 12) 111 (.dct [] [] (p 594 21 23)) (p 594 8 18) (p 594 8 23),.asa (aA 47 595 8 12) 46 (.dct [] [] (p 595 22 24)) (p 595 8 19) (p 595 8 24),.asa (aA 47 596 8 12) 147 (aS [] 596 21 23) (p 596 8 18) (p 596 8 23),.asa (aA 47 597 8 12) 148 (aS [] 597 22 24) (p 597 8 19) (p 597 8 24),.asa (aA 47 598 8 12) 149 (bG 598 22 26) (p 598 8 19) (p 598 8 26),.asa (aA 47 599 8 12) 63 (aS [] 599 25 27) (p 599 8 22) (p 599 8 27),.asa (aA 47 600 8 12) 150 (aX true 600 24 28) (p 600 8 21) (p 600 8 28)],99,(a_ [("self",aE),("packages",aE),("known_rows",aL)])⟩
def KT:Fun:=
 ⟨[(47,p 602 16 20),(61,p 602 22 26)],[],[],[],
 [.whi (aJ (aI (aA 61 603 14 18) (aC 0 603 19 20) 603 14 21) [.eq] [aB [110,97,109,101,100] "named" 603 25 32] 603 14 32) [.ife (aJ (aI (aA 61 604 15 19) (aC 1 604 20 21) 604 15 22) [.nin] [bA (aA 47 604 30 34) 76 604 30 40] 604 15 40) [.rai 208 52 [aR .add (aB [116,104,101,114,101,32,105,115,32,110,111,32,116,121,112,101,32] "there is no type " 605 32 51) (aI (aA 61 605 54 58) (aC 1 605 59 60) 605 54 61) 605 32 61] (p 605 22 31) (p 605 22 62) (p 605 16 62)] [] ⟨604,12,605,62⟩,aQ (aV 99 606 12 15) (aI (bA (aA 47 606 18 22) 76 606 18 28) (aI (aA 61 606 29 33) (aC 1 606 34 35) 606 29 36) 606 18 37) 606 12 37,.ife (aJ (bA (aA 99 607 15 18) 104 607 15 29) [.is] [bG 607 33 37] 607 15 37) [.ife (aJ (bA (aA 47 608 19 23) 149 608 19 30) [.is] [bG 608 34 38] 608 19 38) [.rai 209 64 [aR .add (aR .add (aB [116,104,101,32,116,121,112,101,32] "the type " 609 36 47) (aI (aA 61 609 50 54) (aC 1 609 55 56) 609 50 57) 609 36 57) (aB [32,105,115,32,116,111,108,100,32,98,121,32,105,116,115,101,108,102] " is told by itself" 609 60 80) 609 36 80] (p 609 26 35) (p 609 26 81) (p 609 20 81)] [] ⟨608,16,609,81⟩,bF (aO (aA 47 610 16 20) 149 [aI (aA 61 610 28 32) (aC 1 610 33 34) 610 28 35] (p 610 16 27) 610 16 36) 610 16 36] [] ⟨607,12,610,36⟩,aQ (aV 61 611 12 16) (bA (aA 99 611 19 22) 104 611 19 33) 611 12 33] ⟨603,8,611,33⟩,aM (aA 61 612 15 19) 612 8 19],99,(a_ [("self",aE),("told",aE),("row",aE),("NameFault",aL),("TypeFault",aL)])⟩
def KU:Fun:=
 ⟨[(47,p 614 16 20),(37,p 614 22 27)],[],[],[],
 [.ife (bW true [aJ (aA 37 615 11 16) [.isn] [bG 615 24 28] 615 11 28,aJ (aI (aA 37 615 33 38) (aC 0 615 39 40) 615 33 41) [.eq] [aB [119,97,105,116,105,110,103] "waiting" 615 45 54] 615 33 54] 615 11 54) [aM (aO (aA 47 616 19 23) 149 [aI (aA 37 616 31 36) (aC 1 616 37 38) 616 31 39] (p 616 19 30) 616 19 40) 616 12 40] [] ⟨615,8,616,40⟩,aM (aA 37 617 15 20) 617 8 20],99,(a_ [("self",aE),("entry",aE)])⟩
def f705:Fun:=
 ⟨[(196,p 619 14 20),(172,p 619 22 23)],[],[],[],
 [aQ (aV 213 620 4 8) (aC 0 620 11 12) 620 4 12,.ife (aJ (aA 172 621 7 8) [.lt] [aH (aK 109 621 11 14) [aA 196 621 15 21] 621 11 22] 621 7 22) [aQ (aV 213 622 8 12) (aI (aA 196 622 15 21) (aA 172 622 22 23) 622 15 24) 622 8 24] [] ⟨621,4,622,24⟩,aQ (aV 214 623 4 7) (aH (aK 215 623 10 13) [aH (aK 18 623 14 17) [aA 213 623 18 22] 623 14 23,aH (aK 18 623 25 28) [aR .sub (.any (.UnaryOp .USub (.Constant (.int 1) 0 (p 623 30 31)) (p 623 29 31))) (aA 213 623 34 38) 623 29 38] 623 25 39] 623 10 40) 623 4 40,aQ (aV 216 624 4 11) (aR .mod (aH (aK 18 624 14 17) [aR .mul (aR .add (aR .add (aR .add (aR .mod (aH (aK 18 624 19 22) [aA 214 624 23 26] 624 19 27) (aC 2147483629 624 30 40) 624 19 40) (aR .mul (aR .mul (aC 7919 624 43 47) (aA 172 624 50 51) 624 43 51) (aA 172 624 54 55) 624 43 55) 624 19 55) (aR .mul (aC 31 624 58 60) (aA 172 624 63 64) 624 58 64) 624 19 64) (aC 17 624 67 69) 624 19 69) (aC 48271 624 73 78) 624 18 78] 624 14 79) (aC 2147483647 624 82 92) 624 14 92) 624 4 92,aM (aS [aR .mul (aA 214 625 12 15) (aH (aK 18 625 18 21) [aJ (aA 214 625 22 25) [.ge] [aR .pow (aC 10 625 29 31) (aC 18 625 35 37) 625 29 37] 625 22 37] 625 18 38) 625 12 38,aA 216 625 40 47] 625 11 48) 625 4 48],99,(a_ [("script",aE),("k",aE),("cell",aE),("big",aE),("stirred",aE),("len",aL),("max",aL),("int",aL)])⟩
def f712:Fun:=
 ⟨[(151,p 626 14 20),(217,p 626 22 25)],[],[],[],
 [.ife (aJ (aI (aA 151 627 7 13) (aC 0 627 14 15) 627 7 16) [.gt] [aC 0 627 19 20] 627 7 20) [aQ (aV 218 628 8 14) (aR .mod (aH (aK 18 628 17 20) [aI (aA 151 628 21 27) (aC 0 628 28 29) 628 21 30] 628 17 31) (aA 217 628 34 37) 628 17 37) 628 8 37,.ass (aA 151 629 8 14) (aC 0 629 15 16) (aR .fdv (aI (aA 151 629 20 26) (aC 0 629 27 28) 629 20 29) (aA 217 629 33 36) 629 20 36) (p 629 8 17) (p 629 8 36),aM (aA 218 630 15 21) 630 8 21] [] ⟨627,4,630,21⟩,.ass (aA 151 631 4 10) (aC 1 631 11 12) (aR .mod (aH (aK 18 631 16 19) [aR .add (aR .mul (aI (aA 151 631 20 26) (aC 1 631 27 28) 631 20 29) (aC 39373 631 32 37) 631 20 37) (aC 7 631 40 41) 631 20 41] 631 16 42) (aC 2147483647 631 45 55) 631 16 55) (p 631 4 13) (p 631 4 55),aM (aR .mod (aH (aK 18 632 11 14) [aR .fdv (aR .mod (aH (aK 18 632 15 18) [aR .mul (aI (aA 151 632 19 25) (aC 1 632 26 27) 632 19 28) (aI (aA 151 632 31 37) (aC 1 632 38 39) 632 31 40) 632 19 40] 632 15 41) (aC 2147483629 632 44 54) 632 15 54) (aC 32 632 58 60) 632 15 60] 632 11 61) (aA 217 632 64 67) 632 11 67) 632 4 67],99,(a_ [("source",aE),("top",aE),("figure",aE),("int",aL)])⟩
def KV:Fun:=
 ⟨[(151,p 633 13 19),(152,p 633 21 27)],[],[],[],
 [aM (aI (aA 152 634 11 17) (aH (aK 153 634 18 27) [aA 151 634 28 34,aH (aK 109 634 36 39) [aA 152 634 40 46] 634 36 47] 634 18 48) 634 11 49) 634 4 49],99,(a_ [("source",aE),("things",aE),("_law_take",aL),("len",aL)])⟩
def KW:Fun:=
 ⟨[],[],[],[],
 [aM (aD [aB [105,110,116,101,114,102,97,99,101] "interface" 637 12 23,aD [aD [aB [71,111] "Go" 637 27 31,aK 154 637 33 43] 637 26 44,aD [aB [85,112] "Up" 637 47 51,aD [aB [102,117,110,99] "func" 637 54 60,aD [aD [aB [98,111,111,108] "bool" 637 64 70] 637 63 72] 637 62 74,aD [] 637 76 78,aX false 637 80 85] 637 53 86] 637 46 87] 637 25 88] 637 11 89) 637 4 89],99,(a_ [("_law_plain",aL)])⟩
def KX:Fun:=
 ⟨[],[],[],[],
 [aQ (cH [(31,p 639 4 9),(155,p 639 11 16)] 639 4 16) (aD [aH (aK 156 639 20 25) [] 639 20 27,aH (aK 157 639 29 37) [] 639 29 39] 639 19 40) 639 4 40,aQ (aV 158 640 4 8) (aH (aK 58 640 11 16) [.lc (aD [aB [116,121,112,101,100,101,99,108] "typedecl" 640 19 29,aC 0 640 31 32,aA 34 640 34 38,aD [aB [110,97,109,101] "name" 640 41 47,aC 0 640 49 50,bG 640 52 56,aB [105,110,116] "int" 640 58 63] 640 40 64,aX false 640 66 71] 640 18 72) [aV 34 640 77 81] [aS [aB [88] "X" 640 86 89,aB [121] "y" 640 91 94] 640 85 95] [[]] [] (a_ [(".0",aE),("name",aE)]) (p 640 17 96)] 640 11 97) 640 4 97,.asa (aA 31 641 4 9) 44 (aH (aK 159 641 21 29) [aD [aD [aB [112] "p" 641 32 35,aD [aB [112] "p" 641 38 41,aD [] 641 43 45,aA 158 641 47 51] 641 37 52] 641 31 53] 641 30 55] 641 21 56) (p 641 4 18) (p 641 4 56),.ass (bA (aA 31 642 4 9) 46 642 4 16) (aB [112] "p" 642 17 20) (aH (aK 137 642 24 29) [aA 155 642 30 35] 642 24 36) (p 642 4 21) (p 642 4 36),.fo (aV 34 643 8 12) (aS [aB [88] "X" 643 17 20,aB [121] "y" 643 22 25] 643 16 26) [.ass (bA (aA 31 644 8 13) 76 644 8 19) (aR .add (aB [112,46] "p." 644 20 24) (aA 34 644 27 31) 644 20 31) (aH (aK 136 644 35 43) [aR .add (aB [112,46] "p." 644 44 48) (aA 34 644 51 55) 644 44 55,aB [112] "p" 644 57 60,aD [aB [105,110,116] "int" 644 63 68,aB [105,110,116] "int" 644 70 75] 644 62 76,.dct [] [] (p 644 78 80)] 644 35 81) (p 644 8 32) (p 644 8 81),bF (aO (aI (bA (aA 31 645 8 13) 46 645 8 20) (aB [112] "p" 645 21 24) 645 8 25) 139 [aA 34 645 34 38,aD [aB [116,121,112,101] "type" 645 41 47,aD [aB [110,97,109,101,100] "named" 645 50 57,aR .add (aB [112,46] "p." 645 59 63) (aA 34 645 66 70) 645 59 70] 645 49 71] 645 40 72,aC 0 645 74 75] (p 645 8 33) 645 8 76) 645 8 76] ⟨643,4,645,76⟩,aQ (aV 32 646 4 9) (aH (aK 137 646 12 17) [aA 155 646 18 23] 646 12 24) 646 4 24,aQ (aV 64 647 4 8) (.dct [aB [75] "K" 647 12 15,aB [73] "I" 647 34 37,aB [82] "R" 647 52 55] [aD [aB [105,110,116] "int" 647 18 23,aB [105,110,116,56] "int8" 647 25 31] 647 17 32,aH (aK 160 647 39 48) [] 647 39 50,aD [aB [115,108,105,99,101] "slice" 647 58 65,aD [aB [98,111,111,108] "bool" 647 68 74] 647 67 76] 647 57 77] (p 647 11 78)) 647 4 78,.ass (aA 64 648 4 8) (aB [83] "S" 648 9 12) (aD [aB [115,116,114,117,99,116] "struct" 648 17 25,aD [aD [aB [114] "r" 648 29 32,aD [aB [110,97,109,101,100] "named" 648 35 42,aB [109,46,82] "m.R" 648 44 49] 648 34 50,aX false 648 52 57] 648 28 58] 648 27 60] 648 16 61) (p 648 4 13) (p 648 4 61),.fo (aV 34 649 8 12) (aH (aK 71 649 16 22) [aA 64 649 23 27] 649 16 28) [.ass (bA (aA 31 650 8 13) 76 650 8 19) (aR .add (aB [109,46] "m." 650 20 24) (aA 34 650 27 31) 650 20 31) (aH (aK 136 650 35 43) [aR .add (aB [109,46] "m." 650 44 48) (aA 34 650 51 55) 650 44 55,aB [109] "m" 650 57 60,aI (aA 64 650 62 66) (aA 34 650 67 71) 650 62 72,.dct [] [] (p 650 74 76)] 650 35 77) (p 650 8 32) (p 650 8 77),bF (aO (aA 32 651 8 13) 139 [aA 34 651 22 26,aD [aB [116,121,112,101] "type" 651 29 35,aD [aB [110,97,109,101,100] "named" 651 38 45,aR .add (aB [109,46] "m." 651 47 51) (aA 34 651 54 58) 651 47 58] 651 37 59] 651 28 60,aC 0 651 62 63] (p 651 8 21) 651 8 64) 651 8 64] ⟨649,4,651,64⟩,bF (aO (aA 32 652 4 9) 139 [aB [65] "A" 652 18 21,aD [aB [116,121,112,101] "type" 652 24 30,aD [aB [115,108,105,99,101] "slice" 652 33 40,aD [aB [115,116,114,105,110,103] "string" 652 43 51] 652 42 53] 652 32 54] 652 23 55,aC 0 652 57 58] (p 652 4 17) 652 4 59) 652 4 59,bF (aO (aA 32 653 4 9) 139 [aB [110] "n" 653 18 21,aD [aB [99,111,110,115,116] "const" 653 24 31,aD [aB [117,110,116,121,112,101,100] "untyped" 653 34 43,aB [105,110,116] "int" 653 45 50] 653 33 51,aC 4 653 53 54] 653 23 55,aC 0 653 57 58] (p 653 4 17) 653 4 59) 653 4 59,bF (aO (aA 32 654 4 9) 139 [aB [118] "v" 654 18 21,aD [aB [103,108,111,98,97,108] "global" 654 24 32,aB [109,46,118] "m.v" 654 34 39] 654 23 40,aC 0 654 42 43] (p 654 4 17) 654 4 44) 654 4 44,bF (aO (aA 32 655 4 9) 139 [aB [112] "p" 655 18 21,aD [aB [112,97,99,107,97,103,101] "package" 655 24 33,aB [112] "p" 655 35 38] 655 23 39,aC 0 655 41 42] (p 655 4 17) 655 4 43) 655 4 43,bF (aO (aA 32 656 4 9) 139 [aB [115,121,110,99] "sync" 656 18 24,aD [aB [112,97,99,107,97,103,101] "package" 656 27 36,aB [115,121,110,99] "sync" 656 38 44] 656 26 45,aC 0 656 47 48] (p 656 4 17) 656 4 49) 656 4 49,aM (aS [aA 31 657 12 17,aA 32 657 19 24] 657 11 25) 657 4 25],99,⟨.function,[("world",aE),("known",aE),("name",aE),("some",aE),("scope",aE),("rows",aE),("World",aL),("universe",aL),("tuple",aL),("Packages",aL),("Scope",aL),("NamedRow",aL),("_law_face",aL),("sorted",aL)],false,false,[("fast",.str "world"),("fast",.str "known"),("fast",.str "name"),("fast",.str "some"),("fast",.str "scope"),("fast",.str "rows")]⟩⟩
def KY:Fun:=
 ⟨[(34,p 658 14 18),(33,p 658 20 27)],[.non],[bG 658 28 32],[],
 [aM (aD [aB [110,97,109,101] "name" 659 12 18,aC 0 659 20 21,aA 33 659 23 30,aA 34 659 32 36] 659 11 37) 659 4 37],99,(a_ [("name",aE),("package",aE)])⟩
def KZ:Fun:=
 ⟨[(151,p 660 14 20)],[],[],[],
 [aM (aH (aK 161 661 11 19) [aA 151 661 20 26,aS [aS [aH (aK 162 661 30 39) [aB [105,110,116] "int" 661 40 45] 661 30 46,aD [aB [105,110,116] "int" 661 49 54,aB [105,110,116] "int" 661 56 61] 661 48 62,aX true 661 64 68,aS [] 661 70 72] 661 29 73,aS [aH (aK 162 661 76 85) [aB [98,121,116,101] "byte" 661 86 92] 661 76 93,aD [aB [105,110,116] "int" 661 96 101,aB [117,105,110,116,56] "uint8" 661 103 110] 661 95 111,aX true 661 113 117,aS [] 661 119 121] 661 75 122,aS [aH (aK 162 661 125 134) [aB [75] "K" 661 135 138] 661 125 139,aD [aB [110,97,109,101,100] "named" 661 142 149,aB [109,46,75] "m.K" 661 151 156] 661 141 157,aX true 661 159 163,aS [] 661 165 167] 661 124 168,aS [aH (aK 162 661 171 180) [aB [115,116,114,105,110,103] "string" 661 181 189] 661 171 190,aD [aB [115,116,114,105,110,103] "string" 661 193 201] 661 192 203,aX true 661 205 209,aS [] 661 211 213] 661 170 214,aS [aH (aK 162 661 217 226) [aB [88] "X" 661 227 230,aB [112] "p" 661 232 235] 661 217 236,aD [aB [110,97,109,101,100] "named" 661 239 246,aB [112,46,88] "p.X" 661 248 253] 661 238 254,aX true 661 256 260,aS [] 661 262 264] 661 216 265,aS [aH (aK 162 661 268 277) [aB [77,117,116,101,120] "Mutex" 661 278 285,aB [115,121,110,99] "sync" 661 287 293] 661 268 294,aD [aB [110,97,109,101,100] "named" 661 297 304,aB [115,121,110,99,46,77,117,116,101,120] "sync.Mutex" 661 306 318] 661 296 319,aX true 661 321 325,aS [] 661 327 329] 661 267 330,aS [aH (aK 162 661 333 342) [aB [65] "A" 661 343 346] 661 333 347,aD [aB [115,108,105,99,101] "slice" 661 350 357,aD [aB [115,116,114,105,110,103] "string" 661 360 368] 661 359 370] 661 349 371,aX false 661 373 378,aS [] 661 380 382] 661 332 383,aS [aH (aK 162 661 386 395) [aB [83] "S" 661 396 399] 661 386 400,aD [aB [110,97,109,101,100] "named" 661 403 410,aB [109,46,83] "m.S" 661 412 417] 661 402 418,aX false 661 420 425,aS [] 661 427 429] 661 385 430,aS [aH (aK 162 661 433 442) [aB [101,114,114,111,114] "error" 661 443 450] 661 433 451,aD [aB [110,97,109,101,100] "named" 661 454 461,aB [101,114,114,111,114] "error" 661 463 470] 661 453 471,aX true 661 473 477,aS [] 661 479 481] 661 432 482,aS [aH (aK 162 661 485 494) [aB [73] "I" 661 495 498] 661 485 499,aD [aB [110,97,109,101,100] "named" 661 502 509,aB [109,46,73] "m.I" 661 511 516] 661 501 517,aX true 661 519 523,aS [] 661 525 527] 661 484 528,aS [aH (aK 162 661 531 540) [aB [97,110,121] "any" 661 541 546] 661 531 547,aD [aB [105,110,116,101,114,102,97,99,101] "interface" 661 550 561,aD [] 661 563 565] 661 549 566,aX true 661 568 572,aS [] 661 574 576] 661 530 577,aS [aH (aK 162 661 580 589) [aB [98,111,111,108] "bool" 661 590 596] 661 580 597,aD [aB [98,111,111,108] "bool" 661 600 606] 661 599 608,aX true 661 610 614,aS [] 661 616 618] 661 579 619] 661 28 620] 661 11 621) 661 4 621],99,(a_ [("source",aE),("_law_one",aL),("_law_name",aL)])⟩
def K0:Fun:=
 ⟨[(151,p 662 16 22)],[],[],[],
 [aQ (aV 163 663 4 8) (aD [aB [98,105,110,97,114,121] "binary" 663 12 20,aC 0 663 22 23,aB [43] "+" 663 25 28,aD [aB [105,110,116] "int" 663 31 36,aC 0 663 38 39,aC 2 663 41 42] 663 30 43,aD [aB [110,97,109,101] "name" 663 46 52,aC 0 663 54 55,aB [110] "n" 663 57 60] 663 45 61] 663 11 62) 663 4 62,aM (aH (aK 161 664 11 19) [aA 151 664 20 26,aS [aS [aD [aB [105,110,116] "int" 664 31 36,aC 0 664 38 39,aC 3 664 41 42] 664 30 43,aC 3 664 45 46] 664 29 47,aS [aD [aB [110,97,109,101] "name" 664 51 57,aC 0 664 59 60,aB [110] "n" 664 62 65] 664 50 66,aC 4 664 68 69] 664 49 70,aS [aA 163 664 73 77,aC 6 664 79 80] 664 72 81,aS [aD [aB [105,110,116] "int" 664 85 90,aC 0 664 92 93,aC 0 664 95 96] 664 84 97,aC 0 664 99 100] 664 83 101] 664 28 102] 664 11 103) 664 4 103],99,(a_ [("source",aE),("plus",aE),("_law_one",aL)])⟩
def f763:Fun:=
 ⟨[(151,p 665 18 24),(164,p 665 26 30)],[],[],[],
 [aQ (aV 59 666 4 7) (aH (aK 165 666 10 19) [aA 151 666 20 26,aA 164 666 28 32] 666 10 33) 666 4 33,.ife (aJ (aH (aK 153 667 7 16) [aA 151 667 17 23,aC 3 667 25 26] 667 7 27) [.eq] [aC 0 667 31 32] 667 7 32) [aQ (aV 166 668 8 15) (aD [aB [102,117,110,99] "func" 668 19 25,aC 0 668 27 28,aD [aI (aA 59 668 31 34) (aC 0 668 35 36) 668 31 37,aD [aB [115,108,105,99,101] "slice" 668 40 47,aC 0 668 49 50,aI (aA 59 668 52 55) (aC 0 668 56 57) 668 52 58] 668 39 59] 668 30 60,aD [] 668 62 64,aX true 668 66 70] 668 18 71) 668 8 71,aM (aS [aA 166 669 16 23,aD [aB [102,117,110,99] "func" 669 26 32,aD [aI (aA 59 669 35 38) (aC 1 669 39 40) 669 35 41,aD [aB [115,108,105,99,101] "slice" 669 44 51,aI (aA 59 669 53 56) (aC 1 669 57 58) 669 53 59] 669 43 60] 669 34 61,aD [] 669 63 65,aX true 669 67 71] 669 25 72,aX false 669 74 79,aI (aA 59 669 81 84) (aC 3 669 85 86) 669 81 87] 669 15 88) 669 8 88] [] ⟨667,4,669,88⟩,aQ (cH [(167,p 670 4 7),(168,p 670 9 13)] 670 4 13) (aH (aK 161 670 16 24) [aA 151 670 25 31,aS [aD [aC 1 670 35 36,aC 0 670 38 39] 670 34 40,aD [aC 0 670 43 44,aC 1 670 46 47] 670 42 48,aD [aC 1 670 51 52,aC 2 670 54 55] 670 50 56,aD [aC 2 670 59 60,aC 1 670 62 63] 670 58 64] 670 33 65] 670 16 66) 670 4 66,aQ (aV 166 671 4 11) (aD [aB [102,117,110,99] "func" 671 15 21,aC 0 671 23 24,aR .mul (aD [aI (aA 59 671 27 30) (aC 0 671 31 32) 671 27 33] 671 26 35) (aA 167 671 38 41) 671 26 41,aR .mul (aD [aI (aA 59 671 44 47) (aC 0 671 48 49) 671 44 50] 671 43 52) (aA 168 671 55 59) 671 43 59,aX false 671 61 66] 671 14 67) 671 4 67,aM (aS [aA 166 672 12 19,aD [aB [102,117,110,99] "func" 672 22 28,aR .mul (aD [aI (aA 59 672 31 34) (aC 1 672 35 36) 672 31 37] 672 30 39) (aA 167 672 42 45) 672 30 45,aR .mul (aD [aI (aA 59 672 48 51) (aC 1 672 52 53) 672 48 54] 672 47 56) (aA 168 672 59 63) 672 47 63,aX false 672 65 70] 672 21 71,aX false 672 73 78,aI (aA 59 672 80 83) (aC 3 672 84 85) 672 80 86] 672 11 87) 672 4 87],99,(a_ [("source",aE),("deep",aE),("one",aE),("written",aE),("ins",aE),("outs",aE),("_law_type",aL),("_law_take",aL),("_law_one",aL)])⟩
def K2:Fun:=
 ⟨[(151,p 673 16 22),(164,p 673 24 28)],[],[],[151,164],
 [aQ (aV 158 674 4 8) (.lc (aH (aK 165 674 12 21) [aW 151 674 22 28,aW 164 674 30 34] 674 12 35) [aV 169 674 40 44] [aH (aK 0 674 48 53) [aH (aK 153 674 54 63) [aW 151 674 64 70,aC 3 674 72 73] 674 54 74] 674 48 75] [[]] [151,164] (a_ [(".0",aE),("turn",aE),("_law_type",aL),("deep",.free),("source",.free)]) (p 674 11 76)) 674 4 76,aQ (aV 170 675 4 7) (aS [aD [aB [112,116,114] "ptr" 675 12 17,aC 0 675 19 20,aH (aK 162 675 22 31) [aB [83] "S" 675 32 35] 675 22 36] 675 11 37,aD [aB [112,116,114] "ptr" 675 40 45,aD [aB [110,97,109,101,100] "named" 675 48 55,aB [109,46,83] "m.S" 675 57 62] 675 47 63] 675 39 64,aX true 675 66 70,aS [] 675 72 74] 675 10 75) 675 4 75,aQ (aV 171 676 4 8) (aS [aH (aK 162 676 12 21) [aB [73] "I" 676 22 25] 676 12 26,aD [aB [110,97,109,101,100] "named" 676 29 36,aB [109,46,73] "m.I" 676 38 43] 676 28 44,aX true 676 46 50,aS [] 676 52 54] 676 11 55) 676 4 55,aQ (aV 64 677 4 8) (.sli (aS [aD [aB [73] "I" 677 13 16,aA 171 677 18 22,aX true 677 24 28] 677 12 29,aD [aB [83] "S" 677 32 35,aA 170 677 37 40,aX true 677 42 46] 677 31 47] 677 11 48) (aH (aK 153 677 50 59) [aW 151 677 60 66,aC 3 677 68 69] 677 50 70) (p 677 49 70) (p 677 11 71)) 677 4 71,aQ (aV 64 678 4 8) (aR .add (aA 64 678 11 15) (.lc (aD [aH (aK 161 678 20 28) [aW 151 678 29 35,aS [aB [95] "_" 678 38 41,aI (aB [97,98] "ab" 678 43 47) (aA 172 678 48 49) 678 43 50] 678 37 51] 678 20 52,aA 59 678 54 57,aX false 678 59 64] 678 19 65) [cH [(172,p 678 70 71),(59,p 678 73 76)] 678 70 76] [aH (aK 1 678 80 89) [aA 158 678 90 94] 678 80 95] [[]] [151] (a_ [(".0",aE),("k",aE),("one",aE),("_law_one",aL),("source",.free)]) (p 678 18 96)) 678 11 96) 678 4 96,aQ (aV 166 679 4 11) (aD [aB [115,116,114,117,99,116] "struct" 679 15 23,aC 0 679 25 26,aH (aK 58 679 28 33) [.lc (aD [aA 34 679 36 40,aI (aA 99 679 42 45) (aC 0 679 46 47) 679 42 48,aA 173 679 50 55] 679 35 56) [cH [(34,p 679 61 65),(99,p 679 67 70),(173,p 679 72 77)] 679 61 77] [aA 64 679 81 85] [[]] [] (a_ [(".0",aE),("name",aE),("row",aE),("is_in",aE)]) (p 679 34 86)] 679 28 87] 679 14 88) 679 4 88,aQ (aV 61 680 4 8) (aD [aB [115,116,114,117,99,116] "struct" 680 12 20,aH (aK 58 680 22 27) [.lc (aD [aA 34 680 30 34,aI (aA 99 680 36 39) (aC 1 680 40 41) 680 36 42,aA 173 680 44 49] 680 29 50) [cH [(34,p 680 55 59),(99,p 680 61 64),(173,p 680 66 71)] 680 55 71] [aA 64 680 75 79] [[]] [] (a_ [(".0",aE),("name",aE),("row",aE),("is_in",aE)]) (p 680 28 80)] 680 22 81] 680 11 82) 680 4 82,aQ (aV 174 681 4 15) (aJ (.lc (aA 99 681 19 22) [cH [(34,p 681 27 31),(99,p 681 33 36),(173,p 681 38 43)] 681 27 43] [aA 64 681 47 51] [[.nt (aI (aA 99 681 59 62) (aC 2 681 63 64) 681 59 65) (p 681 55 65)]] [] (a_ [(".0",aE),("name",aE),("row",aE),("is_in",aE)]) (p 681 18 66)) [.eq] [aS [] 681 70 72] 681 18 72) 681 4 72,aM (aS [aA 166 682 12 19,aA 61 682 21 25,aA 174 682 27 38,.lc (aA 53 682 41 44) [cH [(34,p 682 49 53),(99,p 682 55 58),(173,p 682 60 65)] 682 49 65,aV 53 682 78 81] [aA 64 682 69 73,aI (aA 99 682 85 88) (aC 3 682 89 90) 682 85 91] [[],[]] [] (a_ [(".0",aE),("name",aE),("row",aE),("is_in",aE),("key",aE)]) (p 682 40 92)] 682 11 93) 682 4 93],99,⟨.function,[("source",.cell),("deep",.cell),("some",aE),("ptr",aE),("face",aE),("rows",aE),("written",aE),("told",aE),("is_compared",aE),("range",aL),("_law_take",aL),("_law_name",aL),("enumerate",aL),("tuple",aL)],false,false,[("fast",.str "source"),("fast",.str "deep"),("fast",.str "turn"),("fast",.str "some"),("fast",.str "ptr"),("fast",.str "face"),("fast",.str "rows"),("fast",.str "k"),("fast",.str "one"),("fast",.str "name"),("fast",.str "row"),("fast",.str "is_in"),("fast",.str "written"),("fast",.str "told"),("fast",.str "is_compared"),("fast",.str "key")]⟩⟩
def K3:Fun:=
 ⟨[(151,p 683 19 25),(164,p 683 27 31)],[],[],[151,164,68],
 [aQ (aV 158 684 4 8) (.lc (aH (aK 175 684 12 25) [aW 151 684 26 32,aW 164 684 34 38] 684 12 39) [aV 169 684 44 48] [aH (aK 0 684 52 57) [aH (aK 153 684 58 67) [aW 151 684 68 74,aC 3 684 76 77] 684 58 78] 684 52 79] [[]] [151,164] (a_ [(".0",aE),("turn",aE),("_law_function",aL),("deep",.free),("source",.free)]) (p 684 11 80)) 684 4 80,aQ (aV 64 685 4 8) (.lc (aD [aI (aS [aB [90,101,100] "Zed" 685 14 19,aB [68,111] "Do" 685 21 25] 685 13 26) (aA 172 685 27 28) 685 13 29,aA 59 685 31 34] 685 12 35) [cH [(172,p 685 40 41),(59,p 685 43 46)] 685 40 46] [aH (aK 1 685 50 59) [aA 158 685 60 64] 685 50 65] [[]] [] (a_ [(".0",aE),("k",aE),("one",aE)]) (p 685 11 66)) 685 4 66,.ife (aJ (aH (aK 153 686 7 16) [aW 151 686 17 23,aC 2 686 25 26] 686 7 27) [.eq] [aC 0 686 31 32] 686 7 32) [bF (aO (aA 64 687 8 12) 2 [aD [aB [71,111] "Go" 687 21 25,aS [aD [aB [102,117,110,99] "func" 687 29 35,aC 0 687 37 38,aD [] 687 40 42,aD [] 687 44 46,aX false 687 48 53] 687 28 54,aK 154 687 56 66,aX false 687 68 73,aS [] 687 75 77] 687 27 78] 687 20 79] (p 687 8 19) 687 8 80) 687 8 80] [] ⟨686,4,687,80⟩,aQ (aV 132 688 4 8) (aR .mul (aD [aH (aK 162 688 12 21) [aB [73] "I" 688 22 25] 688 12 26] 688 11 28) (aH (aK 153 688 31 40) [aW 151 688 41 47,aC 2 688 49 50] 688 31 51) 688 11 51) 688 4 51,aQ (aV 68 689 4 9) (aH (aK 176 689 12 16) [aR .add (.lc (aD [aA 34 689 19 23,aI (aA 99 689 25 28) (aC 1 689 29 30) 689 25 31] 689 18 32) [cH [(34,p 689 37 41),(99,p 689 43 46)] 689 37 46] [aA 64 689 50 54] [[]] [] (a_ [(".0",aE),("name",aE),("row",aE)]) (p 689 17 55)) (.ife (aJ (aA 132 689 83 87) [.ne] [aD [] 689 91 93] 689 83 93) (aH (aK 177 689 59 63) [aI (aH (aK 160 689 64 73) [] 689 64 75) (aC 1 689 76 77) 689 64 78] 689 59 79) (aS [] 689 99 101) (p 689 59 101)) 689 17 102] 689 12 103) 689 4 103,aQ (aV 166 690 4 11) (aD [aB [105,110,116,101,114,102,97,99,101] "interface" 690 15 26,aC 0 690 28 29,aH (aK 58 690 31 36) [.lc (aD [aA 34 690 39 43,aI (aA 99 690 45 48) (aC 0 690 49 50) 690 45 51] 690 38 52) [cH [(34,p 690 57 61),(99,p 690 63 66)] 690 57 66] [aA 64 690 70 74] [[]] [] (a_ [(".0",aE),("name",aE),("row",aE)]) (p 690 37 75)] 690 31 76,aA 132 690 78 82] 690 14 83) 690 4 83,aQ (aV 61 691 4 8) (aD [aB [105,110,116,101,114,102,97,99,101] "interface" 691 12 23,aH (aK 58 691 25 30) [.lc (aD [aA 34 691 33 37,aI (aW 68 691 39 44) (aA 34 691 45 49) 691 39 50] 691 32 51) [aV 34 691 56 60] [aH (aK 71 691 64 70) [aW 68 691 71 76] 691 64 77] [[]] [68] (a_ [(".0",aE),("name",aE),("found",.free)]) (p 691 31 78)] 691 25 79] 691 11 80) 691 4 80,aM (aS [aA 166 692 12 19,aA 61 692 21 25,aX true 692 27 31,.lc (aA 53 692 34 37) [cH [(34,p 692 42 46),(99,p 692 48 51)] 692 42 51,aV 53 692 64 67] [aA 64 692 55 59,aI (aA 99 692 71 74) (aC 3 692 75 76) 692 71 77] [[],[]] [] (a_ [(".0",aE),("name",aE),("row",aE),("key",aE)]) (p 692 33 78)] 692 11 79) 692 4 79],99,⟨.function,[("source",.cell),("deep",.cell),("some",aE),("rows",aE),("held",aE),("found",.cell),("written",aE),("told",aE),("range",aL),("_law_take",aL),("enumerate",aL),("_law_plain",aL),("_law_name",aL),("dict",aL),("list",aL),("_law_face",aL),("tuple",aL),("sorted",aL)],false,false,[("fast",.str "source"),("fast",.str "deep"),("fast",.str "turn"),("fast",.str "some"),("fast",.str "k"),("fast",.str "one"),("fast",.str "rows"),("fast",.str "held"),("fast",.str "name"),("fast",.str "row"),("fast",.str "found"),("fast",.str "written"),("fast",.str "told"),("fast",.str "key")]⟩⟩
def f780:Fun:=
 ⟨[(151,p 693 14 20),(164,p 693 22 26)],[],[],[],
 [aQ (aV 178 694 4 7) (.ife (aJ (aA 164 694 35 39) [.gt] [aC 0 694 42 43] 694 35 43) (aH (aK 153 694 10 19) [aA 151 694 20 26,aC 11 694 28 30] 694 10 31) (aC 0 694 49 50) (p 694 10 50)) 694 4 50,.ife (aJ (aA 178 695 7 10) [.lt] [aC 2 695 13 14] 695 7 14) [aM (aH (aK 179 696 15 24) [aA 151 696 25 31] 696 15 32) 696 8 32] [] ⟨695,4,696,32⟩,.ife (aJ (aA 178 697 7 10) [.gt] [aC 7 697 13 14] 697 7 14) [aM (aH (aI (aS [aK 175 698 16 29,aK 180 698 31 42,aK 181 698 44 58] 698 15 59) (aR .sub (aA 178 698 60 63) (aC 8 698 66 67) 698 60 67) 698 15 68) [aA 151 698 69 75,aR .sub (aA 164 698 77 81) (aC 1 698 84 85) 698 77 85] 698 15 86) 698 8 86] [] ⟨697,4,698,86⟩,aQ (aV 66 699 4 9) (aH (aK 165 699 12 21) [aA 151 699 22 28,aR .sub (aA 164 699 30 34) (aC 1 699 37 38) 699 30 38] 699 12 39) 699 4 39,.ife (bW false [aJ (aA 178 700 7 10) [.eq] [aC 2 700 14 15] 700 7 15,aJ (aA 178 700 19 22) [.eq] [aC 3 700 26 27] 700 19 27] 700 7 27) [aQ (aV 107 701 8 12) (aI (aS [aB [112,116,114] "ptr" 701 16 21,aB [115,108,105,99,101] "slice" 701 23 30] 701 15 31) (aR .sub (aA 178 701 32 35) (aC 2 701 38 39) 701 32 39) 701 15 40) 701 8 40,aM (aS [aD [aA 107 702 17 21,aC 0 702 23 24,aI (aA 66 702 26 31) (aC 0 702 32 33) 702 26 34] 702 16 35,aD [aA 107 702 38 42,aI (aA 66 702 44 49) (aC 1 702 50 51) 702 44 52] 702 37 53,aJ (aA 107 702 55 59) [.eq] [aB [112,116,114] "ptr" 702 63 68] 702 55 68,aI (aA 66 702 70 75) (aC 3 702 76 77) 702 70 78] 702 15 79) 702 8 79] [] ⟨700,4,702,79⟩,.ife (aJ (aA 178 703 7 10) [.eq] [aC 4 703 14 15] 703 7 15) [aQ (cH [(60,p 704 8 12),(182,p 704 14 18)] 704 8 18) (aH (aK 183 704 21 32) [aA 151 704 33 39] 704 21 40) 704 8 40,aM (aS [aD [aB [97,114,114,97,121] "array" 705 17 24,aC 0 705 26 27,aA 60 705 29 33,aI (aA 66 705 35 40) (aC 0 705 41 42) 705 35 43] 705 16 44,aD [aB [97,114,114,97,121] "array" 705 47 54,aA 182 705 56 60,aI (aA 66 705 62 67) (aC 1 705 68 69) 705 62 70] 705 46 71,aI (aA 66 705 73 78) (aC 2 705 79 80) 705 73 81,aI (aA 66 705 83 88) (aC 3 705 89 90) 705 83 91] 705 15 92) 705 8 92] [] ⟨703,4,705,92⟩,.ife (aJ (aA 178 706 7 10) [.lt] [aC 7 706 13 14] 706 7 14) [aQ (aV 107 707 8 12) (aH (aK 161 707 15 23) [aA 151 707 24 30,aS [aB [98,111,116,104] "both" 707 33 39,aB [115,101,110,100] "send" 707 41 47,aB [114,101,99,118] "recv" 707 49 55] 707 32 56] 707 15 57) 707 8 57,aM (aS [aD [aB [99,104,97,110] "chan" 708 17 23,aC 0 708 25 26,aA 107 708 28 32,aI (aA 66 708 34 39) (aC 0 708 40 41) 708 34 42] 708 16 43,aD [aB [99,104,97,110] "chan" 708 46 52,aA 107 708 54 58,aI (aA 66 708 60 65) (aC 1 708 66 67) 708 60 68] 708 45 69,aX true 708 71 75,aI (aA 66 708 77 82) (aC 3 708 83 84) 708 77 85] 708 15 86) 708 8 86] [] ⟨706,4,708,86⟩,aQ (aV 53 709 4 7) (aH (aK 179 709 10 19) [aA 151 709 20 26] 709 10 27) 709 4 27,aM (aS [aD [aB [109,97,112] "map" 710 13 18,aC 0 710 20 21,aI (aA 53 710 23 26) (aC 0 710 27 28) 710 23 29,aI (aA 66 710 31 36) (aC 0 710 37 38) 710 31 39] 710 12 40,aD [aB [109,97,112] "map" 710 43 48,aI (aA 53 710 50 53) (aC 1 710 54 55) 710 50 56,aI (aA 66 710 58 63) (aC 1 710 64 65) 710 58 66] 710 42 67,aX false 710 69 74,aR .add (aI (aA 66 710 76 81) (aC 3 710 82 83) 710 76 84) (aS [aI (aA 53 710 88 91) (aC 2 710 92 93) 710 88 94] 710 87 95) 710 76 95] 710 11 96) 710 4 96],99,(a_ [("source",aE),("deep",aE),("way",aE),("inner",aE),("word",aE),("expr",aE),("many",aE),("key",aE),("_law_take",aL),("_law_leaf",aL),("_law_function",aL),("_law_struct",aL),("_law_interface",aL),("_law_type",aL),("_law_length",aL),("_law_one",aL)])⟩
def f787:Fun:=
 ⟨[(91,p 711 16 20)],[],[],[],
 [.tr [aM (aH (aA 91 713 15 19) [] 713 15 21) 713 8 21] [.ret 209 64 (aB [116,121,112,101] "type" 715 15 21) (p 714 11 20) (p 715 8 21) ⟨714,4,715,21⟩,.ret 208 52 (aB [110,97,109,101] "name" 717 15 21) (p 716 11 20) (p 717 8 21) ⟨716,4,717,21⟩,.ret 210 76 (aB [99,111,110,115,116] "const" 719 15 22) (p 718 11 21) (p 719 8 22) ⟨718,4,719,22⟩] ⟨712,4,719,22⟩],99,(a_ [("call",aE),("TypeFault",aL),("NameFault",aL),("ConstFault",aL)])⟩
def f794:Fun:=
 ⟨[(151,p 720 19 25),(31,p 720 27 32),(32,p 720 34 39)],[],[],[31,32,166],
 [aQ (cH [(184,p 721 4 12),(185,p 721 14 19)] 721 4 19) (aD [aH (aK 162 721 23 32) [aB [105,110,116] "int" 721 33 38] 721 23 39,aD [aB [102,117,110,99] "func" 721 42 48,aC 0 721 50 51,aD [] 721 53 55,aD [] 721 57 59,aX false 721 61 66] 721 41 67] 721 22 68) 721 4 68,aQ (aV 186 722 4 9) (aD [aD [aB [97] "a" 722 14 17,aA 184 722 19 27,aX false 722 29 34] 722 13 35,aD [aB [97] "a" 722 38 41,aA 184 722 43 51,aX false 722 53 58] 722 37 59] 722 12 60) 722 4 60,aQ (aV 187 723 4 7) (aS [aD [aH (aK 162 723 12 21) [aB [110,111,98,111,100,121] "nobody" 723 22 30] 723 12 31,aB [110,97,109,101] "name" 723 33 39] 723 11 40,aD [aH (aK 162 723 43 52) [aB [118] "v" 723 53 56] 723 43 57,aB [116,121,112,101] "type" 723 59 65] 723 42 66,aD [aH (aK 162 723 69 78) [aB [110] "n" 723 79 82] 723 69 83,aB [116,121,112,101] "type" 723 85 91] 723 68 92] 723 10 93) 723 4 93,bF (aO (aA 187 724 4 7) 2 [aD [aH (aK 162 724 16 25) [aB [121] "y" 724 26 29,aB [112] "p" 724 31 34] 724 16 35,aB [110,97,109,101] "name" 724 37 43] 724 15 44] (p 724 4 14) 724 4 45) 724 4 45,aQ (aV 187 725 4 7) (aR .add (aA 187 725 10 13) (aS [aD [aH (aK 162 725 18 27) [aB [81] "Q" 725 28 31,aB [112] "p" 725 33 36] 725 18 37,aB [110,97,109,101] "name" 725 39 45] 725 17 46,aD [aH (aK 162 725 49 58) [aB [77,97,112] "Map" 725 59 64,aB [115,121,110,99] "sync" 725 66 72] 725 49 73,aB [110,97,109,101] "name" 725 75 81] 725 48 82,aD [aH (aK 162 725 85 94) [aB [88] "X" 725 95 98,aB [113] "q" 725 100 103] 725 85 104,aB [110,97,109,101] "name" 725 106 112] 725 84 113] 725 16 114) 725 10 114) 725 4 114,aQ (aV 187 726 4 7) (aR .add (aA 187 726 10 13) (aS [aD [aD [aB [97,114,114,97,121] "array" 726 19 26,aC 0 726 28 29,aD [aB [117,110,97,114,121] "unary" 726 32 39,aC 0 726 41 42,aB [45] "-" 726 44 47,aD [aB [105,110,116] "int" 726 50 55,aC 0 726 57 58,aC 1 726 60 61] 726 49 62] 726 31 63,aA 184 726 65 73] 726 18 74,aB [116,121,112,101] "type" 726 76 82] 726 17 83,aD [aD [aB [115,116,114,117,99,116] "struct" 726 87 95,aC 0 726 97 98,aA 186 726 100 105] 726 86 106,aB [110,97,109,101] "name" 726 108 114] 726 85 115] 726 16 116) 726 10 116) 726 4 116,bF (aO (aA 187 727 4 7) 2 [aD [aD [aB [97,114,114,97,121] "array" 727 17 24,aC 0 727 26 27,aD [aB [116,101,120,116] "text" 727 30 36,aC 0 727 38 39,.byt [97] (p 727 41 45)] 727 29 46,aA 184 727 48 56] 727 16 57,aB [116,121,112,101] "type" 727 59 65] 727 15 66] (p 727 4 14) 727 4 67) 727 4 67,bF (aO (aA 187 728 4 7) 2 [aD [aD [aB [97,114,114,97,121] "array" 728 17 24,aC 0 728 26 27,aD [aB [110,97,109,101] "name" 728 30 36,aC 0 728 38 39,aB [118] "v" 728 41 44] 728 29 45,aA 184 728 47 55] 728 16 56,aB [99,111,110,115,116] "const" 728 58 65] 728 15 66] (p 728 4 14) 728 4 67) 728 4 67,bF (aO (aA 187 729 4 7) 2 [aD [aD [aB [105,110,116,101,114,102,97,99,101] "interface" 729 17 28,aC 0 729 30 31,aD [aD [aB [70] "F" 729 35 38,aA 185 729 40 45] 729 34 46,aD [aB [70] "F" 729 49 52,aA 185 729 54 59] 729 48 60] 729 33 61,aD [] 729 63 65] 729 16 66,aB [110,97,109,101] "name" 729 68 74] 729 15 75] (p 729 4 14) 729 4 76) 729 4 76,bF (aO (aA 187 730 4 7) 2 [aD [aD [aB [105,110,116,101,114,102,97,99,101] "interface" 730 17 28,aC 0 730 30 31,aD [] 730 33 35,aD [aA 184 730 38 46] 730 37 48] 730 16 49,aB [116,121,112,101] "type" 730 51 57] 730 15 58] (p 730 4 14) 730 4 59) 730 4 59,aQ (aV 187 731 4 7) (aR .add (aA 187 731 10 13) (aS [aD [aD [aB [105,110,116,101,114,102,97,99,101] "interface" 731 19 30,aC 0 731 32 33,aD [aD [aB [85,112] "Up" 731 37 41,aA 185 731 43 48] 731 36 49] 731 35 51,aD [aH (aK 162 731 54 63) [aB [73] "I" 731 64 67] 731 54 68] 731 53 70] 731 18 71,aB [110,97,109,101] "name" 731 73 79] 731 17 80] 731 16 81) 731 10 81) 731 4 81,aQ (aV 187 732 4 7) (aR .add (aA 187 732 10 13) (aS [aD [aD [aB [97,114,114,97,121] "array" 732 19 26,aC 0 732 28 29,aD [aB [105,110,116] "int" 732 32 37,aC 0 732 39 40,aR .pow (aC 2 732 42 43) (aC 30 732 47 49) 732 42 49] 732 31 50,aA 184 732 52 60] 732 18 61,aB [116,121,112,101] "type" 732 63 69] 732 17 70] 732 16 71) 732 10 71) 732 4 71,bF (aO (aA 187 733 4 7) 2 [aD [aD [aB [115,116,114,117,99,116] "struct" 733 17 25,aC 0 733 27 28,aD [aD [aB [83] "S" 733 32 35,aD [aB [112,116,114] "ptr" 733 38 43,aC 0 733 45 46,aH (aK 162 733 48 57) [aB [65] "A" 733 58 61] 733 48 62] 733 37 63,aX true 733 65 69] 733 31 70] 733 30 72] 733 16 73,aB [116,121,112,101] "type" 733 75 81] 733 15 82] (p 733 4 14) 733 4 83) 733 4 83,aQ (cH [(166,p 734 4 11),(107,p 734 13 17)] 734 4 17) (aH (aK 161 734 20 28) [aA 151 734 29 35,aA 187 734 37 40] 734 20 41) 734 4 41,aM (aJ (aH (aK 188 735 11 22) [.lam 4 (p 735 23 66)] 735 11 67) [.eq] [aA 107 735 71 75] 735 11 75) 735 4 75],5,(a_ [("source",aE),("world",.cell),("scope",.cell),("int_name",aE),("empty",aE),("twice",aE),("bad",aE),("word",aE),("written",.cell),("_law_name",aL),("_law_one",aL),("_law_answer",aL)])⟩
def f799:Fun:=
 ⟨[(151,p 736 23 29)],[],[],[190,34,31],
 [aQ (cH [(31,p 737 4 9),(190,p 737 11 16)] 737 4 16) (aD [aH (aK 156 737 20 25) [] 737 20 27,.dct [] [] (p 737 29 31)] 737 19 32) 737 4 32,aQ (aV 65 738 4 9) (aS [aB [109,46,65] "m.A" 738 13 18,aB [109,46,66] "m.B" 738 20 25,aB [109,46,67] "m.C" 738 27 32] 738 12 33) 738 4 33,.fo (aV 34 739 8 12) (aA 65 739 16 21) [.asn 64 (p 740 8 12) (aW 190 740 14 19) (aW 34 740 20 24) (aD [aS [] 740 29 31,aS [] 740 33 35] 740 28 36) (p 740 14 25) (p 740 8 25) (p 740 8 36),.fo (aV 169 741 12 16) (aH (aK 0 741 20 25) [aH (aK 153 741 26 35) [aA 151 741 36 42,aC 3 741 44 45] 741 26 46] 741 20 47) [aQ (aV 191 742 12 17) (aH (aK 161 742 20 28) [aA 151 742 29 35,aA 65 742 37 42] 742 20 43) 742 12 43,aQ (aV 61 743 12 16) (aD [aB [110,97,109,101,100] "named" 743 20 27,aA 191 743 29 34] 743 19 35) 743 12 35,aQ (aV 178 744 12 15) (aH (aK 153 744 18 27) [aA 151 744 28 34,aC 5 744 36 37] 744 18 38) 744 12 38,aQ (aV 158 745 12 16) (aS [aA 61 745 20 24,aD [aB [97,114,114,97,121] "array" 745 27 34,aC 2 745 36 37,aA 61 745 39 43] 745 26 44,aD [aB [112,116,114] "ptr" 745 47 52,aA 61 745 54 58] 745 46 59,aD [aB [115,108,105,99,101] "slice" 745 62 69,aA 61 745 71 75] 745 61 76,aD [aB [115,116,114,117,99,116] "struct" 745 79 87,aD [aD [aB [120] "x" 745 91 94,aA 61 745 96 100,aX false 745 102 107] 745 90 108] 745 89 110] 745 78 111] 745 19 112) 745 12 112,bF (aO (aA 64 746 12 16) 2 [aD [aH (aK 110 746 25 28) [aA 169 746 29 33] 746 25 34,aI (aA 158 746 36 40) (aA 178 746 41 44) 746 36 45,aX false 746 47 52] 746 24 53] (p 746 12 23) 746 12 54) 746 12 54,.ife (aJ (aA 178 747 15 18) [.inn] [aS [aC 0 747 23 24,aC 1 747 26 27,aC 4 747 29 30] 747 22 31] 747 15 31) [bF (aO (aI (aW 190 748 16 21) (aW 34 748 22 26) 748 16 27) 2 [aA 191 748 35 40] (p 748 16 34) 748 16 41) 748 16 41] [] ⟨747,12,748,41⟩] ⟨741,8,748,41⟩,.ass (bA (aW 31 749 8 13) 76 749 8 19) (aW 34 749 20 24) (aH (aK 136 749 28 36) [aW 34 749 37 41,aB [109] "m" 749 43 46,aD [aB [115,116,114,117,99,116] "struct" 749 49 57,aH (aK 58 749 59 64) [aA 64 749 65 69] 749 59 70] 749 48 71,.dct [] [] (p 749 73 75)] 749 28 76) (p 749 8 25) (p 749 8 76)] ⟨739,4,749,76⟩,.fo (aV 169 750 8 12) (aH (aK 0 750 16 21) [aC 3 750 22 23] 750 16 24) [.fo (aV 34 751 12 16) (aA 65 751 20 25) [.ass (aW 190 752 12 17) (aW 34 752 18 22) (aR .add (aI (aW 190 752 26 31) (aW 34 752 32 36) 752 26 37) (.lc (aA 192 752 41 44) [aV 59 752 49 52,aV 192 752 72 75] [aI (aW 190 752 56 61) (aW 34 752 62 66) 752 56 67,aI (aW 190 752 79 84) (aA 59 752 85 88) 752 79 89] [[],[aJ (aA 192 752 93 96) [.nin] [aI (aW 190 752 104 109) (aW 34 752 110 114) 752 104 115] 752 93 115]] [190,34] (a_ [(".0",aE),("one",aE),("two",aE),("name",.free),("steps",.free)]) (p 752 40 116)) 752 26 116) (p 752 12 23) (p 752 12 116)] ⟨751,8,752,116⟩] ⟨750,4,752,116⟩,aQ (aV 193 753 4 7) (.ife (aJ (.lc (aA 34 753 21 25) [aV 34 753 30 34] [aA 65 753 38 43] [[aJ (aA 34 753 47 51) [.inn] [aI (aW 190 753 55 60) (aA 34 753 61 65) 753 55 66] 753 47 66]] [190] (a_ [(".0",aE),("name",aE),("steps",.free)]) (p 753 20 67)) [.ne] [aS [] 753 71 73] 753 20 73) (aB [116,121,112,101] "type" 753 10 16) (bG 753 79 83) (p 753 10 83)) 753 4 83,aM (aJ (aH (aK 188 754 11 22) [.lam 5 (p 754 23 59)] 754 11 60) [.eq] [aA 193 754 64 67] 754 11 67) 754 4 67],6,⟨.function,[("source",aE),("steps",.cell),("names",aE),("name",.cell),("rows",aE),("turn",aE),("other",aE),("told",aE),("way",aE),("some",aE),("due",aE),("world",.cell),("World",aL),("range",aL),("_law_take",aL),("_law_one",aL),("str",aL),("NamedRow",aL),("tuple",aL),("_law_answer",aL)],false,false,[("fast",.str "source"),("fast",.str "steps"),("fast",.str "names"),("fast",.str "name"),("fast",.str "rows"),("fast",.str "turn"),("fast",.str "other"),("fast",.str "told"),("fast",.str "way"),("fast",.str "some"),("fast",.str "one"),("fast",.str "two"),("fast",.str "due"),("fast",.str "world")]⟩⟩
def f806:Fun:=
 ⟨[(196,p 755 8 14)],[],[],[32,31,166],
 [aQ (aV 151 756 4 10) (aH (aK 197 756 13 22) [aA 196 756 23 29,aC 0 756 31 32] 756 13 33) 756 4 33,aQ (cH [(31,p 757 4 9),(32,p 757 11 16)] 757 4 16) (aH (aK 198 757 19 29) [] 757 19 31) 757 4 31,.fo (aV 169 758 8 12) (aH (aK 0 758 16 21) [aC 2 758 22 23] 758 16 24) [aQ (cH [(166,p 759 8 15),(61,p 759 17 21),(174,p 759 23 34),(199,p 759 36 40)] 759 8 40) (aH (aK 165 759 43 52) [aA 151 759 53 59,aC 3 759 61 62] 759 43 63) 759 8 63,.ife (aJ (aH (aK 188 760 11 22) [.lam 6 (p 760 23 66)] 760 11 67) [.ne] [aA 61 760 71 75] 760 11 75) [aM (aX false 761 19 24) 761 12 24] [] ⟨760,8,761,24⟩,.ife (aJ (aH (aK 188 762 11 22) [.lam 7 (p 762 23 53)] 762 11 54) [.ne] [.ife (aJ (aX false 762 69 74) [.inn] [aA 199 762 78 82] 762 69 82) (aB [116,121,112,101] "type" 762 59 65) (bG 762 88 92) (p 762 59 92)] 762 11 93) [aM (aX false 763 19 24) 763 12 24] [] ⟨762,8,763,24⟩,.ife (aJ (aH (aK 188 764 11 22) [.lam 8 (p 764 23 53)] 764 11 54) [.isn] [bG 764 62 66] 764 11 66) [aM (aX false 765 19 24) 765 12 24] [] ⟨764,8,765,24⟩,.ife (bW false [.nt (aH (aK 201 766 15 29) [aA 151 766 30 36,aW 31 766 38 43,aW 32 766 45 50] 766 15 51) (p 766 11 51),.nt (aH (aK 202 766 59 77) [aA 151 766 78 84] 766 59 85) (p 766 55 85)] 766 11 85) [aM (aX false 767 19 24) 767 12 24] [] ⟨766,8,767,24⟩,.asa (aW 31 768 8 13) 63 (aS [] 768 26 28) (p 768 8 23) (p 768 8 28)] ⟨758,4,768,28⟩,aQ (aV 185 769 4 9) (aD [aB [102,117,110,99] "func" 769 13 19,aC 0 769 21 22,aD [] 769 24 26,aD [] 769 28 30,aX false 769 32 37] 769 12 38) 769 4 38,aM (aJ (aH (aK 189 770 11 18) [aW 31 770 19 24,aB [109] "m" 770 26 29,aW 32 770 31 36,aD [aB [105,110,116,101,114,102,97,99,101] "interface" 770 39 50,aC 0 770 52 53,aD [aD [aB [98] "b" 770 57 60,aA 185 770 62 67] 770 56 68,aD [aB [97] "a" 770 71 74,aA 185 770 76 81] 770 70 82] 770 55 83,aD [] 770 85 87] 770 38 88] 770 11 89) [.eq] [aD [aB [105,110,116,101,114,102,97,99,101] "interface" 770 94 105,aD [aD [aB [97] "a" 770 109 112,aK 154 770 114 124] 770 108 125,aD [aB [98] "b" 770 128 131,aK 154 770 133 143] 770 127 144] 770 107 145] 770 93 146] 770 11 146) 770 4 146],4,(a_ [("script",aE),("source",aE),("turn",aE),("told",aE),("is_compared",aE),("keys",aE),("empty",aE),("scope",.cell),("world",.cell),("written",.cell),("_law_pool",aL),("_law_begun",aL),("range",aL),("_law_type",aL),("_law_answer",aL),("_law_bad_right",aL),("_law_holding_right",aL),("type_of",aL),("_law_plain",aL)])⟩
def lamsMain:List Lam:=[
 ⟨[],aH (aK 82 287 44 55) [aI (aW 60 287 56 60) (aC 2 287 61 62) 287 56 63,aW 15 287 65 70,aO (aW 47 287 72 76) 83 [aW 61 287 85 89] (p 287 72 84) 287 72 90] 287 44 91,[15,61,47,60],1,a_ [("expr",.free),("self",.free),("told",.free),("value",.free),("const_unary",aL)]⟩,
 ⟨[],aH (aK 86 296 48 60) [aW 14 296 61 63,aW 21 296 65 66,aW 22 296 68 69,aO (aW 47 296 71 75) 83 [aW 84 296 84 88] (p 296 71 83) 296 71 89] 296 48 90,[47,14,84,22,21],2,a_ [("a",.free),("b",.free),("left",.free),("op",.free),("self",.free),("const_binary",aL)]⟩,
 ⟨[],aH (aK 86 298 38 50) [aW 14 298 51 53,aW 21 298 55 56,aW 22 298 58 59,aO (aW 47 298 61 65) 83 [aW 61 298 74 78] (p 298 61 73) 298 61 79] 298 38 80,[61,47,14,22,21],2,a_ [("a",.free),("b",.free),("op",.free),("self",.free),("told",.free),("const_binary",aL)]⟩,
 ⟨[(60,p 347 43 47)],aH (aK 94 347 49 57) [aW 31 347 58 63,aW 33 347 65 72,aW 32 347 74 79,aA 60 347 81 85] 347 49 86,[31,32,33],0,a_ [("expr",aE),("package",.free),("scope",.free),("world",.free),("const_of",aL)]⟩,
 ⟨[],aH (aK 189 735 31 38) [aW 31 735 39 44,aB [109] "m" 735 46 49,aW 32 735 51 56,aW 166 735 58 65] 735 31 66,[166,31,32],5,a_ [("scope",.free),("world",.free),("written",.free),("type_of",aL)]⟩,
 ⟨[],aO (aH (aK 194 754 31 38) [aW 31 754 39 44] 754 31 45) 195 [] (p 754 31 57) 754 31 59,[31],6,a_ [("world",.free),("Holding",aL)]⟩,
 ⟨[],aH (aK 189 760 31 38) [aW 31 760 39 44,aB [109] "m" 760 46 49,aW 32 760 51 56,aW 166 760 58 65] 760 31 66,[166,31,32],4,a_ [("scope",.free),("world",.free),("written",.free),("type_of",aL)]⟩,
 ⟨[],aH (aK 200 762 31 46) [aW 31 762 47 52] 762 31 53,[31],4,a_ [("world",.free),("check_late_keys",aL)]⟩,
 ⟨[],aH (aK 200 764 31 46) [aW 31 764 47 52] 764 31 53,[31],4,a_ [("world",.free),("check_late_keys",aL)]⟩]
noncomputable def gMain:Tr SV:=
 (.nd (.nd (.nd (.nd (.nd (.nd (.nd .lf 0 (.typ 8) .lf) 1 (.typ 9) .lf) 9 (.int 512) (.nd (.nd .lf 12 (.glo 106) .lf) 13 (.glo 113) .lf)) 16 (.bif 1) (.nd (.nd (.nd .lf 17 (.typ 1) .lf) 18 (.typ 0) .lf) 19 (.glo 120) (.nd .lf 20 (.glo 99) .lf))) 23 (.glo 142) (.nd (.nd (.nd (.nd .lf 24 (.typ 2) .lf) 26 (.glo 170) .lf) 27 (.tup [.str [61,61],.str [33,61],.str [60],.str [60,61],.str [62],.str [62,61]]) (.nd (.nd .lf 28 (.glo 163) .lf) 29 (.glo 149) .lf)) 30 (.glo 156) (.nd (.nd (.nd .lf 41 (.glo 209) .lf) 43 (.tup [.str [77,117,116,101,120],.str [87,97,105,116,71,114,111,117,112]]) .lf) 50 (.glo 201) (.nd .lf 58 (.typ 3) .lf)))) 62 (.int 1048576) (.nd (.nd (.nd (.nd (.nd .lf 71 (.bif 2) .lf) 73 (.tup [.str [117,110,116,121,112,101,100],.str [105,110,116]]) .lf) 74 (.tup [.str [117,110,116,121,112,101,100],.str [114,117,110,101]]) (.nd (.nd .lf 75 (.tup [.str [117,110,116,121,112,101,100],.str [115,116,114,105,110,103]]) .lf) 82 (.glo 135) .lf)) 86 (.glo 178) (.nd (.nd (.nd .lf 88 (.tup [.str [117,110,116,121,112,101,100],.str [98,111,111,108]]) .lf) 89 (.tup [.tup [.str [117,110,116,121,112,101,100],.str [105,110,116]],.tup [.str [117,110,116,121,112,101,100],.str [114,117,110,101]]]) .lf) 90 (.glo 127) (.nd .lf 92 (.glo 360) .lf))) 93 (.glo 264) (.nd (.nd (.nd (.nd .lf 94 (.glo 372) .lf) 98 (.glo 386) .lf) 105 (.glo 391) (.nd (.nd .lf 109 (.bif 0) .lf) 110 (.typ 4) .lf)) 112 (.tup [.str [115,121,110,99],.str [114,117,110,116,105,109,101]]) (.nd (.nd (.nd .lf 116 (.glo 453) .lf) 118 (.glo 460) .lf) 121 (.str [109,97,105,110]) (.nd .lf 123 (.glo 448) .lf))))) 128 (.glo 544) (.nd (.nd (.nd (.nd (.nd (.nd .lf 134 (.tup [.str [102,117,110,99],.tup [],.tup [],.bol false]) .lf) 136 (.glo 644) .lf) 137 (.glo 617) (.nd (.nd .lf 138 (.tup [.str [105,110,116],.str [105,110,116,56],.str [105,110,116,49,54],.str [105,110,116,51,50],.str [105,110,116,54,52],.str [117,105,110,116],.str [117,105,110,116,56],.str [117,105,110,116,49,54],.str [117,105,110,116,51,50],.str [117,105,110,116,54,52]]) .lf) 140 (.tup [.str [110,97,109,101,100],.str [101,114,114,111,114]]) .lf)) 141 (.tup [.str [108,101,110],.str [99,97,112],.str [97,112,112,101,110,100],.str [99,111,112,121],.str [100,101,108,101,116,101],.str [109,97,107,101],.str [110,101,119],.str [112,97,110,105,99],.str [114,101,99,111,118,101,114],.str [112,114,105,110,116],.str [99,108,111,115,101],.str [109,105,110],.str [109,97,120]]) (.nd (.nd (.nd .lf 142 (.glo 655) .lf) 153 (.glo 712) .lf) 154 (.tup [.str [102,117,110,99],.tup [],.tup [],.bol false]) (.nd .lf 156 (.glo 694) .lf))) 157 (.glo 662) (.nd (.nd (.nd (.nd .lf 159 (.glo 523) .lf) 160 (.glo 729) .lf) 161 (.glo 719) (.nd (.nd .lf 162 (.glo 742) .lf) 165 (.glo 780) .lf)) 175 (.glo 763) (.nd (.nd (.nd .lf 176 (.typ 7) .lf) 177 (.typ 6) .lf) 179 (.glo 749) (.nd .lf 180 (.glo 768) .lf)))) 181 (.glo 773) (.nd (.nd (.nd (.nd (.nd .lf 183 (.glo 756) .lf) 188 (.glo 787) .lf) 189 (.glo 379) (.nd (.nd .lf 194 (.glo 429) .lf) 197 (.glo 705) .lf)) 198 (.glo 734) (.nd (.nd (.nd .lf 200 (.glo 440) .lf) 201 (.glo 794) .lf) 202 (.glo 799) (.nd .lf 203 (.glo 21) .lf))) 204 (.glo 185) (.nd (.nd (.nd (.nd .lf 205 (.glo 192) .lf) 206 (.glo 806) .lf) 207 (.glo 39) (.nd .lf 208 (.glo 52) .lf)) 209 (.glo 64) (.nd (.nd (.nd .lf 210 (.glo 76) .lf) 211 (.glo 88) .lf) 215 (.bif 3) (.nd .lf 220 (.typ 5) .lf))))))
noncomputable def rB:Tr Nat:=(.nd (.nd (.nd (.nd (.nd .lf 270387 230 .lf) 270388 242 (.nd .lf 270389 249 .lf)) 270390 235 (.nd (.nd .lf 270391 256 .lf) 270392 261 (.nd .lf 368691 294 .lf))) 368716 301 (.nd (.nd (.nd .lf 368717 308 .lf) 368718 322 (.nd .lf 368719 329 .lf)) 368720 343 (.nd (.nd .lf 368721 357 .lf) 368723 315 (.nd .lf 368727 336 .lf)))) 368760 350 (.nd (.nd (.nd (.nd .lf 439398 419 .lf) 439399 426 (.nd .lf 439491 412 .lf)) 535591 507 (.nd (.nd .lf 535597 515 .lf) 535665 479 (.nd .lf 535667 486 .lf))) 535674 493 (.nd (.nd (.nd .lf 535699 520 .lf) 535764 500 (.nd .lf 631847 593 .lf)) 631907 585 (.nd (.nd .lf 631947 571 .lf) 710694 691 (.nd .lf 710726 684 .lf)))))
noncomputable def fldMain:List (Nat×List Nat):=[(264,[31,32,48]),(360,[31,33,32,72]),(429,[31,100,101]),(523,[111,65,114]),(544,[34,37,35,124,125,126]),(617,[127,124,64]),(644,[42,33,104,129]),(694,[44,76,143,144,145,146,111,46,147,148,149,63,150])]
noncomputable def initMain:List (Nat×Nat):=[(264,223),(360,287),(429,405),(523,472),(544,541),(617,563),(644,641),(694,677)]
noncomputable def excMain:List (Nat×List Nat):=[(52,[52,39]),(64,[64,39]),(76,[76,39]),(88,[88,39]),(39,[39])]
def fnMain:Tr Fun:=(.nd (.nd (.nd (.nd (.nd (.nd (.nd .lf 36 f36 .lf) 113 J4 .lf) 120 J6 (.nd .lf 135 J7 .lf)) 156 J8 (.nd (.nd .lf 170 J9 .lf) 178 Ka (.nd .lf 201 Kc .lf))) 209 Kd (.nd (.nd (.nd (.nd .lf 223 Kg .lf) 230 f230 .lf) 235 Kh (.nd .lf 242 Ki .lf)) 249 Kj (.nd (.nd .lf 256 Kk .lf) 261 Kl (.nd .lf 287 Km .lf)))) 294 Kn (.nd (.nd (.nd (.nd (.nd .lf 301 Ko .lf) 315 Kq .lf) 322 Kr (.nd .lf 329 Ks .lf)) 336 Kt (.nd (.nd .lf 357 Ku .lf) 372 Kw (.nd .lf 379 Kx .lf))) 386 Ky (.nd (.nd (.nd .lf 391 Kz .lf) 405 EC (.nd .lf 412 ED .lf)) 419 f419 (.nd (.nd .lf 426 Ha .lf) 440 f440 (.nd .lf 448 KA .lf))))) 453 KC (.nd (.nd (.nd (.nd (.nd (.nd .lf 460 KD .lf) 472 KE .lf) 479 KF (.nd .lf 486 KG .lf)) 507 KH (.nd (.nd .lf 515 KI .lf) 541 KJ (.nd .lf 563 KK .lf))) 571 KL (.nd (.nd (.nd .lf 585 KM .lf) 593 KN (.nd .lf 641 KO .lf)) 655 KQ (.nd (.nd .lf 662 KR .lf) 677 KS (.nd .lf 684 KT .lf)))) 691 KU (.nd (.nd (.nd (.nd (.nd .lf 705 f705 .lf) 712 f712 .lf) 719 KV (.nd .lf 729 KW .lf)) 734 KX (.nd (.nd .lf 742 KY .lf) 749 KZ (.nd .lf 756 K0 .lf))) 763 f763 (.nd (.nd (.nd .lf 768 K2 .lf) 773 K3 (.nd .lf 780 f780 .lf)) 787 f787 (.nd (.nd .lf 794 f794 .lf) 799 f799 (.nd .lf 806 f806 .lf))))))
end
end Mine
end
section
namespace Mine
section
noncomputable def j5:SV:=.str [105,110,116]
noncomputable def jQ:SV:=.str [116,121,112,101]
noncomputable def v7:SV:=.str [98,117,105,108,116,105,110]
noncomputable def Jx:SV:=.str [102,117,110,99]
noncomputable def De:SV:=.str [110,97,109,101,100]
noncomputable def EQ:SV:=.str [98,111,111,108]
noncomputable def Hg:SV:=.str [115,116,114,105,110,103]
noncomputable def Jy:SV:=.str [116,121,112,101,100,101,99,108]
noncomputable def K9:SV:=.str [105,110,116,101,114,102,97,99,101]
noncomputable def Jz:SV:=.str [115,121,110,99]
noncomputable def Hf:SV:=.str [115,116,114,117,99,116]
noncomputable def Br:SV:=.str [105,110,116,56]
noncomputable def K8:SV:=.str [110,97,109,101]
noncomputable def EJ:SV:=.str [109,46,82]
noncomputable def EK:SV:=.str [101,114,114,111,114]
noncomputable def EL:SV:=.str [105,110,116,51,50]
noncomputable def EM:SV:=.str [117,105,110,116,56]
noncomputable def EN:SV:=.str [99,111,110,115,116]
noncomputable def EO:SV:=.str [117,110,116,121,112,101,100]
noncomputable def EP:SV:=.str [115,108,105,99,101]
def Hi:SV:=.tup [Jx,.tup [],.tup [],.bol false]
def Nd:SV:=.tup [K9,.tup [.tup [.str [71,111],Hi],.tup [.str [85,112],.tup [Jx,.tup [.tup [EQ]],.tup [],.bol false]]]]
def Nf:SV:=.tup [Hf,.tup [.tup [.str [115,116,97,116,101],.tup [j5,j5],.bol false]]]
def Ng:SV:=.tup [K8,.int 0,.non,j5]
def Nh:SV:=.tup [Hf,.tup [.tup [.str [114],.tup [De,EJ],.bol false]]]
def Ni:SV:=.tup [Jx,.tup [],.tup [.tup [Hg]],.bol false]
def Nj:SV:=.tup [Jy,.int 0,.str [121],Ng,.bol false]
def Nk:SV:=.tup [Jy,.int 0,.str [88],Ng,.bol false]
noncomputable def rwE(n t:SV):SO:=.adc [(34,n),(37,t),(35,.int 0),(124,.non),(125,.bol false),(126,.bol false)]
noncomputable def rwN(n q t:SV)(l:Nat):SO:=.adc [(42,n),(33,q),(104,t),(129,.loc l)]
def NZ:List SO:=[.cel (some (.loc 150)),
 .cel (some (.loc 5)),
 .cel none,
 .src,
 .adc [(44,.loc 100),(76,.loc 18),(143,.loc 19),(144,.loc 20),(145,.loc 21),(146,.loc 22),(111,.loc 23),(46,.loc 24),(147,.loc 25),(148,.loc 26),(149,.non),(63,.loc 27),(150,.bol true)],
 .ins 694 4,
 .dct [([69,114,114,111,114],.tup [.bol false,Ni,.str [114,117,110,116,105,109,101,46,69,114,114,111,114,46,69,114,114,111,114]])],
 .dct [([76,111,99,107],.tup [.bol true,Hi,.str [115,121,110,99,46,77,117,116,101,120,46,76,111,99,107]]),([85,110,108,111,99,107],.tup [.bol true,Hi,.str [115,121,110,99,46,77,117,116,101,120,46,85,110,108,111,99,107]])],
 .dct [([65,100,100],.tup [.bol true,.tup [Jx,.tup [.tup [j5,j5]],.tup [],.bol false],.str [115,121,110,99,46,87,97,105,116,71,114,111,117,112,46,65,100,100]]),([68,111,110,101],.tup [.bol true,Hi,.str [115,121,110,99,46,87,97,105,116,71,114,111,117,112,46,68,111,110,101]]),([87,97,105,116],.tup [.bol true,Hi,.str [115,121,110,99,46,87,97,105,116,71,114,111,117,112,46,87,97,105,116]])],
 .dct [],
 rwN EK (.str []) (.tup [K9,.tup [.tup [.str [69,114,114,111,114],Ni]]]) 9,
 .ins 644 10,
 rwN (.str [114,117,110,116,105,109,101,46,69,114,114,111,114]) (.str [114,117,110,116,105,109,101]) (.tup [Hg]) 6,
 .ins 644 12,
 rwN (.str [115,121,110,99,46,77,117,116,101,120]) Jz Nf 7,
 .ins 644 14,
 rwN (.str [115,121,110,99,46,87,97,105,116,71,114,111,117,112]) Jz Nf 8,
 .ins 644 16,
 .dct [([101,114,114,111,114],.loc 11),([114,117,110,116,105,109,101,46,69,114,114,111,114],.loc 13),([115,121,110,99,46,77,117,116,101,120],.loc 15),([115,121,110,99,46,87,97,105,116,71,114,111,117,112],.loc 17),([112,46,88],.loc 141),([112,46,121],.loc 146),([109,46,73],.loc 156),([109,46,75],.loc 161),([109,46,82],.loc 166),([109,46,83],.loc 171)],
 .dct [],
 .dct [],
 .dct [],
 .dct [],
 .dct [],
 .dct [([112],.loc 136)],
 .lst [],
 .lst [],
 .lst [],
 .adc [(127,.non),(124,.non),(64,.loc 30)],
 .ins 617 28,
 .dct [([105,110,116],.loc 32),([105,110,116,56],.loc 34),([105,110,116,49,54],.loc 36),([105,110,116,51,50],.loc 38),([105,110,116,54,52],.loc 40),([117,105,110,116],.loc 42),([117,105,110,116,56],.loc 44),([117,105,110,116,49,54],.loc 46),([117,105,110,116,51,50],.loc 48),([117,105,110,116,54,52],.loc 50),([98,121,116,101],.loc 52),([114,117,110,101],.loc 54),([98,111,111,108],.loc 56),([115,116,114,105,110,103],.loc 58),([101,114,114,111,114],.loc 60),([97,110,121],.loc 62),([116,114,117,101],.loc 64),([102,97,108,115,101],.loc 66),([105,111,116,97],.loc 68),([110,105,108],.loc 70),([108,101,110],.loc 72),([99,97,112],.loc 74),([97,112,112,101,110,100],.loc 76),([99,111,112,121],.loc 78),([100,101,108,101,116,101],.loc 80),([109,97,107,101],.loc 82),([110,101,119],.loc 84),([112,97,110,105,99],.loc 86),([114,101,99,111,118,101,114],.loc 88),([112,114,105,110,116],.loc 90),([99,108,111,115,101],.loc 92),([109,105,110],.loc 94),([109,97,120],.loc 96)],
 rwE j5 (.tup [jQ,.tup [j5,j5]]),
 .ins 544 31,
 rwE Br (.tup [jQ,.tup [j5,Br]]),
 .ins 544 33,
 rwE (.str [105,110,116,49,54]) (.tup [jQ,.tup [j5,.str [105,110,116,49,54]]]),
 .ins 544 35,
 rwE EL (.tup [jQ,.tup [j5,EL]]),
 .ins 544 37,
 rwE (.str [105,110,116,54,52]) (.tup [jQ,.tup [j5,.str [105,110,116,54,52]]]),
 .ins 544 39,
 rwE (.str [117,105,110,116]) (.tup [jQ,.tup [j5,.str [117,105,110,116]]]),
 .ins 544 41,
 rwE EM (.tup [jQ,.tup [j5,EM]]),
 .ins 544 43,
 rwE (.str [117,105,110,116,49,54]) (.tup [jQ,.tup [j5,.str [117,105,110,116,49,54]]]),
 .ins 544 45,
 rwE (.str [117,105,110,116,51,50]) (.tup [jQ,.tup [j5,.str [117,105,110,116,51,50]]]),
 .ins 544 47,
 rwE (.str [117,105,110,116,54,52]) (.tup [jQ,.tup [j5,.str [117,105,110,116,54,52]]]),
 .ins 544 49,
 rwE (.str [98,121,116,101]) (.tup [jQ,.tup [j5,EM]]),
 .ins 544 51,
 rwE (.str [114,117,110,101]) (.tup [jQ,.tup [j5,EL]]),
 .ins 544 53,
 rwE EQ (.tup [jQ,.tup [EQ]]),
 .ins 544 55,
 rwE Hg (.tup [jQ,.tup [Hg]]),
 .ins 544 57,
 rwE EK (.tup [jQ,.tup [De,EK]]),
 .ins 544 59,
 rwE (.str [97,110,121]) (.tup [jQ,.tup [K9,.tup []]]),
 .ins 544 61,
 rwE (.str [116,114,117,101]) (.tup [EN,.tup [EO,EQ],.bol true]),
 .ins 544 63,
 rwE (.str [102,97,108,115,101]) (.tup [EN,.tup [EO,EQ],.bol false]),
 .ins 544 65,
 rwE (.str [105,111,116,97]) (.tup [.str [105,111,116,97]]),
 .ins 544 67,
 rwE (.str [110,105,108]) (.tup [.str [110,105,108]]),
 .ins 544 69,
 rwE (.str [108,101,110]) (.tup [v7,.str [108,101,110]]),
 .ins 544 71,
 rwE (.str [99,97,112]) (.tup [v7,.str [99,97,112]]),
 .ins 544 73,
 rwE (.str [97,112,112,101,110,100]) (.tup [v7,.str [97,112,112,101,110,100]]),
 .ins 544 75,
 rwE (.str [99,111,112,121]) (.tup [v7,.str [99,111,112,121]]),
 .ins 544 77,
 rwE (.str [100,101,108,101,116,101]) (.tup [v7,.str [100,101,108,101,116,101]]),
 .ins 544 79,
 rwE (.str [109,97,107,101]) (.tup [v7,.str [109,97,107,101]]),
 .ins 544 81,
 rwE (.str [110,101,119]) (.tup [v7,.str [110,101,119]]),
 .ins 544 83,
 rwE (.str [112,97,110,105,99]) (.tup [v7,.str [112,97,110,105,99]]),
 .ins 544 85,
 rwE (.str [114,101,99,111,118,101,114]) (.tup [v7,.str [114,101,99,111,118,101,114]]),
 .ins 544 87,
 rwE (.str [112,114,105,110,116]) (.tup [v7,.str [112,114,105,110,116]]),
 .ins 544 89,
 rwE (.str [99,108,111,115,101]) (.tup [v7,.str [99,108,111,115,101]]),
 .ins 544 91,
 rwE (.str [109,105,110]) (.tup [v7,.str [109,105,110]]),
 .ins 544 93,
 rwE (.str [109,97,120]) (.tup [v7,.str [109,97,120]]),
 .ins 544 95,
 .lst [.str [88],.str [121]],
 .lst [Nk,Nj],
 .adc [(111,.loc 102),(65,.loc 103),(114,.loc 109)],
 .ins 523 99,
 .cel (some (.loc 100)),
 .dct [([112],.tup [.str [112],.tup [],.tup [Nk,Nj]])],
 .dct [([112],.loc 104)],
 .dct [([88],jQ),([121],jQ)],
 .cel (some Jy),
 .lst [.tup [.str [88],jQ]],
 .cel (some Jy),
 .lst [.tup [.str [121],jQ]],
 .dct [([112],.loc 110)],
 .dct [],
 .dct [],
 .lst [],
 .lst [],
 .lst [],
 .lst [],
 .lst [],
 .lst [],
 .lst [],
 .lst [],
 .lst [],
 .lst [],
 .lst [],
 .lst [],
 .lst [],
 .lst [],
 .lst [],
 .lst [],
 .lst [],
 .lst [],
 .lst [],
 .lst [],
 .lst [],
 .lst [],
 .lst [],
 .adc [(127,.loc 29),(124,.non),(64,.loc 137)],
 .ins 617 135,
 .dct [([88],.loc 143),([121],.loc 148)],
 .lst [.str [88],.str [121]],
 .dct [],
 rwN (.str [112,46,88]) (.str [112]) (.tup [j5,j5]) 139,
 .ins 644 140,
 rwE (.str [88]) (.tup [jQ,.tup [De,.str [112,46,88]]]),
 .ins 544 142,
 .dct [],
 rwN (.str [112,46,121]) (.str [112]) (.tup [j5,j5]) 144,
 .ins 644 145,
 rwE (.str [121]) (.tup [jQ,.tup [De,.str [112,46,121]]]),
 .ins 544 147,
 .adc [(127,.loc 29),(124,.non),(64,.loc 151)],
 .ins 617 149,
 .dct [([73],.loc 158),([75],.loc 163),([82],.loc 168),([83],.loc 173),([65],.loc 175),([110],.loc 177),([118],.loc 179),([112],.loc 181),([115,121,110,99],.loc 183)],
 .dct [([75],.tup [j5,Br]),([73],Nd),([82],.tup [EP,.tup [EQ]]),([83],Nh)],
 .lst [.str [73],.str [75],.str [82],.str [83]],
 .dct [],
 rwN (.str [109,46,73]) (.str [109]) Nd 154,
 .ins 644 155,
 rwE (.str [73]) (.tup [jQ,.tup [De,.str [109,46,73]]]),
 .ins 544 157,
 .dct [],
 rwN (.str [109,46,75]) (.str [109]) (.tup [j5,Br]) 159,
 .ins 644 160,
 rwE (.str [75]) (.tup [jQ,.tup [De,.str [109,46,75]]]),
 .ins 544 162,
 .dct [],
 rwN EJ (.str [109]) (.tup [EP,.tup [EQ]]) 164,
 .ins 644 165,
 rwE (.str [82]) (.tup [jQ,.tup [De,EJ]]),
 .ins 544 167,
 .dct [],
 rwN (.str [109,46,83]) (.str [109]) Nh 169,
 .ins 644 170,
 rwE (.str [83]) (.tup [jQ,.tup [De,.str [109,46,83]]]),
 .ins 544 172,
 rwE (.str [65]) (.tup [jQ,.tup [EP,.tup [Hg]]]),
 .ins 544 174,
 rwE (.str [110]) (.tup [EN,.tup [EO,j5],.int 4]),
 .ins 544 176,
 rwE (.str [118]) (.tup [.str [103,108,111,98,97,108],.str [109,46,118]]),
 .ins 544 178,
 rwE (.str [112]) (.tup [.str [112,97,99,107,97,103,101],.str [112]]),
 .ins 544 180,
 rwE Jz (.tup [.str [112,97,99,107,97,103,101],Jz]),
 .ins 544 182,
 .lst [.loc 5,.loc 150]]
def Op(d:Nat):Nat->List SO->Tr SO×Nat×List SO:=Nat.rec (fun i l=>(.lf,i,l)) (fun _ r i l=>let a:=r i l;match a.2.2 with
|[]=>a
|x::l=>let b:=r (a.2.1+1) l;(.nd a.1 a.2.1 x b.1,b.2)) d
def frozen:Tr SO:=(Op 8 0 NZ).1
end
section
inductive Ty where
|v (k:Nat)
|n0 (i:Nat)
|n1 (i:Nat) (a:Ty)
|n2 (i:Nat) (a b:Ty)
noncomputable def ss(s:String):SV:=.str (s.toList.map Char.toNat)
noncomputable def AN:SV:=.str [110,97,109,101]
noncomputable def cW:SV:=.str [110,97,109,101,100]
noncomputable def kH:SV:=.str [105,110,116]
noncomputable def AO:SV:=.str [112,116,114]
noncomputable def jZ:SV:=.str [115,108,105,99,101]
noncomputable def mF:SV:=.str [97,114,114,97,121]
noncomputable def DL:SV:=.str [99,104,97,110]
noncomputable def Ji:SV:=.str [109,97,112]
noncomputable def kC:SV:=.str [102,117,110,99]
noncomputable def cM:SV:=.str [115,116,114,117,99,116]
noncomputable def gF:SV:=.str [105,110,116,101,114,102,97,99,101]
noncomputable def kR:SV:=.str [115,116,114,105,110,103]
noncomputable def DK:SV:=.str [98,111,111,108]
noncomputable def i0:SV:=.int 0
def wX(pk:SV)(s:List Nat):SV:=.tup [AN,i0,pk,.str s]
def nJ(s:List Nat):SV:=.tup [cW,.str s]
def rA:Nat->SV
|0=>wX .non [105,110,116]
|1=>wX .non [98,121,116,101]
|2=>wX .non [75]
|3=>wX .non [115,116,114,105,110,103]
|4=>wX (.str [112]) [88]
|5=>wX (.str [115,121,110,99]) [77,117,116,101,120]
|6=>wX .non [65]
|7=>wX .non [83]
|8=>wX .non [101,114,114,111,114]
|9=>wX .non [73]
|10=>wX .non [97,110,121]
|_=>wX .non [98,111,111,108]
def cB:Nat->SV
|0=>.tup [kH,kH]
|1=>.tup [kH,.str [117,105,110,116,56]]
|2=>nJ [109,46,75]
|3=>.tup [kR]
|4=>nJ [112,46,88]
|5=>nJ [115,121,110,99,46,77,117,116,101,120]
|6=>.tup [jZ,.tup [kR]]
|7=>nJ [109,46,83]
|8=>nJ [101,114,114,111,114]
|9=>nJ [109,46,73]
|10=>.tup [gF,.tup []]
|_=>.tup [DK]
noncomputable def bP(i:Nat):Bool:=Nat.beq i 6||Nat.beq i 7
def LH:Nat->SV
|0=>.tup [kH,i0,.int 3]
|1=>.tup [AN,i0,.str [110]]
|2=>.tup [.str [98,105,110,97,114,121],i0,.str [43],.tup [kH,i0,.int 2],.tup [AN,i0,.str [110]]]
|_=>.tup [kH,i0,.int 0]
noncomputable def LG:Nat->SV
|0=>.int 3
|1=>.int 4
|2=>.int 6
|_=>.int 0
noncomputable def GW:Nat->SV
|0=>.str [98,111,116,104]
|1=>.str [115,101,110,100]
|_=>.str [114,101,99,118]
noncomputable def Bz:Nat->Nat×Nat
|0=>(1,0)
|1=>(0,1)
|2=>(1,2)
|_=>(2,1)
def FI:SV:=.tup [kC,i0,.tup [],.tup [],.bol false]
def FH:SV:=.tup [kC,.tup [],.tup [],.bol false]
def OQ:SV:=.tup [kC,.tup [.tup [DK]],.tup [],.bol false]
noncomputable def Bm:Nat->Bool->SV
|k,true=>.str [97+k]
|_,false=>.str [95]
noncomputable def BP:Nat->SV
|0=>.str [90,101,100]
|_=>.str [68,111]
noncomputable def Nx:List Nat:=[71,111]
noncomputable def OO:List Nat:=[85,112]
def embW:List SV:=[.tup [.str [73],rA 9,.bol true],.tup [.str [83],.tup [AO,i0,rA 7],.bol true]]
def embT:List SV:=[.tup [.str [73],cB 9,.bol true],.tup [.str [83],.tup [AO,cB 7],.bol true]]
def Mu(e:Nat)(bs:List Bool):SV×SV:=
 let row (h:Nat->SV):=fun(k:Nat) (b:Bool)=>SV.tup [Bm k b,h k,.bol false]
 (.tup [cM,i0,.tup (embW.take e++bs.zipIdx.map fun x=>row .dw x.2 x.1)],.tup [cM,.tup (embT.take e++bs.zipIdx.map fun x=>row .dt x.2 x.1)])
def Bw(go held:Bool)(n:Nat):SV×SV:=
 let ms:=fun(h:Nat->SV)=>(List.range n).map fun k=>SV.tup [BP k,h k]
 (.tup [gF,i0,.tup (ms .dw++(if go then[.tup [.str Nx,FI]] else[])),.tup (if held then[rA 9] else[])],
  .tup [gF,.tup ((ms .dt).drop 1++(if go||held then[.tup [.str Nx,FH]] else[])++(if held then[.tup [.str OO,OQ]] else[])++(ms .dt).take 1)])
def yP(n:Nat):List (SV×SV):=[Bw true true n,Bw true false n,Bw false true n,Bw false false n]
def mB(bs:List Bool):List (SV×SV):=(List.range 3).map fun e=>Mu e bs
def T0:List (SV×SV):=(List.range 12).map (fun i=>(rA i,cB i))++(mB []++yP 0)
def T1:List (SV×SV):=[(.tup [AO,i0,.dw 0],.tup [AO,.dt 0]),(.tup [jZ,i0,.dw 0],.tup [jZ,.dt 0]),
  (.tup [kC,i0,.tup [.dw 0,.tup [jZ,i0,.dw 0]],.tup [],.bol true],.tup [kC,.tup [.dt 0,.tup [jZ,.dt 0]],.tup [],.bol true])] ++
 ((List.range 4).map (fun j=>(.tup [mF,i0,LH j,.dw 0],.tup [mF,LG j,.dt 0]))++((List.range 3).map (fun j=>(.tup [DL,i0,GW j,.dw 0],.tup [DL,GW j,.dt 0])) ++
 ((List.range 12).map (fun i=>(.tup [Ji,i0,rA i,.dw 0],.tup [Ji,cB i,.dt 0]))++((List.range 4).map (fun j=>
  (.tup [kC,i0,.tup (List.replicate (Bz j).1 (.dw 0)),.tup (List.replicate (Bz j).2 (.dw 0)),.bol false],.tup [kC,.tup (List.replicate (Bz j).1 (.dt 0)),.tup (List.replicate (Bz j).2 (.dt 0)),.bol false])) ++
 (mB [true]++(mB [false]++yP 1))))))
def T2:List (SV×SV):=mB [true,true]++(mB [true,false]++(mB [false,true]++(mB [false,false]++yP 2)))
def wT(T:List (SV×SV))(b:Bool)(i:Nat):SV:=let x:=(nth T i).getD (.tup [],.tup []);match b with
|false=>x.1
|true=>x.2
def GJ(i:Nat):Bool:=bP (i-10)
mutual
noncomputable def fl(f:Nat->SV):SV->SV
|.tup vs=>.tup (Gi f vs)
|.dw k=>f k
|.dt k=>f k
|v=>v
noncomputable def Gi(f:Nat->SV):List SV->List SV
|[]=>[]
|v::r=>fl f v::Gi f r
end
noncomputable def pk(x y:SV)(k:Nat):SV:=match k with
|0=>x
|_+1=>y
noncomputable def hol(b:Bool)(k:Nat):SV:=match b with
|false=>.dw k
|true=>.dt k
def wt(b:Bool):Ty->SV
|.v k=>hol b k
|.n0 i=>fl (fun _=>.non) (wT T0 b i)
|.n1 i t=>fl (fun _=>wt b t) (wT T1 b i)
|.n2 i t u=>fl (pk (wt b t) (wt b u)) (wT T2 b i)
def Wr(ty:Ty):SV:=wt false ty
def Td(ty:Ty):SV:=wt true ty
def hY:Ty->Bool×List Nat
|.v k=>(false,[k])
|.n0 _=>(false,[])
|.n1 i t=>(GJ i||(hY t).1,(hY t).2)
|.n2 _ t u=>((hY t).1||(hY u).1,(hY t).2++(hY u).2)
noncomputable def CA(a b:List Nat):Bool:=a.all fun x=>b.any (Nat.beq x)
def Ak(a b:Bool×List Nat):Bool:=a.1==b.1&&CA a.2 b.2&&CA b.2 a.2
def IN(f:SV->SV->Bool)(l:List SV):List SV->Bool:=lR (fun m=>match m with|[]=>true|_::_=>false) (fun a _ y m=>match m with|[]=>false|b::s=>f a b&&y s) l
def LL(l:List (Nat×Nat)):List (Nat×Nat)->Bool:=lR (fun m=>match m with|[]=>true|_::_=>false) (fun a _ y m=>match m with|[]=>false|b::s=>Nat.beq a.1 b.1&&Nat.beq a.2 b.2&&y s) l
def sq:Nat->SV->SV->Bool
|0,_,_=>false
|n+1,a,b=>match a with
 |.non=>match b with
  |.non=>true
  |_=>false
 |.bol a=>match b with
  |.bol b=>a==b
  |_=>false
 |.int a=>match b with
  |.int b=>decide (a=b)
  |_=>false
 |.str a=>match b with
  |.str b=>jJ a b
  |_=>false
 |.glo a=>match b with
  |.glo b=>Nat.beq a b
  |_=>false
 |.loc a=>match b with
  |.loc b=>Nat.beq a b
  |_=>false
 |.tup a=>match b with
  |.tup b=>IN (sq n) a b
  |_=>false
 |.dw a=>match b with
  |.dw b=>Nat.beq a b
  |_=>false
 |.dt a=>match b with
  |.dt b=>Nat.beq a b
  |_=>false
 |.lam k a=>match b with
  |.lam l b=>Nat.beq k l&&LL a b
  |_=>false
 |.nn a=>match b with
  |.nn b=>a==b
  |_=>false
 |_=>false
noncomputable def N0:Nat:=185
noncomputable def Og:Nat:=3
noncomputable def LD:Nat:=5
noncomputable def O0:Nat:=4
noncomputable def LC:Nat:=150
noncomputable def JA:Nat:=151
noncomputable def Nt:Nat:=63
noncomputable def LP:Nat:=31
noncomputable def LN:Nat:=32
noncomputable def tP(y4:Nat):SO:=.adc [(44,.loc 100),(76,.loc 18),(143,.loc 19),(144,.loc 20),(145,.loc 21),(146,.loc 22),(111,.loc 23),(46,.loc 24),(147,.loc 25),(148,.loc 26),(149,.non),(63,.loc y4),(150,.bol true)]
def FK(w:SV)(n:Nat):Option Nat:=Nat.rec none (fun n r=>match sq 20 w (.tup [cB n,.int 0]) with
|true=>some n
|false=>r) n
def HH(v:SV):Option Nat:=FK v 12
end
end Mine
end
section
open PySem PySem.W PyProof.Rows
namespace Mine
section
def n9:T->PySem.Expr
|.nm n q=>.Name (nm n) q
|.tp ns q=>.Tuple (ns.map fun x=>.Name (nm x.1) x.2) 0 q
noncomputable def hX:Cm->CmpOp
|.eq=>.Eq
|.ne=>.NotEq
|.lt=>.Lt
|.le=>.LtE
|.gt=>.Gt
|.ge=>.GtE
|.is=>.Is
|.isn=>.IsNot
|.inn=>.In
|.nin=>.NotIn
noncomputable def F8:Bo->Operator
|.add=>.Add
|.sub=>.Sub
|.mul=>.Mult
|.pow=>.Pow
|.fdv=>.FloorDiv
|.mod=>.Mod
def tR:List T->List PySem.Expr->List (List PySem.Expr)->List Comprehension
|t::ts,i::is,c::cs=>{target:=n9 t,iter:=i,ifs:=c,is_async:=0}::tR ts is cs
|_,_,_=>[]
mutual
noncomputable def bC(f:Nat->Pos->PySem.Expr):E->PySem.Expr
|.lo n q=>.Name (nm n) q
|.gl n q=>.Name (nm n) q
|.ce n q=>.Name (nm n) q
|.non q=>.Constant .none 0 q
|.bol b q=>.Constant (.bool b) 0 q
|.int i q=>.Constant (.int i) 0 q
|.str _ l q=>.Constant (.str (Str.ofString l)) 0 q
|.byt s q=>.Constant (.bytes (s.map UInt8.ofNat)) 0 q
|.tup es q=>.Tuple (b_ f es) 0 q
|.lst es q=>.List (b_ f es) q
|.dct ks vs q=>.Dict ((b_ f ks).map some) (b_ f vs) q
|.att e n q=>.Attribute (bC f e) (nm n) q
|.sub e i q=>.Subscript (bC f e) (bC f i) q
|.sli e u q q'=>.Subscript (bC f e) (.Slice none (some (bC f u)) none q) q'
|.bin o a b q=>.BinOp (bC f a) (F8 o) (bC f b) q
|.nt e q=>.UnaryOp .Not (bC f e) q
|.bop c es q=>.BoolOp (if c then .And else .Or) (b_ f es) q
|.cmp a os es q=>.Compare (bC f a) (os.map hX) (b_ f es) q
|.ife t a b q=>.IfExp (bC f t) (bC f a) (bC f b) q
|.cal g as q=>.Call (bC f g) (b_ f as) [] q
|.mca o n as q q'=>.Call (.Attribute (bC f o) (nm n) q) (b_ f as) [] q'
|.lam k q=>f k q
|.lc elt ts its cs _ sc q=>.ListComp (bC f elt) (tR ts (b_ f its) (n8 f cs)) sc q
|.dc k v t it _ sc q=>.DictComp (bC f k) (bC f v) (tR [t] [bC f it] [[]]) sc q
|.any e=>e
noncomputable def b_(f:Nat->Pos->PySem.Expr):List E->List PySem.Expr
|[]=>[]
|e::r=>bC f e::b_ f r
noncomputable def n8(f:Nat->Pos->PySem.Expr):List (List E)->List (List PySem.Expr)
|[]=>[]
|e::r=>b_ f e::n8 f r
end
def ND(f:Nat->Pos->PySem.Expr):H->ExceptHandler
|.ret n _ e q q' q''=>.ExceptHandler (some (.Name (nm n) q)) none [.Return (some (bC f e)) q'] q''
|.any h=>h
mutual
noncomputable def Mz(f:Nat->Pos->PySem.Expr):S->PySem.Stmt
|.exp e q=>.Expr (bC f e) q
|.ret e q=>.Return (some (bC f e)) q
|.ret0 q=>.Return none q
|.asg t e q=>.Assign [n9 t] (bC f e) q
|.asa o n e q q'=>.Assign [.Attribute (bC f o) (nm n) q] (bC f e) q'
|.ass o i e q q'=>.Assign [.Subscript (bC f o) (bC f i) q] (bC f e) q'
|.ife t a b q=>.If (bC f t) (fU f a) (fU f b) q
|.fo t it b q=>.For (n9 t) (bC f it) (fU f b) [] q
|.whi t b q=>.While (bC f t) (fU f b) [] q
|.rai n _ as q q' q''=>.Raise (some (.Call (.Name (nm n) q) (b_ f as) [] q')) none q''
|.tr b hs q=>.Try (fU f b) (hs.map (ND f)) [] [] q
|.cnt q=>.Continue q
|.asn n qn o i e q q' q''=>.Assign [.Tuple [.Name (nm n) qn,.Subscript (bC f o) (bC f i) q] 0 q'] (bC f e) q''
|.any s=>s
noncomputable def fU(f:Nat->Pos->PySem.Expr):List S->List PySem.Stmt
|[]=>[]
|s::r=>Mz f s::fU f r
end
def d8(f:Nat->Pos->PySem.Expr)(ps:List (Nat×Pos))(ds:List E):Arguments:=
 {posonlyargs:=[],args:=ps.map fun x=>{arg:=nm x.1,annotation:=none,pos:=x.2},vararg:=none,kwonlyargs:=[],kw_defaults:=[],kwarg:=none,defaults:=b_ f ds}
noncomputable def vA:Nat->Pos->PySem.Expr:=fun _ _=>default
def aN(ls:List Lam)(k:Nat)(q:Pos):PySem.Expr:=match nth ls k with
|some l=>.Lambda (d8 vA l.params []) (bC vA l.body) l.sc q
|none=>default
structure Rn where
 ρ:List Addr
 δ:List Ty
def Rn.le(R R':Rn):Prop:=(∃l,R'.ρ=R.ρ++l)/\∃l,R'.δ=R.δ++l
theorem Rn.le.refl(R:Rn):R.le R:=⟨⟨[],by simp⟩,[],by simp⟩
theorem Rn.le.trans{a b c:Rn}(x:a.le b)(y:b.le c):a.le c:=by refine qD x fun u1 m g=>?_;refine oE u1 fun l e=>?_;refine qD y fun u2 m' g'=>?_;refine oE u2 fun l' e'=>?_;exact⟨⟨l++l',by rw[e',e,List.append_assoc]⟩,m++m',by rw[g',g,List.append_assoc]⟩
theorem Rn.le.at{R R':Rn}(x:R.le R'){i:Nat}{a:Addr}(e:R.ρ[i]?=some a):R'.ρ[i]?=some a:=by refine oA x fun u3 _=>?_;refine oE u3 fun l q=>?_;rw[q];have hi:i<R.ρ.length:=(List.getElem?_eq_some_iff.mp e).1;rw[List.getElem?_append_left hi,e]
theorem Rn.le.da{R R':Rn}(x:R.le R'){i:Nat}{a:Ty}(e:R.δ[i]?=some a):R'.δ[i]?=some a:=by refine qD x fun _ l q=>?_;rw[q];have hi:i<R.δ.length:=(List.getElem?_eq_some_iff.mp e).1;rw[List.getElem?_append_left hi,e]
def iP(o:Obj):Prop:=(o.cls=.type "tuple"/\∃xs n,o.data=.seq xs n)\/(∃f,o.data=.func f)\/∃vs q t,o.data=.fields vs/\vs[1]?=some (.str q t)
def Kp(h h':Heap):Prop:=∀b o,h.get? b=some o->iP o->h'.get? b=some o
theorem Kp.refl(h:Heap):Kp h h:=fun _ _ e _=>e
theorem Kp.trans{a b c:Heap}(x:Kp a b)(y:Kp b c):Kp a c:=fun i o e m=>y i o (x i o e m) m
theorem Kp.of_keep{h h':Heap}(k:∀b o,h.get? b=some o->h'.get? b=some o):Kp h h':=fun b o e _=>k b o e
theorem Kp.extBut{h h':Heap}{a:Addr}{o:Obj}(x:Heap.ExtBut a h h')(ho:h.get? a=some o)(hn:¬iP o):Kp h h':=fun b o' e m=>by
 by_cases q:b=a
 ·subst q;rw[ho] at e;obtain rfl:=aF e;exact absurd m hn
 ·exact x b o' q e
theorem Kp.tup{h h':Heap}(k:Kp h h'){a:Addr}{xs:Array Value}(x:IsTup h a xs):IsTup h' a xs:=by refine oEAA x fun o ho hc r=>?_;exact⟨o,k a o ho (.inl ⟨hc,by refine oE r fun n e=>?_;exact⟨_,n,e⟩⟩),hc,r⟩
theorem Kp.code{h h':Heap}(k:Kp h h'){c:Value}{q:Str}(x:h.CodeRec c q):h'.CodeRec c q:=by refine lT x fun c o vs t e g d v=>?_;exact⟨c,o,vs,t,e,k _ _ g (.inr (.inr ⟨vs,q,t,d,v⟩)),d,v⟩
noncomputable def bB(s:List Nat):Str:=⟨s.toArray⟩
noncomputable def nP(s:List Nat):Bool:=s.all fun c=>Nat.blt c 1114112
theorem SV.ind{P:SV->Prop}{Q:List SV->Prop}(non:P .non)(bol:∀b,P (.bol b))(int:∀i,P (.int i))(str:∀s,P (.str s))(byt:∀s,P (.byt s))(glo:∀a,P (.glo a))(typ:∀k,P (.typ k))(blt:∀k,P (.bif k))(loc:∀i,P (.loc i))(tup:∀vs,Q vs->P (.tup vs))(lam:∀k cs,P (.lam k cs))(dw:∀k,P (.dw k))(dt:∀k,P (.dt k))(scr:P .scr)(ub:P .ub)(nn:∀b,P (.nn b))(nil:Q [])(cons:∀v r,P v->Q r->Q (v::r))(v:SV):P v:=
 SV.rec (motive_1:=P) (motive_2:=Q) non bol int str byt glo typ blt loc tup lam dw dt scr ub nn nil cons v
mutual
noncomputable def RD(h:Heap):SV->Value->Prop
|.non,x=>x=.none
|.bol b,x=>x=.bool b
|.int i,x=>∃t,x=.int i t
|.str s,x=>nP s=true/\∃t,x=.str (bB s) t
|.byt s,x=>∃t,x=.bytes (s.map UInt8.ofNat).toArray t
|.tup vs,x=>∃a xs,x=.ref a/\IsTup h a xs.toArray/\RDs h vs xs
|_,_=>False
noncomputable def RDs(h:Heap):List SV->List Value->Prop
|[],xs=>xs=[]
|v::vs,xs=>∃y ys,xs=y::ys/\RD h v y/\RDs h vs ys
end
theorem RD.kp{h h':Heap}(k:Kp h h'){v:SV}:∀{x:Value},RD h v x->RD h' v x:=by
 induction v using SV.ind (Q:=fun vs=>∀xs,RDs h vs xs->RDs h' vs xs) with
|tup vs ih=>exact fun e=>aY e fun a xs e t r=>⟨a,xs,e,k.tup t,ih xs r⟩
|nil xs e=>exact e
|cons v r ih ihs xs e=>exact aY e fun y ys e a b=>⟨y,ys,e,ih a,ihs ys b⟩
|_=>exact fun e=>e
theorem RDs.kp{h h':Heap}(k:Kp h h'){vs:List SV}:∀{xs:List Value},RDs h vs xs->RDs h' vs xs:=by
 induction vs with
|nil=>exact fun e=>e
|cons v r ih=>exact fun e=>aY e fun y ys e a b=>⟨y,ys,e,a.kp k,ih b⟩
noncomputable def iK:Nat->String
|0=>"int"
|1=>"bool"
|2=>"bytes"
|3=>"tuple"
|4=>"str"
|5=>"Exception"
|6=>"list"
|7=>"dict"
|8=>"range"
|9=>"enumerate"
|_=>"object"
noncomputable def D8:Nat->String
|0=>"len"
|1=>"isinstance"
|3=>"max"
|_=>"sorted"
def RCl(R:Rn):List (Nat×Nat)->List (Str×Addr)->Prop
|[],cl=>cl=[]
|(n,i)::r,cl=>∃a cl',cl=(nm n,a)::cl'/\R.ρ[i]?=some a/\RCl R r cl'
theorem RCl.le{R R':Rn}(g:R.le R'):∀{cs:List (Nat×Nat)} {cl:List (Str×Addr)},RCl R cs cl->RCl R' cs cl
|[],_,e=>e
|(_,_)::_,_,⟨a,cl',e,q,r⟩=>⟨a,cl',e,g.at q,RCl.le g r⟩
structure Cst where
 prog:Program
 p:P
 scr:Value
 pm:Value
 lb:Nat
 lu:Nat
 td:Nat
 fb:Bool
 tq:List (Addr×Str)
 tbs:Nat->Option (Addr×Addr×Str)
 ep:Nat
 scl:List Int
noncomputable def InS:List Int->List Value->Prop
|[],xs=>xs=[]
|i::r,xs=>∃t ys,xs=.int i t::ys/\InS r ys
noncomputable abbrev Cst.at(C:Cst)(n:Nat):Cst:={C with ep:=n}
mutual
noncomputable def RV(C:Cst)(R:Rn)(h:Heap):SV->Value->Prop
|.non,x=>x=.none
|.bol b,x=>x=.bool b
|.int i,x=>∃t,x=.int i t
|.str s,x=>nP s=true/\∃t,x=.str (bB s) t
|.byt s,x=>∃t,x=.bytes (s.map UInt8.ofNat).toArray t
|.glo a,x=>x=.ref a
|.typ k,x=>x=.type (iK k)
|.bif k,x=>x=.builtin (D8 k)
|.loc i,x=>∃a,R.ρ[i]?=some a/\x=.ref a
|.tup vs,x=>∃a xs,x=.ref a/\IsTup h a xs.toArray/\RVs C R h vs xs
|.lam k cs,x=>∃a l cl qual c' ctv,nth C.p.lams k=some l/\x=.ref a/\RCl R cs cl/\h.CodeRec (.ref c') qual/\
   h.get? a=some (kla_obj "<lambda>" qual (d8 vA l.params []) (bC vA l.body) l.sc cl C.pm c' ctv)
|.dw k,x=>∃ty,R.δ[k]?=some ty/\RD h (Wr ty) x
|.dt k,x=>∃ty,R.δ[k]?=some ty/\RD h (Td ty) x
|.scr,x=>x=C.scr
|.ub,x=>∃b,x=.bool b
|.nn b,x=>∃i t,x=.int i t/\0<=i/\(b=true->i<2147483648)
noncomputable def RVs(C:Cst)(R:Rn)(h:Heap):List SV->List Value->Prop
|[],xs=>xs=[]
|v::vs,xs=>∃y ys,xs=y::ys/\RV C R h v y/\RVs C R h vs ys
end
theorem RV.mono{C:Cst}{R R':Rn}{h h':Heap}(g:R.le R')(k:Kp h h'){v:SV}:∀{x:Value},RV C R h v x->RV C R' h' v x:=by
 induction v using SV.ind (Q:=fun vs=>∀xs,RVs C R h vs xs->RVs C R' h' vs xs) with
|loc i=>exact fun e=>oEA e fun a e q=>⟨a,g.at e,q⟩
|tup vs ih=>exact fun e=>aY e fun a xs e t r=>⟨a,xs,e,k.tup t,ih xs r⟩
|lam j cs=>exact fun e=>dZ e fun a l cl qual c' ctv e1 e2 e3 e4 e5=>⟨a,l,cl,qual,c',ctv,e1,e2,e3.le g,k.code e4,k _ _ e5 (.inr (.inl ⟨_,rfl⟩))⟩
|dw j=>exact fun e=>oEA e fun ty e r=>⟨ty,g.da e,r.kp k⟩
|dt j=>exact fun e=>oEA e fun ty e r=>⟨ty,g.da e,r.kp k⟩
|nil xs e=>exact e
|cons v r ih ihs xs e=>exact aY e fun y ys e a b=>⟨y,ys,e,ih a,ihs ys b⟩
|_=>exact fun e=>e
theorem RVs.mono{C:Cst}{R R':Rn}{h h':Heap}(g:R.le R')(k:Kp h h'){vs:List SV}:∀{xs:List Value},RVs C R h vs xs->RVs C R' h' vs xs:=by
 induction vs with
|nil=>exact fun e=>e
|cons v r ih=>exact fun e=>aY e fun y ys e a b=>⟨y,ys,e,a.mono g k,ih b⟩
theorem RVs.len{C:Cst}{R:Rn}{h:Heap}{vs:List SV}:∀{xs:List Value},RVs C R h vs xs->xs.length=vs.length:=by
 induction vs with
|nil=>exact fun e=>congrArg List.length e
|cons v r ih=>exact fun e=>aY e fun y ys e _ b=>(congrArg List.length e).trans (congrArg (·+1) (ih b))
theorem RVs.nth{C:Cst}{R:Rn}{h:Heap}{vs:List SV}:∀{xs:List Value} {i:Nat} {v:SV},RVs C R h vs xs->nth vs i=some v->∃x,xs[i]?=some x/\RV C R h v x:=by
 induction vs with
|nil=>exact fun _ q=>nf q
|cons w r ih=>
  intro xs i v e q;refine aY e fun y ys e a b=>?_;rw[e];rcases i with _|i
  ·exact⟨y,rfl,aF q▸a⟩
  ·exact ih (i:=i) b q
def RE(P:Params)(C:Cst)(R:Rn)(h:Heap):List (Str×SV)->List DictEntry->Prop
|[],ds=>ds=[]
|(k,v)::r,ds=>∃t x ds',ds=⟨PyData.keyHash P k,.str k t,x⟩::ds'/\RV C R h v x/\RE P C R h r ds'
theorem RE.mono{P:Params}{C:Cst}{R R':Rn}{h h':Heap}(g:R.le R')(k:Kp h h'){es:List (Str×SV)}:∀{ds:List DictEntry},RE P C R h es ds->RE P C R' h' es ds:=by
 induction es with
|nil=>exact fun e=>e
|cons v r ih=>exact fun e=>dT e fun t x ds' e a b=>⟨t,x,ds',e,a.mono g k,ih b⟩
def dJ(R:Rn)(k:Nat):Bool:=match R.δ[k]? with
|some ty=>(hY ty).1
|none=>false
def RK(C:Cst)(R:Rn)(h:Heap):List (List Nat×SV)->List (Str×Value)->Prop
|[],ds=>ds=[]
|(k,v)::r,ds=>nP k=true/\∃x ds',ds=(bB k,x)::ds'/\RV C R h v x/\RK C R h r ds'
theorem RK.mono{C:Cst}{R R':Rn}{h h':Heap}(g:R.le R')(k:Kp h h'){es:List (List Nat×SV)}:∀{ds:List (Str×Value)},RK C R h es ds->RK C R' h' es ds:=by
 induction es with
|nil=>exact fun e=>e
|cons v r ih=>exact fun e=>cV e fun o x ds' e a b=>⟨o,x,ds',e,a.mono g k,ih b⟩
def RO(w:World)(C:Cst)(R:Rn)(h:Heap)(a:Addr):SO->Prop
|.lst vs=>∃xs n,h.get? a=some (listOf xs.toArray n)/\RVs C R h vs xs
|.dct es=>∃kvs,h.DictOf (strKind C.prog w) a kvs/\RK C R h es kvs
|.dcf es=>∃kvs,h.DictAt (strKind C.prog w) a kvs C.ep/\RK C R h es kvs
|.adc es=>∃ds n,h.get? a=some (dictOf ds n)/\RE w.params C R h (es.map fun e=>(nm e.1,e.2)) ds
|.ins c d=>∃b,R.ρ[d]?=some b/\h.get? a=some ⟨.ref c,some b,.plain,#[]⟩
|.cel none=>h.IsCell a none
|.cel (some v)=>∃x,h.IsCell a (some x)/\RV C R h v x
|.src=>∃o,h.get? a=some o/\¬iP o
|.kls m c ks=>∃(bs:List Bool) (n:Nat),bs.length<=m/\h.get? a=some (listOf (bs.map Value.bool).toArray n)/\bs.any (!·)=(c||ks.any (dJ R))/\∀k∈ks,k<R.δ.length
|.lls m c ks=>∃(is:List Nat) (xs:List Value) (n:Nat),xs.length<=C.lb+m*C.lu/\h.get? a=some (listOf xs.toArray n)/\RDs h (is.map fun i=>.tup [cB i,.int 0]) xs/\is.any bP=(C.fb||(c||ks.any (dJ R)))/\∀k∈ks,k<R.δ.length
theorem tX{R R':Rn}(g:R.le R'){k:Nat}(hk:k<R.δ.length):dJ R' k=dJ R k:=by unfold dJ;obtain⟨ty,e⟩:∃ty,R.δ[k]?=some ty:=⟨_,List.getElem?_eq_getElem hk⟩;rw[g.da e,e]
theorem jM{R R':Rn}(g:R.le R'):∀{ks:List Nat},(∀k∈ks,k<R.δ.length)->ks.any (dJ R')=ks.any (dJ R)
|[],_=>rfl
|k::r,h=>by simp only[List.any_cons];rw[tX g (h k (.head _)),jM g fun k hk=>h k (.tail _ hk)]
theorem Rn.le.dlen{R R':Rn}(g:R.le R'):R.δ.length<=R'.δ.length:=by refine qD g fun _ l q=>?_;rw[q];simp
theorem RO.mono{w:World}{C:Cst}{R R':Rn}{h h':Heap}(g:R.le R')(k:Kp h h'){a:Addr}(e:h'.get? a=h.get? a){o:SO}(x:RO w C R h a o):RO w C R' h' a o:=by
 induction o using SO.casesOn with
|lst _=>exact cX x fun xs n q r=>⟨xs,n,e.trans q,r.mono g k⟩
|dct _=>exact oEA x fun kvs q r=>⟨kvs,q.at fun _ z=>e.trans z,r.mono g k⟩
|dcf _=>exact oEA x fun kvs q r=>cX q fun o es q x=>⟨kvs,⟨o,es,e.trans q,x⟩,r.mono g k⟩
|adc _=>exact cX x fun xs n q r=>⟨xs,n,e.trans q,r.mono g k⟩
|ins _ _=>exact oEA x fun b q r=>⟨b,g.at q,e.trans r⟩
|cel v=>
  rcases v with _|_
  ·exact oEA x fun o q r=>⟨o,e.trans q,r⟩
  ·exact oEA x fun x q v=>oEA q fun o q r=>⟨x,⟨o,e.trans q,r⟩,v.mono g k⟩
|src=>exact oEA x fun o q r=>⟨o,e.trans q,r⟩
|kls _ c ks=>exact fN x fun bs n z q r=>fun l=>⟨bs,n,z,e.trans q,by rw[r,jM g l],fun k hk=>Nat.lt_of_lt_of_le (l k hk) g.dlen⟩
|lls _ c ks=>exact eV x fun is xs n y q z r=>fun l=>⟨is,xs,n,y,e.trans q,z.kp k,by rw[r,jM g l],fun k hk=>Nat.lt_of_lt_of_le (l k hk) g.dlen⟩
theorem eJ(xs:Array Value)(n:Nat):¬iP (listOf xs n):=by
 rintro(⟨e,_⟩|⟨f,e⟩|⟨vs,q,t,e,_⟩)
 ·exact absurd (Value.type.inj e) (by decide)
 ·cases e
 ·cases e
theorem bL{o:Obj}{es:Array DictEntry}{n:Nat}(d:o.data=.dict es n):¬iP o:=by rintro(⟨_,xs,n,e⟩|⟨f,e⟩|⟨vs,q,t,e,_⟩)<;>rw[d] at e<;>cases e
theorem i6(c:Addr)(b:Addr):¬iP ⟨.ref c,some b,.plain,#[]⟩:=by rintro(⟨e,_⟩|⟨f,e⟩|⟨vs,q,t,e,_⟩)<;>cases e
theorem iZ{o:Obj}{v:Option Value}(d:o.data=.cell v):¬iP o:=by rintro(⟨_,xs,n,e⟩|⟨f,e⟩|⟨vs,q,t,e,_⟩)<;>rw[d] at e<;>cases e
theorem RO.not_imm{w:World}{C:Cst}{R:Rn}{h:Heap}{a:Addr}{s:SO}(x:RO w C R h a s):∃o,h.get? a=some o/\¬iP o:=by
 induction s using SO.casesOn with
|lst vs=>refine cX x fun xs n q _=>?_;exact⟨_,q,eJ _ _⟩
|dct vs=>(refine oEA x fun kvs u4 _=>?_;refine fD u4 fun o es ep q _ d _=>?_);exact⟨_,q,bL d⟩
|dcf vs=>(refine oEA x fun kvs u5 _=>?_;refine fN u5 fun o es q _ d _=>?_);exact⟨_,q,bL d⟩
|adc vs=>refine cX x fun xs n q _=>?_;exact⟨_,q,bL rfl⟩
|ins c d=>refine oEA x fun b _ q=>?_;exact⟨_,q,i6 _ _⟩
|cel v=>
  rcases v with _|v
  ·refine oEA x fun o q r=>?_;exact⟨_,q,iZ r⟩
  ·(refine oEA x fun _ u6 _=>?_;refine oEA u6 fun o q r=>?_);exact⟨_,q,iZ r⟩
|src=>exact x
|kls m c ks=>refine aY x fun _ _ _ q _=>?_;exact⟨_,q,eJ _ _⟩
|lls m c ks=>refine dT x fun _ _ _ _ q _=>?_;exact⟨_,q,eJ _ _⟩
noncomputable def iM:Ty->Nat
|.v _=>0
|.n0 _=>1
|.n1 _ t=>iM t+1
|.n2 _ t u=>max (iM t) (iM u)+1
noncomputable def dM(b:Bool):Ty->Bool
|.v _=>b
|.n0 i=>Nat.blt i 19
|.n1 i t=>Nat.blt i 36&&dM b t
|.n2 i t u=>Nat.blt i 16&&(dM b t&&dM b u)
def Tabs(B:Heap)(tq:List (Addr×Str))(h:Heap):Prop:=∀q∈tq,B.get? q.1=none/\∃ps,h.get? q.1=some (tabObj ps)/\TriplesOk ps.toList/\∀pos cv,codeAmong pos ps.toList=some cv->h.CodeRec cv q.2
structure Inv(w:World) (C:Cst) (B:Heap) (R:Rn) (st:St) (h:Heap):Prop where
 stays:B.StaysIn h
 len:R.ρ.length=C.p.N0+st.n
 olen:st.objs.length=st.n
 dlen:R.δ.length=st.da.length
 dD:∀ty∈R.δ,(iM ty<=30/\dM false ty=true)/\iM ty<=C.td
 da:∀(k:Nat) (b:Bool),st.da[k]?=some (some b)->dJ R k=b
 inj:∀(i j:Nat) (a:Addr),R.ρ[i]?=some a->R.ρ[j]?=some a->i=j
 new:∀(i:Nat) (a:Addr),R.ρ[i]?=some a->B.get? a=none/\∃o,h.get? a=some o/\¬iP o
 obj:∀(i:Nat) (o:SO) (a:Addr),st.get C.p i=some o->R.ρ[i]?=some a->RO w C R h a o
 tab:Tabs B C.tq h
 tabA:∀q∈C.tq,∀i:Nat,R.ρ[i]?≠some q.1
theorem bS{β:Type}(l:List β):∀i:Nat,nth l i=l[i]?:=by
 induction l with
|nil=>exact fun _=>rfl
|cons x r ih=>exact fun i=>i.casesOn rfl ih
theorem pY{β:Type}(y:β)(l:List β):∀i:Nat,setN l i y=l.set i y:=by
 induction l with
|nil=>exact fun _=>rfl
|cons x r ih=>exact fun i=>i.casesOn rfl fun i=>congrArg (x::·) (ih i)
theorem tZ{a b:Nat}(h:a<b):Nat.blt a b=true:=cA h
theorem xK{a b:Nat}(h:b<=a):Nat.blt a b=false:=Bool.eq_false_iff.mpr fun q=>Nat.not_lt.mpr h (aP q)
theorem D9{a b:Nat}(h:Nat.blt a b=false):b<=a:=Nat.le_of_not_lt fun q=>by rw[tZ q] at h;cases h
section
variable{p:P}{st:St}{i:Nat}
theorem fK(h:i<p.N0):st.get p i=match look i st.ov with
 |some o=>some o
 |none=>p.F.look i:=by delta St.get;rw[tZ h]<;>rfl
theorem gQ(h:p.N0<=i)(l:i-p.N0<st.n):st.get p i=st.objs[st.n-1-(i-p.N0)]?:=by delta St.get;rw[xK h,tZ l];exact bS _ _
theorem fY(h:p.N0+st.n<=i):st.get p i=none:=by delta St.get;rw[xK (al__3 (Nat.le_add_right _ _) h),xK (Nat.le_sub_of_add_le (Nat.add_comm _ _▸h))]
theorem EU{o:SO}(e:st.get p i=some o):i<p.N0+st.n:=Nat.lt_of_not_le fun y=>by rw[fY y] at e;exact nf e
end
theorem Inv.at{w:World}{C:Cst}{B:Heap}{R:Rn}{st:St}{h:Heap}(I:Inv w C B R st h){i:Nat}{o:SO}(e:st.get C.p i=some o):∃a,R.ρ[i]?=some a/\RO w C R h a o:=
 have q:=List.getElem?_eq_getElem (l:=R.ρ) (i:=i) (by rw[I.len];exact EU e)
 ⟨_,q,I.obj i o _ e q⟩
theorem bJ{α β:Type}(l:List α):∀k:List α->β,fc l k=k l:=by
 induction l with
|nil=>exact fun _=>rfl
|cons x r ih=>exact fun k=>ih _
theorem CC{m a b:Nat}(ha:a<=m)(hb:b<=m)(e:m-a=m-b):a=b:=(Nat.sub_sub_self ha).symm.trans ((congrArg (m - ·) e).trans (Nat.sub_sub_self hb))
theorem Az{k a b:Nat}(ha:k<=a)(hb:k<=b)(e:a-k=b-k):a=b:=(Nat.sub_add_cancel ha).symm.trans ((congrArg (·+k) e).trans (Nat.sub_add_cancel hb))
theorem xE{a b:Nat}(h:a≠b):Nat.beq a b=false:=Bool.eq_false_iff.mpr fun q=>h (aT q)
theorem cL{β:Type}(k:Nat)(v:β)(r:List (Nat×β)):look k ((k,v)::r)=some v:=by show(match Nat.beq k k with|true=>some v|false=>look k r)=_;rw[Nat.beq_refl]
theorem cF{β:Type}{a k:Nat}(h:a≠k)(v:β)(r:List (Nat×β)):look k ((a,v)::r)=look k r:=by show(match Nat.beq a k with|true=>some v|false=>look k r)=_;rw[xE h]
theorem bM{β:Type}(k:Nat)(v:β)(l:List (Nat×β))(j:Nat):look j (put k v l)=if j=k then some v else look j l:=by
 induction l with
|nil=>
  by_cases q:j=k
  ·rw[if_pos q,q];exact cL k v []
  ·rw[if_neg q];exact cF (Ne.symm q) v []
|cons x r ih=>
  show look j (match Nat.beq x.1 k with|true=>(x.1,v)::r|false=>(x.1,x.2)::put k v r)=_;rcases z:Nat.beq x.1 k with _|_
  ·by_cases q:j=x.1
   ·rw[q,if_neg fun y=>by rw[<-y,Nat.beq_refl] at z;cases z];exact(cL _ _ _).trans (cL _ _ _).symm
   ·exact(cF (Ne.symm q) _ _).trans (ih.trans (by rw[show look j (x::r)=look j r from cF (Ne.symm q) x.2 r]))
  ·have e:=aT z;by_cases q:j=k
   ·rw[if_pos q,q,e];exact cL k v r
   ·rw[if_neg q,e];exact(cF (Ne.symm q) v r).trans (cF (e▸Ne.symm q) x.2 r).symm
theorem LU{β:Type}{l:List β}{i:Nat}(h:i<l.length):∃x,nth l i=some x:=by rw[bS];exact⟨_,List.getElem?_eq_getElem h⟩
theorem look_mem{β:Type}{k:Nat}{v:β}{l:List (Nat×β)}:look k l=some v->(k,v)∈l:=by
 induction l with
|nil=>exact fun e=>nf e
|cons x r ih=>
  intro e;by_cases q:x.1=k
  ·rw[<-q] at e ⊢;rw[<-aF ((cL x.1 x.2 r).symm.trans e)];exact .head _
  ·exact .tail _ (ih ((cF q x.2 r).symm.trans e))
theorem dF{p:P}{st:St}{i:Nat}{o:SO}{k:St->Bool}{G:Prop}(hl:st.objs.length=st.n)(e:st.set p i o k=true)
  (kk:∀st',k st'=true->st'.fr=st.fr->st'.n=st.n->st'.objs.length=st'.n->st'.da=st.da->(∀j,st'.get p j=if j=i then some o else st.get p j)->G):G:=by
 obtain⟨fr,n,objs,da,ov⟩:=st;delta St.set at e;rcases q:Nat.blt i p.N0 with _|_
 ·rw[q] at e;have hi:=D9 q;rcases q2:Nat.blt (i-p.N0) n with _|_
  ·rw[q2] at e;exact ff e
  ·rw[q2] at e;have l2:i-p.N0<n:=aP q2;have hl:objs.length=n:=hl;have ls:(setN objs (n-1-(i-p.N0)) o).length=n:=by rw[pY,List.length_set,hl]
   refine kk _ ((bJ _ _).symm.trans e) rfl rfl ls rfl fun j=>?_;by_cases z:j=i
   ·rw[z,if_pos rfl,gQ hi l2];show(setN objs (n-1-(i-p.N0)) o)[n-1-(i-p.N0)]?=_;rw[pY];exact List.getElem?_set_self (by rw[hl];exact Nat.lt_of_le_of_lt (Nat.sub_le _ _) (Nat.sub_lt (Nat.zero_lt_of_lt l2) Nat.one_pos))
   ·rw[if_neg z];rcases Nat.lt_or_ge j p.N0 with hj|hj
    ·rw[fK hj,fK hj]
    ·rcases Nat.lt_or_ge (j-p.N0) n with l3|l3
     ·rw[gQ hj l3,gQ hj l3];show(setN objs (n-1-(i-p.N0)) o)[n-1-(j-p.N0)]?=_;rw[pY];exact List.getElem?_set_ne fun e=>z (Az hj hi (CC (Nat.le_pred_of_lt l3) (Nat.le_pred_of_lt l2) e.symm))
     ·have l4:p.N0+n<=j:=(Nat.le_sub_iff_add_le' hj).mp l3;rw[fY l4,fY l4]
 ·rw[q] at e;have hi:i<p.N0:=aP q;rcases q2:look i ov with _|x
  ·simp only[q2] at e;exact ff e
  ·simp only[q2] at e;refine kk _ ((bJ _ _).symm.trans e) rfl rfl hl rfl fun j=>?_;by_cases z:j=i
   ·rw[z,if_pos rfl,fK hi];show(match look i (put i o ov) with|some o=>some o|none=>_)=_;rw[bM,if_pos rfl]
   ·rw[if_neg z];rcases Nat.lt_or_ge j p.N0 with hj|hj
    ·rw[fK hj,fK hj];show(match look j (put i o ov) with|some o=>some o|none=>_)=_;rw[bM,if_neg z]
    ·rcases Nat.lt_or_ge (j-p.N0) n with l3|l3
     ·rw[gQ hj l3,gQ hj l3]
     ·have l4:p.N0+n<=j:=(Nat.le_sub_iff_add_le' hj).mp l3;rw[fY l4,fY l4]
theorem iS(p:P)(fr fr':List (Nat×SV))(n:Nat)(objs:List SO)(da da':List (Option Bool))(ov:List (Nat×SO))(o:SO)(j:Nat):St.get p ⟨fr',n+1,o::objs,da',ov⟩ j=if j=p.N0+n then some o else St.get p ⟨fr,n,objs,da,ov⟩ j:=by
 rcases Nat.lt_or_ge j p.N0 with hj|hj
 ·rw[fK hj,fK hj,if_neg (Nat.ne_of_lt (Nat.lt_of_lt_of_le hj (Nat.le_add_right _ _)))]
 ·by_cases z:j=p.N0+n
  ·rw[if_pos z,gQ hj (by rw[z,Nat.add_sub_cancel_left];exact Nat.lt_succ_self n),z];show(o::objs)[n+1-1-(p.N0+n-p.N0)]?=_;rw[Nat.add_sub_cancel_left,Nat.add_sub_cancel,Nat.sub_self];rfl
  ·rw[if_neg z];rcases Nat.lt_or_ge (j-p.N0) n with l|l
   ·rw[gQ (st:=⟨fr',n+1,o::objs,da',ov⟩) hj (Nat.lt_succ_of_lt l),gQ (st:=⟨fr,n,objs,da,ov⟩) hj l];show(o::objs)[n+1-1-(j-p.N0)]?=_;rw[show n+1-1-(j-p.N0)=n-1-(j-p.N0)+1 from(Nat.sub_add_cancel (Nat.sub_pos_of_lt l)).symm.trans (congrArg (·+1) (Nat.sub_right_comm n _ 1))];rfl
   ·have l4:p.N0+n<j:=Nat.lt_of_le_of_ne ((Nat.le_sub_iff_add_le' hj).mp l) (Ne.symm z);rw[fY l4,fY (Nat.le_of_succ_le l4)]
theorem kM{p:P}{st:St}{o:SO}{k:Nat->St->Bool}{G:Prop}(e:st.new p o k=true)
  (kk:∀st',k (p.N0+st.n) st'=true->st'.fr=st.fr->st'.n=st.n+1->(st.objs.length=st.n->st'.objs.length=st'.n)->st'.da=st.da->(∀j,st'.get p j=if j=p.N0+st.n then some o else st.get p j)->G):G:=by
 obtain⟨fr,n,objs,da,ov⟩:=st;exact kk _ e rfl rfl (fun hl=>congrArg (·+1) hl) rfl (iS p fr fr n objs da da ov o)
theorem dN{st:St}{fr:List (Nat×SV)}{k:St->Bool}(e:st.wf fr k=true):k {st with fr:=fr}=true:=by obtain⟨a,n,objs,da,ov⟩:=st;exact e
theorem Ld(p:P)(st:St)(fr:List (Nat×SV))(i:Nat):St.get p {st with fr:=fr} i=st.get p i:=rfl
theorem qH{α:Type}{o:Option α}{f:α->Bool}(h:bO o f=true):∃x,o=some x/\f x=true:=by
 rcases o with _|x
 ·exact ff h
 ·exact⟨x,rfl,h⟩
theorem dO{α:Type}{o:Option α}{f:α->Bool}{G:Prop}(h:bO o f=true)(k:∀x,o=some x->f x=true->G):G:=by
 rcases o with _|x
 ·exact ff h
 ·exact k x rfl h
theorem Gk{a b:Bool}(h:(a||b)=true):a=true\/b=true:=by rcases a with _|_;exact .inr h;exact .inl rfl
theorem eO{a b c:Bool}(h:(a&&b&&c)=true):(a=true/\b=true)/\c=true:=⟨aG (aG h).1,(aG h).2⟩
theorem qG{a b c d e:Bool}(h:(a&&b&&c&&d&&e)=true):(((a=true/\b=true)/\c=true)/\d=true)/\e=true:=⟨⟨eO (aG (aG h).1).1,(aG (aG h).1).2⟩,(aG h).2⟩
theorem GC{a b c d e f:Bool}(h:(a&&b&&c&&d&&e&&f)=true):((((a=true/\b=true)/\c=true)/\d=true)/\e=true)/\f=true:=⟨qG (aG h).1,(aG h).2⟩
section
variable{p:P}{st:St}{i:Nat}
theorem dL{f:List SV->Bool}{G:Prop}(h:gL p st i f=true)(k:∀vs,st.get p i=some (.lst vs)->f vs=true->G):G:=by refine dO h fun o e h=>?_;rcases o with _|_<;>first|exact k _ e h|exact ff h
theorem dI{f:Nat->Nat->Bool}{G:Prop}(h:gI p st i f=true)(k:∀c d,st.get p i=some (.ins c d)->f c d=true->G):G:=by refine dO h fun o e h=>?_;rcases o with _|_<;>first|exact k _ _ e h|exact ff h
theorem dD{f:List (List Nat×SV)->Bool}{G:Prop}(h:gD p st i f=true)(k:∀vs,st.get p i=some (.dct vs)->f vs=true->G):G:=by refine dO h fun o e h=>?_;rcases o with _|_<;>first|exact k _ e h|exact ff h
theorem dR{f:List (List Nat×SV)->Bool}{G:Prop}(h:gR p st i f=true)(k:∀vs,(st.get p i=some (.dct vs)\/st.get p i=some (.dcf vs))->f vs=true->G):G:=by refine dO h fun o e h=>?_;rcases o with _|_<;>first|exact k _ (.inl e) h|exact k _ (.inr e) h|exact ff h
theorem dA{f:List (Nat×SV)->Bool}{G:Prop}(h:gA p st i f=true)(k:∀vs,st.get p i=some (.adc vs)->f vs=true->G):G:=by refine dO h fun o e h=>?_;rcases o with _|_<;>first|exact k _ e h|exact ff h
theorem dC{f:Option SV->Bool}{G:Prop}(h:gC p st i f=true)(k:∀v,st.get p i=some (.cel v)->f v=true->G):G:=by refine dO h fun o e h=>?_;rcases o with _|_<;>first|exact k _ e h|exact ff h
end
section
variable{w:World}{C:Cst}{B:Heap}{R:Rn}{st st':St}{h h':Heap}
theorem Tabs.keep(T:Tabs B C.tq h)(k:∀b o,h.get? b=some o->h'.get? b=some o):Tabs B C.tq h':=fun q hq=>
 let⟨n,ps,e,t,c⟩:=T q hq
 ⟨n,ps,k _ _ e,t,fun pos cv z=>(c pos cv z).keeps k⟩
theorem Inv.keep(I:Inv w C B R st h)(k:∀b o,h.get? b=some o->h'.get? b=some o):Inv w C B R st h':=
 ⟨fun b o e=>k b o (I.stays b o e),I.len,I.olen,I.dlen,I.dD,I.da,I.inj,fun i a e=>let⟨n,o,ho,m⟩:=I.new i a e;⟨n,o,k _ _ ho,m⟩,
  fun i o a e q=>let⟨_,_,ho,_⟩:=I.new i a q;(I.obj i o a e q).mono (.refl R) (.of_keep k) ((k _ _ ho).trans ho.symm),I.tab.keep k,I.tabA⟩
theorem Kp.sameBut{b:Addr}(k:Heap.SameBut b h h')(hi:∀o,h.get? b=some o->¬iP o):Kp h h':=fun c o e m=>(k.2 c (fun z=>by subst z;exact hi o e m)).trans e
theorem Inv.wf(I:Inv w C B R st h)(fr:List (Nat×SV)):Inv w C B R {st with fr:=fr} h:=⟨I.stays,I.len,I.olen,I.dlen,I.dD,I.da,I.inj,I.new,I.obj,I.tab,I.tabA⟩
theorem Inv.mut(I:Inv w C B R st h){i:Nat}{a:Addr}(e:R.ρ[i]?=some a){o:Obj}(ho:h.get? a=some o):¬iP o:=by refine cZ (I.new i a e) fun _ o' e' m=>?_;rw[ho] at e';obtain rfl:=aF e';exact m
end
end
section
def Kf(oU:List Env)(h h':Heap):Prop:=∀e∈oU,∀L o,e.frame=some L->h.get? L=some o->∃sl,h'.get? L=some {o with slots:=sl}
structure Le(oU:List Env) (h h':Heap):Prop where
 kp:Kp h h'
 kf:Kf oU h h'
theorem Le.refl(oU:List Env)(h:Heap):Le oU h h:=⟨.refl h,fun _ _ _ o _ e=>⟨o.slots,e⟩⟩
theorem Le.trans{oU:List Env}{a b c:Heap}(x:Le oU a b)(y:Le oU b c):Le oU a c:=⟨x.kp.trans y.kp,fun e he L o hf ho=>by refine oE (x.kf e he L o hf ho) fun sl h1=>?_;refine oE (y.kf e he L _ hf h1) fun sl' h2=>?_;exact⟨sl',h2⟩⟩
theorem Le.of_keep{oU:List Env}{h h':Heap}(k:∀b o,h.get? b=some o->h'.get? b=some o):Le oU h h':=⟨.of_keep k,fun _ _ L o _ e=>⟨o.slots,k _ _ e⟩⟩
def FrOk(C:Cst)(R:Rn)(h:Heap)(L:Addr)(fr:List (Nat×SV)):Prop:=∃m,h.Ns L m/\∀n v,look n fr=some v->∃x,m (nm n)=some x/\RV C R h v x
def OutOk(B:Heap)(R:Rn)(h:Heap)(L₀:Addr)(e:Env):Prop:=e.scope.kind≠.module/\∃L o es n,e.frame=some L/\h.get? L=some o/\o.data=.dict es n/\B.get? L=none/\(∀i:Nat,R.ρ[i]?≠some L)/\L≠L₀
structure At(w:World) (C:Cst) (B:Heap) (oU:List Env) (env:Env) (R:Rn) (st:St) (h:Heap):Prop where
 inv:Inv w C B R st h
 frm:FrOk C R h env.locals st.fr
 lB:B.get? env.locals=none
 lA:∀i:Nat,R.ρ[i]?≠some env.locals
 out:∀e∈oU,OutOk B R h env.locals e
noncomputable def cI(env:Env)(oU:List Env):List Env:=if env.frame=some env.locals then env::oU else oU
theorem c9{env:Env}{oU:List Env}(h:env.frame=some env.locals):cI env oU=env::oU:=if_pos h
theorem qW{env:Env}{oU:List Env}(h:env.frame≠some env.locals):cI env oU=oU:=if_neg h
structure CxOk(C:Cst) (oU:List Env) (env:Env) (R:Rn) (cx:Cx) (A:Around):Prop where
 kind:env.scope.kind=.function
 gl:env.globals=mainGlobals
 bi:env.builtins=builtinsNs
 stk:A.frames=some (cI env oU)
 dep:A.depth<=cx.dp+400
 un:A.units<=cx.un
 hd:A.handled=none
 tb:∀c P q,C.tbs cx.tb=some (c,P,q)->env.code=.ref c/\env.qual++"<lambda>"=q
 cl:∀n i,look n cx.cl=some i->∃a,R.ρ[i]?=some a/\env.cells.lookup (nm n)=some a
 ck:∀n,match look n cx.cl with
 |some _=>env.scope.names.lookup (nm n)≠some .local
 |none=>env.scope.names.lookup (nm n)≠some .cell
 ub:cx.un<=4010
 fr:env.frame=some env.locals\/∃e∈oU,e.frame=env.frame
 db:cx.dp<=300
theorem CxOk.le{C:Cst}{oU:List Env}{env:Env}{R R':Rn}{cx:Cx}{A:Around}(c:CxOk C oU env R cx A)(g:R.le R'):CxOk C oU env R' cx A:=
 ⟨c.kind,c.gl,c.bi,c.stk,c.dep,c.un,c.hd,c.tb,fun n i e=>let⟨a,q,r⟩:=c.cl n i e;⟨a,g.at q,r⟩,c.ck,c.ub,c.fr,c.db⟩
theorem j0{h h':Heap}{L:Addr}{m:Str->Option Value}(x:h.Ns L m)(k:∀o,h.get? L=some o->∃sl,h'.get? L=some {o with slots:=sl}):h'.Ns L m:=by refine fD x fun o es ep ho hd hk hf=>?_;refine oE (k o ho) fun sl e=>?_;exact⟨_,es,ep,e,hd,hk,hf⟩
theorem FrOk.mono{C:Cst}{R R':Rn}{h h':Heap}{L:Addr}{fr:List (Nat×SV)}(x:FrOk C R h L fr)(g:R.le R')(k:Kp h h')(e:∀o,h.get? L=some o->∃sl,h'.get? L=some {o with slots:=sl}):FrOk C R' h' L fr:=by refine oEA x fun m a b=>?_;refine⟨m,j0 a e,fun n v q=>?_⟩;refine oEA (b n v q) fun y q r=>?_;exact⟨y,q,r.mono g k⟩
section
variable{w:World}{C:Cst}{B:Heap}{oU:List Env}{env:Env}{R R':Rn}{st st':St}{h h':Heap}
theorem OutOk.mono{L₀:Addr}{e:Env}(x:OutOk B R h L₀ e)(hn:∀(i:Nat) (a:Addr),R'.ρ[i]?=some a->R.ρ[i]?=some a\/h.get? a=none)(k:∀L o,e.frame=some L->h.get? L=some o->∃sl,h'.get? L=some {o with slots:=sl}):OutOk B R' h' L₀ e:=by
 refine bR x fun hk L o es n a b c d f g=>?_;refine oE (k L o a b) fun sl q=>?_;exact⟨hk,L,_,es,n,a,q,c,d,(fun i z=>by
  rcases hn i L z with y|y
  ·exact f i y
  ·rw[b] at y;cases y),g⟩
theorem At.ns(I:At w C B oU env R st h):∃o es n,h.get? env.locals=some o/\o.data=.dict es n:=by refine oEA (I.frm) fun m u1 _=>?_;refine dT u1 fun o es ep a b _=>?_;exact⟨o,es,ep,a,b⟩
theorem At.fmut(I:At w C B oU env R st h){o:Obj}(e:h.get? env.locals=some o):¬iP o:=by refine c_ (I.ns) fun o' es n q d=>?_;rw[q] at e;obtain rfl:=aF e;exact bL d
structure Fresh(C:Cst) (B:Heap) (oU:List Env) (env:Env) (R:Rn) (h':Heap) (a:Addr):Prop where
 nb:B.get? a=none
 nl:∀i:Nat,R.ρ[i]?≠some a
 nt:∀q∈C.tq,q.1≠a
 nf:a≠env.locals
 no:∀e∈oU,e.frame≠some a
 it:∃o,h'.get? a=some o/\¬iP o
theorem iQ{α:Type}{l:List α}{a b:α}{i:Nat}(e:(l++[a])[i]?=some b):l[i]?=some b\/(i=l.length/\b=a):=by
 by_cases z:i<l.length
 ·exact .inl (by rw[<-e,List.getElem?_append_left z])
 ·rw[List.getElem?_append_right (Nat.le_of_not_lt z)] at e;rcases y:i-l.length with _|m
  ·rw[y] at e;exact .inr ⟨Nat.le_antisymm (Nat.le_of_sub_eq_zero y) (Nat.le_of_not_lt z),(aF e).symm⟩
  ·rw[y] at e;exact nf e
theorem At.kpD{D:Addr->Prop}(I:At w C B oU env R st h)(k:∀b o,¬D b->h.get? b=some o->h'.get? b=some o)(hD:∀b,D b->(∃i:Nat,R.ρ[i]?=some b)\/b=env.locals\/Fresh C B oU env R h b):Kp h h':=fun b o e m=>k b o (fun d=>by
 rcases hD b d with⟨i,hi⟩|rfl|f
 ·exact I.inv.mut hi e m
 ·exact I.fmut e m
 ·refine oEA (f.it) fun o' q n=>?_;rw[e] at q;obtain rfl:=aF q;exact n m) e
theorem At.chg{D:Addr->Prop}(I:At w C B oU env R st h)(k:∀b o,¬D b->h.get? b=some o->h'.get? b=some o)(hD:∀b,D b->(∃i:Nat,R.ρ[i]?=some b)\/b=env.locals\/Fresh C B oU env R h b)
  (hD':∀(i:Nat) a,R.ρ[i]?=some a->D a->∃o,h'.get? a=some o/\¬iP o) (hR:R'=R\/∃a,R'=⟨R.ρ++[a],R.δ⟩/\Fresh C B oU env R h' a) (hn:st'.n+C.p.N0=R'.ρ.length) (hs:st'.objs.length=st'.n) (hd:st'.da=st.da)
  (ho:∀i o a,st'.get C.p i=some o->R'.ρ[i]?=some a->(st.get C.p i=some o/\R.ρ[i]?=some a/\¬D a)\/RO w C R' h' a o) (hf:Kp h h'->R.le R'->FrOk C R' h' env.locals st'.fr):At w C B oU env R' st' h'/\Le oU h h':=by
 have g:R.le R':=by
  rcases hR with rfl|⟨a,rfl,_⟩
  ·exact .refl _
  ·exact⟨⟨_,rfl⟩,[],by simp⟩
 have hδ:R'.δ=R.δ:=by rcases hR with rfl|⟨a,rfl,_⟩<;>rfl
 have old:∀(i:Nat) (a:Addr),R'.ρ[i]?=some a->R.ρ[i]?=some a\/(i=R.ρ.length/\Fresh C B oU env R h' a):=fun i a e=>by
  rcases hR with rfl|⟨b,rfl,f⟩
  ·exact .inl e
  ·rcases iQ e with e|⟨e1,rfl⟩
   ·exact .inl e
   ·exact .inr ⟨e1,f⟩
 have kp:Kp h h':=I.kpD k hD;have nB:∀b,D b->B.get? b=none:=fun b d=>by
  rcases hD b d with⟨i,hi⟩|rfl|f
  ·exact(I.inv.new i b hi).1
  ·exact I.lB
  ·exact f.nb
 have nT:∀q∈C.tq,¬D q.1:=fun q hq d=>by
  rcases hD _ d with⟨i,hi⟩|e|f
  ·exact I.inv.tabA q hq i hi
  ·refine cZ (I.inv.tab q hq) fun _ ps e' _=>?_;refine c_ (I.ns) fun o es n q' d'=>?_;rw[e,q'] at e';obtain rfl:=aF e';cases d'
  ·exact f.nt q hq rfl
 have nO:∀e∈oU,∀L,e.frame=some L->¬D L:=fun e he L hL d=>by
  refine bR (I.out e he) fun _ L' _ _ _ f1 _ _ _ f2 f3=>?_;rw[f1] at hL;obtain rfl:=aF hL;rcases hD _ d with⟨i,hi⟩|e|f
  ·exact f2 i hi
  ·exact f3 e
  ·exact f.no e he f1
 have kf:Kf oU h h':=fun e he L o hL hl=>⟨o.slots,k _ _ (nO e he L hL) hl⟩;exact⟨{
  inv:={
   stays:=fun b o e=>k b o (fun d=>by rw[nB b d] at e;exact nf e) (I.inv.stays b o e)
   len:=by(first|lia|omega)
   olen:=hs
   dlen:=by rw[hδ,hd];exact I.inv.dlen
   dD:=by rw[hδ];exact I.inv.dD
   da:=fun n b e=>by rw[hd] at e;have:=I.inv.da n b e;unfold dJ at *;rw[hδ];exact this
   inj:=fun i j a e1 e2=>by
    rcases old i a e1 with x|⟨x,f⟩<;>rcases old j a e2 with y|⟨y,f'⟩
    ·exact I.inv.inj i j a x y
    ·exact absurd x (f'.nl i)
    ·exact absurd y (f.nl j)
    ·exact x.trans y.symm
   new:=fun i a e=>by
    rcases old i a e with x|⟨_,f⟩
    ·by_cases d:D a
     ·exact⟨(I.inv.new i a x).1,hD' i a x d⟩
     ·refine cZ (I.inv.new i a x) fun n o ho m=>?_;exact⟨n,o,k a o d ho,m⟩
    ·exact⟨f.nb,f.it⟩
   obj:=fun i o a e q=>by
    rcases ho i o a e q with⟨x,y,d⟩|r
    ·refine cZ (I.inv.new i a y) fun _ o2 q2 _=>?_;exact(I.inv.obj i o a x y).mono g kp ((k a o2 d q2).trans q2.symm)
    ·exact r
   tab:=fun q hq=>let⟨n,ps,e,t,c⟩:=I.inv.tab q hq;⟨n,ps,k _ _ (nT q hq) e,t,fun pos cv z=>kp.code (c pos cv z)⟩
   tabA:=fun q hq i e=>by
    rcases old i _ e with x|⟨_,f⟩
    ·exact I.inv.tabA q hq i x
    ·exact f.nt q hq rfl}
  frm:=hf kp g
  lB:=I.lB
  lA:=fun i e=>by
   rcases old i _ e with x|⟨_,f⟩
   ·exact I.lA i x
   ·exact f.nf rfl
  out:=fun e he=>by
   refine bR (I.out e he) fun hk L o es n a1 b c d f z=>?_;refine⟨hk,L,o,es,n,a1,k _ _ (nO e he L a1) b,c,d,fun i y=>?_,z⟩;rcases old i L y with x|⟨_,f'⟩
   ·exact f i x
   ·exact f'.no e he a1},kp,kf⟩
theorem At.frk(I:At w C B oU env R st h)(kp:Kp h h')(g:R.le R')(e:∀m,h.Ns env.locals m->h'.Ns env.locals m):FrOk C R' h' env.locals st.fr:=
 let⟨m,a,b⟩:=I.frm
 ⟨m,e m a,fun n v q=>let⟨y,q,r⟩:=b n v q;⟨y,q,r.mono g kp⟩⟩
theorem At.keepL(I:At w C B oU env R st h)(k:∀b o,h.get? b=some o->h'.get? b=some o):At w C B oU env R st h'/\Le oU h h':=
 I.chg (D:=fun _=>False) (fun b o _ e=>k b o e) (fun _ d=>d.elim) (fun _ _ _ d=>d.elim) (.inl rfl) (by rw[I.inv.len];(first|lia|omega)) I.inv.olen rfl (fun i o a e q=>.inl ⟨e,q,fun d=>d⟩) fun kp g=>I.frk kp g fun m x=>x.keeps k
theorem At.keep(I:At w C B oU env R st h)(k:∀b o,h.get? b=some o->h'.get? b=some o):At w C B oU env R st h':=(I.keepL k).1
theorem At.other{a:Addr}(I:At w C B oU env R st h)(f:Fresh C B oU env R h a)(sb:Heap.ExtBut a h h'):At w C B oU env R st h'/\Le oU h h':=
 I.chg (D:=fun b=>b=a) (fun b o d e=>sb b o d e) (fun b d=>.inr (.inr (by rw[d];exact f))) (fun j b e d=>absurd e (by rw[d];exact f.nl j)) (.inl rfl) (by rw[I.inv.len];exact Nat.add_comm _ _) I.inv.olen rfl
  (fun i o b e q=>.inl ⟨e,q,fun d=>f.nl i (d▸q)⟩) fun kp g=>I.frk kp g fun m x=>x.extBut sb fun z=>f.nf z.symm
theorem At.updW{i:Nat}{a:Addr}{o:SO}(I:At w C B oU env R st h)(ha:R.ρ[i]?=some a)(k:∀b o,b≠a->b≠env.locals->h.get? b=some o->h'.get? b=some o)(hns:∀m,h.Ns env.locals m->h'.Ns env.locals m)(ho:Kp h h'->RO w C R h' a o)
  (hf:st'.n=st.n/\st'.objs.length=st'.n/\st'.da=st.da/\∀j,st'.get C.p j=if j=i then some o else st.get C.p j) (hr:st'.fr=st.fr):At w C B oU env R st' h'/\Le oU h h':=by
 have k':∀b o,¬(b=a\/b=env.locals)->h.get? b=some o->h'.get? b=some o:=fun b o d e=>k b o (fun z=>d (.inl z)) (fun z=>d (.inr z)) e;have hD:∀b,(b=a\/b=env.locals)->(∃i:Nat,R.ρ[i]?=some b)\/b=env.locals\/Fresh C B oU env R h b:=fun b d=>d.elim (fun z=>.inl ⟨i,by rw[z];exact ha⟩) fun z=>.inr (.inl z);have ho:=ho (I.kpD k' hD);exact I.chg k' hD (fun j b e d=>d.elim (fun z=>by rw[z];exact ho.not_imm) fun z=>absurd e (by rw[z];exact I.lA j)) (.inl rfl) (by rw[hf.1,I.inv.len];(first|lia|omega)) hf.2.1 hf.2.2.1
  (fun j o' b e q=>by
   rw[hf.2.2.2 j] at e;by_cases z:j=i
   ·rw[if_pos z] at e;obtain rfl:=aF e;rw[z,ha] at q;obtain rfl:=aF q;exact .inr ho
   ·rw[if_neg z] at e;exact .inl ⟨e,q,fun d=>d.elim (fun y=>z (I.inv.inj j i a (y▸q) ha)) fun y=>I.lA j (y▸q)⟩)
  fun kp g=>by rw[hr];exact I.frk kp g hns
theorem At.setW{o:SO}{k:St->Bool}{a:Addr}{i:Nat}(I:At w C B oU env R st h)(ha:R.ρ[i]?=some a)(e:st.set C.p i o k=true)(kk:∀b o,b≠a->b≠env.locals->h.get? b=some o->h'.get? b=some o)(hns:∀m,h.Ns env.locals m->h'.Ns env.locals m)(ho:Kp h h'->RO w C R h' a o)
  {G:Prop} (z:∀st',k st'=true->Le oU h h'->At w C B oU env R st' h'->st'.fr=st.fr->(∀j,st'.get C.p j=if j=i then some o else st.get C.p j)->G):G:=by
 refine dF I.inv.olen e fun st2 e2 f1 f2 f3 f4 f5=>?_;refine oA (I.updW ha kk hns ho ⟨f2,f3,f4,f5⟩ f1) fun I' l=>?_;exact z st2 e2 l I' f1 f5
theorem At.store{fr:List (Nat×SV)}(I:At w C B oU env R st h)(k:Heap.SameBut env.locals h h')(hf:Kp h h'->FrOk C R h' env.locals fr):At w C B oU env R {st with fr:=fr} h'/\Le oU h h':=
 I.chg (D:=fun b=>b=env.locals) (fun b o d e=>(k.2 b d).trans e) (fun b d=>.inr (.inl d)) (fun j b e d=>absurd e (by rw[d];exact I.lA j)) (.inl rfl) (by rw[I.inv.len];exact Nat.add_comm _ _) I.inv.olen rfl
  (fun i o a e q=>.inl ⟨e,q,fun d=>I.lA i (d▸q)⟩) fun kp _=>hf kp
theorem At.add{a:Addr}{o:SO}(I:At w C B oU env R st h)(k:∀b o,h.get? b=some o->h'.get? b=some o)(f:Fresh C B oU env R h' a)(ho:RO w C ⟨R.ρ++[a],R.δ⟩ h' a o)
  (hf:st'.n=st.n+1/\st'.objs.length=st'.n/\st'.da=st.da/\∀j,st'.get C.p j=if j=C.p.N0+st.n then some o else st.get C.p j) (hr:st'.fr=st.fr):At w C B oU env ⟨R.ρ++[a],R.δ⟩ st' h'/\Le oU h h':=
 I.chg (D:=fun _=>False) (fun b o _ e=>k b o e) (fun _ d=>d.elim) (fun _ _ _ d=>d.elim) (.inr ⟨a,rfl,f⟩) (by rw[hf.1];simp only[List.length_append,List.length_cons,List.length_nil];rw[I.inv.len];(first|lia|omega)) hf.2.1 hf.2.2.1
  (fun j o' b e q=>by
   rw[hf.2.2.2 j,<-I.inv.len] at e;rcases iQ q with x|⟨x,rfl⟩
   ·have:=(List.getElem?_eq_some_iff.mp x).1;rw[if_neg (Nat.ne_of_lt this)] at e;exact .inl ⟨e,x,fun d=>d⟩
   ·rw[if_pos x] at e;obtain rfl:=aF e;exact .inr ho)
  fun kp g=>by rw[hr];exact I.frk kp g fun m x=>x.keeps k
theorem At.fresh{a:Addr}{o:SO}{R':Rn}(I:At w C B oU env R st h)(hn:h.get? a=none)(ho:RO w C R' h' a o):Fresh C B oU env R h' a where
 nb:=by
  rcases q:B.get? a with _|o
  ·rfl
  ·have:=I.inv.stays a o q;rw[hn] at this;exact nf this
 nl:=fun i e=>by refine cZ (I.inv.new i a e) fun _ o q _=>?_;rw[hn] at q;exact nf q
 nt:=fun q hq e=>by refine cZ (I.inv.tab q hq) fun _ ps z _=>?_;rw[e,hn] at z;exact nf z
 nf:=fun e=>by refine c_ (I.ns) fun o _ _ q _=>?_;rw[<-e,hn] at q;exact nf q
 no:=fun e he z=>by refine gY (I.out e he) fun _ L _ _ _ a1 b _=>?_;rw[a1] at z;obtain rfl:=aF z;rw[hn] at b;exact nf b
 it:=ho.not_imm
end
structure Kept(C:Cst) (B:Heap) (R:Rn) (h base:Heap):Prop where
 sub:base.StaysIn h
 low:B.StaysIn base
 loc:∀(i:Nat) (a:Addr),R.ρ[i]?=some a->base.get? a=h.get? a
 imm:∀b o,h.get? b=some o->iP o->base.get? b=some o
 tab:∀q∈C.tq,base.get? q.1=h.get? q.1
def JI(h h':Heap)(e:Addr)(c:Nat):Prop:=(∀b o,h.get? b=some o->h'.get? b=some o)/\h.get? e=none/\∃oe vs a0,h'.get? e=some oe/\oe.cls=.ref c/\oe.data=.fields vs/\vs[0]?=some a0/\vs[1]?=some .none
def Exc(C:Cst)(B:Heap)(fs:List Env)(R:Rn)(c:Nat)(e:Addr)(h h':Heap):Prop:=
 JI h h' e c\/(∃base a0,Kept C B R h base/\Heap.FlyingW base fs e (.ref c) a0 h'/\h.UpToSlots h')\/
  ∃base a0 env oU L,fs=env::oU/\Kept C B R h base/\env.frame=some L/\Heap.HeldW base fs e (.ref c) a0 L h'/\h.UpToSlots h'
section
variable (w:World)(C:Cst)(B:Heap)(oU:List Env)(env:Env)(R:Rn)(h:Heap)(s:Shared)
def PV(k:Kv)(Q:Value->Shared->Prop):Prop:=∀v st' R' h' tk' x,R.le R'->Le oU h h'->At w C B oU env R' st' h'->RV C R' h' v x->k v st'=true->Q x {s with heap:=h',toks:=tk'}
def PVs(n:Nat)(k:List SV->St->Bool)(Q:List Value->Shared->Prop):Prop:=∀v st' R' h' tk' x,v.length=n->R.le R'->Le oU h h'->At w C B oU env R' st' h'->RVs C R' h' v x->k v st'=true->Q x {s with heap:=h',toks:=tk'}
def PB(k:Bool->St->Bool)(Q:Bool->Shared->Prop):Prop:=∀b st' R' h' tk',R.le R'->Le oU h h'->At w C B oU env R' st' h'->k b st'=true->Q b {s with heap:=h',toks:=tk'}
def PF(k:Fl->St->Bool)(Q:Flow->Shared->Prop):Prop:=∀f st' R' h' tk',R.le R'->Le oU h h'->At w C B oU env R' st' h'->k f st'=true->match f with
|.nxt=>Q .next {s with heap:=h',toks:=tk'}
|.cnt=>Q .cont {s with heap:=h',toks:=tk'}
|.ret v=>∀x,RV C R' h' v x->Q (.ret x) {s with heap:=h',toks:=tk'}
def PU(k:St->Bool)(Q:Shared->Prop):Prop:=∀st' R' h' tk',R.le R'->Le oU h h'->At w C B oU env R' st' h'->k st'=true->Q {s with heap:=h',toks:=tk'}
def PE(ke:Ke)(E:Value->Shared->Prop):Prop:=∀c st' R' h₁ h' tk' e,R.le R'->Le oU h h₁->At w C B oU env R' st' h₁->Exc C B (cI env oU) R' c e h₁ h'->ke c st'=true->E (.ref e) {s with heap:=h',toks:=tk'}
end
section
variable{w:World}{C:Cst}{B:Heap}{oU:List Env}{env:Env}{R R₁:Rn}{h h₁:Heap}{s:Shared}{tk:Nat}{ke:Ke}{E:Value->Shared->Prop}
theorem PE.mono(x:PE w C B oU env R h s ke E)(g:R.le R₁)(l:Le oU h h₁):PE w C B oU env R₁ h₁ {s with heap:=h₁,toks:=tk} ke E:=
 fun c st' R' h₂ h' tk' e g' l' I X q=>x c st' R' h₂ h' tk' e (g.trans g') (l.trans l') I X q
theorem PV.mono{k:Kv}{Q:Value->Shared->Prop}(x:PV w C B oU env R h s k Q)(g:R.le R₁)(l:Le oU h h₁):PV w C B oU env R₁ h₁ {s with heap:=h₁,toks:=tk} k Q:=
 fun v st' R' h' tk' y g' l' I X q=>x v st' R' h' tk' y (g.trans g') (l.trans l') I X q
theorem PVs.mono{n:Nat}{k:List SV->St->Bool}{Q:List Value->Shared->Prop}(x:PVs w C B oU env R h s n k Q)(g:R.le R₁)(l:Le oU h h₁):PVs w C B oU env R₁ h₁ {s with heap:=h₁,toks:=tk} n k Q:=
 fun v st' R' h' tk' y ln g' l' I X q=>x v st' R' h' tk' y ln (g.trans g') (l.trans l') I X q
theorem PB.mono{k:Bool->St->Bool}{Q:Bool->Shared->Prop}(x:PB w C B oU env R h s k Q)(g:R.le R₁)(l:Le oU h h₁):PB w C B oU env R₁ h₁ {s with heap:=h₁,toks:=tk} k Q:=
 fun v st' R' h' tk' g' l' I q=>x v st' R' h' tk' (g.trans g') (l.trans l') I q
theorem PF.mono{k:Fl->St->Bool}{Q:Flow->Shared->Prop}(x:PF w C B oU env R h s k Q)(g:R.le R₁)(l:Le oU h h₁):PF w C B oU env R₁ h₁ {s with heap:=h₁,toks:=tk} k Q:=
 fun v st' R' h' tk' g' l' I q=>x v st' R' h' tk' (g.trans g') (l.trans l') I q
theorem PU.mono{k:St->Bool}{Q:Shared->Prop}(x:PU w C B oU env R h s k Q)(g:R.le R₁)(l:Le oU h h₁):PU w C B oU env R₁ h₁ {s with heap:=h₁,toks:=tk} k Q:=
 fun st' R' h' tk' g' l' I q=>x st' R' h' tk' (g.trans g') (l.trans l') I q
theorem PE.no(h:Heap):PE w C B oU env R h s dX E:=fun _ _ _ _ _ _ _ _ _ _ _ q=>by exact ff q
end
theorem bK(h:Heap):h.get? h.objs.size=none:=by
 rcases z:h.get? h.objs.size with _|o
 ·rfl
 ·exact absurd (Heap.lt_size z) (Nat.lt_irrefl _)
section
variable{w:World}{C:Cst}{B:Heap}{oU:List Env}{env:Env}{R R₁:Rn}{h h₁ h₂:Heap}{s:Shared}{tk:Nat}{st:St}
theorem At.new{o:SO}{k:Nat->St->Bool}{a:Addr}(I:At w C B oU env R st h)(e:st.new C.p o k=true)(kk:∀b o,h.get? b=some o->h₁.get? b=some o)(hn:h.get? a=none)(ho:RO w C ⟨R.ρ++[a],R.δ⟩ h₁ a o)
  {G:Prop} (z:∀i st',k i st'=true->R.le ⟨R.ρ++[a],R.δ⟩->Le oU h h₁->At w C B oU env ⟨R.ρ++[a],R.δ⟩ st' h₁->RV C ⟨R.ρ++[a],R.δ⟩ h₁ (.loc i) (.ref a)->st'.get C.p i=some o->st'.fr=st.fr->G):G:=by
 refine kM e fun st2 e2 f1 f2 f3 f4 f5=>?_;refine oA (I.add kk (I.fresh hn ho) ho ⟨f2,f3 I.inv.olen,f4,f5⟩ f1) fun I2 l=>?_;exact z _ st2 e2 ⟨⟨_,rfl⟩,[],(List.append_nil _).symm⟩ l I2 ⟨a,by rw[<-I.inv.len];exact List.getElem?_concat_length,rfl⟩ ((f5 _).trans (if_pos rfl)) f1
theorem At.set{o:SO}{k:St->Bool}{a:Addr}{i:Nat}(I:At w C B oU env R st h)(ha:R.ρ[i]?=some a)(e:st.set C.p i o k=true)(kk:Heap.SameBut a h h₁)(ho:Kp h h₁->RO w C R h₁ a o)
  {G:Prop} (z:∀st',k st'=true->Le oU h h₁->At w C B oU env R st' h₁->st'.fr=st.fr->(∀j,st'.get C.p j=if j=i then some o else st.get C.p j)->G):G:=
 I.setW ha e (fun b o d _ e=>(kk.2 b d).trans e) (fun m x=>x.sameBut kk fun z=>I.lA i (z▸ha)) ho z
end
end
end Mine
end
section
open PySem PySem.W PyProof.Rows PySem.Calls
namespace Mine
section
def kd(sc:Scope)(n:Nat)(k:NameKind):Bool:=match sc.names.lookup (nm n) with
|some k'=>decide (k'=k)
|none=>false
theorem cD{sc:Scope}{n:Nat}{k:NameKind}(e:kd sc n k=true):sc.names.lookup (nm n)=some k:=by
 unfold kd at e;split at e
 ·rename_i q;rw[q,bD e]
 ·exact ff e
noncomputable def iH:PySem.Expr->Bool
|.Starred _ _=>false
|.Slice _ _ _ _=>false
|.Set _ _ _=>false
|_=>true
noncomputable def sX:PySem.Expr->Bool
|.Call (.Name _ _) [] [] _=>false
|_=>true
noncomputable def zH:PySem.Expr->Bool
|.Attribute _ _ _=>false
|_=>true
noncomputable def fB:PySem.Expr->Bool
|.ListComp _ _ _ _=>false
|.SetComp _ _ _ _=>false
|.DictComp _ _ _ _ _=>false
|_=>true
theorem Ca{z:PySem.Expr}(h:iH z=true)(r:List PySem.Expr)(env:Env):starEach (z::r) env=(false,eval z env)::starEach r env:=by rcases z with _|_<;>first|rfl|exact ff h
theorem zV{z:PySem.Expr}(h:iH z=true)(o i:Value):subscripted z false o i=operate [o,i] (getItem o i):=by rcases z with _|_<;>first|rfl|exact ff h
theorem vI{z:PySem.Expr}(h:iH z=true)(op:CmpOp):behindInMarks op z=false:=by rcases z with _|_<;>first|rfl|exact ff h
theorem i_{z:PySem.Expr}(h:iH z=true)(env:Env)(x:Value):foldedSetIterable z env x=pure x:=by rcases z with _|_<;>first|rfl|exact ff h
theorem sZ{z:PySem.Expr}(h:sX z=true)(a:Str)(env:Env)(whole:Sem Value):attributeBase z a env whole=whole:=by
 cases z with
|Call g as ks q=>
  cases g with
 |Name n p=>rcases as with _|_<;>rcases ks with _|_<;>first|rfl|exact ff h
 |_=>rfl
|_=>rfl
theorem sY{z:PySem.Expr}(h:zH z=true)(as:List PySem.Expr)(q:Pos)(env:Env):eval (.Call z as [] q) env=(do callWith q (<-eval z env) [] (backTo q (starEach as env)) (backToKw q (keywordEach [] env))):=by rcases z with _|_<;>first|rfl|exact ff h
theorem kO{z:PySem.Expr}(h:fB z=true)(t:Option PySem.Expr)(l:Nat)(env:Env):swapsWith z t l env=pure false:=by rcases z with _|_<;>first|rfl|exact ff h
theorem pM{z:PySem.Expr}(h:fB z=true)(t:PySem.Expr)(l:Nat)(env:Env):swapsWithSole [t] z l env=pure false:=kO h (some t) l env
noncomputable def yB(sc:Scope):Env:={scope:=sc,locals:=0,globals:=0,cells:=[],qual:="",func:=none,code:=.none,frame:=none,builtins:=0}
theorem jE(ts:List PySem.Expr)(z:PySem.Expr)(env:Env):swappedStores ts z env=swappedStores ts z (yB env.scope):=rfl
def Fd(sc:Scope):T->Bool
|.nm n _=>kd sc n .local||kd sc n .cell
|.tp ns _=>ns.all fun x=>kd sc x.1 .local||kd sc x.1 .cell
noncomputable def Ds:PySem.Expr->Bool
|.UnaryOp _ _ _=>true
|.BinOp _ _ _ _=>true
|.Call _ _ _ _=>true
|_=>false
def BE(sc:Scope):T->Bool
|.nm n _=>kd sc n .local
|.tp ns _=>ns.all fun x=>kd sc x.1 .local
def uH(t:T)(it:E):Bool:=match jD it with
|.enum _=>match t with
 |.tp _ _=>true
 |.nm _ _=>false
|_=>true
def Eu(ts:List T)(its:List E):Bool:=match ts,its with
|t::_,it::_=>uH t it
|_,_=>false
noncomputable def fJ(sc:Scope):List Str:=(sc.names.filter fun x=>x.2==.free).map (·.1)
def FA(frees:List Nat)(sc:Scope):Bool:=decide (sc.kind=.function)&&sc.names.all (fun x=>x.2 != .cell&&match decide (x.2=.local) with
 |true=>decide (sc.names.lookup x.1=some .local)
 |false=>true)&&decide (frees.map nm=(fJ sc).reverse)&&frees.all fun n=>kd sc n .free
mutual
noncomputable def cN(ls:List Lam)(sc:Scope):E->Bool
|.lo n _=>kd sc n .local
|.gl n _=>kd sc n .globalImplicit
|.ce n _=>kd sc n .cell||kd sc n .free
|.non _=>true
|.bol _ _=>true
|.int _ _=>true
|.str s l _=>jJ (Str.ofString l).cps.toList s&&nP s
|.byt _ _=>true
|.tup es _=>Nat.ble es.length 100&&dU ls sc es
|.lst es _=>Nat.ble es.length 100&&dU ls sc es
|.dct ks vs _=>Nat.beq ks.length vs.length&&Nat.ble ks.length 15&&dU ls sc ks&&dU ls sc vs
|.att e _ _=>sX (bC (aN ls) e)&&cN ls sc e
|.sub e i _=>cN ls sc e&&cN ls sc i
|.sli e u _ _=>cN ls sc e&&cN ls sc u
|.bin _ a b _=>cN ls sc a&&cN ls sc b
|.nt e _=>cN ls sc e
|.bop _ es _=>dU ls sc es
|.cmp a _ es _=>cN ls sc a&&dU ls sc es
|.ife t a b _=>cN ls sc t&&cN ls sc a&&cN ls sc b
|.cal g as _=>zH (bC (aN ls) g)&&cN ls sc g&&dU ls sc as
|.mca o n as q q'=>Nat.blt n 1024&&(sX (bC (aN ls) o)&&cN ls sc o&&dU ls sc as&&Nat.ble as.length 20&&Nat.beq q.endLine q'.line)
|.lam _ _=>true
|.lc elt ts its cs frees sc' _=>cN ls sc' elt&&ts.all (BE sc')&&Fy ls sc sc' its&&rE ls sc' cs&&(FA frees sc'&&Eu ts its&&Nat.beq ts.length its.length&&Nat.beq cs.length its.length)
|.dc k v t it frees sc' _=>cN ls sc' k&&cN ls sc' v&&BE sc' t&&cN ls sc it&&FA frees sc'
|.any e=>Ds e
noncomputable def dU(ls:List Lam)(sc:Scope):List E->Bool
|[]=>true
|e::r=>cN ls sc e&&dU ls sc r
noncomputable def Fy(ls:List Lam)(sc sc':Scope):List E->Bool
|[]=>false
|e::r=>cN ls sc e&&dU ls sc' r
noncomputable def rE(ls:List Lam)(sc:Scope):List (List E)->Bool
|[]=>true
|e::r=>dU ls sc e&&rE ls sc r
end
def xT(K:Frag)(c:Nat)(fs:List Nat):Bool:=
 hasDictIn K c&&plainOver K c&&findIn K (.ref c) "__getattribute__"==some (some (.builtin "object.__getattribute__"))&&findIn K (.ref c) "__setattr__"==some (some (.builtin "object.__setattr__")) &&
 findIn K (.ref c) "__getattr__"==some none&&fs.all fun n=>(match findIn K (.ref c) (nm n) with
 |some attr=>noGet K attr
 |none=>false)&&takerIn K c (nm n)==some none
def Dw(ls:List Lam)(sc:Scope)(ns:List (Nat×Pos))(q:Pos)(e:E):Bool:=match pureOf (swappedStores [n9 (.tp ns q)] (bC (aN ls) e) (yB sc)) with
|some none=>true
|some (some l)=>match ns with
 |[a,b]=>decide (l=[nm a.1,nm b.1])&&kd sc a.1 .local&&kd sc b.1 .local&&!(Nat.beq a.1 b.1)
 |_=>false
|none=>false
noncomputable def Lx:E->Bool
|.lc _ _ _ _ _ _ _=>true
|_=>false
def Ib(ls:List Lam)(sc:Scope):T->E->Bool
|.nm _ _,e=>fB (bC (aN ls) e)||Lx e
|.tp ns q,e=>fB (bC (aN ls) e)&&Dw ls sc ns q e
mutual
noncomputable def Ov(ls:List Lam)(sc:Scope):H->Bool
|.ret n _ e _ _ _=>kd sc n .globalImplicit&&cN ls sc e
|.any _=>true
noncomputable def FB(ls:List Lam)(sc:Scope):S->Bool
|.exp e _=>cN ls sc e&&fB (bC (aN ls) e)
|.ret e _=>cN ls sc e
|.ret0 _=>true
|.asg t e _=>Fd sc t&&cN ls sc e&&Ib ls sc t e
|.asa o _ e _ _=>cN ls sc o&&cN ls sc e
|.ass o i e _ _=>cN ls sc o&&cN ls sc i&&cN ls sc e
|.ife t a b _=>cN ls sc t&&gN ls sc a&&gN ls sc b
|.fo t it b _=>Fd sc t&&cN ls sc it&&gN ls sc b&&uH t it
|.whi t b _=>cN ls sc t&&gN ls sc b
|.rai n _ as _ _ _=>kd sc n .globalImplicit&&dU ls sc as
|.tr b hs _=>gN ls sc b&&Fz ls sc hs&&!hs.isEmpty
|.cnt _=>true
|.asn n qn o i e q q' _=>(kd sc n .local||kd sc n .cell)&&cN ls sc o&&cN ls sc i&&cN ls sc e&&fB (bC (aN ls) e)&&(pureOf (swappedStores [.Tuple [.Name (nm n) qn,.Subscript (bC (aN ls) o) (bC (aN ls) i) q] 0 q'] (bC (aN ls) e) (yB sc))).any (·.isNone)
|.any _=>true
noncomputable def gN(ls:List Lam)(sc:Scope):List S->Bool
|[]=>true
|s::r=>FB ls sc s&&gN ls sc r
noncomputable def Fz(ls:List Lam)(sc:Scope):List H->Bool
|[]=>true
|s::r=>Ov ls sc s&&Fz ls sc r
end
def Du(ls:List Lam)(g:Fun):Bool:=
 decide (g.sc.kind=.function)&&!g.sc.isCoroutine&&!g.sc.isGenerator&&decide ((g.params.map fun x=>nm x.1).Nodup)&&Nat.ble g.dflts.length g.params.length&&Nat.ble g.params.length 50 &&
 g.params.all (fun x=>match g.cells.any (Nat.beq x.1) with
 |true=>kd g.sc x.1 .cell
 |false=>kd g.sc x.1 .local)&&decide ((cellsFrom 0 g.sc.names []).map (·.1)=(g.cells.map nm).reverse)&&decide ((g.cells.map nm).Nodup)&&gN ls g.sc g.body
def Dt(g:Fun):Bool:=g.cells.all (fun c=>kd g.sc c .cell)&&g.sc.names.all fun x=>match decide (x.2=.cell) with
|true=>g.cells.any fun c=>decide (nm c=x.1)
|false=>true
structure FnOk(C:Cst) (B:Heap) (a:Addr) (g:Fun):Prop where
 at_:∃o fd,B.get? a=some o/\o.data=.func fd/\fd.body=.stmts (fU (aN C.p.lams) g.body)/\fd.scope=g.sc/\fd.params=d8 (aN C.p.lams) g.params g.dfles/\fd.closure=[]/\fd.globals=mainGlobals/\fd.builtins=builtinsNs/\
  B.CodeRec fd.code fd.qualname/\((g.dflts=[]/\fd.defaults=.none)\/∃T o n dv,fd.defaults=.ref T/\B.get? T=some o/\o.data=.seq (dv:List Value).toArray n/\RVs C ⟨[],[]⟩ B g.dflts dv)/\
  ∀c P q,C.tbs g.tb=some (c,P,q)->fd.code=.ref c/\fd.qualname++".<locals>."++"<lambda>"=q
 ok:Du C.p.lams g=true
 oc:Dt g=true
def Dv(ls:List Lam)(l:Lam):Bool:=
 decide (l.sc.kind=.function)&&!l.sc.isCoroutine&&!l.sc.isGenerator&&decide ((l.params.map fun x=>nm x.1).Nodup)&&Nat.ble l.params.length 50&&l.params.all (fun x=>kd l.sc x.1 .local)&&l.sc.names.all (fun x=>x.2 != .cell) &&
 decide (l.frees.map nm=(fJ l.sc).reverse)&&decide (l.frees.Nodup)&&l.frees.all (fun n=>kd l.sc n .free)&&cN ls l.sc l.body
noncomputable def Bj(K:Frag)(c h:Nat)(b:Bool):Bool:=instIn K (.ref h) (.type "tuple")==some false&&(clsIn K h).isSome&&mroIn K h (.type "BaseException")==some true&&mroIn K c (.ref h)==some b
noncomputable def rL:List Value->Bool
|[]=>false
|.ref _::r=>rL r
|l=>l==[.type "Exception",.type "BaseException",.type "object"]
structure XO where
 nn:Str
 q:Str
 N:Addr
 bs:List Value
 bm:List Value
 sn:List Str
 sub:List Value
 ab:Bool
 col:Option Bool
 dd:Option Addr
 k0:Option Value
 k1:Option Value
 k2:Option Value
 k3:Option Value
 k5:Option Value
@[reducible] noncomputable def CP(x:XO)(c:Addr):Obj:=excClassObj x.nn x.q c x.N x.bs x.bm true x.sn x.sub x.ab x.col x.dd x.k0 x.k1 x.k2 x.k3 x.k5 "Exception.__new__"
def tQ(K:Frag)(c:Nat):XO:=
 let o:=(K.lookup c).getD default;let d:=(clsIn K c).getD default;let s:=fun i=>(nth o.slots.toList i).getD none
 ⟨d.name,d.qualname,d.ns,d.bases,d.mro.tail,d.slotNames,d.subclasses,d.abstract,d.collection,o.dict,s 0,s 1,s 2,s 3,s 5⟩
noncomputable def CO(x:XO)(c:Addr)(n:String):Bool:=(Value.ref c::x.bm).contains (.type n)
structure ExIn(x:XO) (c:Addr):Prop where
 i1:(Value.ref c::x.bm).contains (.type "Exception")=true
 i2:(Value.ref c::x.bm).contains (.type "BaseException")=true
 i3:(Value.ref c::x.bm).contains (.type "AttributeError")=false
 i4:(Value.ref c::x.bm).contains (.type "NameError")=false
 i5:(Value.ref c::x.bm).contains (.ref c)=true
def J2(K:Frag)(c:Nat):=let x:=tQ K c;(K.lookup c,CO x c "Exception",CO x c "BaseException",CO x c "AttributeError",CO x c "NameError",(Value.ref c::x.bm).contains (.ref c),rL x.bm,findIn K (.ref c) "__init__",typeIn K (.ref 36),findIn K (.ref c) "__setattr__",takerIn K c "message",takerIn K c "spot")
def M8(K:Frag)(c:Nat):type_of% (J2 K c):=(some (CP (tQ K c) c),true,true,false,false,true,true,some (some (.ref 36)),some (.type "function"),some (some (.builtin "object.__setattr__")),some none,some none)
def ExcC(K:Frag)(c:Nat):Prop:=J2 K c=M8 K c
theorem ExcC.inn{K:Frag}{c:Nat}(h:ExcC K c):ExIn (tQ K c) c:=⟨congrArg (·.2.1) h,congrArg (·.2.2.1) h,congrArg (·.2.2.2.1) h,congrArg (·.2.2.2.2.1) h,congrArg (·.2.2.2.2.2.1) h⟩
theorem ExcC.ob{K:Frag}{c:Nat}{h:Heap}(E:ExcC K c)(X:K.In h):h.get? c=some (CP (tQ K c) c):=X _ _ (congrArg (·.1) E)
structure Room(C:Cst):Prop where
 lb:C.lb+4*C.lu<=8388608
 lu:1<=C.lu
structure Sta(C:Cst) (B:Heap) (K:Frag) (mg mb:Str->Option Value):Prop where
 X:K.In B
 g:B.Ns mainGlobals mg
 b:B.Ns builtinsNs mb
 nolimit:B.NoLimit
 exc:∀c,(look c C.p.excs).isSome=true->ExcC K c/\keepIn K (.ref c)=true
 exf:C.p.funs.look 36=some f36
 exn:C.p.G.look 220=some (.typ 5)
 exm:∀c l h,look c C.p.excs=some l->(look h C.p.excs).isSome=true->Bj K c h (l.any (Nat.beq h))=true
 stl:∀i o,C.p.F.look i=some o->still o=true
 rg:C.p.G.look pV=some (.typ 8)
 en:C.p.G.look uI=some (.typ 9)
 dbg:∀n,(nm n==("__debug__":Str))=false/\(nm n==("__classdict__":Str))=false
 nmi:∀n n',nm n=nm n'->n=n'
 room:Room C
 sysm:∃o,B.get? sysModules=some o
 fl:∀c fs,look c C.p.fld=some fs->xT K c fs=true
 fn:∀a g,C.p.funs.look a=some g->FnOk C B a g/\keepIn K (.ref a)=true
 me:∀c n f,C.p.meth.look (c*1024+n)=some f->n<1024->findIn K (.ref c) (nm n)=some (some (.ref f))/\typeIn K (.ref f)=some (.type "function")/\findIn K (.ref c) "__getattribute__"=some (some (.builtin "object.__getattribute__"))/\findIn K (.ref c) "__getattr__"=some none
 mu:∀c fs n,look c C.p.fld=some fs->fs.any (Nat.beq n)=true->findIn K (.ref c) (nm n)=some none
 bd:∀i,C.p.bad i=bP i
 ky:∀v i,C.p.key v=some i->v=.tup [cB i,.int 0]
 lm:∀k l,nth C.p.lams k=some l->Dv C.p.lams l=true/\bC vA l.body=bC (aN C.p.lams) l.body
 tbn:∀i,i<7->∃c P q,C.tbs i=some (c,P,q)/\(P,q)∈C.tq/\CodeHd B c P
 blt:∃bm o,mg "__builtins__"=some (.ref bm)/\bm≠builtinsNs/\bm≠mainGlobals/\B.get? bm=some o/\o.cls=.type "module"/\o.dict=some builtinsNs/\o.data=.plain
 mgn:(mg "__name__").getD .none=C.pm
 tb9:C.tbs 99=none
 ini:∀a f,look a C.p.inits=some f->keepIn K (.ref a)=true/\makesIn K a=true/\findIn K (.ref a) "__init__"=some (some (.ref f))/\typeIn K (.ref f)=some (.type "function")
 sc:∃(la:Addr) (xs:List Value),C.scr=.ref la/\B.IsList la xs.toArray/\C.scl.length<=64/\InS C.scl xs
 tqu:∀q∈C.tq,∀q'∈C.tq,q.1=q'.1->q=q'
 gt:∀n v,C.p.G.look n=some v->∃x,(mg (nm n)=some x\/(mg (nm n)=none/\mb (nm n)=some x))/\RV C ⟨[],[]⟩ B v x
section
variable (w:World)(C:Cst)(B:Heap)
def eE(F:Ev):Prop:=∀(cx:Cx) (e:E) (st:St) (k:Kv) (ke:Ke) (oU:List Env) (env:Env) (R:Rn) (A:Around) (s:Shared) (Q:Value->Shared->Prop) (E':Value->Shared->Prop),
 CxOk C oU env R cx A->cN C.p.lams env.scope e=true->At w C B oU env R st s.heap->F.ex cx e st k ke=true->PV w C B oU env R s.heap s k Q->PE w C B oU env R s.heap s ke E'->
 wpAny (model C.prog w) A (eval (bC (aN C.p.lams) e) env) Q E' s
def dH(f:Nat->Pos->PySem.Expr)(es:List E)(env:Env):List (Bool×Sem Value):=(b_ f es).map fun e=>(false,eval e env)
def kD(F:Ev):Prop:=∀(cx:Cx) (e:List E) (st:St) (k:List SV->St->Bool) (ke:Ke) (oU:List Env) (env:Env) (R:Rn) (A:Around) (s:Shared) (Q:List Value->Shared->Prop) (E':Value->Shared->Prop),
 CxOk C oU env R cx A->dU C.p.lams env.scope e=true->At w C B oU env R st s.heap->F.exs cx e st k ke=true->PVs w C B oU env R s.heap s e.length k Q->PE w C B oU env R s.heap s ke E'->
 wpAny (model C.prog w) A (spliced (dH (aN C.p.lams) e env)) Q E' s
def wW(F:Ev):Prop:=∀(cx:Cx) (e:E) (st:St) (k:Bool->St->Bool) (ke:Ke) (oU:List Env) (env:Env) (R:Rn) (A:Around) (s:Shared) (Q:Bool->Shared->Prop) (E':Value->Shared->Prop),
 CxOk C oU env R cx A->cN C.p.lams env.scope e=true->At w C B oU env R st s.heap->F.ts cx e st k ke=true->PB w C B oU env R s.heap s k Q->PE w C B oU env R s.heap s ke E'->
 wpAny (model C.prog w) A (isTrue (bC (aN C.p.lams) e) env (eval (bC (aN C.p.lams) e) env)) Q E' s
def SSts(F:Ev):Prop:=∀(cx:Cx) (e:List S) (st:St) (k:Fl->St->Bool) (ke:Ke) (oU:List Env) (env:Env) (R:Rn) (A:Around) (s:Shared) (Q:Flow->Shared->Prop) (E':Value->Shared->Prop),
 CxOk C oU env R cx A->env.frame=some env.locals->gN C.p.lams env.scope e=true->At w C B oU env R st s.heap->F.sts cx e st k ke=true->PF w C B oU env R s.heap s k Q->PE w C B oU env R s.heap s ke E'->
 wpAny (model C.prog w) A (execs (fU (aN C.p.lams) e) env) Q E' s
end
section
variable (w:World)(C:Cst)(B:Heap)
def Gv(F:Ev)(e:List S):Prop:=∀(cx:Cx) (st:St) (k:Fl->St->Bool) (ke:Ke) (oU:List Env) (env:Env) (R:Rn) (A:Around) (s:Shared) (Q:Flow->Shared->Prop) (E':Value->Shared->Prop),
 CxOk C oU env R cx A->env.frame=some env.locals->gN C.p.lams env.scope e=true->At w C B oU env R st s.heap->F.sts cx e st k ke=true->PF w C B oU env R s.heap s k Q->PE w C B oU env R s.heap s ke E'->
 wpAny (model C.prog w) A (execs (fU (aN C.p.lams) e) env) Q E' s
end
theorem SSts.bd{w:World}{C:Cst}{B:Heap}{F:Ev}(h:SSts w C B F)(e:List S):Gv w C B F e:=fun cx st=>h cx e st
theorem sU(ls:List Lam)(k:Nat)(q:Pos):iH (aN ls k q)=true:=by unfold aN;cases nth ls k<;>rfl
theorem vW{z:PySem.Expr}(h:Ds z=true):iH z=true:=by rcases z with _|_<;>first|rfl|exact ff h
theorem bY{ls:List Lam}{sc:Scope}{e:E}(o:cN ls sc e=true):iH (bC (aN ls) e)=true:=by rcases e with _|_<;>first|rfl|exact sU _ _ _|exact vW o
theorem bU{ls:List Lam}{sc:Scope}(env:Env):∀{es:List E},dU ls sc es=true->starEach (b_ (aN ls) es) env=dH (aN ls) es env
|[],_=>rfl
|_::_,h=>(Ca (bY (aG h).1) _ _).trans (congrArg _ (bU env (aG h).2))
theorem cE(pos:Pos)(f:Nat->Pos->PySem.Expr)(es:List E)(env:Env):backTo pos (dH f es env)=dH f es env:=by unfold backTo dH;rw[List.map_map];apply List.map_congr_left;intro e _;rfl
section
variable{w:World}{C:Cst}{B:Heap}{K:Frag}{mg mb:Str->Option Value}{A:Around}{s:Shared}{oU:List Env}{env:Env}{R:Rn}{cx:Cx}{st:St}{E':Value->Shared->Prop}{ih:Ev}{k:Kv}{ke:Ke}{Q:Value->Shared->Prop}{q:Pos}
theorem PV.here(P:PV w C B oU env R s.heap s k Q)(I:At w C B oU env R st s.heap){v:SV}{x:Value}{tk:Nat}(X:RV C R s.heap v x)(e:k v st=true):Q x {s with toks:=tk}:=
 P v st R s.heap tk x (.refl R) (.refl _ _) I X e
theorem PV.same(P:PV w C B oU env R s.heap s k Q)(I:At w C B oU env R st s.heap){v:SV}{x:Value}(X:RV C R s.heap v x)(e:k v st=true):Q x s:=
 P v st R s.heap s.toks x (.refl R) (.refl _ _) I X e
theorem Nr(R:Rn):Rn.le ⟨[],[]⟩ R:=⟨⟨R.ρ,rfl⟩,R.δ,rfl⟩
theorem NA(S:Sta C B K mg mb)(c:CxOk C oU env R cx A){n:Nat}(o:cN C.p.lams env.scope (.lo n q)=true)(I:At w C B oU env R st s.heap)(e:Ey n st k=true)(P:PV w C B oU env R s.heap s k Q) :
  wpAny (model C.prog w) A (eval (.Name (nm n) q) env) Q E' s:=by
 refine dO e fun v hv e=>?_;refine oEA (I.frm) fun m hm hf=>?_;refine oEA (hf n v hv) fun x hx X=>?_;exact wpAny_Name (wpAny_loadName_local c.kind (cD o) hm hx (P.same I X e)) (S.dbg n).1
theorem Cl(S:Sta C B K mg mb)(ck:env.scope.kind=.function)(cg:env.globals=mainGlobals)(cb:env.builtins=builtinsNs){n:Nat}(o:cN C.p.lams env.scope (.gl n q)=true)(I:B.StaysIn s.heap){v:SV}(hv:C.p.G.look n=some v)(fin:∀x,RV C ⟨[],[]⟩ s.heap v x->Q x s) :
  wpAny (model C.prog w) A (eval (.Name (nm n) q) env) Q E' s:=by
 refine oEA (S.gt n v hv) fun x hx X=>?_;have fin:=fin x (X.mono (.refl _) (.of_keep I));have hg:=S.g.keeps I;rw[<-cg] at hg;refine Name_function_global ck (cD o) (hx.elim (fun hx=>loadGlobal_global hg hx fin) fun hx=>loadGlobal_builtin hg hx.1 (by rw[cb];exact S.b.keeps I) hx.2 fin) (S.dbg n).1
theorem Nw(S:Sta C B K mg mb)(c:CxOk C oU env R cx A){n:Nat}(o:cN C.p.lams env.scope (.gl n q)=true)(I:At w C B oU env R st s.heap)(e:Be C.p n st k=true)(P:PV w C B oU env R s.heap s k Q) :
  wpAny (model C.prog w) A (eval (.Name (nm n) q) env) Q E' s:=by
 refine dO e fun v hv e=>?_;exact Cl S c.kind c.gl c.bi o I.inv.stays hv fun x X=>P.same I (X.mono (Nr R) (.refl _)) e
theorem ON(S:Sta C B K mg mb)(c:CxOk C oU env R cx A){n:Nat}(o:cN C.p.lams env.scope (.ce n q)=true)(I:At w C B oU env R st s.heap)(e:G5 C.p cx n st k=true)(P:PV w C B oU env R s.heap s k Q) :
  wpAny (model C.prog w) A (eval (.Name (nm n) q) env) Q E' s:=by
 refine dO e fun l hl e=>?_;refine dC e fun u hu e=>?_;refine dO e fun v u1 e=>?_;subst u1;refine oEA (c.cl n l hl) fun a ha hc=>?_;refine oEA (I.inv.obj l _ a hu ha) fun x hx X=>?_;have fin:=P.same I X e;exact(Gk o).elim (fun o=>wpAny_Name (wpAny_loadName_cell c.kind (cD o) hc hx fin) (S.dbg n).1) fun o=>wpAny_Name (wpAny_loadName_free c.kind (cD o) hc hx fin (S.dbg n).2) (S.dbg n).1
theorem Mo(hs:kD w C B ih)(c:CxOk C oU env R cx A){es:List E}(o:cN C.p.lams env.scope (.tup es q)=true)(I:At w C B oU env R st s.heap)
  (e:ih.exs cx es st (fun vs st=>k (.tup vs) st) ke=true) (P:PV w C B oU env R s.heap s k Q) (PX:PE w C B oU env R s.heap s ke E') :
  wpAny (model C.prog w) A (eval (.Tuple (b_ (aN C.p.lams) es) 0 q) env) Q E' s:=by
 replace o:=aG o;refine Tuple_ ?_;rw[bU env o.2,cE];refine hs cx es st _ ke oU env R A s _ E' c o.2 I e (fun vs st' R' h' tk' xs ln g l I' X q=>?_) PX;refine wpAny_newTuple ?_ ?_
 ·have k':∀b o,h'.get? b=some o->(h'.push {cls:=.type "tuple",data:=.seq xs.toArray}).get? b=some o:=fun b o e=>Heap.get?_push_of_some _ e;exact P (.tup vs) st' R' _ tk' _ g (l.trans (.of_keep k')) (I'.keep k') ⟨_,xs,rfl,⟨_,Heap.get?_push_size _ rfl,rfl,0,rfl⟩,X.mono (.refl R') (.of_keep k')⟩ q
 ·rw[X.len,ln];exact al__3 (aP o.1) (by decide)
theorem Mi(hs:kD w C B ih)(c:CxOk C oU env R cx A){es:List E}(o:cN C.p.lams env.scope (.lst es q)=true)(I:At w C B oU env R st s.heap)
  (e:ih.exs cx es st (fun vs st=>st.new C.p (.lst vs) fun l st=>k (.loc l) st) ke=true) (P:PV w C B oU env R s.heap s k Q) (PX:PE w C B oU env R s.heap s ke E') :
  wpAny (model C.prog w) A (eval (.List (b_ (aN C.p.lams) es) q) env) Q E' s:=by
 replace o:=aG o;refine List_ ?_;rw[bU env o.2,cE];refine hs cx es st _ ke oU env R A s _ E' c o.2 I e (fun vs st' R' h' tk' xs ln g l I' X q=>?_) PX;refine wpAny_newList ?_ ?_
 ·have k':∀b o,h'.get? b=some o->(h'.push {cls:=.type "list",data:=.seq xs.toArray}).get? b=some o:=fun b o e=>Heap.get?_push_of_some _ e;refine I'.new q k' (bK _) ⟨xs,0,Heap.get?_push_size _ rfl,X.mono ⟨⟨_,rfl⟩,[],by simp⟩ (.of_keep k')⟩ fun i st2 e2 g2 l2 I2 X2 _ _=>?_;exact P (.loc i) st2 _ _ tk' _ (g.trans g2) (l.trans l2) I2 X2 e2
 ·rw[X.len,ln];exact al__3 (aP o.1) (by decide)
end
end
variable{C:Cst}{R:Rn}
section
mutual
noncomputable def zW(g:Nat->Option PyData):SV->Option PyData
|.non=>some .none
|.bol b=>some (.bool b)
|.int i=>some (.int i)
|.str s=>some (.str (bB s))
|.tup vs=>(mS g vs).map .tuple
|.dt k=>g k
|_=>none
noncomputable def mS(g:Nat->Option PyData):List SV->Option (List PyData)
|[]=>some []
|v::r=>(zW g v).bind fun d=>(mS g r).map (d::·)
end
def Ow:SV->Option PyData:=zW fun _=>none
def Nl(δ:List Ty)(k:Nat):Option PyData:=(δ[k]?).bind fun ty=>Ow (Td ty)
def py(δ:List Ty):SV->Option PyData:=zW (Nl δ)
def Ox(δ:List Ty):List SV->Option (List PyData):=mS (Nl δ)
theorem As{s:List Nat}(h:nP s=true):PyData.strOk (bB s)=true:=by unfold PyData.strOk bB;rw[<-Array.all_toList,List.all_eq_true];intro c hc;have:=aZ h c hc;exact decide_eq_true (aP this)
inductive Lay(h:Heap) (o:Option PyData) (x:Value) (n:Nat):Prop
|mk (d:PyData) (as:List Addr) (e:o=some d) (r:Reads h x d as) (c:d.canLay0=true) (l:d.depth<=n)
inductive Lays(h:Heap) (o:Option (List PyData)) (xs:List Value) (n:Nat):Prop
|mk (ds:List PyData) (as:List Addr) (e:o=some ds) (r:ReadsAll h xs ds as) (c:PyData.canLayAll0 ds=true) (l:PyData.depthAll ds<=n)
section
variable{h:Heap}{g:Nat->Option PyData}{N:Nat}
theorem HM{n m:Nat}(f:∀v x,fH n v=true->RV C R h v x->Lay h (zW g v) x m){vs:List SV}:∀{xs:List Value},vs.all (fH n)=true->RVs C R h vs xs->Lays h (mS g vs) xs m:=by
 induction vs with
|nil=>exact fun _ e=>(show _=[] from e)▸.mk [] _ rfl .nil rfl (Nat.zero_le _)
|cons v r ih=>intro xs e X;refine bZ e fun e1 e2=>?_;refine aY X fun y ys e a b=>?_;rcases f v y e1 a with⟨d,as,p,r1,c,l⟩;rcases ih e2 b with⟨ds,bs,q,r2,c2,l2⟩;rw[e];exact .mk (d::ds) _ (by show(zW g v).bind _=_;rw[p,q];rfl) (.cons r1 r2) (by rw[PyData.canLayAll0,c,c2];rfl) (by rw[PyData.depthAll];exact Nat.max_le.mpr ⟨l,l2⟩)
theorem lay(hd:∀k x,RV C R h (.dt k) x->Lay h (g k) x N)(n:Nat):∀v x,fH n v=true->RV C R h v x->Lay h (zW g v) x (n+N):=by
 induction n with
|zero=>exact fun _ _ e=>ff e
|succ n ih=>
  intro v x e X;induction v using SV.casesOn with
 |non=>exact(show x=.none from X)▸.mk .none _ rfl .none rfl (Nat.zero_le _)
 |bol b=>exact(show x=.bool b from X)▸.mk (.bool b) _ rfl (.bool b) rfl (Nat.zero_le _)
 |int i=>exact oE X fun t e=>e▸.mk (.int i) _ rfl (.int i t) rfl (Nat.zero_le _)
 |str s=>exact qD X fun o t e=>e▸.mk (.str (bB s)) _ rfl (.str _ t) (by rw[PyData.canLay0];exact As o) (Nat.zero_le _)
 |dt k=>rcases hd k x X with⟨d,as,p,r,c,l⟩;exact .mk d as p r c (al__3 l (Nat.le_add_left _ _))
 |tup vs=>refine aY X fun a xs e' T rs=>?_;refine vC T fun o ho hc m hm=>?_;rcases HM ih e rs with⟨ds,as,p,r,c,l⟩;rw[e'];exact .mk (.tuple ds) _ (by show(mS g vs).map _=_;rw[p];rfl) (.tuple ho hc hm r) (by rw[PyData.canLay0];exact c) (by rw[PyData.depth,Nat.succ_add];exact Nat.succ_le_succ l)
 |_=>exact ff e
end
theorem lE{n:Nat}:∀{m:Nat} {v:SV},n<=m->fH n v=true->fH m v=true:=by
 induction n with
|zero=>exact fun _ e=>ff e
|succ n ih=>
  intro m v l e;rcases m with _|m
  ·exact absurd l (Nat.not_succ_le_zero n)
  ·induction v using SV.casesOn with
  |tup vs=>exact List.all_eq_true.mpr fun v hv=>ih (Nat.le_of_succ_le_succ l) (aZ e v hv)
  |_=>exact e
theorem Ek{f:Nat->SV}{m:Nat}(hf:∀k,fH m (f k)=true)(d:Nat):∀{t:SV},fH d t=true->fH (m+d) (fl f t)=true:=by
 induction d with
|zero=>exact fun e=>ff e
|succ d ih=>
  intro t e;induction t using SV.casesOn with
 |dt k=>exact lE (Nat.le_add_right m _) (hf k)
 |tup vs=>
   show(Gi f vs).all (fH (m+d))=true;induction vs with
  |nil=>rfl
  |cons v r ihr=>exact bZ e fun e1 e2=>cO (ih e1) (ihr e2)
 |non=>rfl
 |bol _=>rfl
 |int _=>rfl
 |str _=>rfl
 |_=>exact ff e
noncomputable def SV.tup?:SV->Option (List SV)
|.tup vs=>some vs
|_=>none
theorem tup?_is{v:SV}(h:v.tup?.isSome=true):∃vs,v=.tup vs:=by rcases v with _|_<;>first|exact ff h|exact⟨_,rfl⟩
theorem fF{T:List (SV×SV)}{p:SV->Bool}(b:Bool)(hT:T.all (fun x=>p x.1&&p x.2)=true)(h0:p (.tup [])=true)(i:Nat):p (wT T b i)=true:=by
 unfold wT;rw[bS];rcases q:T[i]? with _|x
 ·rcases b with _|_<;>exact h0
 ·have e:=aG (aZ hT x (List.mem_of_getElem? q));rcases b with _|_
  ·exact e.1
  ·exact e.2
def CD(v:SV):Bool:=v.tup?.isSome
theorem DT:T0.all (fun x=>CD x.1&&CD x.2)=true:=by decide +kernel
theorem DU:T1.all (fun x=>CD x.1&&CD x.2)=true:=by decide +kernel
theorem DW:T2.all (fun x=>CD x.1&&CD x.2)=true:=by decide +kernel
noncomputable def T6(T:List (SV×SV)):List (SV×SV):=T.map fun x=>(.non,x.2)
theorem JK:(T6 T0).all (fun x=>fH 7 x.1&&fH 7 x.2)=true:=by decide +kernel
theorem JL:(T6 T1).all (fun x=>fH 7 x.1&&fH 7 x.2)=true:=by decide +kernel
theorem JM:(T6 T2).all (fun x=>fH 7 x.1&&fH 7 x.2)=true:=by decide +kernel
theorem MA(T:List (SV×SV))(i:Nat):wT T true i=wT (T6 T) true i:=by unfold wT T6;rw[bS,bS,List.getElem?_map];cases T[i]?<;>rfl
theorem F7{ty:Ty}(h:dM false ty=true):∃vs,Td ty=.tup vs:=by
 have k:∀{T:List (SV×SV)} (f:Nat->SV) (i:Nat),T.all (fun x=>CD x.1&&CD x.2)=true->∃vs,fl f (wT T true i)=.tup vs:=fun f i hT=>by refine oE (tup?_is (fF (p:=CD) true hT rfl i)) fun vs e=>?_;rw[e];exact⟨_,rfl⟩
 rcases ty with _|i|⟨i,a⟩|⟨i,a,b⟩
 ·exact ff h
 ·exact k _ i DT
 ·exact k _ i DU
 ·exact k _ i DW
theorem Ja{ty:Ty}:dM false ty=true->fH (8*iM ty) (Td ty)=true:=by
 have k:∀{T:List (SV×SV)} {f:Nat->SV} {m:Nat} (i:Nat),(T6 T).all (fun x=>fH 7 x.1&&fH 7 x.2)=true->(∀k,fH m (f k)=true)->fH (m+7) (fl f (wT T true i))=true:=fun i hT hf=>Ek hf 7 (by rw[MA];exact fF (p:=fH 7) true hT rfl i);induction ty with
|v _=>exact fun h=>ff h
|n0 i=>exact fun _=>k (m:=1) i JK fun _=>rfl
|n1 i a ih=>exact fun h=>lE (Nat.le_succ _) (k i JL fun _=>ih (aG h).2)
|n2 i a b ih ihb=>
  intro h;have h:=aG (aG h).2;refine lE (Nat.le_succ _) (k (m:=8*max (iM a) (iM b)) i JM fun j=>?_);rcases j with _|_
  ·exact lE (Nat.mul_le_mul_left 8 (Nat.le_max_left _ _)) (ih h.1)
  ·exact lE (Nat.mul_le_mul_left 8 (Nat.le_max_right _ _)) (ihb h.2)
end
section
def Dl(R:Rn):Prop:=∀ty∈R.δ,iM ty<=30/\dM false ty=true
theorem Dl.tup{R:Rn}(D:Dl R){k:Nat}{ty:Ty}(e:R.δ[k]?=some ty):∃vs,Td ty=.tup vs:=F7 (D ty (List.mem_of_getElem? e)).2
theorem RD.rv0{C:Cst}{R:Rn}{h:Heap}{v:SV}:∀{x:Value},RD h v x->RV C R h v x:=by
 induction v using SV.ind (Q:=fun vs=>∀xs,RDs h vs xs->RVs C R h vs xs) with
|non=>exact fun e=>e
|bol _=>exact fun e=>e
|int _=>exact fun e=>e
|str _=>exact fun e=>e
|byt _=>exact fun e=>e
|tup vs ih=>exact fun e=>aY e fun a xs e t r=>⟨a,xs,e,t,ih xs r⟩
|nil xs e=>exact e
|cons v r ih ihs xs e=>exact aY e fun y ys e a b=>⟨y,ys,e,ih a,ihs ys b⟩
|_=>exact fun e=>e.elim
theorem kL{C:Cst}{R:Rn}{h:Heap}(D:Dl R)(n:Nat):∀v x,fH n v=true->RV C R h v x->Lay h (py R.δ v) x (n+240):=
 lay (fun k x X=>oEA X fun ty e X=>by refine oA (D ty (List.mem_of_getElem? e)) fun l s=>?_;rcases lay (C:=C) (R:=⟨[],[]⟩) (h:=h) (g:=fun _=>none) (N:=0) (fun k x X=>oEA X fun _ e _=>nf e) _ _ x (Ja s) X.rv0 with⟨d,as,p,r,c,m⟩;exact .mk d as (by show(R.δ[k]?).bind _=_;rw[e];exact p) r c (al__3 m (Nat.mul_le_mul_left 8 l))) n
theorem eH(a:List Nat):∀b:List Nat,jJ a b=true↔a=b:=by
 induction a with
|nil=>
  intro b;rcases b with _|_
  ·exact⟨fun _=>rfl,fun _=>rfl⟩
  ·exact⟨fun e=>ff e,fun e=>nomatch e⟩
|cons x r ih=>
  intro b;rcases b with _|⟨y,s⟩
  ·exact⟨fun e=>ff e,fun e=>nomatch e⟩
  ·show(match Nat.beq x y with|true=>jJ r s|false=>false)=true↔_;rcases z:Nat.beq x y with _|_
   ·exact⟨fun e=>ff e,fun e=>by rw[(List.cons.inj e).1,Nat.beq_refl] at z;exact ff z.symm⟩
   ·rw[aT z];exact⟨fun e=>congrArg _ ((ih s).mp e),fun e=>(ih s).mpr (List.cons.inj e).2⟩
theorem Fg(a b:List Nat):jJ a b=decide (a=b):=Bool.eq_iff_iff.mpr ((eH a b).trans decide_eq_true_iff.symm)
theorem jF{a b:List Nat}(h:bB a=bB b):a=b:=congrArg (fun x=>x.cps.toList) h
theorem Bc(a b:List Nat):PyData.eqv (.str (bB a)) (.str (bB b))=jJ a b:=by
 rw[Fg,PyData.eqv];by_cases q:a=b
 ·rw[decide_eq_true q,q];exact beq_self_eq_true _
 ·rw[decide_eq_false q];exact beq_eq_false_iff_ne.mpr fun z=>q (jF z)
section
variable{g:Nat->Option PyData}
theorem jA{v:SV}{r:List SV}{ds:List PyData}{G:Prop}(h:mS g (v::r)=some ds)(k:∀d es,zW g v=some d->mS g r=some es->ds=d::es->G):G:=
 oEA (Option.bind_eq_some_iff.mp h) fun d a h=>oEA (Option.map_eq_some_iff.mp h) fun es b e=>k d es a b e.symm
theorem pU{vs:List SV}{d:PyData}{G:Prop}(h:zW g (.tup vs)=some d)(k:∀ds,mS g vs=some ds->d=.tuple ds->G):G:=oEA (Option.map_eq_some_iff.mp h) fun ds a b=>k ds a b.symm
theorem CL{f:SV->SV->Option Bool}(hf:∀a b r da db,f a b=some r->zW g a=some da->zW g b=some db->da.canLay0=true->PyData.eqv da db=r)(xs:List SV) :
  ∀{ys:List SV} {r:Bool} {ds es:List PyData},CK f xs ys=some r->mS g xs=some ds->mS g ys=some es->PyData.canLayAll0 ds=true->PyData.eqvAll ds es=r:=by
 induction xs with
|nil=>
  intro ys r ds es e p1 p2 _;rw[<-aF p1];rcases ys with _|_
  ·rw[<-aF p2];exact aF e
  ·refine jA p2 fun _ _ _ _ u=>?_;rw[u];exact aF e
|cons x xs ih=>
  intro ys r ds es e p1 p2 c;refine jA p1 fun d1 d2 q1 q2 u=>?_;rw[u] at c ⊢;rcases ys with _|⟨y,ys⟩
  ·rw[<-aF p2];exact aF e
  ·refine jA p2 fun d3 d4 q3 q4 u2=>?_;have c:=aG c;replace e:(match f x y with|none=>none|some z=>match z with|true=>CK f xs ys|false=>some false)=some r:=e;rw[u2,PyData.eqvAll];rcases z:f x y with _|b
   ·rw[z] at e;exact nf e
   ·rw[z] at e;rw[hf x y b d1 d3 z q1 q3 c.1];rcases b with _|_
    ·exact aF e
    ·exact ih e q2 q4 c.2
end
section
variable {R:Rn}(D:Dl R)
include D
theorem Dx{k:Nat}{d:PyData}(h:py R.δ (.dt k)=some d):∃ds,d=.tuple ds:=
 oEA (Option.bind_eq_some_iff.mp h) fun ty q h=>oE (D.tup q) fun vs e=>pU (show zW (fun _=>none) (.tup vs)=some d from e▸h) fun ds _ u=>⟨ds,u⟩
theorem AL(n:Nat):∀(a b:SV) (r:Bool) (da db:PyData),wV n a b=some r->py R.δ a=some da->py R.δ b=some db->da.canLay0=true->PyData.eqv da db=r:=by
 induction n with
|zero=>exact fun _ _ _ _ _ e=>nf e
|succ n ih=>
  intro a b r da db e pa pb cl;have tupl:∀{vs:List SV} {d:PyData},py R.δ (.tup vs)=some d->∃ds,d=.tuple ds:=fun h=>pU h fun ds _ u=>⟨ds,u⟩;induction a using SV.casesOn with
 |non=>
   rw[<-aF pa];induction b using SV.casesOn with
  |non=>rw[<-aF pb,<-aF e];rfl
  |str s=>rw[<-aF pb,<-aF e];rfl
  |tup vs=>refine oE (tupl pb) fun ds u=>?_;rw[u,<-aF e];rfl
  |_=>exact nf e
 |bol x=>
   rw[<-aF pa];induction b using SV.casesOn with
  |bol y=>rw[<-aF pb,<-aF e];rfl
  |_=>exact nf e
 |int x=>
   rw[<-aF pa];induction b using SV.casesOn with
  |int y=>
    rw[<-aF pb,<-aF e,PyData.eqv];by_cases q:x=y
    ·rw[q,decide_eq_true rfl];exact beq_self_eq_true _
    ·rw[decide_eq_false q];exact beq_eq_false_iff_ne.mpr q
  |_=>exact nf e
 |str x=>
   rw[<-aF pa];induction b using SV.casesOn with
  |str y=>rw[<-aF pb,<-aF e];exact Bc _ _
  |non=>rw[<-aF pb,<-aF e];rfl
  |tup vs=>refine oE (tupl pb) fun ds u=>?_;rw[u,<-aF e];rfl
  |_=>exact nf e
 |tup x=>
   refine pU pa fun ds p1 u=>?_;rw[u] at cl ⊢;induction b using SV.casesOn with
  |tup y=>refine pU pb fun es p2 u2=>?_;rw[u2];exact CL ih x e p1 p2 cl
  |non=>rw[<-aF pb,<-aF e];rfl
  |str s=>rw[<-aF pb,<-aF e];rfl
  |_=>exact nf e
 |dt x=>
   induction b using SV.casesOn with
  |dt y=>
    replace e:(match Nat.beq x y with|true=>some true|false=>none)=some r:=e;rcases z:Nat.beq x y with _|_
    ·rw[z] at e;exact nf e
    ·rw[z] at e;rw[<-aT z,pa] at pb;rw[<-aF pb,<-aF e];exact SeqAt.eqv_refl _ cl
  |str s=>refine oE (Dx D pa) fun _ u=>?_;rw[u,<-aF pb,<-aF e];rfl
  |non=>refine oE (Dx D pa) fun _ u=>?_;rw[u,<-aF pb,<-aF e];rfl
  |_=>exact nf e
 |_=>exact nf e
theorem E8{v:SV}{d:PyData}(pv:py R.δ v=some d)(vs:List SV):∀{ds:List PyData} {r:Bool},AT v vs=some r->Ox R.δ vs=some ds->PyData.canLayAll0 ds=true->(ds.any fun y=>PyData.eqv y d)=r:=by
 induction vs with
|nil=>exact fun e p _=>(aF p)▸aF e
|cons x vs ih=>
  intro ds r e p c;refine jA p fun d1 d2 q1 q2 u=>?_;rw[u] at c ⊢;have c:=aG c;replace e:(match wV 20 x v with|none=>none|some b=>match b with|true=>some true|false=>AT v vs)=some r:=e;rw[List.any_cons];rcases z:wV 20 x v with _|b
  ·rw[z] at e;exact nf e
  ·rw[z] at e;rw[AL D 20 x v b d1 d z q1 pv c.1];rcases b with _|_
   ·exact ih e q2 c.2
   ·exact aF e
end
end
variable{w:World}{B:Heap}{K:Frag}{mg mb:Str->Option Value}{A:Around}{s:Shared}{st:St}
section
theorem Inv.dl{w:World}{C:Cst}{B:Heap}{R:Rn}{st:St}{h:Heap}(I:Inv w C B R st h):Dl R:=fun ty h=>(I.dD ty h).1
def Gu(C:Cst)(R:Rn)(h:Heap)(o:Option SV)(r:Option Value):Prop:=match o with
|some v=>∃x,r=some x/\RV C R h v x
|none=>r=none
theorem RK.find{C:Cst}{R:Rn}{h:Heap}{es:List (List Nat×SV)}:∀{kvs:List (Str×Value)},RK C R h es kvs->∀s,Gu C R h (cS s es) (valueAt kvs (bB s)):=by
 induction es with
|nil=>exact fun e s=>by rw[show _=[] from e];exact rfl
|cons p r ih=>
  obtain⟨k,v⟩:=p;intro kvs e s;refine cV e fun _ x ds' e a b=>?_;subst e;show Gu C R h (match jJ k s with|true=>some v|false=>cS s r) _;rcases z:jJ k s
  ·have ne:¬bB k=bB s:=fun y=>ff (z.symm.trans ((eH _ _).mpr (jF y)));have q:valueAt ((bB k,x)::ds') (bB s)=valueAt ds' (bB s):=by simp[valueAt,ne]
   rw[q];exact ih b s
  ·obtain rfl:=(eH _ _).mp z;exact⟨x,by simp[valueAt],a⟩
section
variable{E':Value->Shared->Prop}{Q:Value->Shared->Prop}
theorem mC(S:Sta C B K mg mb)(I:Inv w C B R st s.heap){i:Nat}{a:Addr}(e:R.ρ[i]?=some a):(a==sysModules)=false:=by refine oE (S.sysm) fun o q=>?_;refine beq_eq_false_iff_ne.mpr fun z=>?_;rw[z] at e;rw[(I.new i _ e).1] at q;exact nf q
theorem q8(I:Inv w C B R st s.heap){a:SV}{x:Value}{f:Bool->Bool}(X:RV C R s.heap a x)(e:bO (isNone a) f=true):∃r,f r=true/\plainIs x .none=true/\(x==Value.none)=r:=by
 induction a using SV.casesOn with
|non=>subst X;exact⟨_,e,rfl,rfl⟩
|bol b=>subst X;exact⟨_,e,rfl,rfl⟩
|int i=>(refine oE X fun t u1=>?_;subst u1);exact⟨_,e,rfl,rfl⟩
|str i=>(refine qD X fun _ t u2=>?_;subst u2);exact⟨_,e,rfl,rfl⟩
|loc i=>(refine oEA X fun t _ u3=>?_;subst u3);exact⟨_,e,rfl,rfl⟩
|tup i=>(refine cX X fun t _ u4 _=>?_;subst u4);exact⟨_,e,rfl,rfl⟩
|dt i=>
  refine oEA X fun ty q X=>?_;refine oE (I.dl.tup q) fun vs e'=>?_;rw[e'] at X
  (refine cX X fun t _ u5 _=>?_;subst u5);exact⟨_,e,rfl,rfl⟩
|_=>exact ff e
theorem j9{h:Heap}:∀(bs:List Bool),∃as,ReadsAll h (bs.map Value.bool) (bs.map PyData.bool) as
|[]=>⟨_,.nil⟩
|b::r=>let⟨_,q⟩:=j9 r;⟨_,.cons (.bool b) q⟩
theorem v4(b:Bool):PyData.eqv (.bool b) (.bool false)=!b:=by rcases b with _|_<;>rfl
theorem vV(bs:List Bool):(bs.map PyData.bool).any (fun y=>PyData.eqv y (.bool false))=bs.any (!·):=by
 induction bs with
|nil=>rfl
|cons b r ih=>simp only[List.map_cons,List.any_cons,v4,ih]
theorem v9(bs:List Bool):PyData.canLayAll0 (bs.map PyData.bool)=true:=by
 induction bs with
|nil=>rfl
|cons b r ih=>simp[PyData.canLayAll0,PyData.canLay0,ih]
theorem qN(bs:List Bool):PyData.depthAll (bs.map PyData.bool)=0:=by
 induction bs with
|nil=>rfl
|cons b r ih=>simp[PyData.depthAll,PyData.depth,ih]
noncomputable def Eg(n:Bool):CmpOp:=cond n .NotIn .In
noncomputable def Ju(n:Bool):CmpOp:=cond n .NotEq .Eq
theorem uR(I:Inv w C B R st s.heap){a:SV}{vs:List SV}{x:Value}{xs:List Value}{f:Bool->Bool}(X:RV C R s.heap a x)(rs:RVs C R s.heap vs xs)(e:yQ a vs f=true) :
  ∃ds as d bs,ReadsAll s.heap xs ds as/\Reads s.heap x d bs/\PyData.canLayAll0 ds=true/\d.canLay0=true/\f (ds.any fun y=>PyData.eqv y d)=true/\PyData.depthAll ds<=300:=by
 refine mJ e fun z1 z2 e=>?_;refine dO e fun r hr e=>?_;rcases HM (kL I.dl 30) z2 rs with⟨ds,as,p1,r1,c1,l1⟩;rcases kL I.dl 30 a x z1 X with⟨d,bs,p2,r2,c2,_⟩;exact⟨ds,as,d,bs,r1,r2,c1,c2,by rw[E8 I.dl p2 vs hr p1 c1];exact e,al__3 l1 (by decide)⟩
theorem pX{u n m:Nat}(hu:u<=5000)(h:n<=300):u+1+min n m<cLine:=by
 have:=Nat.min_le_left n m;have:cLine=9900:=rfl
 (first|lia|omega)
theorem E9{a:Addr}{y:Value}{ds:List PyData}{d:PyData}{as bs:List Addr}(n:Bool)(hu:A.units<=5000)(r:Reads s.heap (.ref a) (.tuple ds) as)(r2:Reads s.heap y d bs)(c1:PyData.canLayAll0 ds=true)(c2:d.canLay0=true)(l:PyData.depthAll ds<=300)
  (h:Q (.bool (n ^^ ds.any fun z=>PyData.eqv z d)) s):wpAny (model C.prog w) A (compareOp (Eg n) y (.ref a)) Q E' s:=by
 rcases n with _|_
 ·rw[Bool.false_xor] at h;exact PySem.SeqAt.in_tuple_reads r r2 c1 c2 (pX hu l) h
 ·rw[Bool.true_xor] at h;exact PySem.SeqAt.notIn_tuple_reads r r2 c1 c2 (pX hu l) h
theorem yS{a:Addr}{y:Value}{ds:List PyData}{d:PyData}{as bs:List Addr}(n:Bool)(hu:A.units<=5000)(r:Reads s.heap (.ref a) (.list ds) as)(r2:Reads s.heap y d bs)(c1:PyData.canLayAll0 ds=true)(c2:d.canLay0=true)(l:PyData.depthAll ds<=300)
  (h:Q (.bool (n ^^ ds.any fun z=>PyData.eqv z d)) s):wpAny (model C.prog w) A (compareOp (Eg n) y (.ref a)) Q E' s:=by
 rcases n with _|_
 ·rw[Bool.false_xor] at h;exact PySem.SeqAt.in_list_reads r r2 c1 c2 (pX hu l) h
 ·rw[Bool.true_xor] at h;exact PySem.SeqAt.notIn_list_reads r r2 c1 c2 (pX hu l) h
theorem Nz(S:Sta C B K mg mb)(I:Inv w C B R st s.heap)(hu:A.units<=5000)(n:Bool){a b:SV}{x y:Value}{f:Bool->Bool}(X:RV C R s.heap a x)(Y:RV C R s.heap b y)(e:yU C.p a b st f=true)
  (hQ:∀r tk,f r=true->Q (.bool (n ^^ r)) {s with toks:=tk}):wpAny (model C.prog w) A (compareOp (Eg n) x y) Q E' s:=by
 induction b using SV.casesOn with
|tup vs=>refine aY Y fun t xs u7 u8 rs=>?_;subst u7;refine vC u8 fun o ho hc m hd=>?_;refine lU (uR I X rs e) fun ds as d bs r1 r2 c1 c2 e l=>?_;exact E9 n hu (.tuple ho hc hd r1) r2 c1 c2 l (hQ _ s.toks e)
|loc i=>
  refine oEA Y fun t ht u9=>?_;subst u9;refine dO e fun o hg e=>?_;have ro:=I.obj i o t hg ht;induction o using SO.casesOn with
 |lst vs=>refine cX ro fun xs m ho rs=>?_;refine lU (uR I X rs e) fun ds as d bs r1 r2 c1 c2 e l=>?_;exact yS n hu (.list ho rfl rfl r1) r2 c1 c2 l (hQ _ s.toks e)
 |dct es=>
   refine oEA ro fun kvs hd rk=>?_;induction a using SV.casesOn with
  |str k=>
    refine qD X fun _ u u10=>?_;subst u10;have q:(valueAt kvs (bB k)).isSome=(cS k es).isSome:=by
     have g:=rk.find k;rcases z:cS k es with _|v
     ·rw[z] at g;rw[show valueAt kvs (bB k)=none from g];rfl
     ·rw[z] at g;refine oEA g fun x hx _=>?_;rw[hx];rfl
    have hQ:=fun tk=>hQ _ tk e;rcases n with _|_
    ·exact wpAny_in_of (strKind_is C.prog w _ u) (mC S I ht) hd.mapOf (by rw[q,<-Bool.false_xor (cS k es).isSome];exact hQ _)
    ·exact wpAny_notIn_of (strKind_is C.prog w _ u) (mC S I ht) hd.mapOf (by rw[q,<-Bool.true_xor (cS k es).isSome];exact hQ _)
  |_=>exact ff e
 |kls m c ks=>
   refine fN ro fun bs m _ ho hb _=>?_;rcases ks with _|_
   ·induction a using SV.casesOn with
   |bol z=>
     rcases z with _|_
     ·subst X;refine oE (j9 (h:=s.heap) bs) fun as r1=>?_;refine yS n hu (.list ho rfl rfl r1) (.bool false) (v9 bs) rfl (by rw[qN];(first|lia|omega)) (hQ _ s.toks ?_);rw[vV,hb,List.any_nil,Bool.or_false];exact e
     ·exact ff e
   |_=>exact ff e
   ·exact ff e
 |_=>exact ff e
|_=>exact ff e
end
end
section
section
variable{E':Value->Shared->Prop}{Q:Value->Shared->Prop}
theorem qQ{d d2:PyData}{x y:Value}{as bs:List Addr}(n:Bool)(hu:A.units<=5000)(r1:Reads s.heap x d as)(r2:Reads s.heap y d2 bs)(c1:d.canLay0=true)(c2:d2.canLay0=true)(l:d.depth<=300)(h:Q (.bool (n ^^ PyData.eqv d d2)) s) :
  wpAny (model C.prog w) A (compareOp (Ju n) x y) Q E' s:=by
 have room:A.units+min d.depth d2.depth<cLine:=by
  have:=Nat.min_le_left d.depth d2.depth;have:cLine=9900:=rfl
  (first|lia|omega)
 rcases n with _|_
 ·rw[Bool.false_xor] at h;exact PySem.SeqAt.compareEq_reads r1 r2 c1 c2 room h
 ·rw[Bool.true_xor] at h;exact PySem.SeqAt.compareNe_reads r1 r2 c1 c2 room h
theorem uY{a b:Addr}{xs ys:List Value}{m k:Nat}(n:Bool)(hu:A.units<=5000)(h1:s.heap.get? a=some (listOf xs.toArray m))(h2:s.heap.get? b=some (listOf ys.toArray k))(l:xs.length≠ys.length)(h:Q (.bool (n ^^ false)) s) :
  wpAny (model C.prog w) A (compareOp (Ju n) (.ref a) (.ref b)) Q E' s:=by
 have sz:(xs.toArray.size != ys.toArray.size)=true:=by simpa using l
 have line:cLine=9900:=rfl;rcases n with _|_
 ·exact PySem.SeqAt.eq_list_lengthsAt ⟨_,h1,rfl,_,rfl⟩ ⟨_,h2,rfl,_,rfl⟩ sz (by(first|lia|omega)) h
 ·exact PySem.SeqAt.RcNeAt.lists_lengths ⟨_,h1,rfl,_,rfl⟩ ⟨_,h2,rfl,_,rfl⟩ sz (by(first|lia|omega)) C.prog w E' Q h
theorem Me(I:Inv w C B R st s.heap)(hu:A.units<=5000)(n:Bool){a b:SV}{x y:Value}{f:Bool->Bool}(X:RV C R s.heap a x)(Y:RV C R s.heap b y)(e:(fH 30 a&&fH 30 b&&bO (wV 20 a b) f)=true)
  (hQ:∀r,f r=true->Q (.bool (n ^^ r)) s):wpAny (model C.prog w) A (compareOp (Ju n) x y) Q E' s:=by
 refine mJ e fun z1 z2 e=>?_;refine dO e fun r hr e=>?_;rcases kL I.dl 30 a x z1 X with⟨d,as,p1,r1,c1,l1⟩;rcases kL I.dl 30 b y z2 Y with⟨d2,bs,p2,r2,c2,_⟩;exact qQ n hu r1 r2 c1 c2 (al__3 l1 (by decide)) (by rw[AL I.dl 20 a b r d d2 hr p1 p2 c1];exact hQ _ e)
theorem Nv(I:Inv w C B R st s.heap)(hu:A.units<=5000)(n:Bool){a b:SV}{x y:Value}{f:Bool->Bool}(X:RV C R s.heap a x)(Y:RV C R s.heap b y)(e:J1 C.p a b st f=true)
  (hQ:∀r,f r=true->Q (.bool (n ^^ r)) s):wpAny (model C.prog w) A (compareOp (Ju n) x y) Q E' s:=by
 induction a using SV.casesOn with
|loc i=>
  induction b using SV.casesOn with
 |loc j=>
   refine oEA X fun t ht u2=>?_;subst u2;refine oEA Y fun u hu' u3=>?_;subst u3;refine dL e fun vs h1 e=>?_;refine dL e fun ws h2 e=>?_;refine cX (I.obj i _ t h1 ht) fun xs m ho rs=>?_;refine cX (I.obj j _ u h2 hu') fun ys k ho' rs'=>?_;have l1:=rs.len;have l2:=rs'.len;rcases vs with _|_
   ·rcases ws with _|_
    ·subst rs;subst rs';exact qQ n hu (.list ho rfl rfl .nil) (.list ho' rfl rfl .nil) rfl rfl (by simp[PyData.depth,PyData.depthAll]) (hQ _ e)
    ·exact uY n hu ho ho' (by rw[l1,l2];exact Nat.ne_of_lt (Nat.succ_pos _)) (hQ _ e)
   ·rcases ws with _|_
    ·exact uY n hu ho ho' (by rw[l1,l2];exact Nat.ne_of_gt (Nat.succ_pos _)) (hQ _ e)
    ·exact ff e
 |_=>exact ff e
|_=>exact Me I hu n X Y e hQ
theorem hK{a b:SV}{x y:Value}{f:Int->Int->Bool}(X:RV C R s.heap a x)(Y:RV C R s.heap b y)(e:lI a b f=true):∃i j t u,a=.int i/\b=.int j/\x=.int i t/\y=.int j u/\f i j=true:=by
 induction a using SV.casesOn with
|int i=>
  induction b using SV.casesOn with
 |int j=>refine oE X fun t u4=>?_;subst u4;refine oE Y fun u u5=>?_;subst u5;exact⟨i,j,t,u,rfl,rfl,rfl,rfl,e⟩
 |_=>exact ff e
|_=>exact ff e
theorem iX{b:SV}{y:Value}{f:Nat->Bool}(Y:RV C R s.heap b y)(e:nN b f=true):∃n u,y=.int (.ofNat n) u/\f n=true:=by
 induction b using SV.casesOn with
|int j=>
  rcases j with n|_
  ·(refine oE Y fun u u6=>?_;subst u6);exact⟨n,u,rfl,e⟩
  ·exact ff e
|_=>exact ff e
theorem u_{a b:SV}{x y:Value}{f:Bool->Bool}{g:Int->Int->Bool}(X:RV C R s.heap a x)(Y:RV C R s.heap b y)(e:zG a b f g=true):∃i j t u,x=.int i t/\y=.int j u/\f (g i j)=true:=by
 induction a using SV.casesOn with
|nn c=>
  refine cX X fun i t u7 _=>?_;subst u7;refine cX (iX Y e) fun n u u8 e=>?_;subst u8;refine bZ e fun h1 h2=>?_;refine⟨i,_,t,u,rfl,rfl,?_⟩;cases g i (.ofNat n)
  ·exact h2
  ·exact h1
|_=>(refine jU (hK (f:=fun x y=>f (g x y)) X Y e) fun i j t u _ _ u9 u10 e=>?_;subst u9;subst u10);exact⟨i,j,t,u,rfl,rfl,e⟩
theorem wN(S:Sta C B K mg mb)(I:Inv w C B R st s.heap)(hu:A.units<=5000){o:Cm}{a b:SV}{x y:Value}{f:Bool->Bool}(X:RV C R s.heap a x)(Y:RV C R s.heap b y)(e:qM C.p o a b st f=true)
  (hQ:∀r tk,f r=true->Q (.bool r) {s with toks:=tk}):wpAny (model C.prog w) A (compareOp (hX o) x y) Q E' s:=by
 induction o using Cm.casesOn with
|is=>
  induction b using SV.casesOn with
 |non=>subst Y;refine oEAA (q8 I X e) fun r e h1 h2=>?_;exact wpAny_is_plain h1 (by rw[h2];exact hQ _ s.toks e)
 |_=>exact ff e
|isn=>
  induction b using SV.casesOn with
 |non=>subst Y;refine oEAA (q8 I X e) fun r e h1 h2=>?_;exact wpAny_isNot_plain h1 (by rw[h2];exact hQ _ s.toks e)
 |_=>exact ff e
|inn=>exact Nz S I hu false X Y e fun r tk e=>by rw[Bool.false_xor];exact hQ r tk e
|nin=>exact Nz S I hu true X Y (f:=fun r=>f (!r)) e fun r tk e=>by rw[Bool.true_xor];exact hQ (!r) tk e
|eq=>exact Nv I hu false X Y e fun r e=>by rw[Bool.false_xor];exact hQ r s.toks e
|ne=>exact Nv I hu true X Y (f:=fun r=>f (!r)) e fun r e=>by rw[Bool.true_xor];exact hQ (!r) s.toks e
|lt=>(refine jU (hK X Y e) fun i j t u u11 u12 u13 u14 e=>?_;subst u11;subst u12;subst u13;subst u14);exact P.lt_int (hQ _ s.toks e)
|le=>(refine jU (hK X Y e) fun i j t u u15 u16 u17 u18 e=>?_;subst u15;subst u16;subst u17;subst u18);exact P.le_int (hQ _ s.toks e)
|gt=>(refine kP (u_ X Y e) fun i j t u u19 u20 e=>?_;subst u19;subst u20);exact P.gt_int (hQ _ s.toks e)
|ge=>(refine kP (u_ X Y e) fun i j t u u21 u22 e=>?_;subst u21;subst u22);exact P.ge_int (hQ _ s.toks e)
end
end
end Mine
end
section
open PySem PySem.W PyProof.Rows PySem.Calls
namespace Mine
open Builtin
section
theorem CH(l:Addr)(items:Array Value)(n:Nat)(d:Option Addr)(sl:Array (Option Value))(x:Int)(u:Tok)(h0:¬(decide (x < -2^63)||decide (x≥2^63))=true)(h1:(items.isEmpty||x==1)=true) :
  Meets (Builtin.«tuple.__mul__» ⟨[.ref l,.int x u],[]⟩) (fun _ R s=>s.heap.get? l=some {cls:=.type "tuple",dict:=d,data:=.seq items n,slots:=sl}/\R (.ok (.ret (Value.ref l))) s):=
 .of_wp fun prog w A R s h=>by
  obtain⟨hp,g,d,tk,os⟩:=s;refine oA h fun hl h=>?_
  wp_walk
  refine wpAny_ite_false (decide_eq_false h0) ?_
  wp_walk
  exact⟨_,rfl,h⟩
theorem CF(l:Addr)(items:Array Value)(n:Nat)(d:Option Addr)(sl:Array (Option Value))(x:Int)(u:Tok)(h0:¬(decide (x < -2^63)||decide (x≥2^63))=true)(h1:¬(items.isEmpty||x==1)=true)(h2:(decide (x<=0)||items.isEmpty)=true) :
  Meets (Builtin.«tuple.__mul__» ⟨[.ref l,.int x u],[]⟩) (fun _ R s=>s.heap.get? l=some {cls:=.type "tuple",dict:=d,data:=.seq items n,slots:=sl}/\R (.ok (.ret (Value.ref s.heap.objs.size))) {s with heap:=s.heap.push {cls:=.type "tuple",data:=.seq #[]}}):=
 .of_wp fun prog w A R s h=>by
  obtain⟨hp,g,d,tk,os⟩:=s;refine oA h fun hl h=>?_
  wp_walk
  refine wpAny_ite_false (decide_eq_false h0) ?_
  wp_walk
  exact⟨_,rfl,h⟩
theorem CE(l:Addr)(items:Array Value)(n:Nat)(d:Option Addr)(sl:Array (Option Value))(x:Int)(u:Tok)(h0:¬(decide (x < -2^63)||decide (x≥2^63))=true)(h1:¬(items.isEmpty||x==1)=true)(h2:¬(decide (x<=0)||items.isEmpty)=true)
  (h3:¬(items.size:Int)*x>(2^63-1)/8) (h4:¬Tuple.tupleTooMany (items.size*x)=true) (h5:(List.foldl (fun x1 x2=>x1++x2) #[] (List.replicate x.toNat items)).size<=sizeLine) :
  Meets (Builtin.«tuple.__mul__» ⟨[.ref l,.int x u],[]⟩) (fun _ R s=>s.heap.get? l=some {cls:=.type "tuple",dict:=d,data:=.seq items n,slots:=sl}/\
   R (.ok (.ret (Value.ref s.heap.objs.size))) {s with heap:=s.heap.push {cls:=.type "tuple",data:=.seq (List.foldl (fun x1 x2=>x1++x2) #[] (List.replicate x.toNat items))}}):=
 .of_wp fun prog w A R s h=>by
  obtain⟨hp,g,d,tk,os⟩:=s;refine oA h fun hl h=>?_
  wp_walk
  refine wpAny_ite_false (decide_eq_false h0) ?_
  wp_walk
  refine wpAny_ite_false (decide_eq_false h3) ?_
  wp_walk
  exact⟨_,rfl,h⟩
theorem CG(a:Int)(t:Tok)(l:Addr)(items:Array Value)(n:Nat)(d:Option Addr)(sl:Array (Option Value)) :
  Meets (Builtin.«int.__rmul__» ⟨[.int a t,.ref l],[]⟩) (fun _ R s=>s.heap.get? l=some {cls:=.type "tuple",dict:=d,data:=.seq items n,slots:=sl}/\R (.ok (.ret Value.notImplemented)) s):=
 .of_wp fun prog w A R s h=>by obtain⟨hp,g,d,tk,os⟩:=s;refine oA h fun hl h=>?_;wp_walk;exact⟨_,rfl,h⟩
theorem wR:fillsNumberSlot (.type "tuple") "mul"=pure false:=
 PySem.fillsNumberSlot_seq (id:="tuple.__mul__") (r:=some (.builtin "tuple.__rmul__")) F.slot_tuple_mul.lookup (by decide +kernel) F.slot_tuple_rmul.lookup (by decide +kernel)
theorem wS:seqRepeat? (.type "tuple")=pure (some (.builtin "tuple.__mul__")):=by unfold seqRepeat?;rw[PySem.seqSlot_of (T:="tuple") (name:="__mul__") (id:="tuple.__mul__") F.slot_tuple_mul.lookup (by decide +kernel),PySem.seqSlot_of (T:="tuple") (name:="__rmul__") (id:="tuple.__rmul__") F.slot_tuple_rmul.lookup (by decide +kernel)];rfl
end
end Mine
end
section
open PySem PySem.W PyProof.Rows PySem.Calls
namespace Mine
section
open Builtin in
theorem BV{prog:Program}{w:World}{A:Around}{E:Value->Shared->Prop}{s:Shared}{l:Addr}{vs:List Value}{n:Nat}{u:Tok}{Q:Value->Shared->Prop}(ht:IsTup s.heap l vs.toArray)(hz:n*vs.length<=200)(hn:n<=200)
  (h:∀a h',(∀b o,s.heap.get? b=some o->h'.get? b=some o)->IsTup h' a (List.replicate n vs).flatten.toArray->Q (.ref a) {s with heap:=h'}):wpAny (model prog w) A (binaryOp .Mult (.ref l) (.int (.ofNat n) u)) Q E s:=by
 obtain⟨⟨cls,d,data,sl⟩,ho,hcl,k,hd⟩:=id ht;simp only at hcl hd;subst hcl hd;refine wpAny_binaryOp_repeat_ref (T:="tuple") (U:="int") (by decide) ⟨_,ho,rfl⟩ (fun s'=>typeIs_int s' _ u) wR F.fills_int_mul F.slot_int_rmul wS F.slot_int_index.lookup
  (call_meets F.slot_int_rmul (typeIs_int s _ u) F.entry_int_rmul (F.args_int_rmul_2 _ _) (CG (.ofNat n) u l vs.toArray k d sl) ⟨ho,rfl,⟨_,ho,rfl⟩,?_⟩)
 have h0:¬(decide ((Int.ofNat n) < -2^63)||decide ((Int.ofNat n)≥2^63))=true:=by simp only[Bool.or_eq_true,decide_eq_true_eq,not_or,Int.ofNat_eq_natCast];(first|lia|omega)
 by_cases h1:(vs.toArray.isEmpty||(Int.ofNat n)==1)=true
 ·refine call_meets F.slot_tuple_mul ⟨_,ho,rfl⟩ F.entry_tuple_mul (F.args_tuple_mul_2 _ _) (CH l vs.toArray k d sl (.ofNat n) u h0 h1) ⟨ho,h l s.heap (fun _ _ e=>e) ?_⟩;have:(List.replicate n vs).flatten=vs:=by
   simp only[Bool.or_eq_true,beq_iff_eq,List.isEmpty_toArray,List.isEmpty_iff,Int.ofNat_eq_natCast] at h1;rcases h1 with rfl|h1
   ·simp
   ·have:n=1:=by(first|lia|omega)
    subst this;simp
  rw[this];exact ht
 ·by_cases h2:(decide ((Int.ofNat n)<=0)||vs.toArray.isEmpty)=true
  ·refine call_meets F.slot_tuple_mul ⟨_,ho,rfl⟩ F.entry_tuple_mul (F.args_tuple_mul_2 _ _) (CF l vs.toArray k d sl (.ofNat n) u h0 h1 h2) ⟨ho,h _ _ (fun _ _ e=>Heap.get?_push_of_some _ e) ?_⟩;have:(List.replicate n vs).flatten=[]:=by
    simp only[Bool.or_eq_true,decide_eq_true_eq,beq_iff_eq,List.isEmpty_toArray,List.isEmpty_iff,not_or,Int.ofNat_eq_natCast] at h1 h2;rcases h2 with h2|h2
    ·have:n=0:=by(first|lia|omega)
     subst this;simp
    ·exact absurd h2 h1.1
   rw[this];exact⟨_,Heap.get?_push_size _ rfl,rfl,0,rfl⟩
  ·have q:(List.foldl (fun x1 x2=>x1++x2) #[] (List.replicate (Int.ofNat n).toNat vs.toArray))=(List.replicate n vs).flatten.toArray:=by
    have:=listMul_foldl vs.toArray n #[]
    simpa using this
   have sz:(List.replicate n vs).flatten.length<=200:=by simp;(first|lia|omega)
   refine call_meets F.slot_tuple_mul ⟨_,ho,rfl⟩ F.entry_tuple_mul (F.args_tuple_mul_2 _ _) (CE l vs.toArray k d sl (.ofNat n) u h0 h1 h2 ?_ ?_ ?_) ⟨ho,?_⟩
   ·have:((vs.toArray.size:Nat):Int)*(Int.ofNat n)=((n*vs.length:Nat):Int):=by simp[Int.mul_comm]
    rw[this];(first|lia|omega)
   ·have:((vs.toArray.size:Nat):Int)*(Int.ofNat n)=((n*vs.length:Nat):Int):=by simp[Int.mul_comm]
    rw[this];unfold Tuple.tupleTooMany;have:(sizeLine:Int)=16777216:=rfl;simp only[decide_eq_true_eq];(first|lia|omega)
   ·rw[q];simp only[List.size_toArray];exact al__3 sz (by decide)
   ·rw[q];exact h _ _ (fun _ _ e=>Heap.get?_push_of_some _ e) ⟨_,Heap.get?_push_size _ rfl,rfl,0,rfl⟩
theorem tV{prog:Program}{w:World}{A:Around}{E:Value->Shared->Prop}{s:Shared}{l b:Addr}{vs ws:List Value}{n n2:Nat}{Q:Value->Shared->Prop}(ho:s.heap.get? l=some (W.listOf vs.toArray n))(ho2:s.heap.get? b=some (W.listOf ws.toArray n2))
  (h:Q (.ref s.heap.objs.size) {s with heap:=s.heap.push (W.listOf (vs++ws).toArray 0)}) (hsz:vs.length+ws.length<=sizeLine):wpAny (model prog w) A (binaryOp .Add (.ref l) (.ref b)) Q E s:=by
 have e:vs.toArray++ws.toArray=(vs++ws).toArray:=by simp
 refine concat_meets ⟨_,ho,rfl⟩ ⟨_,ho2,rfl⟩ noFill_list_add seq_list_add PySem.F.slot_list_add PySem.F.entry_list_add (PySem.F.args_list_add_2 _ _) (list_addW l b vs.toArray ws.toArray n n2 none none #[] #[] (by simpa using hsz)) ⟨ho,ho2,?_⟩;rw[e];exact h
theorem RVs.append{C:Cst}{R:Rn}{h:Heap}:∀{vs ws:List SV} {xs ys:List Value},RVs C R h vs xs->RVs C R h ws ys->RVs C R h (vs++ws) (xs++ys)
|[],_,_,_,e,r=>by rw[show _=[] from e];exact r
|_::_,_,_,_,⟨y,ys,e,a,b⟩,r=>by subst e;exact⟨y,_,rfl,a,b.append r⟩
theorem RVs.rep{C:Cst}{R:Rn}{h:Heap}{vs:List SV}{xs:List Value}(r:RVs C R h vs xs):∀n,RVs C R h (List.replicate n vs).flatten (List.replicate n xs).flatten
|0=>rfl
|n+1=>by simp only[List.replicate_succ,List.flatten_cons];exact r.append (r.rep n)
end
variable{w:World}{C:Cst}{B:Heap}{K:Frag}{mg mb:Str->Option Value}{A:Around}{s:Shared}{oU:List Env}{env:Env}{R:Rn}{cx:Cx}{st:St}{ih:Ev}{k:Kv}{ke:Ke}
section
section
variable{E':Value->Shared->Prop}{Q:Value->Shared->Prop}{q:Pos}
theorem PV.tok(P:PV w C B oU env R s.heap s k Q)(I:At w C B oU env R st s.heap)(tk:Nat)(v:SV){x:Value}(X:RV C R s.heap v x)(e:k v st=true):Q x {s with toks:=tk}:=
 P v st R s.heap tk x (.refl R) (.refl _ _) I X e
theorem PV.new(P:PV w C B oU env R s.heap s k Q)(I:At w C B oU env R st s.heap){o:SO}{a:Addr}{h':Heap}{tk:Nat}(e:st.new C.p o (fun l st=>k (.loc l) st)=true)(kk:∀b o,s.heap.get? b=some o->h'.get? b=some o)(hn:s.heap.get? a=none)
  (ho:RO w C ⟨R.ρ++[a],R.δ⟩ h' a o):Q (.ref a) {s with heap:=h',toks:=tk}:=by
 refine I.new e kk hn ho fun i st2 e2 g2 l2 I2 X2 _ _=>?_;exact P (.loc i) st2 _ _ tk _ g2 l2 I2 X2 e2
theorem g1(R:Rn)(a:Addr):R.le ⟨R.ρ++[a],R.δ⟩:=⟨⟨_,rfl⟩,[],by simp⟩
theorem s_{a b:List Nat}(h:nP a=true)(h':nP b=true):nP (a++b)=true:=by
 unfold nP at *
 rw[List.all_append,h,h'];rfl
theorem DX(I:At w C B oU env R st s.heap){i j:Nat}{x y:Value}(X:RV C R s.heap (.loc i) x)(Y:RV C R s.heap (.loc j) y)(e:GB C.p i j st k=true)(P:PV w C B oU env R s.heap s k Q) :
  wpAny (model C.prog w) A (binaryOp .Add x y) Q E' s:=by
 refine oEA X fun a ha u1=>?_;subst u1;refine oEA Y fun b hb u2=>?_;subst u2;refine dO e fun o h1 e=>?_;have ro:=I.inv.obj i o a h1 ha;have kk:∀(ob:Obj) b o,s.heap.get? b=some o->(s.heap.push ob).get? b=some o:=fun _ _ _ e=>Heap.get?_push_of_some _ e;induction o using SO.casesOn with
|lst vs=>refine dL e fun ws h2 e=>?_;refine bZ e fun e1 e2=>?_;rw[bJ] at e2;refine cX ro fun xs n ho rs=>?_;refine cX (I.inv.obj j _ b h2 hb) fun ys n' ho' rs'=>?_;exact tV ho ho' (P.new I (tk:=s.toks) e2 (kk _) (bK _) ⟨_,0,Heap.get?_push_size _ rfl,(rs.append rs').mono (g1 _ _) (.of_keep (kk _))⟩) (by rw[rs.len,rs'.len];exact al__3 (aP e1) (by decide))
|kls n c ks=>
  refine dL e fun ws h2 e=>?_;refine cX (I.inv.obj j _ b h2 hb) fun ys n' ho' rs'=>?_;rcases ws with _|⟨v,ws⟩
  ·exact ff e
  ·rcases ws with _|_
   ·induction v using SV.casesOn with
   |bol z=>
     refine bZ e fun e1 e2=>?_;refine fN ro fun bs m hm ho hbs hk=>?_;refine aY rs' fun y ys' u3 hy hys=>?_;subst u3;subst hy;subst hys;have l:=aP e1;have sl:sizeLine=16777216:=rfl;have q:bs.map Value.bool++[Value.bool z]=(bs++[z]).map Value.bool:=by rw[List.map_append];rfl
     refine tV ho ho' ?_ (by rw[List.length_map];show bs.length+1<=_;omega);rw[q];refine P.new I (tk:=s.toks) e2 (kk _) (bK _) ⟨bs++[z],0,by rw[List.length_append];exact Nat.succ_le_succ hm,Heap.get?_push_size _ rfl,?_,hk⟩;show _=(c||!z||ks.any (dJ R));rw[List.any_append,hbs];show(c||ks.any (dJ R)||(!z||false))=_;rcases c with _|_<;>rcases z with _|_<;>cases ks.any (dJ R)<;>rfl
   |_=>exact ff e
   ·exact ff e
|_=>exact ff e
theorem Ih{x y:Int}{t u:Tok}{f:Int->Bool}(e:Ig x y f=true)(h:∀z tk t,f z=true->Q (.int z t) {s with toks:=tk}):wpAny (model C.prog w) A (binaryOp .Pow (.int x t) (.int y u)) Q E' s:=by
 rcases x with n|_
 ·replace e:(match Nat.beq n 10 with|true=>_|false=>_)=true:=e;cases z0:Nat.beq n 10 with
 |true=>
   rw[z0] at e;obtain rfl:=aT z0;cases y with
  |negSucc=>exact ff e
  |ofNat m=>refine bZ e fun e1 e=>?_;obtain rfl:=aT e1;exact AutoIntOps.pow_4 (by decide) (by decide) (by decide) (by decide) (by decide +kernel) (h 1000000000000000000 _ _ e)
 |false=>
  rw[z0] at e;refine bZ e fun e1 e=>?_;obtain rfl:=aT e1;rcases y with m|_
  ·have e:(match Nat.beq m 30 with|true=>f 1073741824|false=>Nat.beq m 512&&f (2^512))=true:=e;rcases z:Nat.beq m 30 with _|_
   ·rw[z] at e;obtain rfl:=aT (aG e).1;exact AutoIntOps.pow_4 (by decide) (by decide) (by decide) (by decide) (by decide +kernel) (h (2^512) _ _ (aG e).2)
   ·rw[z] at e;obtain rfl:=aT z;exact AutoIntOps.pow_4 (by decide) (by decide) (by decide) (by decide) (by decide +kernel) (h _ _ _ e)
  ·exact ff e
 ·exact ff e
theorem Ft{a b:Int}(h:0<=b)(h':b<2147483648):IntMulOk a b:=IntMulOk.of_right (by
 refine oE (Int.eq_ofNat_of_zero_le h) fun n u4=>?_;subst u4;have:n<2^31:=by omega
 unfold Builtin.Int.intBits;split
 ·decide
 ·rename_i z
  have:=(Nat.log2_lt (by intro q;apply z;simp[q]) (k:=31)).mpr this
  simpa using(by omega:n.log2+1<=64))
theorem B2(I:At w C B oU env R st s.heap){n:Nat}{i:Int}{t u:Tok}(hi:0<=i)(e:Do n st k=true)(P:PV w C B oU env R s.heap s k Q):wpAny (model C.prog w) A (binaryOp .Mod (.int i t) (.int (.ofNat n) u)) Q E' s:=by
 refine bZ e fun e1 e=>?_;have e1:0<n:=aP e1;have h0:0<=i.fmod n:=Int.fmod_nonneg hi (by omega);have h1:i.fmod n<n:=Int.fmod_lt_of_pos i (by omega);refine PyProof.Rows.mod_int (by show(n:Int)≠0;omega) ?_;rcases z:Nat.ble n 64 with _|_
 ·rw[z] at e;refine bZ e fun e2 e=>?_;have e2:=aP e2;exact P.tok I _ (.nn true) ⟨_,_,rfl,h0,fun _=>by show i.fmod (n:Int)<_;omega⟩ e
 ·rw[z] at e;refine oE (Int.eq_ofNat_of_zero_le h0) fun r hr=>?_;have e:(List.range n).all (fun r=>k (.int (.ofNat r)) st)=true:=e;exact P.tok I _ (.int (.ofNat r)) ⟨_,by rw[show i.fmod (Int.ofNat n)=Int.ofNat r from hr]⟩ (aZ e r (List.mem_range.mpr (by omega)))
theorem Mc(I:At w C B oU env R st s.heap){o:Bo}{a b:SV}{x y:Value}(X:RV C R s.heap a x)(Y:RV C R s.heap b y)(e:A1 C.p o a b st k=true)(P:PV w C B oU env R s.heap s k Q) :
  wpAny (model C.prog w) A (binaryOp (F8 o) x y) Q E' s:=by
 induction o using Bo.casesOn with
|add=>
  induction a using SV.casesOn with
 |int i=>induction b using SV.casesOn with
  |int j=>obtain⟨t,rfl⟩:=X;obtain⟨u,rfl⟩:=Y;exact PySem.P.add_int (P.tok I _ (.int _) ⟨_,rfl⟩ e)
  |_=>exact ff e
 |str a=>induction b using SV.casesOn with
  |str b=>
    obtain⟨o1,t,rfl⟩:=X;obtain⟨o2,u,rfl⟩:=Y;have q:bB a++bB b=bB (a++b):=by unfold bB;show Str.append _ _=_;simp[Str.append]
    refine SB.add (fun t' k'=>by rw[q];exact P.tok I k' (.str _) ⟨s_ o1 o2,t',rfl⟩ (aG e).2) ?_;show(bB a).cps.size+(bB b).cps.size<=sizeLine;exact al__3 (aP (aG e).1) (by decide)
  |_=>exact ff e
 |loc i=>induction b using SV.casesOn with
  |loc j=>exact DX I X Y e P
  |_=>exact ff e
 |nn c=>obtain⟨i,t,rfl,hi,_⟩:=X;obtain⟨n,u,rfl,e⟩:=iX Y e;exact PySem.P.add_int (P.tok I _ (.nn false) ⟨_,_,rfl,Int.add_nonneg hi (Int.natCast_nonneg n),fun z=>by exact ff z⟩ e)
 |_=>exact ff e
|fdv=>
  induction a using SV.casesOn with
 |nn c=>obtain⟨i,t,rfl,hi,_⟩:=X;obtain⟨n,u,rfl,e⟩:=iX Y e;obtain⟨⟨e1,e2⟩,e⟩:=eO e;have e1:0<n:=aP e1;have e2:=aP e2;exact floordiv_int (by show(n:Int)≠0;omega) (P.tok I _ (.nn false) ⟨_,_,rfl,Int.fdiv_nonneg hi (Int.natCast_nonneg n),fun z=>by exact ff z⟩ e) (.inl (PyProof.noPylong_small (by show n<_;omega)))
 |_=>exact ff e
|mod=>
  induction a using SV.casesOn with
 |nn c=>obtain⟨i,t,rfl,hi,_⟩:=X;obtain⟨n,u,rfl,e⟩:=iX Y e;exact B2 I hi e P
 |_=>exact ff e
|sub=>obtain⟨i,j,t,u,rfl,rfl,rfl,rfl,e⟩:=hK X Y e;exact PySem.P.sub_int (P.tok I _ (.int _) ⟨_,rfl⟩ e)
|pow=>obtain⟨i,j,t,u,rfl,rfl,rfl,rfl,e⟩:=hK X Y e;exact Ih e fun z tk t e=>P.tok I tk (.int z) ⟨t,rfl⟩ e
|mul=>
  induction a using SV.casesOn with
 |nn c=>
   obtain⟨i,t,rfl,hi,hs⟩:=X;induction b using SV.casesOn with
  |nn d=>obtain⟨j,u,rfl,hj,hs'⟩:=Y;obtain⟨⟨rfl,rfl⟩,e⟩:=eO e;have h1:=hs rfl;have h2:=hs' rfl;exact PySem.P.mul_int (P.tok I _ (.nn false) ⟨_,_,rfl,Int.mul_nonneg hi hj,fun z=>by exact ff z⟩ e) (Ft hj h2)
  |_=>obtain⟨n,u,rfl,e⟩:=iX (f:=fun n=>Nat.ble n 1000000&&k (.nn false) st) Y e;obtain⟨e1,e⟩:=aG e;have e1:=aP e1;exact PySem.P.mul_int (P.tok I _ (.nn false) ⟨_,_,rfl,Int.mul_nonneg hi (Int.natCast_nonneg n),fun z=>by exact ff z⟩ e) (Ft (Int.natCast_nonneg n) (by show(n:Int)<_;omega))
 |int x=>obtain⟨i,j,t,u,q,rfl,rfl,rfl,e⟩:=hK (f:=fun _ y=>decide (y=0)&&k (.int 0) st) X Y e;obtain⟨e1,e⟩:=aG e;obtain rfl:=bD e1;exact PySem.P.mul_int (P.tok I _ (.int 0) ⟨_,by rw[Int.mul_zero]⟩ e) (Ft (Int.le_refl 0) (by decide))
 |tup vs=>induction b using SV.casesOn with
  |int y=>
    rcases y with n|_
    ·obtain⟨l,xs,rfl,ht,rs⟩:=X;obtain⟨u,rfl⟩:=Y;obtain⟨⟨e1,e2⟩,e3⟩:=eO e;refine BV ht (by rw[rs.len];exact aP e1) (aP e2) fun a h' kk ht'=>?_;obtain⟨I2,l2⟩:=I.keepL kk;exact P (.tup _) st R h' s.toks _ (.refl R) l2 I2 ⟨a,_,rfl,ht',(rs.rep n).mono (.refl R) (.of_keep kk)⟩ e3
    ·exact ff e
  |_=>exact ff e
 |_=>exact ff e
end
end
section
theorem nH(base:PySem.Expr)(x:Str)(t:Tok)(r:Value):letTemporaryGo base (.str x t) r=Pure.pure ():=by rcases base with _|_<;>rfl
theorem jC{j n:Nat}(h:j<n):seqIndex? (Int.ofNat j) n=some j:=by
 unfold seqIndex?;have h0:¬(Int.ofNat j<0):=by show ¬((j:Int)<0);(first|lia|omega)
 simp only[h0,if_false];have h1:(decide (0<=Int.ofNat j)&&decide (Int.ofNat j<(n:Int)))=true:=by simp only[Bool.and_eq_true,decide_eq_true_eq,Int.ofNat_eq_natCast];(first|lia|omega)
 rw[h1];rfl
section
variable{E':Value->Shared->Prop}{Q:Value->Shared->Prop}{q:Pos}
theorem pL{β:Type}{l:List β}{i:Nat}{v:β}(h:nth l i=some v):i<l.length:=by rw[bS] at h;exact(List.getElem?_eq_some_iff.mp h).1
theorem uN{vs:List SV}{i:Int}{f:SV->Bool}(e:ET vs i f=true):∃n v,i=.ofNat n/\nth vs n=some v/\n<vs.length/\vs.length<=10000/\f v=true:=by
 rcases i with n|_
 ·refine dO e fun v hv e=>?_;exact⟨n,v,rfl,hv,pL hv,aP (aG e).1,(aG e).2⟩
 ·exact ff e
theorem iT{n m:Nat}(h:n<m)(l:m<=10000):-(2^63)<=Int.ofNat n/\Int.ofNat n<2^63/\0<=Int.ofNat n:=by simp only[Int.ofNat_eq_natCast];(first|lia|omega)
theorem HF{cs:List Nat}{c j:Nat}(h:nth cs j=some c):Txt.item (bB cs) (Int.ofNat j)=bB [c]:=by have q:seqIndex? (Int.ofNat j) (bB cs).length=some j:=jC (n:=cs.length) (pL h);unfold Txt.item Txt.charAt;rw[q];rw[bS] at h;simp[bB,h]
theorem LX{cs:List Nat}{c j:Nat}(o:nP cs=true)(h:nth cs j=some c):nP [c]=true:=by rw[bS] at h;exact List.all_eq_true.mpr fun d hd=>by rw[List.mem_singleton.mp hd];exact aZ o c (List.mem_of_getElem? h)
theorem Ik(I:At w C B oU env R st s.heap){l:Nat}{a:Addr}{es:List (List Nat×SV)}(ha:R.ρ[l]?=some a)(h:st.get C.p l=some (.dct es)\/st.get C.p l=some (.dcf es)):∃kvs,s.heap.DictOf (strKind C.prog w) a kvs/\RK C R s.heap es kvs:=by
 rcases h with h|h
 ·exact I.inv.obj l _ a h ha
 ·refine oEA (I.inv.obj l _ a h ha) fun kvs d r=>?_;exact⟨kvs,d.dictOf,r⟩
theorem IH(I:At w C B oU env R st s.heap){a i:SV}{x y:Value}{value slice:PySem.Expr}(X:RV C R s.heap a x)(Y:RV C R s.heap i y)(e:tH C.p a i st k=true)(P:PV w C B oU env R s.heap s k Q)
  (hs:subscripted slice false x y=operate [x,y] (getItem x y)):wpAny (model C.prog w) A (subscriptTail value slice x y) Q E' s:=by
 induction i using SV.casesOn with
|int i=>
  obtain⟨u,rfl⟩:=Y;induction a using SV.casesOn with
 |tup vs=>obtain⟨t,xs,rfl,ht,rs⟩:=X;obtain⟨n,v,rfl,hv,lt,l,e⟩:=uN e;obtain⟨z,hz,Z⟩:=rs.nth hv;have b:=iT lt l;exact item_tupleT (l:=xs) ht b.1 b.2.1 (by rw[rs.len];exact jC lt) hz (P.same I Z e) hs
 |str cs=>
   obtain⟨o1,t,rfl⟩:=X;rcases i with j|_
   ·obtain⟨c,hc,e⟩:=qH e;have lt:=pL hc;have b:=iT lt (aP (aG e).1);have hl:(bB cs).length=cs.length:=rfl;exact item_str (fitsSsize_of (N:=9223372036854775808) (by(first|lia|omega)) (by(first|lia|omega)) (Int.le_refl _)) (by rw[hl];(first|lia|omega)) (by rw[hl];exact Int.ofNat_lt.mpr lt) (fun _=>by rw[HF hc];exact P.tok I _ (.str [c]) ⟨LX o1 hc,_,rfl⟩ (aG e).2) hs (nH _ _ _)
   ·exact ff e
 |loc l=>obtain⟨a',ha,rfl⟩:=X;refine dL e fun vs hg e=>?_;obtain⟨xs,m,ho,rs⟩:=I.inv.obj l _ a' hg ha;obtain⟨n,v,rfl,hv,lt,l,e⟩:=uN e;obtain⟨z,hz,Z⟩:=rs.nth hv;have b:=iT lt l;have hL:s.heap.IsList a' xs.toArray:=⟨_,ho,rfl,_,rfl⟩;exact tail_any hL.typeIs slot_list_getitem.lookup (wpAny_getItem_list hL b.2.2 b.2.1 (by simpa using hz) (P.same I Z e)) hs
 |_=>exact ff e
|str ks=>
  obtain⟨o1,u,rfl⟩:=Y;induction a using SV.casesOn with
 |loc l=>obtain⟨a',ha,rfl⟩:=X;refine dR e fun es hg e=>?_;obtain⟨kvs,hd,rk⟩:=Ik I ha hg;obtain⟨v,hv,e⟩:=qH e;have f:=rk.find ks;rw[hv] at f;obtain⟨z,hz,Z⟩:=f;exact tail_any hd.mapOf.typeIs slot_dict_getitem.lookup (wpAny_getItem_of (strKind_is C.prog w _ u) hd.mapOf hz (P.tok I _ _ Z e)) hs
 |_=>exact ff e
|_=>exact ff e
end
section
variable{E':Value->Shared->Prop}{Q:Value->Shared->Prop}{q:Pos}
theorem RVs.take{C:Cst}{R:Rn}{h:Heap}:∀{vs:List SV} {xs:List Value} (n:Nat),RVs C R h vs xs->RVs C R h (vs.take n) (xs.take n)
|[],_,n,e=>by rw[show _=[] from e];simp;rfl
|_::_,_,0,_=>by simp;rfl
|_::_,_,n+1,⟨y,ys,e,a,b⟩=>by subst e;exact⟨y,_,rfl,a,b.take n⟩
theorem zN{a:List Nat}(n:Nat)(h:nP a=true):nP (a.take n)=true:=by
 unfold nP at *
 rw[List.all_eq_true] at *
 exact fun c hc=>h c (List.mem_of_mem_take hc)
theorem sW{v:SV}{x:Value}{f:Nat->Bool}(X:RV C R s.heap v x)(e:wC v f=true):∃n t,v=.int (.ofNat n)/\x=.int (.ofNat n) t/\f n=true:=by
 induction v using SV.casesOn with
|int i=>
  rcases i with n|_
  ·(refine oE X fun t u9=>?_;subst u9);exact⟨n,t,rfl,rfl,e⟩
  ·exact ff e
|_=>exact ff e
theorem Ml(I:At w C B oU env R st s.heap){a i:SV}{x y:Value}{value u:PySem.Expr}(X:RV C R s.heap a x)(Y:RV C R s.heap i y)(e:IM C.p a i st k=true)(P:PV w C B oU env R s.heap s k Q) :
  wpAny (model C.prog w) A (subscriptTail value (.Slice none (some u) none q) x (.ref s.heap.objs.size)) Q E' {s with heap:=s.heap.push {cls:=.type "slice",data:=.fields #[.none,y,.none]}}:=by
 refine aY (sW Y e) fun n t u10 u11 e=>?_;subst u10;subst u11;induction a using SV.casesOn with
|str cs=>
  refine qD X fun o1 t' u12=>?_;subst u12;refine mJ e fun e1 e2 e3=>?_;have l2:=aP e2;have ln:(bB cs).length=cs.length:=rfl;have qs:Txt.slice (bB cs) none (some (Int.ofNat n))=bB (cs.take n):=by have:=slice_closes_toL (x:=bB cs) (j:=Int.ofNat n) (by show 0<=(n:Int);(first|lia|omega)) (by rw[ln];show(n:Int)<=(cs.length:Int);(first|lia|omega));rw[eq_of_beq this];unfold bB;simp
  refine tail_of_ItemOn (ops:=[.ref s.heap.objs.size,.str (bB cs) t']) (SBH.sliceItem_ns (P:=fun h=>∀b o,s.heap.get? b=some o->h.get? b=some o) (fun h ob p b o e=>Heap.get?_push_of_some _ (p b o e)) (fun _ _ e=>e) (fun h' t2 k2 kk=>?_) (by rw[ln];exact al__3 (aP e1) (by decide))) rfl (nH _ _ _);rw[qs];refine oA (I.keepL kk) fun I2 le2=>?_;exact P (.str _) st R h' k2 _ (.refl R) le2 I2 ⟨zN n o1,t2,rfl⟩ e3
|loc l=>
  refine oEA X fun a' ha u14=>?_;subst u14;refine dL e fun vs hg e=>?_;refine cX (I.inv.obj l _ a' hg ha) fun xs m ho rs=>?_;have l:=aP (aG e).1;have k1:∀b o,s.heap.get? b=some o->(s.heap.push {cls:=.type "slice",data:=.fields #[.none,.int (.ofNat n) t,.none]}).get? b=some o:=fun _ _ e=>Heap.get?_push_of_some _ e;have hL:(s.heap.push {cls:=.type "slice",data:=.fields #[.none,.int (.ofNat n) t,.none]}).IsList a' xs.toArray:=⟨_,k1 _ _ ho,rfl,_,rfl⟩;have ht:({s with heap:=s.heap.push {cls:=.type "slice",data:=.fields #[.none,.int (.ofNat n) t,.none]}}:Shared).TypeIs (.ref a') "list":=hL.typeIs;refine tail_any (ops:=[.ref s.heap.objs.size,.ref a']) ht list_getitem_lookup (wpAny_getItem_list_slice hL (.new s.heap _ _ _) .none (.int _ _) .none (by simp) ?_ (by simp;rw[rs.len];exact al__3 l (by decide))) rfl;have tk:slicePick xs.toArray none (some (Int.ofNat n)) none=(xs.take n).toArray:=by
   have:=slicePick_upto' xs.toArray n
   simpa using this
  rw[tk];have k3:∀b o,s.heap.get? b=some o->((s.heap.push {cls:=.type "slice",data:=.fields #[.none,.int (.ofNat n) t,.none]}).push {cls:=.type "list",data:=.seq (xs.take n).toArray}).get? b=some o:=fun _ _ e=>Heap.get?_push_of_some _ (Heap.get?_push_of_some _ e);refine P.new I (tk:=s.toks) (aG e).2 k3 (Heap.get?_none_of_le ?_) ⟨_,0,Heap.get?_push_size _ rfl,(rs.take n).mono (g1 _ _) (.of_keep k3)⟩;rw[Heap.size_push];exact Nat.le_succ _
|_=>exact ff e
end
end
section
noncomputable def qF(h:Heap)(L:Addr):List (Addr×Obj):=(List.range h.objs.size).filterMap fun a=>if a=L then none else(h.get? a).map fun o=>(a,o)
theorem mem_allN{h:Heap}{L a:Addr}{o:Obj}:(a,o)∈qF h L↔a≠L/\h.get? a=some o:=by
 unfold qF;rw[List.mem_filterMap];constructor
 ·rintro⟨b,_,e⟩;by_cases q:b=L
  ·rw[if_pos q] at e;exact nf e
  ·rw[if_neg q] at e;refine oEA (Option.map_eq_some_iff.mp e) fun o' ho e=>?_
   (refine oA (Prod.mk.inj e) fun h1 h2=>?_;subst h1;subst h2)
   exact⟨q,ho⟩
 ·rintro⟨n,e⟩;exact⟨a,List.mem_range.mpr (Heap.lt_size e),by rw[if_neg n,e];rfl⟩
theorem nU{β:Type}{l:List (Addr×β)}{a:Addr}{o:β}:(a,o)∈l->(l.map (·.1)).Nodup->∃pre post,l=pre++(a,o)::post/\(∀p∈pre,p.1≠a)/\∀p∈post,p.1≠a:=by
 induction l with
|nil=>exact fun m=>nomatch m
|cons x r ih=>
  intro m n;replace n:=List.nodup_cons.mp n;rcases bN m with e|m'
  ·subst e;exact⟨[],r,rfl,(fun _ h=>nomatch h),fun p hp q=>n.1 (List.mem_map.mpr ⟨p,hp,q⟩)⟩
  ·refine aY (ih m' n.2) fun pre post e h1 h2=>⟨x::pre,post,congrArg (x::·) e,fun p hp q=>?_,h2⟩;rcases bN hp with z|hp
   ·exact n.1 (List.mem_map.mpr ⟨(a,o),m',(q.symm.trans (congrArg (·.1) z))⟩)
   ·exact h1 p hp q
theorem lP(h:Heap)(L:Addr):((qF h L).map (·.1)).Nodup:=by
 have:(qF h L).map (·.1)=(List.range h.objs.size).filter fun a=>a≠L/\(h.get? a).isSome:=by
  unfold qF;generalize List.range h.objs.size=l;induction l with
 |nil=>rfl
 |cons b l ih=>
   simp only[List.filterMap_cons,List.filter_cons];by_cases q:b=L
   ·simp[q] at ih ⊢;exact ih
   ·rcases z:h.get? b with _|o
    ·simp[q,z] at ih ⊢;exact ih
    ·simp[q,z] at ih ⊢;exact ih
 rw[this];exact List.Pairwise.filter _ List.nodup_range
noncomputable def d9:Heap:=⟨#[],{}⟩
theorem Nc{h:Heap}{L:Addr}{m:Str->Option Value}(n:h.Ns L m):Fr d9 L h m:=⟨n,fun b o e=>by simp[d9,Heap.get?] at e,Nat.zero_le _⟩
theorem Dm(h:Heap)(L:Addr):News d9 L h (qF h L):=fun p hp=>by obtain⟨a,o⟩:=p;refine oA (mem_allN.mp hp) fun n e=>?_;exact⟨e,n,by simp[d9,Heap.get?]⟩
section
variable{prog:Program}{E:Value->Shared->Prop}{x C dx L:Addr}{m:Str->Option Value}{es:List DictEntry}{n:Nat}{name:Str}{v:Value}{ox:Obj}
theorem FU{Q:Unit->Shared->Prop}(X:K.In s.heap)(I:InstAt s.heap x ox C (some (dictOf es n)))(hd:ox.dict=some dx)
  (hs:findIn K (.ref C) "__setattr__"=some (some (.builtin "object.__setattr__"))) (hp:plainOver K C=true) (ht:takerIn K C name=some none) (hh:hasDictIn K C=true) (hl:(getL name es).isSome=true) (hns:s.heap.Ns L m) (hL:dx≠L)
  (hz:(putL name (PyData.keyHash w.params name) (.str name (s.toks+1)) v es).length<=1000)
  (h:∀h',h'.Ns L m->(∀b o,b≠dx->b≠L->s.heap.get? b=some o->h'.get? b=some o)->h'.get? dx=some (dictOf (putL name (PyData.keyHash w.params name) (.str name (s.toks+1)) v es) (putN name es n))->Q () {s with heap:=h',toks:=s.toks+2}) :
  wpAny (model prog w) A (setAttr (.ref x) name v) Q E s:=by
 have hdx:s.heap.get? dx=some (dictOf es n):=by have:=I.dict;rw[hd] at this;exact this
 refine aY (nU (mem_allN.mpr ⟨hL,hdx⟩) (lP s.heap L)) fun pre post e h1 h2=>?_;have N:=Dm s.heap L;rw[e] at N;refine set_plain X I hs (osa_dict (s:={s with toks:=s.toks+1}) (Nc hns) N X I hd hp ht hh hl h1 h2 (by rw[putName_dict]) rfl hz fun h' F' N'=>h h' F'.ns (fun b o nb nL q=>?_) (N' (dx,_) (by simp)).1);have hm:(b,o)∈qF s.heap L:=mem_allN.mpr ⟨nL,q⟩;rw[e] at hm;refine(N' (b,o) ?_).1;rcases List.mem_append.mp hm with hm|hm
 ·exact List.mem_append_left _ hm
 ·rcases bN hm with z|hm
  ·cases z;exact absurd rfl nb
  ·exact List.mem_append_right _ (.tail _ hm)
end
end
section
noncomputable def fE(k:Str):List (Str×SV)->Option SV
|[]=>none
|(a,v)::r=>if a=k then some v else fE k r
noncomputable def zS(k:Str)(v:SV):List (Str×SV)->List (Str×SV)
|[]=>[(k,v)]
|(a,b)::r=>if a=k then(a,v)::r else(a,b)::zS k v r
theorem RE.nokey{P:Params}{C:Cst}{R:Rn}{h:Heap}:∀{es:List (Str×SV)} {ds:List DictEntry},RE P C R h es ds->ds.any (·.refKey)=false
|[],_,e=>by rw[show _=[] from e];rfl
|(k,v)::r,_,⟨t,x,ds',e,a,b⟩=>by subst e;rw[List.any_cons,b.nokey];rfl
theorem RE.len{P:Params}{C:Cst}{R:Rn}{h:Heap}{es:List (Str×SV)}:∀{ds:List DictEntry},RE P C R h es ds->ds.length=es.length:=by
 induction es with
|nil=>exact fun e=>congrArg List.length e
|cons p r ih=>exact fun e=>dT e fun t x ds' e _ b=>(congrArg List.length e).trans (congrArg (·+1) (ih b))
theorem iF(k:Str)(t:Tok)(n:Str):(Value.str k t).isStr n=decide (k=n):=by
 simp only[Value.isStr];by_cases q:k=n
 ·subst q;simp
 ·rw[decide_eq_false q];exact beq_eq_false_iff_ne.mpr q
theorem RE.get{P:Params}{C:Cst}{R:Rn}{h:Heap}{es:List (Str×SV)}{ds:List DictEntry}(r:RE P C R h es ds)(k:Str):(∀v,fE k es=some v->∃x,getL k ds=some (some x)/\RV C R h v x)/\(fE k es=none->getL k ds=some none):=by
 have nk:=r.nokey;have find:∀{es:List (Str×SV)} {ds:List DictEntry},RE P C R h es ds->(∀v,fE k es=some v->∃e,ds.find? (·.key.isStr k)=some e/\RV C R h v e.val)/\(fE k es=none->ds.find? (·.key.isStr k)=none):=by
  intro es;induction es with
 |nil=>intro ds r;rw[show ds=[] from r];exact⟨fun v e=>by simp[fE] at e,fun _=>rfl⟩
 |cons p es ih=>
   intro ds r;obtain⟨a,v⟩:=p;refine dT r fun t x ds' u1 hv r'=>?_;subst u1;refine oA (ih r') fun i1 i2=>?_;by_cases q:a=k
   ·subst q;have hf:(({hash:=PyData.keyHash P a,key:=Value.str a t,val:=x}:DictEntry)::ds').find? (·.key.isStr a)=some {hash:=PyData.keyHash P a,key:=Value.str a t,val:=x}:=by rw[List.find?_cons];simp[iF]
    exact⟨fun v' e=>⟨_,hf,by simp[fE] at e;subst e;exact hv⟩,fun e=>by simp[fE] at e⟩
   ·have hf:(({hash:=PyData.keyHash P a,key:=Value.str a t,val:=x}:DictEntry)::ds').find? (·.key.isStr k)=ds'.find? (·.key.isStr k):=by rw[List.find?_cons];simp[iF,q]
    have hq:fE k ((a,v)::es)=fE k es:=by simp[fE,q]
    rw[hf,hq];exact⟨i1,i2⟩
 refine oA (find r) fun f1 f2=>?_;refine⟨fun v e=>?_,fun e=>?_⟩
 ·refine oEA (f1 v e) fun en q X=>?_;exact⟨_,by unfold getL;rw[q],X⟩
 ·unfold getL;rw[f2 e,nk];rfl
theorem RE.put{P:Params}{C:Cst}{R:Rn}{h:Heap}{k:Str}{v:SV}{x:Value}(X:RV C R h v x)(t:Tok){es:List (Str×SV)}:∀{ds:List DictEntry},RE P C R h es ds->RE P C R h (zS k v es) (putL k (PyData.keyHash P k) (.str k t) x ds):=by
 induction es with
|nil=>exact fun e=>by rw[show _=[] from e];exact⟨t,x,[],rfl,X,rfl⟩
|cons p r ih=>
  obtain⟨a,b⟩:=p;intro ds e;refine dT e fun t' y ds' e hb r'=>?_;subst e;simp only[zS,putL,iF];by_cases q:a=k
  ·subst q;simp only[if_true,decide_true];exact⟨t',x,ds',rfl,X,r'⟩
  ·simp only[q,if_false,decide_false,Bool.false_eq_true];exact⟨t',y,_,rfl,hb,ih r'⟩
section
theorem uZ(S:Sta C B K mg mb){a b:Nat}:nm a=nm b↔Nat.beq a b=true:=⟨fun e=>by rw[S.nmi a b e];exact Nat.beq_refl _,fun e=>by rw[aT e]⟩
theorem pA(S:Sta C B K mg mb)(n:Nat):∀(es:List (Nat×SV)),fE (nm n) (es.map fun e=>(nm e.1,e.2))=look n es
|[]=>rfl
|(a,v)::r=>by
  simp only[List.map_cons,fE];rw[pA S n r];show _=match Nat.beq a n with|true=>some v|false=>look n r
  rcases q:Nat.beq a n with _|_
  ·rw[if_neg fun e=>by rw[(uZ S).mp e] at q;cases q]
  ·rw[if_pos ((uZ S).mpr q)]
theorem rG(S:Sta C B K mg mb)(n:Nat)(v:SV):∀(es:List (Nat×SV)),zS (nm n) v (es.map fun e=>(nm e.1,e.2))=(put n v es).map fun e=>(nm e.1,e.2)
|[]=>rfl
|(a,b)::r=>by
  simp only[List.map_cons,zS];show _=List.map _ (match Nat.beq a n with|true=>(a,v)::r|false=>(a,b)::put n v r);rcases q:Nat.beq a n with _|_
  ·have ne:¬nm a=nm n:=fun e=>by rw[(uZ S).mp e] at q;cases q
   rw[if_neg ne,rG S n v r];rfl
  ·rw[if_pos ((uZ S).mpr q)];rfl
theorem vH(n:Nat)(v:SV):∀(es:List (Nat×SV)),(put n v es).length<=es.length+1
|[]=>Nat.le_refl _
|(a,b)::r=>by
  show List.length (match Nat.beq a n with|true=>(a,v)::r|false=>(a,b)::put n v r)<=_;rcases Nat.beq a n
  ·exact Nat.succ_le_succ (vH n v r)
  ·exact Nat.le_succ _
end
theorem uQ{h:Heap}{v:SV}{x:Value}(X:RD h v x):handedIn x=true:=by
 induction v using SV.casesOn with
|non=>subst X;rfl
|bol b=>subst X;rfl
|int i=>(refine oE X fun _ u2=>?_;subst u2);rfl
|str i=>(refine qD X fun _ _ u3=>?_;subst u3);rfl
|byt i=>(refine oE X fun _ u4=>?_;subst u4);rfl
|tup vs=>(refine cX X fun _ _ u5 _=>?_;subst u5);rfl
|_=>exact X.elim
theorem E7{C:Cst}{R:Rn}{h:Heap}{v:SV}{x:Value}(X:RV C R h v x)(hs:v≠.scr):handedIn x=true:=by
 cases v with
|non=>subst X;rfl
|bol b=>subst X;rfl
|int i=>(refine oE X fun _ u6=>?_;subst u6);rfl
|str i=>(refine qD X fun _ _ u7=>?_;subst u7);rfl
|byt i=>(refine oE X fun _ u8=>?_;subst u8);rfl
|glo a=>subst X;rfl
|typ k=>subst X;rfl
|«bif» k=>
  subst X;rcases k with _|_|_|_|k
  ·decide +kernel
  ·decide +kernel
  ·decide +kernel
  ·decide +kernel
  ·show handedIn (.builtin "sorted")=true
   decide +kernel
|loc i=>(refine oEA X fun _ _ u9=>?_;subst u9);rfl
|tup vs=>(refine cX X fun _ _ u10 _=>?_;subst u10);rfl
|lam k cs=>(refine wG X fun _ _ _ _ _ _ _ u11 _=>?_;subst u11);rfl
|dw k=>refine oEA X fun ty _ X=>?_;exact uQ X
|dt k=>refine oEA X fun ty _ X=>?_;exact uQ X
|scr=>exact absurd rfl hs
|ub=>(refine oE X fun _ u12=>?_;subst u12);rfl
|nn=>(refine cX X fun _ _ u13 _=>?_;subst u13);rfl
section
variable{E':Value->Shared->Prop}{Q:Value->Shared->Prop}{q:Pos}
theorem DO(S:Sta C B K mg mb)(I:Inv w C B R st s.heap):K.In s.heap:=S.X.keeps I.stays
structure FldAt(w:World) (C:Cst) (K:Frag) (R:Rn) (st:St) (h:Heap) (n:Nat) (y:Addr) (d:Nat) (es:List (Nat×SV)) (c:Addr) (b:Addr) (ds:List DictEntry) (m:Nat) (attr:Option Value):Prop where
 ga:st.get C.p d=some (.adc es)
 hb:R.ρ[d]?=some b
 ia:InstAt h y ⟨.ref c,some b,.plain,#[]⟩ c (some (dictOf ds m))
 re:RE w.params C R h (es.map fun e=>(nm e.1,e.2)) ds
 hd:hasDictIn K c=true
 pl:plainOver K c=true
 gt:findIn K (.ref c) "__getattribute__"=some (some (.builtin "object.__getattribute__"))
 sa:findIn K (.ref c) "__setattr__"=some (some (.builtin "object.__setattr__"))
 ge:findIn K (.ref c) "__getattr__"=some none
 at_:findIn K (.ref c) (nm n)=some attr
 ng:noGet K attr=true
 tk:takerIn K c (nm n)=some none
theorem sL(S:Sta C B K mg mb)(I:Inv w C B R st s.heap){a:SV}{n:Nat}{f:Nat->List (Nat×SV)->Bool}{x:Value}(X:RV C R s.heap a x)(e:EH C.p a n st f=true) :
  ∃l c y d es b ds m fs attr,a=.loc l/\st.get C.p l=some (.ins c d)/\x=.ref y/\look c C.p.fld=some fs/\fs.any (Nat.beq n)=true/\FldAt w C K R st s.heap n y d es c b ds m attr/\f d es=true:=by
 induction a using SV.casesOn with
|loc l=>
  refine oEA X fun y hy u14=>?_;subst u14;have e:gI C.p st l (fun c d=>bO (look c C.p.fld) fun fs=>fs.any (Nat.beq n)&&gA C.p st d fun es=>f d es)=true:=e;refine dI e fun c d hg e=>?_;refine dO e fun fs hf e=>?_;refine bZ e fun hn e=>?_;refine dA e fun es hd e=>?_;refine oEA (I.obj l _ y hg hy) fun b hb ho=>?_;refine cX (I.obj d _ b hd hb) fun ds m hdo re=>?_;refine oA (GC (S.fl c fs hf)) fun u15 k6=>?_;refine oA u15 fun u16 k5=>?_;refine oA u16 fun u17 k4=>?_;refine oA u17 fun u18 k3=>?_;refine oA u18 fun k1 k2=>?_;refine oEA (List.any_eq_true.mp hn) fun n' hm hn'=>?_;obtain rfl:=aT hn';refine oA (aG (aZ k6 n hm)) fun q1 q2=>?_;rcases ha:findIn K (.ref c) (nm n) with _|attr
  ·rw[ha] at q1;exact ff q1
  ·rw[ha] at q1;exact⟨l,c,y,d,es,b,ds,m,fs,attr,rfl,hg,rfl,hf,hn,⟨hd,hb,⟨ho,rfl,rfl,hdo⟩,re,k1,k2,eq_of_beq k3,eq_of_beq k4,eq_of_beq k5,ha,q1,eq_of_beq q2⟩,e⟩
|_=>exact ff e
theorem Iw(S:Sta C B K mg mb)(I:At w C B oU env R st s.heap){a:SV}{n:Nat}{x:Value}{expr:Bool}(X:RV C R s.heap a x)(e:vX C.p a n st (fun v=>k v st)=true)(P:PV w C B oU env R s.heap s k Q) :
  wpAny (model C.prog w) A (getAttr x (nm n) expr) Q E' s:=by
 obtain⟨l,c,y,d,es,b,ds,m,fs,attr,rfl,hg,rfl,hf,_,F,e⟩:=sL S I.inv X e;obtain⟨v,hv,e⟩:=qH e;obtain⟨z,hz,Z⟩:=(F.re.get (nm n)).1 v (by rw[pA S];exact hv);exact get_value (DO S I.inv) F.ia F.gt (findObj_own F.hd F.at_ F.ng (by rw[lookIn_dict];exact hz)) (E7 Z (fun z=>by rw[z] at e;exact ff e)) (P.tok I _ _ Z (aG e).2)
end
end
section
section
variable{E':Value->Shared->Prop}{Q:Value->Shared->Prop}{q:Pos}
theorem ME(S:Sta C B K mg mb)(hx:eE w C B ih)(c:CxOk C oU env R cx A){e:E}{n:Nat}(o:cN C.p.lams env.scope (.att e n q)=true)(I:At w C B oU env R st s.heap)
  (h:C5 C.p ih cx e n st k ke=true) (P:PV w C B oU env R s.heap s k Q) (PX:PE w C B oU env R s.heap s ke E') :
  wpAny (model C.prog w) A (eval (.Attribute (bC (aN C.p.lams) e) (nm n) q) env) Q E' s:=by
 replace o:=aG o;rw[arm_eval_Attribute,sZ o.1];refine wpAny_bind (hx cx e st _ ke oU env R A s _ E' c o.2 I h (fun v st' R' h' tk' x g l I' X z=>?_) PX);exact wpAny_bind (wpAny_standAt (wpAny_bind (wpAny_holding (Iw (k:=k) S I' X z fun v2 st2 R2 h2 tk2 x2 g2 l2 I2 X2 e2=>wpAny_bind (wpAny_letTemporaryGo (wpAny_pure (P v2 st2 R2 h2 tk2 x2 (g.trans g2) (l.trans l2) I2 X2 e2)))))))
theorem MV(hx:eE w C B ih)(c:CxOk C oU env R cx A){a i:E}(o:cN C.p.lams env.scope (.sub a i q)=true)(I:At w C B oU env R st s.heap)
  (h:Dc C.p ih cx a i st k ke=true) (P:PV w C B oU env R s.heap s k Q) (PX:PE w C B oU env R s.heap s ke E') :
  wpAny (model C.prog w) A (eval (.Subscript (bC (aN C.p.lams) a) (bC (aN C.p.lams) i) q) env) Q E' s:=by
 replace o:=aG o;refine Subscript_ (hx cx a st _ ke oU env R A s _ E' c o.1 I h (fun v st1 R1 h1 tk1 x g l I1 X z=>?_) PX);refine hx cx i st1 _ ke oU env R1 A _ _ E' (c.le g) o.2 I1 z (fun v2 st2 R2 h2 tk2 y g2 l2 I2 Y z2=>?_) (PX.mono g l);exact IH I2 (X.mono g2 l2.kp) Y z2 (P.mono (g.trans g2) (l.trans l2)) (zV (bY o.2) _ _)
theorem MT(hx:eE w C B ih)(c:CxOk C oU env R cx A){a i:E}{q':Pos}(o:cN C.p.lams env.scope (.sli a i q q')=true)(I:At w C B oU env R st s.heap)
  (h:Db C.p ih cx a i st k ke=true) (P:PV w C B oU env R s.heap s k Q) (PX:PE w C B oU env R s.heap s ke E') :
  wpAny (model C.prog w) A (eval (.Subscript (bC (aN C.p.lams) a) (.Slice none (some (bC (aN C.p.lams) i)) none q) q') env) Q E' s:=by
 replace o:=aG o;refine Subscript_ (hx cx a st _ ke oU env R A s _ E' c o.1 I h (fun v st1 R1 h1 tk1 x g l I1 X z=>?_) PX);refine wpAny_Slice ?_;rw[evalPart_none,evalPart_some];refine wpAny_pure ?_;refine hx cx i st1 _ ke oU env R1 A _ _ E' (c.le g) o.2 I1 z (fun v2 st2 R2 h2 tk2 y g2 l2 I2 Y z2=>?_) (PX.mono g l);exact wpAny_pure (Ml I2 (X.mono g2 l2.kp) Y z2 (P.mono (g.trans g2) (l.trans l2)))
theorem MG(hx:eE w C B ih)(c:CxOk C oU env R cx A){b:Bo}{a i:E}(o:cN C.p.lams env.scope (.bin b a i q)=true)(I:At w C B oU env R st s.heap)
  (h:C6 C.p ih cx b a i st k ke=true) (P:PV w C B oU env R s.heap s k Q) (PX:PE w C B oU env R s.heap s ke E') :
  wpAny (model C.prog w) A (eval (.BinOp (bC (aN C.p.lams) a) (F8 b) (bC (aN C.p.lams) i) q) env) Q E' s:=by
 replace o:=aG o;refine wpAny_BinOp (hx cx a st _ ke oU env R A s _ E' c o.1 I h (fun v st1 R1 h1 tk1 x g l I1 X z=>?_) PX);refine hx cx i st1 _ ke oU env R1 A _ _ E' (c.le g) o.2 I1 z (fun v2 st2 R2 h2 tk2 y g2 l2 I2 Y z2=>?_) (PX.mono g l);exact Mc I2 (X.mono g2 l2.kp) Y z2 (P.mono (g.trans g2) (l.trans l2))
theorem OV(hx:eE w C B ih)(c:CxOk C oU env R cx A){a:E}(o:cN C.p.lams env.scope (.nt a q)=true)(I:At w C B oU env R st s.heap)
  (h:G7 ih cx a st k ke=true) (P:PV w C B oU env R s.heap s k Q) (PX:PE w C B oU env R s.heap s ke E') :
  wpAny (model C.prog w) A (eval (.UnaryOp .Not (bC (aN C.p.lams) a) q) env) Q E' s:=by
 refine wpAny_UnaryOp (hx cx a st _ ke oU env R A s _ E' c o I h (fun v st1 R1 h1 tk1 x g l I1 X z=>?_) PX);induction v using SV.casesOn with
|bol b=>subst X;exact not_value (wpAny_truthy_bool (P (.bol _) _ _ _ _ _ g l I1 rfl z))
|_=>exact ff z
theorem MO(hx:eE w C B ih)(ht:wW w C B ih)(c:CxOk C oU env R cx A){t a b:E}(o:cN C.p.lams env.scope (.ife t a b q)=true)(I:At w C B oU env R st s.heap)
  (h:C9 ih cx t a b st k ke=true) (P:PV w C B oU env R s.heap s k Q) (PX:PE w C B oU env R s.heap s ke E') :
  wpAny (model C.prog w) A (eval (.IfExp (bC (aN C.p.lams) t) (bC (aN C.p.lams) a) (bC (aN C.p.lams) b) q) env) Q E' s:=by
 replace o:=eO o;refine wpAny_IfExp (ht cx t st _ ke oU env R A s _ E' c o.1.1 I h (fun r st1 R1 h1 tk1 g l I1 z=>?_) PX);rcases r with _|_
 ·exact hx cx b st1 _ ke oU env R1 A _ _ E' (c.le g) o.2 I1 z (P.mono g l) (PX.mono g l)
 ·exact hx cx a st1 _ ke oU env R1 A _ _ E' (c.le g) o.1.2 I1 z (P.mono g l) (PX.mono g l)
theorem MJ(S:Sta C B K mg mb)(hx:eE w C B ih)(c:CxOk C oU env R cx A)(hun:cx.un<=4010){a:E}{os:List Cm}{es:List E}(o:cN C.p.lams env.scope (.cmp a os es q)=true)(I:At w C B oU env R st s.heap)
  (h:uK C.p ih cx a os es st k ke=true) (P:PV w C B oU env R s.heap s k Q) (PX:PE w C B oU env R s.heap s ke E') :
  wpAny (model C.prog w) A (eval (.Compare (bC (aN C.p.lams) a) (os.map hX) (b_ (aN C.p.lams) es) q) env) Q E' s:=by
 have hu:A.units<=5000:=al__3 c.un (al__3 hun (by decide));replace o:=aG o;rcases os with _|⟨o1,os⟩
 ·exact ff h
 ·rcases es with _|⟨b,es⟩
  ·exact ff h
  ·have ob:=aG o.2;rcases os with _|⟨o2,os⟩
   ·rcases es with _|_
    ·refine wpAny_Compare1 (hx cx a st _ ke oU env R A s _ E' c o.1 I h (fun v st1 R1 h1 tk1 x g l I1 X z=>?_) PX) (vI (bY ob.1) _);refine hx cx b st1 _ ke oU env R1 A _ _ E' (c.le g) ob.1 I1 z (fun v2 st2 R2 h2 tk2 y g2 l2 I2 Y z2=>?_) (PX.mono g l);exact wN S I2.inv hu (X.mono g2 l2.kp) Y z2 fun r tk e=>P (.bol r) _ _ _ _ _ (g.trans g2) (l.trans l2) I2 rfl e
    ·exact ff h
   ·rcases os with _|_
    ·rcases es with _|⟨d,es⟩
     ·exact ff h
     ·rcases es with _|_
      ·have od:=aG ob.2;rw[arm_eval_Compare];refine wpAny_bind (hx cx a st _ ke oU env R A s _ E' c o.1 I h (fun v st1 R1 h1 tk1 x g l I1 X z=>?_) PX);show wpAny _ _ (compareChain q x [hX o1,hX o2] [eval (bC (aN C.p.lams) b) env,markedBehindIn (hX o2) (bC (aN C.p.lams) d) (eval (bC (aN C.p.lams) d) env)]) _ _ _;rw[markedBehindIn_of_false (vI (bY od.1) _)];show wpAny _ _ (do
        let rv <-holding [x] (eval (bC (aN C.p.lams) b) env)
        standAt q
        let c <-holding [x,rv] (compareOp (hX o1) x rv)
        release [x,rv] [c]
        if<-holding [c,rv] (truthy c) then compareChain q rv [hX o2] [eval (bC (aN C.p.lams) d) env] else Pure.pure c) _ _ _
       refine wpAny_bind (wpAny_holding (hx cx b st1 _ ke oU env R1 A _ _ E' (c.le g) ob.1 I1 z (fun v2 st2 R2 h2 tk2 y g2 l2 I2 Y z2=>?_) (PX.mono g l)));refine wpAny_bind (wpAny_standAt (wpAny_bind (wpAny_holding (wN S I2.inv hu (X.mono g2 l2.kp) Y z2 fun r tk z2=>wpAny_bind (wpAny_release (wpAny_bind (wpAny_holding (wpAny_truthy_bool ?_))))))));rcases r with _|_
       ·exact wpAny_pure (P (.bol false) _ _ _ _ _ (g.trans g2) (l.trans l2) I2 rfl z2)
       ·show wpAny _ _ (do
         let rv <-holding [y] (eval (bC (aN C.p.lams) d) env)
         standAt q
         operate [y,rv] (compareOp (hX o2) y rv)) _ _ _
        refine wpAny_bind (wpAny_holding (hx cx d st2 _ ke oU env R2 A _ _ E' (c.le (g.trans g2)) od.1 I2 z2 (fun v3 st3 R3 h3 tk3 u g3 l3 I3 U z3=>?_) (PX.mono (g.trans g2) (l.trans l2))));exact wpAny_bind (wpAny_standAt (wpAny_operating (wN S I3.inv hu (Y.mono g3 l3.kp) U z3 fun r tk e=>P (.bol r) _ _ _ _ _ (g.trans (g2.trans g3)) (l.trans (l2.trans l3)) I3 rfl e)))
      ·exact ff h
    ·exact ff h
theorem Jn(hx:eE w C B ih)(hs:kD w C B ih)(c:CxOk C oU env R cx A){es:List E}{k:List SV->St->Bool}{Q:List Value->Shared->Prop}(o:dU C.p.lams env.scope es=true)(I:At w C B oU env R st s.heap)
  (h:yF ih cx es st k ke=true) (P:PVs w C B oU env R s.heap s es.length k Q) (PX:PE w C B oU env R s.heap s ke E') :
  wpAny (model C.prog w) A (spliced (dH (aN C.p.lams) es env)) Q E' s:=by
 rcases es with _|⟨e,r⟩
 ·exact wpAny_pure (P [] st R s.heap s.toks [] rfl (.refl _) (.refl _ _) I rfl h)
 ·replace o:=aG o;show wpAny _ _ (do
   let v <-eval (bC (aN C.p.lams) e) env
   let here <-(Pure.pure [v]:Sem (List Value))
   return here++(<-holding here (spliced (dH (aN C.p.lams) r env)))) _ _ _
  refine wpAny_bind (hx cx e st _ ke oU env R A s _ E' c o.1 I h (fun v st1 R1 h1 tk1 x g l I1 X z=>?_) PX);refine wpAny_bind (wpAny_pure (wpAny_bind (wpAny_holding ?_)));refine hs cx r st1 _ ke oU env R1 A _ _ E' (c.le g) o.2 I1 z (fun vs st2 R2 h2 tk2 xs ln g2 l2 I2 XS z2=>?_) (PX.mono g l);exact wpAny_pure (P (v::vs) st2 R2 h2 tk2 (x::xs) (congrArg Nat.succ ln) (g.trans g2) (l.trans l2) I2 ⟨x,xs,rfl,X.mono g2 l2.kp,XS⟩ z2)
end
end
section
section
variable{E':Value->Shared->Prop}{Q:Bool->Shared->Prop}{q:Pos}{kb:Bool->St->Bool}
theorem rN{M:Model}{Q:Bool->Shared->Prop}(h:Q false s):wpAny M A (truthy .none) Q E' s:=fun _ _ _=>h
theorem Mn(I:At w C B oU env R st s.heap){v:SV}{x:Value}(X:RV C R s.heap v x)(e:AG v st kb=true)(P:PB w C B oU env R s.heap s kb Q):wpAny (model C.prog w) A (truthy x) Q E' s:=by
 induction v using SV.casesOn with
|bol b=>subst X;exact wpAny_truthy_bool (P _ st R s.heap s.toks (.refl _) (.refl _ _) I e)
|ub=>
  obtain⟨b,rfl⟩:=X;refine wpAny_truthy_bool (P _ st R s.heap s.toks (.refl _) (.refl _ _) I ?_);rcases b with _|_
  ·exact(aG e).2
  ·exact(aG e).1
|non=>subst X;exact rN (P _ st R s.heap s.toks (.refl _) (.refl _ _) I e)
|_=>exact ff e
theorem Jm(S:Sta C B K mg mb)(hx:eE w C B ih)(c:CxOk C oU env R cx A)(hun:cx.un<=4010){a:E}{os:List Cm}{es:List E}(o:cN C.p.lams env.scope (.cmp a os es q)=true)(I:At w C B oU env R st s.heap)
  (h:uK C.p ih cx a os es st (fun v st=>AG v st kb) ke=true) (P:PB w C B oU env R s.heap s kb Q) (PX:PE w C B oU env R s.heap s ke E') {whole:Sem Value} :
  wpAny (model C.prog w) A (isTrue (.Compare (bC (aN C.p.lams) a) (os.map hX) (b_ (aN C.p.lams) es) q) env whole) Q E' s:=by
 have hu:A.units<=5000:=al__3 c.un (al__3 hun (by decide));replace o:=aG o;rcases os with _|⟨o1,os⟩
 ·exact ff h
 ·rcases es with _|⟨b,es⟩
  ·exact ff h
  ·have ob:=aG o.2;rcases os with _|⟨o2,os⟩
   ·rcases es with _|_
    ·refine wpAny_isTrue_Compare1 (hx cx a st _ ke oU env R A s _ E' c o.1 I h (fun v st1 R1 h1 tk1 x g l I1 X z=>?_) PX) (vI (bY ob.1) _);refine hx cx b st1 _ ke oU env R1 A _ _ E' (c.le g) ob.1 I1 z (fun v2 st2 R2 h2 tk2 y g2 l2 I2 Y z2=>?_) (PX.mono g l);exact wN S I2.inv hu (X.mono g2 l2.kp) Y z2 fun r tk e=>wpAny_truthy_bool (P r st2 R2 h2 tk (g.trans g2) (l.trans l2) I2 e)
    ·exact ff h
   ·rcases os with _|_
    ·rcases es with _|⟨d,es⟩
     ·exact ff h
     ·rcases es with _|_
      ·have od:=aG ob.2;rw[arm_isTrue_Compare];refine wpAny_bind (hx cx a st _ ke oU env R A s _ E' c o.1 I h (fun v st1 R1 h1 tk1 x g l I1 X z=>?_) PX);show wpAny _ _ (testChain q x [hX o1,hX o2] [eval (bC (aN C.p.lams) b) env,markedBehindIn (hX o2) (bC (aN C.p.lams) d) (eval (bC (aN C.p.lams) d) env)]) _ _ _;rw[markedBehindIn_of_false (vI (bY od.1) _)];show wpAny _ _ (do
        let rv <-holding [x] (eval (bC (aN C.p.lams) b) env)
        standAt q
        let c <-holding [x,rv] (compareOp (hX o1) x rv)
        release [x,rv] [c]
        if<-holding [c,rv] (truthy c) then testChain q rv [hX o2] [eval (bC (aN C.p.lams) d) env] else Pure.pure false) _ _ _
       refine wpAny_bind (wpAny_holding (hx cx b st1 _ ke oU env R1 A _ _ E' (c.le g) ob.1 I1 z (fun v2 st2 R2 h2 tk2 y g2 l2 I2 Y z2=>?_) (PX.mono g l)));refine wpAny_bind (wpAny_standAt (wpAny_bind (wpAny_holding (wN S I2.inv hu (X.mono g2 l2.kp) Y z2 fun r tk z2=>wpAny_bind (wpAny_release (wpAny_bind (wpAny_holding (wpAny_truthy_bool ?_))))))));rcases r with _|_
       ·exact wpAny_pure (P false st2 R2 h2 tk (g.trans g2) (l.trans l2) I2 z2)
       ·show wpAny _ _ (do
         let rv <-holding [y] (eval (bC (aN C.p.lams) d) env)
         standAt q
         let c <-operate [y,rv] (compareOp (hX o2) y rv)
         holding [c] (truthy c)) _ _ _
        refine wpAny_bind (wpAny_holding (hx cx d st2 _ ke oU env R2 A _ _ E' (c.le (g.trans g2)) od.1 I2 z2 (fun v3 st3 R3 h3 tk3 u g3 l3 I3 U z3=>?_) (PX.mono (g.trans g2) (l.trans l2))));exact wpAny_bind (wpAny_standAt (wpAny_bind (wpAny_operating (wN S I3.inv hu (Y.mono g3 l3.kp) U z3 fun r tk e=>wpAny_holding (wpAny_truthy_bool (P r st3 R3 h3 tk (g.trans (g2.trans g3)) (l.trans (l2.trans l3)) I3 e))))))
      ·exact ff h
    ·exact ff h
theorem MH(ht:wW w C B ih)(c:CxOk C oU env R cx A){b:Bool}{es:List E}(o:cN C.p.lams env.scope (.bop b es q)=true)(I:At w C B oU env R st s.heap)
  (h:DJ ih cx b es q st kb ke=true) (P:PB w C B oU env R s.heap s kb Q) (PX:PE w C B oU env R s.heap s ke E') :
  wpAny (model C.prog w) A (allTrue (if b then .And else .Or) (b_ (aN C.p.lams) es) env) Q E' s:=by
 rcases es with _|⟨x,r⟩
 ·rcases b with _|_
  ·exact wpAny_allTrue_Or_nil (P false st R s.heap s.toks (.refl _) (.refl _ _) I h)
  ·exact wpAny_allTrue_And_nil (P true st R s.heap s.toks (.refl _) (.refl _ _) I h)
 ·have o2:cN C.p.lams env.scope x=true/\dU C.p.lams env.scope r=true:=aG o;rcases b with _|_
  ·refine wpAny_allTrue_Or_cons (ht cx x st _ ke oU env R A s _ E' c o2.1 I h (fun r' st1 R1 h1 tk1 g l I1 z=>?_) PX);rcases r' with _|_
   ·exact ht cx (.bop false r q) st1 _ ke oU env R1 A _ _ E' (c.le g) o2.2 I1 z (P.mono g l) (PX.mono g l)
   ·exact P true st1 R1 h1 tk1 g l I1 z
  ·refine wpAny_allTrue_And_cons (ht cx x st _ ke oU env R A s _ E' c o2.1 I h (fun r' st1 R1 h1 tk1 g l I1 z=>?_) PX);rcases r' with _|_
   ·exact P false st1 R1 h1 tk1 g l I1 z
   ·exact ht cx (.bop true r q) st1 _ ke oU env R1 A _ _ E' (c.le g) o2.2 I1 z (P.mono g l) (PX.mono g l)
theorem NK(S:Sta C B K mg mb)(hx:eE w C B ih)(ht:wW w C B ih)(c:CxOk C oU env R cx A)(hun:cx.un<=4010){e:E}(o:cN C.p.lams env.scope e=true)(I:At w C B oU env R st s.heap)
  (h:F9 C.p ih cx e st kb ke=true) (P:PB w C B oU env R s.heap s kb Q) (PX:PE w C B oU env R s.heap s ke E') :
  wpAny (model C.prog w) A (isTrue (bC (aN C.p.lams) e) env (eval (bC (aN C.p.lams) e) env)) Q E' s:=by
 have gen:∀(h:ih.ex cx e st (fun v st=>AG v st kb) ke=true) (he:isTrue (bC (aN C.p.lams) e) env (eval (bC (aN C.p.lams) e) env)=(do let v <-eval (bC (aN C.p.lams) e) env;standAt (bC (aN C.p.lams) e).pos;holding [v] (truthy v))),
   wpAny (model C.prog w) A (isTrue (bC (aN C.p.lams) e) env (eval (bC (aN C.p.lams) e) env)) Q E' s:=fun h he=>
  wpAny_isTrue_value (hx cx e st _ ke oU env R A s _ E' c o I h (fun v st1 R1 h1 tk1 x g l I1 X z=>Mn I1 X z (P.mono g l)) PX) he
 induction e using E.casesOn with
|nt a q=>exact wpAny_isTrue_Not (ht cx a st _ ke oU env R A s _ E' c o I h (fun b st1 R1 h1 tk1 g l I1 z=>P (!b) st1 R1 h1 tk1 g l I1 z) PX)
|bop b es q=>exact wpAny_isTrue_BoolOp (MH ht c o I h P PX)
|cmp a os es q=>exact Jm S hx c hun o I h P PX
|ife t a b q=>exact ff h
|any e=>exact ff h
|lam j q=>exact ff h
|_=>exact gen h rfl
end
end
section
abbrev hZ(S:List (Str×Value))(p:Str×Value):List (Str×Value):=if(S.lookup p.1).isNone then S++[p] else S
theorem eU{α:Type}{k:Str}{v:α}:∀{l:List (Str×α)},(k,v)∈l->(l.lookup k).isSome=true
|(a,b)::r,m=>by
  rw[List.lookup_cons];split
  ·rfl
  ·rename_i q
   rcases bN m with e|m
   ·(obtain⟨h1,h2⟩:=Prod.mk.inj e;subst h1;subst h2);simp at q
   ·exact eU m
theorem gU{α:Type}{k:Str}:∀{l:List (Str×α)},(∀p∈l,p.1≠k)->l.lookup k=none
|[],_=>rfl
|(a,b)::r,h=>by rw[List.lookup_cons];have:(k==a)=false:=beq_eq_false_iff_ne.mpr fun e=>h (a,b) (.head _) e.symm;rw[this];exact gU fun p hp=>h p (.tail _ hp)
theorem kY:∀(l:List (Str×Value)) (S:List (Str×Value)),(∀p∈l,(S.lookup p.1).isSome=true)->l.foldl hZ S=S
|[],_,_=>rfl
|p::r,S,h=>by
  have h1:=h p (.head _);have:hZ S p=S:=by
   unfold hZ;rcases q:S.lookup p.1 with _|v
   ·rw[q] at h1;exact ff h1
   ·rfl
  rw[List.foldl_cons,this];exact kY r S fun x hx=>h x (.tail _ hx)
theorem mX:∀(l:List (Str×Value)) (S:List (Str×Value)),(l.map (·.1)).Nodup->(∀p∈l,∀x∈S,x.1≠p.1)->l.foldl hZ S=S++l
|[],S,_,_=>by simp
|p::r,S,n,h=>by
  simp only[List.map_cons,List.nodup_cons] at n;have:hZ S p=S++[p]:=by unfold hZ;rw[gU (h p (.head _))];rfl
  rw[List.foldl_cons,this,mX r _ n.2 fun x hx y hy=>?_]
  ·simp
  ·rcases List.mem_append.mp hy with hy|hy
   ·exact h x (.tail _ hx) y hy
   ·rcases List.mem_singleton.mp hy with rfl;intro e;exact n.1 (e▸List.mem_map_of_mem hx)
theorem h_:∀(N:List Str) (ys:List Value) (S:List (Str×Value)),N.Nodup->N.length=ys.length->(∀n∈N,S.lookup n=(N.zip ys).lookup n)->N.filterMap (fun n=>(S.lookup n).map (fun v=>(n,v)))=N.zip ys
|[],_,_,_,_,_=>rfl
|n::N,[],_,_,l,_=>by simp at l
|n::N,y::ys,S,nd,l,h=>by simp only[List.nodup_cons] at nd;have h1:=h n (.head _);simp only[List.zip_cons_cons,List.lookup_cons,beq_self_eq_true] at h1;rw[List.filterMap_cons,h1];simp only[Option.map_some,List.zip_cons_cons,List.cons.injEq,true_and];refine h_ N ys S nd.2 (by simpa using l) fun m hm=>?_;have:=h m (.tail _ hm);simp only[List.zip_cons_cons,List.lookup_cons] at this;have ne:(m==n)=false:=beq_eq_false_iff_ne.mpr fun e=>nd.1 (e▸hm);rw[ne] at this;exact this
theorem qT{l:List (Str×Value)}(f:Str×Value->List (Str×Value)->Sem (ForInStep (List (Str×Value))))(hf:∀p S,f p S=Pure.pure (.yield (hZ S p))):∀(S:List (Str×Value)),forIn l S f=Pure.pure (l.foldl hZ S):=by
 induction l with
|nil=>intro S;rfl
|cons p r ih=>intro S;rw[List.forIn_cons,hf,pure_bind];exact ih _
theorem gW{α:Type}{N:List Str}{xs:List α}{p:Str×α}(h:p∈N.zip xs):p.1∈N:=(List.of_mem_zip h).1
theorem HE{α:Type}{M:Model}{A:Around}{E:Value->Shared->Prop}{s:Shared}{Q:α->Shared->Prop}{c:Prop}{_:Decidable c}{a b:Sem α}(hc:¬c)(h:wpAny M A b Q E s):wpAny M A (if c then a else b) Q E s:=by rw[if_neg hc];exact h
theorem xJ{M:Model}{A:Around}{E:Value->Shared->Prop}{s:Shared}(fd:FuncData)(xs dv:List Value){Q:List (Str×Value)->Shared->Prop}(h1:fd.params.posonlyargs=[])(h2:fd.params.kwonlyargs=[])(h3:fd.params.vararg=none)(h4:fd.params.kwarg=none)
  (hs:wpAny M A (seqItems? fd.defaults) (fun o s'=>s'=s/\(o.getD #[]).toList=dv) E s)
  (l1:xs.length<=fd.params.args.length) (l2:fd.params.args.length<=xs.length+dv.length) (l3:dv.length<=fd.params.args.length)
  (z:(((fd.params.args.map (·.arg)).take (fd.params.args.length-dv.length)).filter (fun n=>(((fd.params.args.map (·.arg)).zip xs).lookup n).isNone)).isEmpty=true)
  (h:Q ((fd.params.args.map (·.arg)).filterMap fun n=>(((((fd.params.args.map (·.arg)).drop (fd.params.args.length-dv.length)).zip dv).foldl hZ ((fd.params.args.map (·.arg)).zip xs)).lookup n).map fun v=>(n,v)) s):wpAny M A (bindArgs fd ⟨xs,[]⟩) Q E s:=by
 obtain⟨nm,ql,⟨po,ar,va,ko,kd,kw,df⟩,bo,sc,gl,cl,dd,kdv,dc,pm,an,cd,ct,bl⟩:=fd;dsimp only at h1 h2 h3 h4 hs l1 l2 l3 z h;subst h1 h2 h3 h4;show wpAny M A (seqItems? dd >>= _) Q E s;refine wpAny_bind (wpAny_mono hs (fun o s' he=>?_) fun _ _ x=>x);obtain⟨rfl,hd⟩:=he;generalize (o.getD #[]).toList=dl at hd ⊢;subst hd;have z0:dl.length-ar.length=0:=Nat.sub_eq_zero_of_le l3;have c1:(decide (xs.length>(List.map (·.arg) ar).length)&&(none:Option Arg).isNone)=false:=by rw[List.length_map,decide_eq_false (Nat.not_lt.mpr l1)];rfl
 refine HE (c:=(decide (xs.length>(List.map (·.arg) ar).length)&&(none:Option Arg).isNone)=true) (by rw[c1];exact Bool.false_ne_true) ?_;have z1:dl.drop (dl.length-(List.map (·.arg) ar).length)=dl:=by rw[List.length_map,z0];rfl
 refine HE (c:=(!((((List.map (·.arg) ar).take ((List.map (·.arg) ar).length-(dl.drop (dl.length-(List.map (·.arg) ar).length)).length)).filter fun n=>(((List.map (·.arg) ar).zip xs).lookup n).isNone)).isEmpty)=true) (by rw[z1,List.length_map,z];exact Bool.false_ne_true) ?_;refine wpAny_bind (wpAny_of_eq (qT (l:=((List.map (·.arg) ar).drop ((List.map (·.arg) ar).length-(dl.drop (dl.length-(List.map (·.arg) ar).length)).length)).zip (dl.drop (dl.length-(List.map (·.arg) ar).length))) _ (fun p S=>by obtain⟨a,b⟩:=p;by_cases q:(S.lookup a).isNone=true<;>(show(if(S.lookup a).isNone=true then _ else _)=Pure.pure (ForInStep.yield (if(S.lookup a).isNone=true then _ else _)))<;>first|rw[if_pos q,if_pos q]|rw[if_neg q,if_neg q]) ((List.map (·.arg) ar).zip xs)) ?_);rw[z1,List.length_map];refine wpAny_pure ?_;show Q (List.filterMap _ (List.map (·.arg) ar++[])) s';rw[List.append_nil];exact h
theorem rM{N:List Str}{xs:List Value}(l1:xs.length<=N.length):∀n∈N.take xs.length,((N.zip xs).lookup n).isSome=true:=fun n hn=>by
  obtain⟨i,hi,e⟩:=List.mem_iff_getElem.mp hn;have hi':i<(N.zip xs).length:=by simp at hi ⊢;(first|lia|omega)
  have:(N.zip xs)[i]∈N.zip xs:=List.getElem_mem hi';rw[List.getElem_zip] at this;have e':N[i]'(by simp at hi;(first|lia|omega))=n:=by rw[<-e];simp
  rw[e'] at this;exact eU this
theorem B3{N:List Str}{xs dv:List Value}(l1:xs.length<=N.length)(l2:N.length<=xs.length+dv.length):(N.take (N.length-dv.length)).filter (fun n=>((N.zip xs).lookup n).isNone)=[]:=by
 rw[List.filter_eq_nil_iff];intro n hn;have:n∈N.take xs.length:=by
  have le:N.length-dv.length<=xs.length:=by(first|lia|omega)
  exact(List.take_subset_take_left N le) hn
 have:=rM l1 n this;rcases q:(N.zip xs).lookup n with _|v
 ·rw[q] at this;exact ff this
 ·simp
theorem Bn{N:List Str}{xs dv:List Value}(hN:N.Nodup)(l1:xs.length<=N.length)(l2:N.length<=xs.length+dv.length)(l3:dv.length<=N.length):((N.drop (N.length-dv.length)).zip dv).foldl hZ (N.zip xs)=N.zip (xs++dv.drop (xs.length-(N.length-dv.length))):=by
  have e1:(N.drop (N.length-dv.length)).zip dv=((N.drop (N.length-dv.length)).take (xs.length-(N.length-dv.length))).zip (dv.take (xs.length-(N.length-dv.length)))++(N.drop xs.length).zip (dv.drop (xs.length-(N.length-dv.length))):=by
   have:=List.zip_append (l₁:=(N.drop (N.length-dv.length)).take (xs.length-(N.length-dv.length))) (r₁:=(N.drop (N.length-dv.length)).drop (xs.length-(N.length-dv.length)))
    (l₂:=dv.take (xs.length-(N.length-dv.length))) (r₂:=dv.drop (xs.length-(N.length-dv.length))) (by simp;(first|lia|omega))
   rw[List.take_append_drop,List.take_append_drop,List.drop_drop] at this;rw[this,show N.length-dv.length+(xs.length-(N.length-dv.length))=xs.length by(first|lia|omega)]
  have e0:N.zip xs=(N.take xs.length).zip xs:=by
   have:=List.zip_append (l₁:=N.take xs.length) (r₁:=N.drop xs.length) (l₂:=xs) (r₂:=[]) (by simp;(first|lia|omega));rw[List.take_append_drop,List.append_nil] at this
   simpa using this
  have e2:N.zip (xs++dv.drop (xs.length-(N.length-dv.length)))=N.zip xs++(N.drop xs.length).zip (dv.drop (xs.length-(N.length-dv.length))):=by have:=List.zip_append (l₁:=N.take xs.length) (r₁:=N.drop xs.length) (l₂:=xs) (r₂:=dv.drop (xs.length-(N.length-dv.length))) (by simp;(first|lia|omega));rw[List.take_append_drop] at this;rw[this];rw[e0]
  have sub:∀p∈((N.drop (N.length-dv.length)).take (xs.length-(N.length-dv.length))).zip (dv.take (xs.length-(N.length-dv.length))),((N.zip xs).lookup p.1).isSome=true:=fun p hp=>by have:=gW hp;rw[<-List.drop_take] at this;exact rM l1 _ (List.mem_of_mem_drop this)
  have nd:(((N.drop xs.length).zip (dv.drop (xs.length-(N.length-dv.length)))).map (·.1)).Nodup:=by rw[List.map_fst_zip (by simp;(first|lia|omega))];exact hN.sublist (List.drop_sublist _ _)
  have dj:∀p∈(N.drop xs.length).zip (dv.drop (xs.length-(N.length-dv.length))),∀x∈N.zip xs,x.1≠p.1:=fun p hp x hx e=>by rw[e0] at hx;have a:=gW hx;have b:=gW hp;have n:=hN;rw[<-List.take_append_drop xs.length N,List.nodup_append] at n;exact n.2.2 _ a _ b e
  rw[e1,List.foldl_append,kY _ _ sub,mX _ _ nd dj,e2]
theorem iB{M:Model}{A:Around}{E:Value->Shared->Prop}{s:Shared}(fd:FuncData)(xs dv:List Value){Q:List (Str×Value)->Shared->Prop}(h1:fd.params.posonlyargs=[])(h2:fd.params.kwonlyargs=[])(h3:fd.params.vararg=none)(h4:fd.params.kwarg=none)
  (hdv:(dv=[]/\fd.defaults=.none)\/∃T o n,fd.defaults=.ref T/\s.heap.get? T=some o/\o.data=.seq dv.toArray n)
  (hN:(fd.params.args.map (·.arg)).Nodup) (l1:xs.length<=fd.params.args.length) (l2:fd.params.args.length<=xs.length+dv.length) (l3:dv.length<=fd.params.args.length)
  (h:Q ((fd.params.args.map (·.arg)).zip (xs++dv.drop (xs.length-(fd.params.args.length-dv.length)))) s):wpAny M A (bindArgs fd ⟨xs,[]⟩) Q E s:=by
 have hs:wpAny M A (seqItems? fd.defaults) (fun o s'=>s'=s/\(o.getD #[]).toList=dv) E s:=by
  rcases hdv with⟨e1,e2⟩|⟨T,o,n,e,ho,hd⟩
  ·rw[e2,e1];exact wpAny_of_eq (a:=none) rfl ⟨rfl,rfl⟩
  ·rw[e];exact wpAny_seqItems ho hd ⟨rfl,by simp⟩
 have hl:fd.params.args.length=(fd.params.args.map (·.arg)).length:=(List.length_map ..).symm;refine xJ fd xs dv h1 h2 h3 h4 hs l1 l2 l3 (by rw[hl] at l1 l2 ⊢;rw[B3 l1 l2];rfl) ?_;rw[hl] at l1 l2 l3 h ⊢;rw[Bn hN l1 l2 l3,h_ _ _ _ hN (by rw[List.length_append,List.length_drop];(first|lia|omega)) fun _ _=>rfl];exact h
end
section
section
variable{prog:Program}{E:Value->Shared->Prop}{R:Result->Shared->Prop}{h:Heap}{g:Array GenState}{d:Drawn}{t:Nat}{os:OsState}
variable{C:Addr}{xo:XO}
theorem oZ(x:ExIn xo C){rest:List Value}{Q:Unit->Shared->Prop}{M:Model}(hC:h.get? C=some (CP xo C))
  (hq:Q () ⟨h,g,d,t,os⟩):wpAny M A (checkBuiltinCall "Exception.__new__" ⟨.ref C::rest,[]⟩) Q E ⟨h,g,d,t,os⟩:=by
 have hcont:=x.i1;have hstar:=PySem.F.excBase_Exception.noStar;simp only[checkBuiltinCall,PySem.F.excBase_Exception.newKind,PySem.F.excBase_Exception.newSplit,PySem.F.excBase_Exception.newRow]
 repeat (first|refine wpAny_loadPart_at hC ?_|(refine wpAny_isSubtype_exc hC ?_;rw[hcont])|refine wpAny_staticBase_exc hC ?_|refine wpAny_madeBy_exc hC ?_|simp only[bne_self_eq_false,Bool.false_eq_true,if_false]|wp_step)
 exact hq
theorem EA(x:ExIn xo C){rest:List Value}(hC:h.get? C=some (CP xo C))
  (hq:R (.ok (.ret (.ref (h.objs.size+1)))) ⟨(h.push {cls:=.type "tuple",data:=.seq rest.toArray}).push
   {cls:=.ref C,data:=.fields #[.ref h.objs.size,.none,.none,.none,.bool false,.none]},g,d,t,os⟩) (hrest:rest.length<=sizeLine) :
  codeAny (model prog w) A (.builtin "Exception.__new__" ⟨.ref C::rest,[]⟩) R ⟨h,g,d,t,os⟩:=by
 have hcB:=x.i1;have hcA:=x.i3;have hcN:=x.i4;have hends:=PySem.F.excBase_Exception.ends;refine codeAny_builtinAt PySem.F.excBase_Exception.entry ?_;unfold Builtin.«BaseException.__new__»;refine PySem.wpAt_bind ?_;show PySem.wpAt _ _ _ (stack >>= _) _ _ _;refine PySem.wpAt_bind (PySem.wpAt_stack fun p below=>PySem.wpAt_of_wpAny ?_)
 wp_walk
 refine PySem.wpAt_of_wpAny ?_;rw[PySem.F.excBase_Exception.owner]
 repeat (first|with_reducible refine wpAny_madeHere_exc PySem.F.excBase_Exception.canon hC ?_|with_reducible refine wpAny_loadPart_at hC ?_|(with_reducible refine wpAny_isSubtype_exc hC ?_;first|rw[hcB]|rw[hcA]|rw[hcN])|wp_step)
 show R _ _;rw[Heap.size_push];exact hq
theorem o_{K:Frag}(X:K.In h)(x:ExIn xo C){rest:List Value}{fI:Addr}{oI:Obj}{Q:Fin->Shared->Prop}
  (hC:h.get? C=some (CP xo C)) (hi:findIn K (.ref C) "__init__"=some (some (.ref fI)))
  (hfI:h.get? fI=some oI) (hfc:oI.cls=.type "function")
  (hq:∀h' e,Heap.MadeExcOf h h' e (.ref C) rest->
   wpAny (model prog w) A (call (.ref fI) (.ref e::rest)) (fun r s'=>r=.none/\Q (.done (.ret (.ref e))) s') E ⟨h',g,d,t,os⟩) (hrest:rest.length<=sizeLine) :
  wpAny (model prog w) A (Builtin.«type.__call__» ⟨.ref C::rest,[]⟩) Q E ⟨h,g,d,t,os⟩:=by
 repeat (first|with_reducible refine wpAny_loadPart_at hC ?_|with_reducible refine wpAny_madeBy_exc hC ?_|wp_step)
 refine codeAny_call_builtin_code (Code.quiet_builtin _ PySem.F.excBase_Exception.quiet) (oZ x hC ?_);refine EA x hC ?_ hrest;show wpAny _ _ _ _ _ _;have kk:∀b o,h.get? b=some o->((h.push {cls:=.type "tuple",data:=.seq rest.toArray}).push {cls:=.ref C,data:=.fields #[.ref h.objs.size,.none,.none,.none,.bool false,.none]}).get? b=some o:=
  fun b o e=>Heap.get?_push_of_some _ (Heap.get?_push_of_some _ e)
 have hC₁:=kk _ _ hC;have hget:((h.push {cls:=.type "tuple",data:=.seq rest.toArray}).push
   {cls:=.ref C,data:=.fields #[.ref h.objs.size,.none,.none,.none,.bool false,.none]}).get? (h.objs.size+1)=some
   {cls:=.ref C,data:=.fields #[.ref h.objs.size,.none,.none,.none,.bool false,.none]}:=by heap_get
 have hcC:=x.i5;unfold isInstance
 repeat (first|with_reducible refine wpAny_loadPart_at hget ?_|(with_reducible refine wpAny_isSubtype_exc hC₁ ?_;rw[hcC])|wp_step)
 show wpAny _ _ (typeLookup (.ref C) _) _ _ _;refine looks_findIn X hi _ _ _ _ kk ?_;refine wpAny_holding (wpAny_bind ?_);unfold bindSpecial;refine wpAny_bind (wpAny_typeOf (T:="function") ⟨_,kk _ _ hfI,hfc⟩ ?_);rw[if_pos (by decide)];refine wpAny_pure (wpAny_bind (wpAny_mono (hq _ (h.objs.size+1) ⟨kk,Heap.get?_none_of_le (Nat.le_succ _),h.objs.size,hget,Heap.get?_none_of_le (Nat.le_refl _),?_⟩) (fun r s' hr=>?_) fun _ _ x=>x))
 ·exact Heap.get?_push_of_some _ (Heap.get?_push_at rfl rfl)
 ·refine oA hr fun u1 hQ=>?_;subst u1
  wp_walk
  exact hQ
theorem Bh{K:Frag}(X:K.In h)(x:ExIn xo C){rest:List Value}{fI:Addr}{oI:Obj}{Q:Value->Shared->Prop}
  (hC:h.get? C=some (CP xo C)) (hi:findIn K (.ref C) "__init__"=some (some (.ref fI)))
  (hfI:h.get? fI=some oI) (hfc:oI.cls=.type "function")
  (hq:∀h' e,Heap.MadeExcOf h h' e (.ref C) rest->
   wpAny (model prog w) (A.under (.builtin "type.__call__" ⟨.ref C::rest,[]⟩)) (call (.ref fI) (.ref e::rest)) (fun r s'=>r=.none/\Q (.ref e) s') E ⟨h',g,d,t,os⟩) (hrest:rest.length<=sizeLine) :
  wpAny (model prog w) A (call (.ref C) rest) Q E ⟨h,g,d,t,os⟩:=by
 have f1:=tc_lookup;have f2:=tc_bind (.ref C);have hT:(⟨h,g,d,t,os⟩:Shared).TypeIs (.ref C) "type":=⟨_,hC,rfl⟩;refine wpAny_call (codeAny_of_tree ?_);show wpAny _ _ (callAny (.ref C) _) _ _ _
 repeat (any_goals (first|assumption|with_reducible refine wpAny_loadPart_at hC ?_|wp_step))
 refine⟨rfl,?_⟩;refine codeAny_call_builtin_at (Code.quiet_builtin _ (by decide +kernel)) entry_typeCall (wpAny_check_type_call_sub hC (o_ X x hC hi hfI hfc (fun h' e hm=>?_) hrest));exact hq h' e hm
theorem yC{s:Shared}{xv:Sem Value}{env:Env}{Q:Flow->Shared->Prop}(x:ExIn xo C)(hh:A.handled=none)
  (hx:wpAny (model prog w) A xv (fun v s₁=>∃e oe vs,v=.ref e/\s₁.heap.get? C=some (CP xo C)/\
   s₁.heap.get? e=some oe/\oe.cls=.ref C/\oe.data=.fields vs/\vs[1]?=some .none/\E (.ref e) s₁) E s) :
  wpAny (model prog w) A (raiseStmt env (some xv) none) Q E s:=by
 have hcB:=x.i2;unfold raiseStmt;refine wpAny_bind (wpAny_mono hx (fun v s₁ h₁=>?_) fun _ _ x=>x);refine s9 h₁ fun e oe vs u2 hC he hcl hd h1 hE=>?_;subst u2;obtain⟨hp,g,d,tk,os⟩:=s₁;obtain⟨oc,odi,oda,osl⟩:=oe;dsimp only at hcl hd;subst hcl hd
 repeat (first|with_reducible refine wpAny_loadPart_at he ?_|with_reducible refine wpAny_loadPart_at hC ?_|(with_reducible refine wpAny_isSubtype_exc hC ?_;rw[hcB])|wp_step)
 rw[h1];refine wpAny_bind (wpAny_pure ?_);refine nd_pure ?_;rw[if_neg (by decide)];refine wpAny_pure ?_;exact wpAny_raiseNew_none hh hE
end
end
section
theorem BK:typeLookup (.type "list") "keys"=pure none:=am_miss_of_fast (by kernel_rfl)
section
variable{prog:Program}{E:Value->Shared->Prop}{a:Addr}{xs:Array Value}{k:Nat}
theorem pD{Q:Option Value->Shared->Prop}(hx:s.heap.get? a=some {cls:=.type "list",dict:=none,data:=.seq xs k,slots:=#[]})(hA:A.handled=none)
  (h:∀h' tk,(∀b o,s.heap.get? b=some o->h'.get? b=some o)->Q none {s with heap:=h',toks:=tk}):wpAny (model prog w) A (getAttr? (.ref a) "keys") Q E s:=by
 obtain⟨hp,g,d,tk,os⟩:=s;have hT:∀tk',(⟨hp,g,d,tk',os⟩:Shared).TypeIs (.ref a) "list":=fun _=>⟨_,hx,rfl⟩;have f1:=sub_AttributeError;have f3:=F.slot_list_getattribute.lookup;have f4:=F.slot_list_getattribute.bind (.ref a);have f5:=am_list_getattr_none;unfold getAttr? getAttrBy? getAttrBy
 repeat (any_goals (first|assumption|exact hT _|((with_reducible show wpAny _ _ (call (Value.builtin "list.__getattribute__") _ _) _ _ _);refine call_meets F.slot_list_getattribute (hT _) am_entry_list_getattribute (F.args_list_getattribute_2 _ _) (meets_getattribute_miss_list a xs k #[] "keys" _ BK (by decide) (by decide)) ⟨hx,hA,fun h' tk' e hx'=>?_⟩)|wp_step))
 refine H9 (hx'.there) fun t' u' he=>?_;show wpAny _ _ (getattributeRaised _ _ _ _ _ _ _) _ _ _;unfold getattributeRaised
 repeat (any_goals (first|assumption|wp_step))
 exact h _ _ hx'.keeps
end
theorem qO:entryFor table "dict.update.loop"=some Builtin.«dict.update.loop»:=entryFor_of_tree (by kernel_rfl)
theorem qP:plainId "dict.update.loop"=true:=by decide +kernel
noncomputable def PA(d it:Addr)(h:Heap):List Value->List (Str×Value)->Prop
|[],ps=>ps=[]
|v::r,ps=>∃a t k x ps',ps=(k,x)::ps'/\v=.ref a/\IsTup h a #[.str k t,x]/\a≠d/\a≠it/\PA d it h r ps'
theorem PA.to{d it d' it':Addr}{h h':Heap}(kk:∀b o,b≠d->b≠it->h.get? b=some o->h'.get? b=some o/\b≠d'/\b≠it'){vs:List Value}:∀{ps:List (Str×Value)},PA d it h vs ps->PA d' it' h' vs ps:=by
 induction vs with
|nil=>exact fun e=>e
|cons v r ih=>exact fun e=>j8 e fun a t k x ps' e e2 u n1 n2 p=>oEA u fun o ho u=>s8 (kk _ _ n1 n2 ho) fun h1 h2 h3=>⟨a,t,k,x,ps',e,e2,⟨o,h1,u⟩,h2,h3,ih p⟩
theorem PA.keeps{d it:Addr}{h h':Heap}(kk:∀b o,b≠d->b≠it->h.get? b=some o->h'.get? b=some o){vs:List Value}{ps:List (Str×Value)}(e:PA d it h vs ps):PA d it h' vs ps:=e.to fun b o n m g=>⟨kk b o n m g,n,m⟩
section
variable{prog:Program}{E:Value->Shared->Prop}{d it l:Addr}{items:Array Value}
theorem tB(hh:A.handled=none)(hdi:d≠it)(hli:l≠it)(hld:l≠d){rest:List Value}:∀{ps:List (Str×Value)} {i:Nat} {s:Shared} {kvs:List (Str×Value)} {Q:Shared->Prop},items.toList.drop i=rest->PA d it s.heap rest ps->s.heap.IsListIter it l i->s.heap.IsList l items->s.heap.DictOf (PySem.strKind prog w) d kvs->
  kvs.length+rest.length<=1000->(∀h' tk,h'.DictOf (PySem.strKind prog w) d (ps.foldl (fun a p=>stored a p.1 p.2) kvs)->(∀b o,b≠d->b≠it->s.heap.get? b=some o->h'.get? b=some o)->Q {s with heap:=h',toks:=tk})->
  codeAny (model prog w) A (.builtin "dict.update.loop" ⟨[.ref d,.ref it,rawInt i,.none],[]⟩) (fun r s'=>r=.ok (.ret .none)/\Q s') s:=by
 induction rest with
|nil=>
  intro ps i s kvs Q hr pa hit hl hd hn h;refine codeAny_builtin qO ?_;unfold Builtin.«dict.update.loop»;refine wpAny_bind (wpAny_pyNext_list_end hh hit hl ?_ fun h' he=>?_)
  ·rw[<-Array.getElem?_toList];exact List.getElem?_eq_none (List.drop_eq_nil_iff.mp hr)
  ·rw[pa] at h;exact wpAny_bind (wpAny_pure (wpAny_pure ⟨rfl,h h' s.toks (hd.at fun o e=>he d o hdi e) fun b o _ n e=>he b o n e⟩))
|cons v rest ih=>
  intro ps i s kvs Q hr pa hit hl hd hn h;refine j8 pa fun a t k x ps' e e2 u n1 n2 p=>?_;refine vC u fun o ho hc m hdt=>?_;subst e e2;refine codeAny_builtin qO ?_;unfold Builtin.«dict.update.loop»;refine wpAny_bind (wpAny_pyNext_list_item hit hl (x:=.ref a) ?_ fun h1 hit1 sb1=>?_)
  ·rw[<-Array.getElem?_toList,<-List.head?_drop,hr];rfl
  refine wpAny_bind (wpAny_holding (wpAny_bind (wpAny_tryCatch ?_)));unfold Builtin.Dict.pairItems;have ho1:h1.get? a=some o:=(sb1.2 a n2).trans ho;refine wpAny_bind (wpAny_typeOf (T:="tuple") ⟨o,ho1,hc⟩ ?_);rw[if_pos (by decide)];refine wpAny_bind (wpAny_seqItems ho1 hdt (wpAny_pure ?_));show wpAny _ _ (holding _ (dictSet d (.str k t) x)) _ _ _;refine wpAny_holding (wpAny_dictSet_pairs (hsz:=al__3 (al__3 (Nat.le_add_right _ _) hn) (show 1000<=sizeLine by decide)) (knd:=PySem.strKind prog w) (k:=k) (strKind_is prog w k t) (hd.at fun o e=>(sb1.2 d hdi).trans e) fun h2 hm sb2=>?_);refine wpAny_pure ⟨plainId_quiet qP _,?_⟩;have kk:∀b o,b≠d->b≠it->s.heap.get? b=some o->h2.get? b=some o:=fun b o nd ni e=>(sb2.2 b nd).trans ((sb1.2 b ni).trans e);exact ih (s:={s with heap:=h2,toks:=s.toks+1}) (by rw[<-List.tail_drop,hr];rfl) (p.keeps kk) (oEA hit1 fun o' q r=>⟨o',(sb2.2 it hdi.symm).trans q,r⟩) (oEA hl fun o' q r=>⟨o',kk l o' hld hli q,r⟩) hm (al__3 (cK (stored_length_le kvs k x) _) (al__3 (Nat.le_of_eq (Nat.add_right_comm _ _ _)) hn)) fun h' tk hd' kk'=>h h' tk hd' fun b o nd ni e=>kk' b o nd ni (kk b o nd ni e)
theorem lC{K:Nat}{ps:List (Str×Value)}{s:Shared}{Q:Value->Shared->Prop}(hh:A.handled=none)(hl:s.heap.get? l=some {cls:=.type "list",dict:=none,data:=.seq items K,slots:=#[]})(hn:items.size<=1000)(pa:∀d it h,(∀a,s.heap.get? a≠none->a≠d/\a≠it)->(∀b o,b≠d->b≠it->s.heap.get? b=some o->h.get? b=some o)->PA d it h items.toList ps)
  (h:∀h' tk,h'.DictOf (PySem.strKind prog w) s.heap.objs.size (ps.foldl (fun a p=>stored a p.1 p.2) [])->(∀b o,s.heap.get? b=some o->h'.get? b=some o)->Q (.ref s.heap.objs.size) {s with heap:=h',toks:=tk}) :
  wpAny (model prog w) A (call (.type "dict") [.ref l]) Q E s:=by
 refine callType_codes (Q₁:=fun obj s₁=>obj=.ref s.heap.objs.size/\s₁={s with heap:=s.heap.push {cls:=.type "dict",data:=.dict #[]}}) F.kt_called_dict (F.kt_typeCall_dict_1 _) F.entry_dict_init (kt_code_dict_new _ ⟨rfl,rfl⟩) ?_;rintro obj s₁ ⟨rfl,rfl⟩;have hnew:(s.heap.push {cls:=.type "dict",data:=.dict #[]}).DictOf (PySem.strKind prog w) s.heap.objs.size []:=Heap.DictOf.new s.heap;have kk0:∀b o,s.heap.get? b=some o->(s.heap.push {cls:=.type "dict",data:=.dict #[]}).get? b=some o:=fun b o e=>Heap.get?_push_of_some _ e;have hld:l≠s.heap.objs.size:=Nat.ne_of_lt (Heap.lt_size hl);refine⟨hnew.typeIs,F.args_dict_init_2 _ _,?_⟩;unfold Builtin.«dict.__init__»;refine wpAny_bind ?_;unfold Builtin.Dict.selfAndRest;refine wpAny_bind (wpAny_notOrdered_dict hnew.typeIs ?_);show wpAny _ _ (pure (s.heap.objs.size,[Value.ref l])) _ _ _;refine wpAny_pure ?_;show wpAny _ _ (Builtin.Dict.updateFrom "dict.__init__" s.heap.objs.size (.ref l) [] .none) _ _ _;unfold Builtin.Dict.updateFrom;refine wpAny_bind (wpAny_typeOf (T:="list") ⟨_,kk0 _ _ hl,rfl⟩ ?_);rw[if_pos (by decide)];refine wpAny_bind (pD (kk0 _ _ hl) hh fun h1 tk1 kk1=>?_);refine wpAny_bind (wpAny_rule ?_);have hl1:h1.IsList l items:=⟨_,kk1 _ _ (kk0 _ _ hl),rfl,_,rfl⟩;refine wpAny_bind (wpAny_pyIter_list hl1 ?_);refine wpAny_pure ⟨plainId_quiet qP _,?_⟩;have kk2:∀o:Obj,∀b o',s.heap.get? b=some o'->(h1.push o).get? b=some o':=fun o b o' e=>Heap.get?_push_of_some _ (kk1 _ _ (kk0 _ _ e));have lt1:s.heap.objs.size<h1.objs.size:=by refine c_ hnew fun o _ _ q _=>?_;exact Heap.lt_size (kk1 _ _ q)
 have none_:∀a,s.heap.get? a≠none->a≠s.heap.objs.size/\a≠h1.objs.size:=fun a ne=>by have:a<s.heap.objs.size:=Nat.lt_of_not_le fun q=>ne (Heap.get?_none_of_le q);exact⟨Nat.ne_of_lt this,Nat.ne_of_lt (Nat.lt_trans this lt1)⟩
 refine codeAny_mono (tB (A:=A.in1) (s:=⟨h1.push {cls:=.type "list_iterator",data:=.fields #[.ref l,.int 0 0]},s.gens,s.drawn,tk1,s.os⟩) hh (Nat.ne_of_lt lt1) (Nat.ne_of_lt (Nat.lt_trans (Heap.lt_size hl) lt1)) hld (rest:=items.toList) (ps:=ps) (i:=0) (kvs:=[]) (Q:=fun s'=>Q (.ref s.heap.objs.size) s') rfl (pa _ _ _ none_ fun b o _ _ e=>kk2 _ b o e) ⟨_,Heap.get?_push_size _ rfl,rfl,rfl⟩ ⟨_,kk2 _ _ _ hl,rfl,_,rfl⟩
  (hnew.at fun o e=>Heap.get?_push_of_some _ (kk1 _ _ e)) (by simpa using hn) fun h' tk hd' kk'=>h h' tk hd' fun b o e=>by refine oA (none_ b (by rw[e];exact fun z=>by cases z)) fun q1 q2=>?_;exact kk' b o q1 q2 (kk2 _ b o e)) fun r s' hr=>?_
 refine oA hr fun u1 hq=>?_;subst u1;exact⟨rfl,hq⟩
end
end
section
section
variable{R R':Rn}{st st':St}{h h':Heap}
theorem mE{h h':Heap}(x:h.UpToSlots h'){b:Addr}{o:Obj}(e:h.get? b=some o){es:Array DictEntry}{n:Nat}(d:o.data=.dict es n):∃sl,h'.get? b=some {o with slots:=sl}:=x b o e fun vs z=>by rw[d] at z;cases z
noncomputable def Oe(C:Cst)(R:Rn)(fs:List Env):List Addr:=R.ρ++(fs.filterMap (·.frame)++C.tq.map (·.1))
def up(C:Cst)(R:Rn)(fs:List Env)(h:Heap):Heap:=hideAll h (Oe C R fs)
theorem mD{fs:List Env}{b:Addr}{o:Obj}(e:h.get? b=some o)(n1:∀i:Nat,R.ρ[i]?≠some b)(n2:∀x∈fs,x.frame≠some b)(n3:∀q∈C.tq,q.1≠b):(up C R fs h).get? b=some o:=by
 refine hideAll_get _ e fun hm=>?_;rcases List.mem_append.mp hm with hm|hm
 ·refine oE (List.getElem?_of_mem hm) fun i hi=>?_;exact n1 i hi
 ·rcases List.mem_append.mp hm with hm|hm
  ·refine oEA (List.mem_filterMap.mp hm) fun x hx e2=>?_;exact n2 x hx e2
  ·refine oEA (List.mem_map.mp hm) fun q hq e2=>?_;exact n3 q hq e2
theorem oJ{fs:List Env}:(up C R fs h).StaysIn h:=fun _ _ e=>of_hideAll _ e
theorem tM{fs:List Env}{i:Nat}{a:Addr}(e:R.ρ[i]?=some a):(up C R fs h).get? a=none:=hideAll_none _ (List.mem_append_left _ (List.mem_of_getElem? e))
theorem fV{fs:List Env}{x:Env}{L:Addr}(hx:x∈fs)(e:x.frame=some L):(up C R fs h).get? L=none:=hideAll_none _ (List.mem_append_right _ (List.mem_append_left _ (List.mem_filterMap.mpr ⟨x,hx,e⟩)))
theorem tN{fs:List Env}{q:Addr×Str}(hq:q∈C.tq):(up C R fs h).get? q.1=none:=hideAll_none _ (List.mem_append_right _ (List.mem_append_right _ (List.mem_map_of_mem hq)))
theorem b9{B B':Heap}(k:B.StaysIn B'){a:Addr}(e:B'.get? a=none):B.get? a=none:=by
 rcases z:B.get? a with _|o
 ·rfl
 ·have:=k a o z;rw[e] at this;exact nf this
theorem Inv.low{B':Heap}(k:B.StaysIn B')(I:Inv w C B' R st h):Inv w C B R st h where
 stays:=fun b o e=>I.stays b o (k b o e)
 len:=I.len
 olen:=I.olen
 dlen:=I.dlen
 dD:=I.dD
 da:=I.da
 inj:=I.inj
 new:=fun i a e=>⟨b9 k (I.new i a e).1,(I.new i a e).2⟩
 obj:=I.obj
 tab:=fun q hq=>⟨b9 k (I.tab q hq).1,(I.tab q hq).2⟩
 tabA:=I.tabA
theorem Inv.up(I:Inv w C B R st h)(fs:List Env):Inv w C (Mine.up C R fs h) R st h where
 stays:=oJ
 len:=I.len
 olen:=I.olen
 dlen:=I.dlen
 dD:=I.dD
 da:=I.da
 inj:=I.inj
 new:=fun i a e=>⟨tM e,(I.new i a e).2⟩
 obj:=I.obj
 tab:=fun q hq=>⟨tN hq,(I.tab q hq).2⟩
 tabA:=I.tabA
theorem At.not_tab(I:At w C B oU env R st h):∀q∈C.tq,q.1≠env.locals:=fun q hq z=>by refine cZ (I.inv.tab q hq) fun _ ps e _=>?_;refine c_ (I.ns) fun o' es n y d=>?_;rw[z,y] at e;obtain rfl:=aF e;cases d
theorem At.mem_fs(I:At w C B oU env R st h){x:Env}(hx:x∈cI env oU):(x=env/\env.frame=some env.locals)\/(x∈oU/\OutOk B R h env.locals x):=by
 unfold cI at hx;split at hx
 ·rename_i hf
  rcases bN hx with e|hx
  ·exact .inl ⟨e,hf⟩
  ·exact .inr ⟨hx,I.out x hx⟩
 ·exact .inr ⟨hx,I.out x hx⟩
theorem At.fs_frame(I:At w C B oU env R st h){x:Env}(hx:x∈cI env oU){b:Addr}(hb:x.frame=some b):B.get? b=none/\(∀i:Nat,R.ρ[i]?≠some b)/\∃o es n,h.get? b=some o/\o.data=.dict es n:=by
 rcases I.mem_fs hx with⟨rfl,hf⟩|⟨_,hk,L,o,es,n,a1,b1,c,d,f,g1⟩
 ·rw[hf] at hb;obtain rfl:=aF hb;exact⟨I.lB,I.lA,I.ns⟩
 ·rw[a1] at hb;obtain rfl:=aF hb;exact⟨d,f,o,es,n,b1,c⟩
theorem At.low_up(I:At w C B oU env R st h):B.StaysIn (Mine.up C R (cI env oU) h):=fun b o e=>by
 have no:∀{c:Addr},B.get? c=none->c≠b:=fun e2 z=>by subst z;rw[e2] at e;exact nf e
 exact mD (I.inv.stays b o e) (fun i z=>no (I.inv.new i b z).1 rfl) (fun x hx z=>no (I.fs_frame hx z).1 rfl) fun q hq=>no (I.inv.tab q hq).1
theorem Inv.base'{B':Heap}(I:Inv w C B R st h)(k:B'.StaysIn h)(k1:∀(i:Nat) a,R.ρ[i]?=some a->B'.get? a=none)(k2:∀q∈C.tq,B'.get? q.1=none):Inv w C B' R st h where
 stays:=k
 len:=I.len
 olen:=I.olen
 dlen:=I.dlen
 dD:=I.dD
 da:=I.da
 inj:=I.inj
 new:=fun i a e=>⟨k1 i a e,(I.new i a e).2⟩
 obj:=I.obj
 tab:=fun q hq=>⟨k2 q hq,(I.tab q hq).2⟩
 tabA:=I.tabA
theorem At.inC{R0:Rn}{st0:St}{h0:Heap}{env':Env}{fr:List (Nat×SV)}(I0:At w C B oU env R0 st0 h0)(I:At w C B oU env R st h)(g:∀(i:Nat) a,R.ρ[i]?=some a->R0.ρ[i]?=some a\/h0.get? a=none)(k:∀b o,h0.get? b=some o->h.get? b=some o)
  (hk:env.scope.kind=.function) (kk:∀b o,h.get? b=some o->h'.get? b=some o) (fresh:h.get? env'.locals=none) (fro:FrOk C R h' env'.locals fr) :
  At w C (Mine.up C R0 (cI env oU) h0) (cI env oU) env' R {st with fr:=fr} h':=by
 have hst:(Mine.up C R0 (cI env oU) h0).StaysIn h:=fun b o e=>k b o (oJ b o e);refine⟨((I.inv.base' hst (fun i a e=>(g i a e).elim tM fun e=>b9 oJ e) fun q hq=>tN hq).keep kk).wf _,fro,b9 hst fresh,fun i e=>?_,fun e he=>?_⟩
 ·refine cZ (I.inv.new i _ e) fun _ o q _=>?_;rw[fresh] at q;exact nf q
 ·have hne:e.frame≠some env'.locals:=fun z=>by refine pO (I.fs_frame he z) fun _ _ o _ _ h1 _=>?_;rw[fresh] at h1;exact nf h1
  rcases I.mem_fs he with⟨rfl,hf⟩|⟨_,hk,L,o,es,n,a1,b,cc,d,f,_⟩
  ·refine c_ (I.ns) fun of esf nf hof hdf=>?_;exact⟨by rw[hk];decide,_,of,esf,nf,hf,kk _ _ hof,hdf,fV he hf,I.lA,fun z=>hne (z▸hf)⟩
  ·exact⟨hk,L,o,es,n,a1,kk _ _ b,cc,fV he a1,f,fun z=>hne (z▸a1)⟩
theorem At.enter{env':Env}{fr:List (Nat×SV)}(I:At w C B oU env R st h)(hk:env.scope.kind=.function)(kk:∀b o,h.get? b=some o->h'.get? b=some o)(eL:env'.locals=h.objs.size)(fro:FrOk C R h' env'.locals fr) :
  At w C (Mine.up C R (cI env oU) h) (cI env oU) env' R {st with fr:=fr} h':=
 I.inC I (fun _ _ e=>.inl e) (fun _ _ e=>e) hk kk (by rw[eL];exact Heap.get?_none_of_le (Nat.le_refl _)) fro
theorem At.back{env':Env}{s0:Heap}{R0:Rn}{st0:St}(I0:At w C B oU env R0 st0 s0)(g:R0.le R')(I:At w C (Mine.up C R0 (cI env oU) s0) (cI env oU) env' R' st' h')(l:Le (cI env oU) s0 h') :
  At w C B oU env R' {st' with fr:=st0.fr} h'/\Le oU s0 h':=by
 have low:=I0.low_up;have sub:∀e∈oU,e∈cI env oU:=fun e he=>by
  unfold cI;split
  ·exact .tail _ he
  ·exact he
 have l':Le oU s0 h':=⟨l.kp,fun e he=>l.kf e (sub e he)⟩;have mine:(∀o,s0.get? env.locals=some o->∃sl,h'.get? env.locals=some {o with slots:=sl})/\∀i:Nat,R'.ρ[i]?≠some env.locals:=by
  by_cases hf:env.frame=some env.locals
  ·have hm:env∈cI env oU:=by rw[c9 hf];exact .head _
   refine bR (I.out env hm) fun hk L o es n a1 b c d f g1=>?_;rw[hf] at a1;obtain rfl:=aF a1;exact⟨fun o e=>l.kf env hm _ o hf e,f⟩
  ·refine c_ (I0.ns) fun o es n ho hd=>?_;have hu:(Mine.up C R0 (cI env oU) s0).get? env.locals=some o:=mD ho I0.lA (fun x hx z=>by rw[qW hf] at hx;refine bR (I0.out x hx) fun _ L _ _ _ a1 _ _ _ _ g1=>?_;rw[a1] at z;obtain rfl:=aF z;exact g1 rfl) I0.not_tab;refine⟨fun o' e=>?_,fun i z=>?_⟩
   ·rw[ho] at e;obtain rfl:=aF e;exact⟨_,I.inv.stays _ _ hu⟩
   ·rw[(I.inv.new i _ z).1] at hu;exact nf hu
 refine⟨⟨(I.inv.low low).wf _,I0.frm.mono g l.kp mine.1,I0.lB,mine.2,fun e he=>?_⟩,l'⟩;refine bR (I.out e (sub e he)) fun hk L o es n a1 b c d f g1=>?_;refine bR (I0.out e he) fun _ L2 _ _ _ a2 _ _ d2 _ g2=>?_;rw[a1] at a2;obtain rfl:=aF a2;exact⟨hk,L,o,es,n,a1,b,c,d2,f,g2⟩
theorem nG(I:At w C B oU env R st h)(hf:env.frame=some env.locals):Kept C B R h (hideAll h ((env::oU).filterMap (·.frame))):=by
 have mem:∀b,b∈(env::oU).filterMap (·.frame)->B.get? b=none/\(∀i:Nat,R.ρ[i]?≠some b)/\∃o es n,h.get? b=some o/\o.data=.dict es n:=fun b hb=>by
  refine oEA (List.mem_filterMap.mp hb) fun e he hb2=>?_;rcases bN he with rfl|he
  ·rw[hf] at hb2;obtain rfl:=aF hb2;exact⟨I.lB,I.lA,I.ns⟩
  ·refine bR (I.out e he) fun hk L o es n a1 b c d f g1=>?_;rw[a1] at hb2;obtain rfl:=aF hb2;exact⟨d,f,o,es,n,b,c⟩
 exact{
  sub:=fun b o e=>of_hideAll _ e
  low:=fun b o e=>hideAll_get _ (I.inv.stays b o e) fun hm=>by rw[(mem b hm).1] at e;exact nf e
  loc:=fun i a e=>by refine cZ (I.inv.new i a e) fun _ o ho _=>?_;rw[ho];exact hideAll_get _ ho fun hm=>(mem a hm).2.1 i e
  imm:=fun b o e m=>hideAll_get _ e fun hm=>by refine c_ ((mem b hm).2.2) fun o' es n q d=>?_;rw[e] at q;obtain rfl:=aF q;exact bL d m
  tab:=fun q hq=>by refine cZ (I.inv.tab q hq) fun _ ps e _=>?_;rw[e];exact hideAll_get _ e fun hm=>by refine c_ ((mem _ hm).2.2) fun o' es n q d=>?_;rw[e] at q;obtain rfl:=aF q;cases d}
end
section
variable{B B':Heap}{env env':Env}{h₁ h:Heap}{E:Value->Shared->Prop}{fs:List Env}
theorem Kept.low_of{base:Heap}(k:B.StaysIn B')(x:Kept C B' R h base):Kept C B R h base:=
 ⟨x.sub,fun b o e=>x.low b o (k b o e),x.loc,x.imm,x.tab⟩
theorem Exc.low_of{c:Nat}{e:Addr}{h':Heap}(k:B.StaysIn B')(x:Exc C B' fs R c e h h'):Exc C B fs R c e h h':=by
 rcases x with x|⟨base,a0,Kb,X,U⟩|⟨base,a0,env,oU,L,hf,Kb,hL,X,U⟩
 ·exact .inl x
 ·exact .inr (.inl ⟨base,a0,Kb.low_of k,X,U⟩)
 ·exact .inr (.inr ⟨base,a0,env,oU,L,hf,Kb.low_of k,hL,X,U⟩)
theorem iE(I:At w C B oU env R st h₁)(hf:env.frame=some env.locals)(hk:env.scope.kind=.function):∀(l:List Env),(∀e∈l,e∈env::oU)->h₁.FunFrames (hideAll h₁ ((env::oU).filterMap (·.frame))) l
|[],_=>trivial
|x::l,hm=>by
  have hx:=hm x (.head _);refine⟨?_,?_,iE I hf hk l fun e he=>hm e (.tail _ he)⟩
  ·rcases bN hx with rfl|hx
   ·rw[hk];decide
   ·exact(I.out x hx).1
  ·rcases bN hx with rfl|hx'
   ·refine c_ (I.ns) fun o es n q d=>?_;exact⟨_,o,hf,hideAll_none _ (List.mem_filterMap.mpr ⟨x,.head _,hf⟩),q,fun vs z=>by rw[d] at z;cases z⟩
   ·refine hO (I.out x hx') fun _ L o es n a1 b d _=>?_;exact⟨L,o,a1,hideAll_none _ (List.mem_filterMap.mpr ⟨x,hx,a1⟩),b,fun vs z=>by rw[d] at z;cases z⟩
theorem Exc.leave{c:Nat}{e:Addr}{Q:Unit->Shared->Prop}(I:At w C B oU env R st h₁)(hf:env.frame=some env.locals)(hk:env.scope.kind=.function)(hA:A.frames=some (env::oU))(X:Exc C B (env::oU) R c e h₁ s.heap)
  (hQ:∀h',Exc C B oU R c e h₁ h'->Q () {s with heap:=h'}):wpAny (model C.prog w) A (leaving env (.ref e)) Q E s:=by
 rcases X with⟨kk,en,oe,vs,a0,he,hcls,hd,h0,h1⟩|⟨base,a0,Kb,X,U⟩|⟨base,a0,env2,oU2,L,hfs,Kb,hL,X,U⟩
 ·have Kb:=nG I hf;have hl:=iE I hf hk _ fun _ h=>h;have fresh:∀b,h₁.get? b=none->(hideAll h₁ ((env::oU).filterMap (·.frame))).get? b=none:=fun b hb=>by
   cases hq:(hideAll h₁ ((env::oU).filterMap (·.frame))).get? b with
  |none=>rfl
  |some o'=>have:=Kb.sub b o' hq;rw[hb] at this;exact nf this
  refine wpAny_leaving_firstW hA (hl.of_keeps fun b o hb _=>⟨o,kk b o hb,rfl⟩) hf he (fun b o hb=>kk b o (Kb.sub b o hb)) (fresh e en) hd h1 h0 fun h' hL=>?_;refine pN hL fun k1 u1 k3 k4=>?_;refine s8 u1 fun _ _ k2=>?_;rw[hcls] at k3;exact hQ h' (.inr (.inl ⟨_,_,Kb,⟨k1,fresh e en,k2,k3⟩,(Heap.UpToSlots.of_keeps kk).trans k4⟩))
 ·exact wpAny_leaves_onW hA hf X fun h' x1 x2=>hQ h' (.inr (.inl ⟨base,a0,Kb,x1,U.trans x2⟩))
 ·cases hfs;unfold leaving;refine wpAny_bind (wpAny_noteFrame_againW hL X.2.2.2 (wpAny_landsW X fun h' hfl u=>?_));refine pN hfl fun k1 k2 u2 k4=>?_;refine s8 u2 fun _ _ k3=>?_;exact hQ h' (.inr (.inl ⟨base,a0,Kb,⟨k1,k2,k3,k4⟩,U.trans u⟩))
end
end
section
theorem vY{k:Str->Option NameKind}{z:Str}(binds:List (Str×Value)):∀(m:Str->Option Value),(∀p∈binds,p.1≠z)->bindL k binds m z=m z:=by
 induction binds with
|nil=>exact fun _ _=>rfl
|cons x r ih=>
  obtain⟨n,v⟩:=x;intro m h;refine(ih _ fun p hp=>h p (.tail _ hp)).trans ?_;by_cases q:k n=some .local
  ·rw[if_pos q];show(if z=n then _ else _)=_;rw[if_neg fun e=>h (n,v) (.head _) e.symm]
  ·rw[if_neg q]
theorem mY{k:Str->Option NameKind}{z:Str}(binds:List (Str×Value)):∀(m:Str->Option Value),(∀p∈binds,p.1≠z)->bindC k binds m z=m z:=by
 induction binds with
|nil=>exact fun _ _=>rfl
|cons x r ih=>
  obtain⟨n,v⟩:=x;intro m h;refine(ih _ fun p hp=>h p (.tail _ hp)).trans ?_;by_cases q:k n=some .local
  ·rw[if_pos q]
  ·rw[if_neg q];show(if z=n then _ else _)=_;rw[if_neg fun e=>h (n,v) (.head _) e.symm]
theorem xH{k:Str->Option NameKind}(binds:List (Str×Value)):∀(m:Str->Option Value),(binds.map (·.1)).Nodup->∀p∈binds,k p.1=some .local->bindL k binds m p.1=some p.2:=by
 induction binds with
|nil=>exact fun _ _ _ h=>nomatch h
|cons x r ih=>
  obtain⟨n,v⟩:=x;intro m nd p h hk;replace nd:=List.nodup_cons.mp nd;show bindL k r _ p.1=_;rcases bN h with e|h
  ·subst e;rw[vY r _ fun q hq e=>nd.1 (List.mem_map.mpr ⟨q,hq,e⟩),if_pos hk];exact if_pos rfl
  ·exact ih _ nd.2 p h hk
theorem xG{k:Str->Option NameKind}(binds:List (Str×Value)):∀(m:Str->Option Value),(binds.map (·.1)).Nodup->∀p∈binds,k p.1≠some .local->bindC k binds m p.1=some p.2:=by
 induction binds with
|nil=>exact fun _ _ _ h=>nomatch h
|cons x r ih=>
  obtain⟨n,v⟩:=x;intro m nd p h hk;replace nd:=List.nodup_cons.mp nd;show bindC k r _ p.1=_;rcases bN h with e|h
  ·subst e;rw[mY r _ fun q hq e=>nd.1 (List.mem_map.mpr ⟨q,hq,e⟩),if_neg hk];exact if_pos rfl
  ·exact ih _ nd.2 p h hk
def RB(C:Cst)(R:Rn)(h:Heap):List (Nat×SV)->List (Str×Value)->Prop
|[],b=>b=[]
|(n,v)::r,b=>∃y b',b=(nm n,y)::b'/\RV C R h v y/\RB C R h r b'
theorem RB.mem{C:Cst}{R:Rn}{h:Heap}{bs:List (Nat×SV)}:∀{b:List (Str×Value)},RB C R h bs b->∀n v,(n,v)∈bs->∃y,(nm n,y)∈b/\RV C R h v y:=by
 induction bs with
|nil=>exact fun _ _ _ m=>nomatch m
|cons z r ih=>
  intro b e n v m;refine aY e fun y b' e X q=>?_;subst e;rcases bN m with z|m
  ·subst z;exact⟨y,.head _,X⟩
  ·exact oEA (ih q n v m) fun y' h1 h2=>⟨y',.tail _ h1,h2⟩
theorem RB.names{C:Cst}{R:Rn}{h:Heap}{bs:List (Nat×SV)}:∀{b:List (Str×Value)},RB C R h bs b->b.map (·.1)=bs.map fun x=>nm x.1:=by
 induction bs with
|nil=>exact fun e=>congrArg (List.map (·.1)) e
|cons z r ih=>exact fun e=>aY e fun y b' e _ q=>by rw[e,List.map_cons,List.map_cons,ih q]
theorem RVs.drop{C:Cst}{R:Rn}{h:Heap}(n:Nat):∀{vs:List SV} {xs:List Value},RVs C R h vs xs->RVs C R h (vs.drop n) (xs.drop n):=by
 induction n with
|zero=>exact fun e=>e
|succ n ih=>
  intro vs xs e;rcases vs with _|⟨v,vs⟩
  ·rw[show _=[] from e];exact rfl
  ·exact aY e fun y ys e _ b=>e▸ih b
theorem kZ{d:List SV}{bs:List (Nat×SV)}{ps:List (Nat×Pos)}:∀{acc:List (Nat×SV)},gG ps [] d acc=some bs->ps.length<=d.length/\bs=acc++(ps.map (·.1)).zip (d.drop (d.length-ps.length)):=by
 induction ps with
|nil=>exact fun e=>⟨Nat.zero_le _,(aF e).symm.trans (List.append_nil _).symm⟩
|cons n ns ih=>
  intro acc e;replace e:(match Nat.blt ns.length d.length with|true=>(nth d (d.length-1-ns.length)).bind fun v=>gG ns [] d (acc++[(n.1,v)])|false=>none)=some bs:=e;rcases q:Nat.blt ns.length d.length
  ·rw[q] at e;exact nf e
  ·rw[q] at e;have l:=aP q;refine bI e fun v hv e=>oA (ih e) fun _ e2=>⟨l,?_⟩;rw[bS,Nat.sub_sub,Nat.add_comm] at hv;refine(List.getElem?_eq_some_iff.mp hv).elim fun h1 h2=>?_;rw[List.length_cons,List.drop_eq_getElem_cons h1,h2,show d.length-(ns.length+1)+1=d.length-ns.length from Nat.succ_pred_eq_of_pos (Nat.sub_pos_of_lt l)];exact e2.trans (List.append_assoc _ _ _)
theorem qI{d:List SV}{bs:List (Nat×SV)}{ps:List (Nat×Pos)}:∀{as:List SV} {acc:List (Nat×SV)},gG ps as d acc=some bs->
  as.length<=ps.length/\ps.length<=as.length+d.length/\bs=acc++(ps.map (·.1)).zip (as++d.drop (d.length-(ps.length-as.length))):=by
 induction ps with
|nil=>
  intro as acc e;rcases as with _|_
  ·exact oA (kZ e) fun l q=>⟨Nat.zero_le _,Nat.zero_le _,q⟩
  ·exact nf e
|cons n ns ih=>
  intro as acc e;rcases as with _|⟨a,r⟩
  ·exact oA (kZ e) fun l q=>⟨Nat.zero_le _,(Nat.zero_add d.length).symm▸l,q⟩
  ·refine s8 (ih (as:=r) e) fun l1 l2 q=>⟨Nat.succ_le_succ l1,?_,?_⟩
   ·rw[List.length_cons,List.length_cons,Nat.add_right_comm];exact Nat.succ_le_succ l2
   ·rw[List.length_cons,List.length_cons,Nat.add_sub_add_right];exact q.trans (List.append_assoc _ _ _)
theorem w6{C:Cst}{R:Rn}{h:Heap}(ps:List (Nat×Pos)):∀{vs:List SV} {xs:List Value},RVs C R h vs xs->RB C R h ((ps.map (·.1)).zip vs) ((ps.map fun x=>nm x.1).zip xs):=by
 induction ps with
|nil=>exact fun _=>rfl
|cons p ps ih=>
  intro vs xs e;rcases vs with _|⟨v,vs⟩
  ·rw[show _=[] from e];exact rfl
  ·exact aY e fun y ys e a b=>e▸⟨y,_,rfl,a,ih b⟩
end
section
structure CaOk(oU:List Env) (env:Env) (A:Around) (dp un:Nat):Prop where
 kind:env.scope.kind=.function
 stk:A.frames=some (cI env oU)
 dep:A.depth<=dp+400
 un:A.units<=un
 hd:A.handled=none
theorem CxOk.ca{C:Cst}{oU:List Env}{env:Env}{R:Rn}{cx:Cx}{A:Around}(c:CxOk C oU env R cx A):CaOk oU env A cx.dp cx.un:=⟨c.kind,c.stk,c.dep,c.un,c.hd⟩
def Kpr(M:Model)(h:Heap)(x:Value):Prop:=∃k,(k=Keeper.frame\/k=Keeper.machine\/k=Keeper.boundFrame)/\Looks M h (keeperOf x) k
def j1(w:World)(C:Cst)(B:Heap)(F:Ev):Prop:=∀(dp un:Nat) (f:SV) (as:List SV) (st:St) (k:Kv) (ke:Ke) (oU:List Env) (env:Env) (R:Rn) (A:Around) (s:Shared) (Q:Value->Shared->Prop) (E':Value->Shared->Prop) (x:Value) (xs:List Value),
 CaOk oU env A dp un->At w C B oU env R st s.heap->RV C R s.heap f x->RVs C R s.heap as xs->F.call dp un f as st k ke=true->PV w C B oU env R s.heap s k Q->PE w C B oU env R s.heap s ke E'->
 Kpr (model C.prog w) s.heap x/\wpAny (model C.prog w) A (call x xs) Q E' s
theorem wB{w:World}{C:Cst}{B:Heap}{K:Frag}{mg mb:Str->Option Value}{oU:List Env}{env:Env}{h0 h:Heap}{bs:List (Nat×SV)}{cm:Str->Option Value}(S:Sta C B K mg mb)(hs:∀b o,B.get? b=some o->h0.get? b=some o)
  (hcell:∀n c,env.cells.lookup n=some c->h.IsCell c (cm n)) (hnew:∀n c,env.cells.lookup n=some c->h0.get? c=none/\env.locals<c) (hinj:∀n n' c,env.cells.lookup n=some c->env.cells.lookup n'=some c->n=n')
  (hf0:∀e∈oU,∀a,e.frame=some a->∃o,h0.get? a=some o) (ht0:∀q∈C.tq,∃o,h0.get? q.1=some o) {k:List (Nat×Nat)->St->Bool} {cs:List Nat} :
  ∀{st:St} {R:Rn} {cl:List (Nat×Nat)},(∀c∈cs,∃a,env.cells.lookup (nm c)=some a)->(cs.map nm).Nodup->
   (∀c∈cs,∀(i:Nat) (b:Addr),R.ρ[i]?=some b->env.cells.lookup (nm c)≠some b)->(∀n i,look n cl=some i->∃a,R.ρ[i]?=some a/\env.cells.lookup (nm n)=some a)->
   At w C B oU env R st h->(∀c∈cs,match look c bs with
   |some v=>∃y,cm (nm c)=some y/\RV C R h v y
   |none=>cm (nm c)=none)->iV C.p cs bs st cl k=true->
   ∃cl' st' R',R.le R'/\k cl' st'=true/\At w C B oU env R' st' h/\st'.fr=st.fr/\∀n i,look n cl'=some i->∃a,R'.ρ[i]?=some a/\env.cells.lookup (nm n)=some a:=by
 induction cs with
|nil=>exact fun _ _ _ hcl I _ e=>⟨_,_,_,.refl _,e,I,rfl,hcl⟩
|cons c r ih=>
  intro st R cl hc nd na hcl I hv e;refine oE (hc c (.head _)) fun a ha=>?_;replace nd:=List.nodup_cons.mp nd;have fresh:=hnew _ _ ha;have hB:B.get? a=none:=by
   rcases q:B.get? a with _|o
   ·rfl
   ·have:=hs a o q;rw[fresh.1] at this;exact nf this
  refine kM e fun st2 e2 f1 f2 f3 f4 f5=>?_;have g:R.le ⟨R.ρ++[a],R.δ⟩:=⟨⟨_,rfl⟩,[],(List.append_nil _).symm⟩;have hcv:=hv c (.head _);have ro:RO w C ⟨R.ρ++[a],R.δ⟩ h a (.cel (look c bs)):=by
   have ic:=hcell _ _ ha;rcases q:look c bs with _|v
   ·rw[q] at hcv;rw[show cm (nm c)=none from hcv] at ic;exact ic
   ·rw[q] at hcv;refine oEA hcv fun y h1 h2=>?_;rw[h1] at ic;exact⟨y,ic,h2.mono g (.refl h)⟩
  have none_of:∀b,(∃o,h0.get? b=some o)->b≠a:=fun b ⟨o,ho⟩ z=>by rw[z,fresh.1] at ho;exact nf ho
  have I2:=(I.add (st':=st2) (fun _ _ e=>e) ⟨hB,fun i q=>na c (.head _) i a q ha,fun q hq=>none_of _ (ht0 q hq),Nat.ne_of_gt fresh.2,fun e he z=>none_of a (hf0 e he a z) rfl,ro.not_imm⟩ ro ⟨f2,f3 I.inv.olen,f4,f5⟩ f1).1;refine eV (ih (st:=st2) (R:=⟨R.ρ++[a],R.δ⟩) (cl:=(c,C.p.N0+st.n)::cl) (fun x hx=>hc x (.tail _ hx)) nd.2
   (fun x hx i b q z=>by
    rcases iQ q with y|⟨_,rfl⟩
    ·exact na x (.tail _ hx) i b y z
    ·exact nd.1 (by rw[<-hinj _ _ _ z ha];exact List.mem_map_of_mem hx))
   (fun n i q=>by
    replace q:(match Nat.beq c n with|true=>some (C.p.N0+st.n)|false=>look n cl)=some i:=q;rcases z:Nat.beq c n
    ·rw[z] at q;exact oEA (hcl n i q) fun b h1 h2=>⟨b,g.at h1,h2⟩
    ·rw[z] at q;rw[<-aT z,<-aF q,<-I.inv.len];exact⟨a,List.getElem?_concat_length,ha⟩)
   I2 (fun x hx=>by
    have this:=hv x (.tail _ hx);rcases q:look x bs with _|v
    ·rw[q] at this;exact this
    ·rw[q] at this;exact oEA this fun y h1 h2=>⟨y,h1,h2.mono g (.refl h)⟩) e2) fun cl' st' R' g' e' I' fr' hcl'=>?_
  exact⟨cl',st',R',g.trans g',e',I',fr'.trans f1,hcl'⟩
end
section
theorem FnOk.up{C:Cst}{B B':Heap}{a:Addr}{g:Fun}(k:B.StaysIn B')(x:FnOk C B a g):FnOk C B' a g:=by
 obtain⟨⟨o,fd,h1,h2,h3,h4,h5,h6,h7,h8,h9,h10,h11⟩,y,z⟩:=x;refine⟨⟨o,fd,k a o h1,h2,h3,h4,h5,h6,h7,h8,h9.keeps k,?_,h11⟩,y,z⟩;rcases h10 with e|⟨T,o,n,dv,e1,e2,e3,e4⟩
 ·exact .inl e
 ·exact .inr ⟨T,o,n,dv,e1,k T o e2,e3,e4.mono (.refl _) (.of_keep k)⟩
theorem Sta.up{C:Cst}{B B':Heap}{K:Frag}{mg mb:Str->Option Value}(k:B.StaysIn B')(S:Sta C B K mg mb):Sta C B' K mg mb where
 X:=S.X.keeps k
 g:=S.g.keeps k
 b:=S.b.keeps k
 nolimit:=S.nolimit.keeps k
 exc:=S.exc
 exf:=S.exf
 exn:=S.exn
 exm:=S.exm
 stl:=S.stl
 rg:=S.rg
 en:=S.en
 dbg:=S.dbg
 nmi:=S.nmi
 room:=S.room
 sysm:=let⟨o,e⟩:=S.sysm;⟨o,k _ _ e⟩
 fl:=S.fl
 fn:=fun a g e=>⟨(S.fn a g e).1.up k,(S.fn a g e).2⟩
 me:=S.me
 mu:=S.mu
 bd:=S.bd
 ky:=S.ky
 lm:=S.lm
 tbn:=fun i a=>let⟨c,P,q,x,y,z⟩:=S.tbn i a;⟨c,P,q,x,y,z.keeps k⟩
 blt:=let⟨bm,o,a,b,c,d,r⟩:=S.blt;⟨bm,o,a,b,c,k _ _ d,r⟩
 mgn:=S.mgn
 tb9:=S.tb9
 ini:=S.ini
 sc:=let⟨la,xs,a,⟨o,b,d⟩,r⟩:=S.sc;⟨la,xs,a,⟨o,k _ _ b,d⟩,r⟩
 tqu:=S.tqu
 gt:=fun n v e=>let⟨x,h,r⟩:=S.gt n v e;⟨x,h,r.mono (.refl _) (.of_keep k)⟩
end
section
theorem qK:∀(names:List (Str×NameKind)) (n n':Nat),(cellsFrom n names []).map (·.1)=(cellsFrom n' names []).map (·.1):=fun names n n'=>cellsFrom_names names n n' [] [] rfl
theorem iU{α:Type}{l:List (Str×α)}{n:Str}:n∈l.map (·.1)->∃a,l.lookup n=some a/\(n,a)∈l:=by
 induction l with
|nil=>exact fun h=>nomatch h
|cons x r ih=>
  obtain⟨m,b⟩:=x;intro h;rw[List.lookup_cons];rcases q:n==m
  ·rcases bN h with e|h
   ·exact ff (q.symm.trans (beq_iff_eq.mpr e))
   ·exact oEA (ih h) fun a h1 h2=>⟨a,h1,.tail _ h2⟩
  ·rw[eq_of_beq q];exact⟨b,rfl,.head _⟩
theorem bQ{α:Type}{l:List (Str×α)}{n:Str}{a:α}:l.lookup n=some a->(n,a)∈l:=by
 induction l with
|nil=>exact fun h=>nf h
|cons x r ih=>
  obtain⟨m,b⟩:=x;intro h;rw[List.lookup_cons] at h;rcases q:n==m
  ·rw[q] at h;exact .tail _ (ih h)
  ·rw[q] at h;rw[<-aF h,eq_of_beq q];exact .head _
theorem zP{l:List (Str×Addr)}{n n':Str}{c:Addr}:l.Pairwise (fun x y=>x.2≠y.2)->(n,c)∈l->(n',c)∈l->n=n':=by
 induction l with
|nil=>exact fun _ m=>nomatch m
|cons x r ih=>
  intro p m m';refine oA (List.pairwise_cons.mp p) fun p1 p2=>?_;rcases bN m with e|m
  ·rcases bN m' with e'|m'
   ·exact congrArg (·.1) (e.trans e'.symm)
   ·exact absurd (congrArg (·.2) e.symm) (p1 _ m')
  ·rcases bN m' with e'|m'
   ·exact absurd (congrArg (·.2) e'.symm) (p1 _ m)
   ·exact ih p2 m m'
theorem pG{p:P}{ok:List (Nat×Nat)->Bool}{k:List (Nat×Nat)->St->Bool}{cs:List Nat}:∀{bs:List (Nat×SV)} {st:St} {cl:List (Nat×Nat)},
  (∀cl',cl'.map (·.1)=cs.reverse++cl.map (·.1)->ok cl'=true)->iV p cs bs st cl k=true->iV p cs bs st cl (fun cl st=>ok cl&&k cl st)=true:=by
 induction cs with
|nil=>exact fun h e=>cO (h _ rfl) e
|cons c r ih=>exact fun h e=>ih (fun cl' q=>h cl' (by rw[List.reverse_cons,List.append_assoc];exact q)) e
theorem fL{β:Type}{k:Nat}{l:List (Nat×β)}:look k l=none->∀p∈l,p.1≠k:=by
 induction l with
|nil=>exact fun _ _ m=>nomatch m
|cons x r ih=>
  intro e p hp;replace e:(match Nat.beq x.1 k with|true=>some x.2|false=>look k r)=none:=e;rcases z:Nat.beq x.1 k
  ·rw[z] at e;rcases bN hp with q|hp
   ·exact fun w=>ff (z.symm.trans ((congrArg (fun y=>Nat.beq y k) ((congrArg (·.1) q.symm).trans w)).trans (Nat.beq_refl k)))
   ·exact ih e p hp
  ·rw[z] at e;exact nomatch e
theorem nT{b:Bool}(h:(!b)=true):b=false:=by
 rcases b
 ·rfl
 ·exact ff h
theorem Ay{d p a:Nat}(l1:a<=p)(l3:d<=p):d-(p-a)=a-(p-d):=(Nat.sub_sub_right _ l1).trans ((congrArg (·-p) (Nat.add_comm _ _)).trans (Nat.sub_sub_right _ l3).symm)
theorem Ax{d p a:Nat}(l1:a<=p)(l2:p<=a+d)(l3:d<=p):a+(d-(a-(p-d)))=p:=by rw[Nat.sub_sub_right _ l3,Nat.sub_sub_right _ l2,Nat.add_comm a d,Nat.add_sub_add_left,Nat.add_sub_of_le l1]
section
variable{dp un:Nat}{E':Value->Shared->Prop}{Q:Value->Shared->Prop}
theorem enterD{fs:List Env}(S:Sta C B K mg mb)(stays:B.StaysIn s.heap){a:Nat}{g:Fun}(hst:Gv w C B ih g.body)(dep:A.depth<=dp+400)(hua:A.units<=un)(hA:A.handled=none)(stk:A.frames=some fs)(hdp:dp<200)(hun:un<=4007)(hg:C.p.funs.look a=some g)
  (lold:∀(i:Nat) (b:Addr),R.ρ[i]?=some b->s.heap.get? b≠none) (hf0:∀e∈fs,∀a,e.frame=some a->∃o,s.heap.get? a=some o) (ht0:∀q∈C.tq,∃o,s.heap.get? q.1=some o)
  (ent:∀(env':Env) (h₁:Heap) (fr:List (Nat×SV)),(∀b o,s.heap.get? b=some o->h₁.get? b=some o)->env'.locals=s.heap.objs.size->FrOk C R h₁ env'.locals fr->At w C B fs env' R {st with fr:=fr} h₁)
  {as:List SV} {xs:List Value} (X:RVs C R s.heap as xs) (h:fG C.p ih dp un g as st k ke=true)
  (P:∀v st3 R3 h3 tk3 y env',R.le R3->At w C B fs env' R3 st3 h3->Le fs s.heap h3->RV C R3 h3 v y->k v {st3 with fr:=st.fr}=true->Q y {s with heap:=h3,toks:=tk3})
  (PX:∀cc st3 R3 h3 h5 tk3 e env',R.le R3->At w C B fs env' R3 st3 h3->Le fs s.heap h3->Exc C B fs R3 cc e h3 h5->ke cc {st3 with fr:=st.fr}=true->E' (.ref e) {s with heap:=h5,toks:=tk3}):codeAny (model C.prog w) A (.call (.ref a) ⟨xs,[]⟩) (wants Q E') s:=by
 refine dO h fun bs hb h=>?_;rw[bJ] at h;replace h:=dN h;obtain⟨⟨o,fd,ho,hd,hbody,hsc,hpar,hclo,hglo,hbui,hcd,hdf,htb⟩,hok,hoc⟩:=(S.fn a g hg).1;refine GG hok fun k1 k2 k3 k4 k5 k6 k7 k8 k9 k10=>?_;replace k1:=bD k1;replace k4:=bD k4;replace k7:=aZ k7;replace k9:=bD k9;refine s8 (qI hb) fun l1 l2 hbs=>?_;replace hbs:bs=(g.params.map (·.1)).zip (as++g.dflts.drop (g.dflts.length-(g.params.length-as.length))):=hbs;have l3:=aP k5;refine codeAny_call_function (Nat.lt_of_le_of_lt dep (Nat.lt_trans (Nat.add_lt_add_right hdp 400) (by decide))) (stays a o ho) hd (hsc▸nT k2) (hsc▸nT k3) hbody (hcd.keeps stays) ?_;obtain⟨dv,hdv,DV⟩:∃dv:List Value,((dv=[]/\fd.defaults=.none)\/∃T o n,fd.defaults=.ref T/\s.heap.get? T=some o/\o.data=.seq dv.toArray n)/\RVs C R s.heap g.dflts dv:=by
  rcases hdf with⟨e1,e2⟩|⟨T,o,n,dv,e1,e2,e3,e4⟩
  ·exact⟨[],.inl ⟨rfl,e2⟩,by rw[e1];rfl⟩
  ·exact⟨dv,.inr ⟨T,o,n,e1,stays _ _ e2,e3⟩,e4.mono (Nr R) (.of_keep stays)⟩
 have nms:fd.params.args.map (·.arg)=g.params.map fun x=>nm x.1:=(congrArg (fun a=>a.args.map (·.arg)) hpar).trans List.map_map;have la:fd.params.args.length=g.params.length:=(congrArg (·.args.length) hpar).trans (List.length_map _);refine iB fd xs dv (by rw[hpar];rfl) (by rw[hpar];rfl) (by rw[hpar];rfl) (by rw[hpar];rfl) hdv (by rw[nms];exact k4) (by rw[X.len,la];exact l1) (by rw[X.len,la,DV.len];exact l2) (by rw[DV.len,la];exact l3) ?_;rw[nms,X.len,la,DV.len];have hrb:RB C R s.heap bs ((g.params.map fun x=>nm x.1).zip (xs++dv.drop (as.length-(g.params.length-g.dflts.length)))):=by rw[hbs];rw[Ay l1 l3];exact w6 g.params (X.append (DV.drop _))
 generalize hbi:(g.params.map fun x=>nm x.1).zip (xs++dv.drop (as.length-(g.params.length-g.dflts.length)))=binds at hrb ⊢;have bn:=hrb.names;have bmem:∀p∈bs,∃x∈g.params,x.1=p.1:=fun p hp=>by rw[hbs] at hp;refine oEA (List.mem_map.mp (List.of_mem_zip hp).1) fun x hx e=>?_;exact⟨x,hx,e⟩
 have bnd:(binds.map (·.1)).Nodup:=by
  have ln:(g.params.map fun x=>nm x.1).length<=(xs++dv.drop (as.length-(g.params.length-g.dflts.length))).length:=by rw[List.length_map,List.length_append,List.length_drop,X.len,DV.len];exact Nat.le_of_eq (Ax l1 l2 l3).symm
  rw[<-hbi,List.map_fst_zip ln];exact k4
 have kindB:∀x∈binds,∃n v,(n,v)∈bs/\x.1=nm n:=fun x hx=>by have:x.1∈binds.map (·.1):=List.mem_map_of_mem hx;rw[bn] at this;refine oEA (List.mem_map.mp this) fun p hp e=>?_;exact⟨p.1,p.2,hp,e.symm⟩
 have cnames:∀m,(cellsFrom m g.sc.names []).map (·.1)=(g.cells.map nm).reverse:=fun m=>(qK _ m 0).trans (bD k8);have pk:∀n v,(n,v)∈bs->(g.cells.any (Nat.beq n)=true->kd g.sc n .cell=true)/\(g.cells.any (Nat.beq n)=false->kd g.sc n .local=true):=fun n v hm=>by refine oEA (bmem _ hm) fun x hx e=>?_;have:=k7 x hx;have e:x.1=n:=e;rw[e] at this;exact⟨fun q=>by rw[q] at this;exact this,fun q=>by rw[q] at this;exact this⟩
 rw[hsc,hclo,hglo,hbui];refine wpAny_newFunctionEnv_cells k1 (fun x hx=>?_) fun env' he s' x=>?_
 ·refine cX (kindB x hx) fun n v hm e=>?_;rw[e];rcases q:g.cells.any (Nat.beq n) with _|_
  ·exact .inl (cD ((pk n v hm).2 q))
  ·refine .inr ⟨cD ((pk n v hm).1 q),?_⟩;refine oEA (List.any_eq_true.mp q) fun m hm e'=>?_;have e':=aT e';refine oEA (iU (l:=cellsFrom (s.heap.objs.size+1) g.sc.names []) (n:=nm n) (by rw[cnames];exact List.mem_reverse.mpr (by rw[e'];exact List.mem_map_of_mem hm))) fun z hz _=>?_;rw[hz];rfl
 refine⟨(S.nolimit.keeps stays).keeps x.toInCall.keep,codeAny_func ?_⟩;refine cX (x.done) fun h₁ tk u10 kk=>?_;subst u10;have kk:∀b o,s.heap.get? b=some o->h₁.get? b=some o:=kk;have eL:env'.locals=s.heap.objs.size:=by rw[he];rfl
 have eF:env'.frame=some env'.locals:=by rw[he];rfl
 have eS:env'.scope=g.sc:=by rw[he];rfl
 have eC:env'.cells=cellsFrom (s.heap.objs.size+1) g.sc.names []:=by rw[he];rfl
 have ns:=x.toInCall.ns;have fro:FrOk C R h₁ env'.locals (bs.filter fun b=>!(g.cells.any (Nat.beq b.1))):=⟨_,ns,fun n v q=>by have hm:=look_mem q;refine oA (List.mem_filter.mp hm) fun hm hn=>?_;replace hn:g.cells.any (Nat.beq n)=false:=nT hn;refine oEA (hrb.mem n v hm) fun y hy Y=>?_;refine⟨y,?_,Y.mono (.refl R) (.of_keep kk)⟩;exact xH binds _ bnd (nm n,y) hy (by show env'.kindOf (nm n)=_;unfold Env.kindOf;rw[eS];exact cD ((pk n v hm).2 hn))⟩;have fresh:∀b,s.heap.objs.size<=b->s.heap.get? b=none:=fun b l=>by
  rcases z:s.heap.get? b with _|o
  ·rfl
  ·exact absurd (Heap.lt_size z) (Nat.not_lt.mpr l)
 have I1:At w C B fs env' R {st with fr:=bs.filter fun b=>!(g.cells.any (Nat.beq b.1))} h₁:=ent env' h₁ _ kk eL fro;have cinj:∀n n' cc,env'.cells.lookup n=some cc->env'.cells.lookup n'=some cc->n=n':=fun n n' cc h1 h2=>by exact zP x.apart (bQ h1) (bQ h2)
 obtain⟨cl,st2,R2,g2,e2,I2,fr2,hcl⟩:=wB (h0:=s.heap) S stays x.cell (fun n cc e=>by
   have hL:=x.above n cc (bQ e);exact⟨fresh _ (Nat.le_of_lt (by rw[<-eL];exact hL)),hL⟩) cinj
  hf0 ht0
  (cs:=g.cells) (cl:=[]) (fun cc hc=>by refine oEA (iU (l:=env'.cells) (n:=nm cc) (by rw[eC,cnames];exact List.mem_reverse.mpr (List.mem_map_of_mem hc))) fun z hz _=>?_;exact⟨z,hz⟩) k9
  (fun cc hc i b q z=>by have hL:=x.above _ b (bQ z);exact lold i b q (fresh _ (Nat.le_of_lt (by rw[<-eL];exact hL))))
  (fun n i q=>by exact nf q) I1
  (fun cc hc=>by
   rcases q:look cc bs with _|v
   case some=>have hm:=look_mem q;refine oEA (hrb.mem cc v hm) fun y hy Y=>?_;refine⟨y,?_,Y.mono (.refl R) (.of_keep kk)⟩;refine xG binds _ bnd (nm cc,y) hy ?_;show env'.kindOf (nm cc)≠_;unfold Env.kindOf;rw[eS,cD ((pk cc v hm).1 (List.any_eq_true.mpr ⟨cc,hc,Nat.beq_refl _⟩))];exact fun z=>nomatch z
   case none=>refine(mY binds _ fun p hp z=>?_).trans rfl;refine cX (kindB p hp) fun n v hm e=>?_;have:=S.nmi _ _ (e.symm.trans z);exact fL q _ hm this) (pG (ok:=fun cl=>decide (cl.map (·.1)=g.cells.reverse)) (fun cl' q=>decide_eq_true (q.trans (List.append_nil _))) h)
 refine bZ e2 fun ekeys e2=>?_;replace ekeys:=bD ekeys;refine bZ hoc fun oc1 oc2=>?_;have c2:CxOk C fs env' R2 ⟨cl,dp+1,un+3,g.tb⟩ (A.deeper env'):={
  kind:=by rw[eS];exact k1
  gl:=by rw[he];rfl
  bi:=by rw[he];rfl
  stk:=by rw[c9 eF];show A.frames.map _=_;rw[stk];rfl
  dep:=Nat.add_right_comm dp 1 400▸Nat.succ_le_succ dep
  un:=cK hua 3
  hd:=hA
  tb:=fun cc P q e=>by refine oA (htb cc P q e) fun h1 h2=>?_;exact⟨by rw[he];exact h1,by rw[he];exact h2⟩
  cl:=hcl
  ck:=fun n=>by
   show match look n cl with
   |some _=>env'.scope.names.lookup (nm n)≠some .local
   |none=>env'.scope.names.lookup (nm n)≠some .cell
   rw[eS];rcases hi:look n cl with _|i
   case some=>have hm:=List.mem_map_of_mem (f:=(·.1)) (look_mem hi);rw[ekeys] at hm;rw[cD (aZ oc1 n (List.mem_reverse.mp hm))];exact fun z=>nomatch z
   case none=>intro z;have y:=aZ oc2 _ (bQ z);refine oEA (List.any_eq_true.mp y) fun c' hc' e'=>?_;refine oEA (List.mem_map.mp (ekeys.symm▸List.mem_reverse.mpr hc')) fun p hp e=>?_;exact fL hi p hp (e.trans (S.nmi _ _ (bD e')))
  ub:=cK hun 3
  fr:=.inl eF
  db:=al__3 hdp (by decide)}
 have le1:Le fs s.heap h₁:=.of_keep kk;refine hst ⟨cl,dp+1,un+3,g.tb⟩ st2 _ _ fs env' R2 (A.deeper env') _ _ _ c2 eF (by rw[eS];exact k10) I2 e2 (fun fl st3 R3 h3 tk3 g3 l3 I3 e3=>?_) (fun cc st3 R3 h3 h4 tk3 e g3 l3 I3 X3 e3=>?_)
 ·have e3:=dN e3;induction fl using Fl.casesOn with
 |nxt=>exact P .non st3 R3 h3 tk3 _ env' (g2.trans g3) I3 (le1.trans l3) rfl e3
 |cnt=>exact P .non st3 R3 h3 tk3 _ env' (g2.trans g3) I3 (le1.trans l3) rfl e3
 |ret v=>exact fun y Y=>P v st3 R3 h3 tk3 y env' (g2.trans g3) I3 (le1.trans l3) Y e3
 ·exact Exc.leave I3 eF (by rw[eS];exact k1) (by show A.frames.map _=_;rw[stk];rfl) (by rw[<-c9 eF];exact X3) fun h5 X5=>PX cc st3 R3 h3 h5 tk3 e env' (g2.trans g3) I3 (le1.trans l3) X5 (dN e3)
theorem DN(S:Sta C B K mg mb){a:Nat}{g:Fun}(hst:∀B',Sta C B' K mg mb->Gv w C B' ih g.body)(c:CaOk oU env A dp un)(hdp:dp<200)(hun:un<=4007)(I:At w C B oU env R st s.heap)(hg:C.p.funs.look a=some g){as:List SV}{xs:List Value}(X:RVs C R s.heap as xs)
  (h:fG C.p ih dp un g as st k ke=true)
  (P:PV w C B oU env R s.heap s k Q) (PX:PE w C B oU env R s.heap s ke E'):codeAny (model C.prog w) A (.call (.ref a) ⟨xs,[]⟩) (wants Q E') s:=
 enterD (S.up I.low_up) oJ (hst _ (S.up I.low_up)) c.dep c.un c.hd c.stk hdp hun hg (fun i b e z=>cZ (I.inv.new i b e) fun _ o q _=>nf (z.symm.trans q)) (fun e he a' hf=>pO (I.fs_frame he hf) fun _ _ o _ _ h1 _=>⟨o,h1⟩) (fun q hq=>cZ (I.inv.tab q hq) fun _ ps e _=>⟨_,e⟩)
  (fun env' h₁ fr kk eL fro=>I.enter c.kind kk eL fro) X h (fun v st3 R3 h3 tk3 y env' g I3 l Y e=>oA (At.back I g I3 l) fun I4 l4=>P v _ R3 h3 tk3 y g l4 I4 Y e)
  (fun cc st3 R3 h3 h5 tk3 e env' g I3 l X5 e3=>oA (At.back I g I3 l) fun I4 l4=>PX cc _ R3 h3 h5 tk3 e g l4 I4 (X5.low_of I.low_up) e3)
theorem MM(S:Sta C B K mg mb){a:Nat}{g:Fun}(hst:∀B',Sta C B' K mg mb->Gv w C B' ih g.body)(c:CaOk oU env A dp un)(hdp:dp<200)(hun:un<=4007)(I:At w C B oU env R st s.heap)(hg:C.p.funs.look a=some g){as:List SV}{xs:List Value}(X:RVs C R s.heap as xs)
  (h:fG C.p ih dp un g as st k ke=true)
  (P:PV w C B oU env R s.heap s k Q) (PX:PE w C B oU env R s.heap s ke E'):wpAny (model C.prog w) A (call (.ref a) xs) Q E' s:=wpAny_call (DN S hst c hdp hun I hg X h P PX)
end
end
section
theorem cQ{M:Model}{A:Around}{E':Value->Shared->Prop}{s:Shared}{f:Value}{g:Nat->Pos->PySem.Expr}{es:List E}{env:Env}{Q:Args->Shared->Prop}(h:wpAny M A (spliced (dH g es env)) (fun vs s'=>Q ⟨vs,[]⟩ s') E' s):wpAny M A (evalArgs f true (dH g es env) []) Q E' s:=by
 rcases es with _|⟨e,r⟩
 ·unfold evalArgs;show wpAny M A (spliced [] >>= _) Q E' s;have h':wpAny M A (spliced []) (fun vs s'=>Q ⟨vs,[]⟩ s') E' s:=h;refine wpAny_bind (wpAny_mono h' (fun vs s₁ h₁=>?_) fun _ _ x=>x);refine wpAny_bind (wpAny_pure ?_);refine wpAny_holding ?_;exact wpAny_bind (wpAny_pure (wpAny_bind (wpAny_pure (wpAny_pure h₁))))
 ·refine evalArgs_kw (keywords:=[]) (by rfl) (wpAny_mono h (fun vs s₁ h₁=>?_) fun _ _ x=>x);exact wpAny_pure h₁
theorem d6(g:Nat->Pos->PySem.Expr)(es:List E)(env:Env):((dH g es env).any (·.1)||([]:List (Option Str×Sem Value)).any (·.1.isNone))=false:=by simp[dH]
section
variable{E':Value->Shared->Prop}{Q:Value->Shared->Prop}{q:Pos}
theorem AQ(hs:kD w C B ih)(hc:j1 w C B ih)(c:CxOk C oU env R cx A){as:List E}(o:dU C.p.lams env.scope as=true)(I:At w C B oU env R st s.heap){f:SV}{x:Value}{fst:List SV}{fx:List Value}(X:RV C R s.heap f x)(FX:RVs C R s.heap fst fx)
  (h:ih.exs cx as st (fun vs st=>ih.call cx.dp cx.un f (fst++vs) st k ke) ke=true) (P:PV w C B oU env R s.heap s k Q) (PX:PE w C B oU env R s.heap s ke E') :
  wpAny (model C.prog w) A (callWith q x fx (dH (aN C.p.lams) as env) []) Q E' s:=by
 refine callWith_of (P:=fun h=>Kpr (model C.prog w) h x) (d6 _ _ _) (fun h p=>p) (cQ ?_);refine hs cx as st _ ke oU env R A s _ E' c o I h (fun vs st1 R1 h1 tk1 xs ln g l I1 XS z=>?_) PX;exact hc cx.dp cx.un f (fst++vs) st1 k ke oU env R1 A {s with heap:=h1,toks:=tk1} Q E' x (fx++xs) (c.le g).ca I1 (X.mono g l.kp) ((FX.mono g l.kp).append XS) z (P.mono g l) (PX.mono g l)
theorem MI(hx:eE w C B ih)(hs:kD w C B ih)(hc:j1 w C B ih)(c:CxOk C oU env R cx A){f:E}{as:List E}(o:cN C.p.lams env.scope (.cal f as q)=true)(I:At w C B oU env R st s.heap)
  (h:C7 ih cx f as st k ke=true) (P:PV w C B oU env R s.heap s k Q) (PX:PE w C B oU env R s.heap s ke E') :
  wpAny (model C.prog w) A (eval (.Call (bC (aN C.p.lams) f) (b_ (aN C.p.lams) as) [] q) env) Q E' s:=by
 replace o:=eO o;rw[sY o.1.1,bU env o.2,cE];refine wpAny_bind (hx cx f st _ ke oU env R A s _ E' c o.1.2 I h (fun v st1 R1 h1 tk1 x g l I1 X z=>?_) PX);exact AQ hs hc (c.le g) o.2 I1 X (fst:=[]) (fx:=[]) rfl z (P.mono g l) (PX.mono g l)
end
end
section
section
variable{st st':St}{h h':Heap}
theorem Ff{L D:Addr}{o:Obj}{m:Str->Option Value}(hn:h.Ns L m)(hD:h.get? D=some o)(hL:D≠L) :
  ∃pre post,Fr d9 L h m/\News d9 L h (pre++(D,o)::post)/\(∀p∈pre,p.1≠D)/\(∀p∈post,p.1≠D)/\
   ∀{h':Heap} {o':Obj},Fr d9 L h' m->News d9 L h' (pre++(D,o')::post)->h'.Ns L m/\h'.get? D=some o'/\∀b x,b≠D->b≠L->h.get? b=some x->h'.get? b=some x:=by
 refine aY (nU (mem_allN.mpr ⟨hL,hD⟩) (lP h L)) fun pre post e h1 h2=>?_;have N:=Dm h L;rw[e] at N;refine⟨pre,post,Nc hn,N,h1,h2,fun F' N'=>⟨F'.ns,(N' (D,_) (by simp)).1,fun b x nb nL q=>?_⟩⟩;have hm:(b,x)∈qF h L:=mem_allN.mpr ⟨nL,q⟩;rw[e] at hm;refine(N' (b,x) ?_).1;rcases List.mem_append.mp hm with hm|hm
 ·exact List.mem_append_left _ hm
 ·rcases bN hm with z|hm
  ·cases z;exact absurd rfl nb
  ·exact List.mem_append_right _ (.tail _ hm)
theorem AK{d:Addr}{o o':Obj}:∀{pre post:List (Addr×Obj)},(∀p∈pre,p.1≠d)->(∀p∈post,p.1≠d)->Upd d o o' (pre++(d,o)::post) (pre++(d,o')::post)
|[],_,_,h2=>.head h2
|p::pre,_,h1,h2=>.tail (h1 p (.head _)) (AK (fun q hq=>h1 q (.tail _ hq)) h2)
end
end
section
theorem jL{h:Heap}{L:Addr}{m m':Str->Option Value}(x:h.Ns L m)(y:h.Ns L m'):m=m':=by refine fD x fun o es ep a b _ f=>?_;refine fD y fun o' es' ep' a' b' _ f'=>?_;rw[a] at a';obtain rfl:=aF a';rw[b] at b';cases b';funext n;rw[<-f,<-f']
noncomputable def Jt:Nat->String
|2=>"list.append"
|3=>"list.pop"
|4=>"list.extend"
|5=>"dict.get"
|_=>"str.isupper"
theorem sS(p:List Value)(y:Value):kl_last (p++[y])=some (p,y):=kpa_last y p
theorem rP(c:Nat)(h:c<128):Txt.isupper (bB [c])=(Nat.blt 64 c&&Nat.blt c 91):=by
 have all:∀c:Fin 128,Txt.isupper (bB [c.val])=(Nat.blt 64 c.val&&Nat.blt c.val 91):=by decide +kernel
 exact all ⟨c,h⟩
theorem qS(l:Addr)(items:Array Value)(n:Nat)(b:Addr)(items2:Array Value)(n2:Nat)(d2:Option Addr)(sl2:Array (Option Value))(hs0:¬(!items.isEmpty&&Builtin.List.listTooLong (items.size+items2.size))=true)(hs1:items.size<=sizeLine)(hs2:items.size+items2.size<=sizeLine+1) :
  Meets (Builtin.«list.extend» ⟨[.ref l,.ref b],[]⟩) (fun _ R s=>s.heap.get? l=some {cls:=.type "list",dict:=none,data:=.seq items n,slots:=#[]}/\s.heap.get? b=some {cls:=.type "tuple",dict:=d2,data:=.seq items2 n2,slots:=sl2}/\R (.ok (.ret Value.none)) {s with heap:=s.heap.update l (Obj.mapSeq fun x=>x++items2),toks:=s.toks}):=
 .of_wp fun prog w A R s h=>by
  obtain⟨hp,g,d,tk,os⟩:=s;refine s8 h fun hl hb h=>?_;have f1:=PySem.AutoSeq1.idx_int;have f2:=PySem.AutoSeq1.sub_tuple_tuple;have f3:=PySem.AutoSeq1.sub_list_list;have f4:=PySem.AutoSeq1.sub_tuple_list;have f5:=PySem.AutoSeq1.sub_list_tuple;
  have hz':(items++items2).size<=sizeLine+1:=by rw[Array.size_append];exact hs2
  wp_walk using(wpAny_updateSeq hl rfl (hz:=hs1) (_hz':=hz')),wpAny_loadPart' hl,wpAny_loadPart' hb;exact⟨_,rfl,h⟩
theorem sK{prog:Program}{w:World}{A:Around}{E:Value->Shared->Prop}{s:Shared}{h₀:Heap}{L:Addr}{m:Str->Option Value}{D b:Addr}{ys:List Value}{n:Nat}{its2:Array Value}{own rest:List (Addr×Obj)}{Q:Value->Shared->Prop}
  (F:Fr h₀ L s.heap m) (N:News h₀ L s.heap (own++(D,{cls:=.type "list",data:=.seq ys.toArray n})::rest)) (hown:∀p∈own,p.1≠D) (hap:∀p∈rest,p.1≠D) (hb:IsTup s.heap b its2)
  (h:∀h' n',Fr h₀ L h' m->News h₀ L h' (own++(D,{cls:=.type "list",data:=.seq (ys++its2.toList).toArray n'})::rest)->Q .none {s with heap:=h'}) (hsz:ys.length+its2.size<=sizeLine) :
  wpAny (model prog w) A (call (.builtin "list.extend") [.ref D,.ref b]) Q E s:=by
 have hm:=N _ (List.mem_append_right own (List.Mem.head rest));have hsz':ys.toArray.size+its2.size<=sizeLine:=by rw[List.size_toArray];exact hsz
 obtain⟨⟨c2,d2,da2,sl2⟩,ho,hc,n2,hd⟩:=hb;subst hc;subst hd;refine call_meets PySem.F.slot_list_extend ⟨_,hm.1,rfl⟩ PySem.F.entry_list_extend (PySem.F.args_list_extend_2 _ _) (qS D ys.toArray n b its2 n2 d2 sl2 (extend_door hsz') (al__3 (Nat.le_add_right _ _) hsz') (al__3 hsz' (Nat.le_succ _))) ⟨hm.1,ho,?_⟩;have e:ys.toArray++its2=(ys++its2.toList).toArray:=by simp
 have ho':(s.heap.update D (Obj.mapSeq fun x=>x++its2)).get? D=some {cls:=.type "list",data:=.seq (ys++its2.toList).toArray (if(ys.toArray++its2).size==ys.toArray.size then n else n+1)}:=by rw[Heap.get?_update_self _ hm.1 (by rw[mapSeq_app];rfl),mapSeq_app,e]
 exact h _ _ (F.change (Heap.SameBut.update ..) hm.2.1 hm.2.2) (N.setIn hown hap (Heap.SameBut.update ..) ho')
theorem RDs.append{h:Heap}:∀{vs ws:List SV} {xs ys:List Value},RDs h vs xs->RDs h ws ys->RDs h (vs++ws) (xs++ys)
|[],_,_,_,e,r=>by rw[show _=[] from e];exact r
|_::_,_,_,_,⟨y,ys,e,a,b⟩,r=>by subst e;exact⟨y,_,rfl,a,b.append r⟩
theorem AX{C:Cst}{R:Rn}{h:Heap}{x:Value}:∀{i:Nat},RV C R h (.tup [cB i,.int 0]) x->RD h (.tup [cB i,.int 0]) x
|0,e=>e
|1,e=>e
|2,e=>e
|3,e=>e
|4,e=>e
|5,e=>e
|6,e=>e
|7,e=>e
|8,e=>e
|9,e=>e
|10,e=>e
|_+11,e=>e
theorem AW{C:Cst}{R:Rn}{h h':Heap}{i:Nat}{x:Value}(X:RV C R h (.tup [cB i,.int 0]) x)(k:Kp h h'):RD h' (.tup [cB i,.int 0]) x:=(AX X).kp k
section
variable{E':Value->Shared->Prop}{Q:Value->Shared->Prop}{q:Pos}
theorem RVs.snoc{C:Cst}{R:Rn}{h:Heap}{vs:List SV}{xs:List Value}{v:SV}{x:Value}(a:RVs C R h vs xs)(b:RV C R h v x):RVs C R h (vs++[v]) (xs++[x]):=a.append ⟨x,[],rfl,b,rfl⟩
theorem RVs.last{C:Cst}{R:Rn}{h:Heap}:∀{vs:List SV} {xs:List Value} {v:SV},RVs C R h vs xs->vs.getLast?=some v->∃p y,xs=p++[y]/\RV C R h v y/\RVs C R h vs.dropLast p
|[],_,_,_,q=>by simp at q
|[a],_,v,⟨y,ys,e,x,r⟩,q=>by simp at q;subst q;rw[show ys=[] from r] at e;exact⟨[],y,e,x,rfl⟩
|a::b::vs,_,v,⟨y,ys,e,x,r⟩,q=>by refine aY (r.last (v:=v) (by simpa using q)) fun p z h1 h2 h3=>?_;exact⟨y::p,z,by rw[e,h1];rfl,h2,⟨y,p,rfl,x,by simpa using h3⟩⟩
theorem pT(I:At w C B oU env R st s.heap){l:Nat}{a:Addr}(ha:R.ρ[l]?=some a){ys:List Value}{m:Nat}(ho:s.heap.get? a=some (Obj.mk (.type "list") none (.seq ys.toArray m) #[])){ws:List SV}{kk:St->Bool}(e:st.set C.p l (.lst ws) kk=true)
  {pp:Prop} (go:∀mf pre post,Fr d9 env.locals s.heap mf->News d9 env.locals s.heap (pre++(a,Obj.mk (.type "list") none (.seq ys.toArray m) #[])::post)->(∀p∈pre,p.1≠a)->(∀p∈post,p.1≠a)->
   (∀h' ys' m',Fr d9 env.locals h' mf->News d9 env.locals h' (pre++(a,Obj.mk (.type "list") none (.seq ys'.toArray m') #[])::post)->(Kp s.heap h'->RVs C R h' ws ys')->∃st',kk st'=true/\Le oU s.heap h'/\At w C B oU env R st' h'/\Kp s.heap h')->pp):pp:=by
 refine oEA (id I.frm) fun mf hmf _=>?_;refine vD (Ff hmf ho fun z=>I.lA l (by rw[<-z];exact ha)) fun pre post F N h1 h2 back=>?_;refine go mf pre post F N h1 h2 fun h' ys' m' F' N' rs=>?_;refine s8 (back F' N') fun b1 b2 b3=>?_;refine I.setW ha e b3 (fun m hm=>by rw[<-jL hmf hm];exact b1) (fun kp=>⟨ys',m',b2,rs kp⟩) fun st2 q2 l2 I2 _ _=>?_;exact⟨st2,q2,l2,I2,l2.kp⟩
theorem CY(I:At w C B oU env R st s.heap){l:Nat}{us:List SV}(hg:st.get C.p l=some (.lst us)){n:Nat}{x:Value}{vs:List SV}{xs:List Value}(X:RV C R s.heap (.loc l) x)(XS:RVs C R s.heap vs xs)(e:M4 C.p l us n vs st k=true)(P:PV w C B oU env R s.heap s k Q) :
  wpAny (model C.prog w) A (call (.builtin (Jt n)) (x::xs)) Q E' s:=by
 obtain⟨a,ha,rfl⟩:=X;obtain⟨a',ha',ys,m,ho,rs⟩:=I.inv.at hg;rw[ha] at ha';obtain rfl:=aF ha';obtain⟨e0,e⟩:=aG e;have lim:∀{zs:List Value},RVs C R s.heap us zs->zs.length<=8388608:=fun r=>by rw[r.len];exact al__3 (aP e0) (by decide)
 rcases vs with _|⟨v1,r⟩
 ·subst XS;obtain⟨en,e⟩:=aG e;obtain rfl:=aT en;obtain⟨v1,hl,e⟩:=qH e;rw[bJ] at e;obtain⟨p,y,rfl,Y,rp⟩:=rs.last hl;refine pT I ha ho e fun mf pre post F N h1 h2 fin=>?_;refine kl_pop F N (p:=p) (y:=y) (sS p y) (AK h1 h2) (al__3 (lim rs) (by decide)) fun h' F' N'=>?_;obtain⟨st2,q2,l2,I2,kp⟩:=fin h' _ _ F' N' fun kp=>rp.mono (.refl R) kp;exact P v1 st2 R h' s.toks _ (.refl R) l2 I2 (Y.mono (.refl R) kp) q2
 ·obtain⟨y,xs,rfl,Y,XS⟩:=XS;rcases r with _|_
  ·subst XS;by_cases n2:n=2
   ·subst n2;replace e:fc (us++[v1]) (fun vs=>st.set C.p l (.lst vs) fun st=>k .non st)=true:=e;rw[bJ] at e;refine append_at ho (fun h' hs ho'=>?_) (al__3 (lim rs) (by decide));refine I.set ha e hs (fun kp=>⟨_,_,by rw[ho',List.push_toArray],(rs.snoc Y).mono (.refl R) kp⟩) fun st2 q2 l2 I2 _ _=>?_;exact P .non st2 R h' s.toks _ (.refl R) l2 I2 rfl q2
   ·by_cases n4:n=4
    ·subst n4;induction v1 using SV.casesOn with
    |loc l2=>refine dL (f:=fun ws=>Nat.ble ws.length 10000&&fc (us++ws) fun vs=>st.set C.p l (.lst vs) fun st=>k .non st) e fun zs hg2 e=>?_;obtain⟨e2,e⟩:=aG e;rw[bJ] at e;obtain⟨b,hb,rfl⟩:=Y;obtain⟨b',hb',us',m2,ho2,rs2⟩:=I.inv.at hg2;rw[hb] at hb';obtain rfl:=aF hb';refine pT I ha ho e fun mf pre post F N h1 h2 fin=>?_;refine extend_in F N h1 h2 ho2 (fun h' n' F' N'=>?_) (al__3 (Nat.add_le_add (lim rs) (show us'.length<=_ by rw[rs2.len];exact aP e2)) (by decide));obtain⟨st2,q2,l2,I2,kp⟩:=fin h' (ys++us') n' F' N' fun kp=>(rs.append rs2).mono (.refl R) kp;exact P .non st2 R h' s.toks _ (.refl R) l2 I2 rfl q2
    |tup zs=>obtain⟨e2,e⟩:=aG (show(Nat.ble zs.length 10000&&fc (us++zs) fun vs=>st.set C.p l (.lst vs) fun st=>k .non st)=true from e);rw[bJ] at e;obtain⟨b,us',rfl,ht,rs2⟩:=Y;refine pT I ha ho e fun mf pre post F N h1 h2 fin=>?_;refine sK F N h1 h2 ht (fun h' n' F' N'=>?_) (al__3 (Nat.add_le_add (lim rs) (show us'.length<=_ by rw[rs2.len];exact aP e2)) (by decide));obtain⟨st2,q2,l2,I2,kp⟩:=fin h' (ys++us') n' F' N' fun kp=>(rs.append rs2).mono (.refl R) kp;exact P .non st2 R h' s.toks _ (.refl R) l2 I2 rfl q2
    |_=>exact ff e
    ·match n,n2,n4,e with
    |0,_,_,e|1,_,_,e|3,_,_,e|_+5,_,_,e=>exact ff e
  ·exact ff e
theorem GP(S:Sta C B K mg mb)(I:At w C B oU env R st s.heap){l m:Nat}{c:Bool}{ks:List Nat}(hg:st.get C.p l=some (.lls m c ks)){i:Nat}{x y:Value}{v:SV}(X:RV C R s.heap (.loc l) x)(Y:RV C R s.heap v y)(hi:C.p.key v=some i)
  (hm:Nat.ble m 2=true) (e:(st.set C.p l (.lls (m+1) (c||C.p.bad i) ks) fun st=>k .non st)=true) (P:PV w C B oU env R s.heap s k Q):wpAny (model C.prog w) A (call (.builtin "list.append") [x,y]) Q E' s:=by
 refine oEA X fun a ha u7=>?_;subst u7;refine lS (I.inv.at hg) fun a' ha' is ys n' hln ho rs hbad hk=>?_;rw[ha] at ha';obtain rfl:=aF ha';have hm:=aP hm;have r1:=S.room.lb;have r2:=S.room.lu;have r3:m*C.lu<=2*C.lu:=Nat.mul_le_mul_right _ hm;obtain rfl:=S.ky _ _ hi;refine append_at ho (fun h' hs ho'=>?_) (al__3 (al__3 hln (by(first|lia|omega))) (show 8388608<=sizeLine by decide));have r4:(m+1)*C.lu=m*C.lu+C.lu:=by rw[Nat.add_mul,Nat.one_mul]
 refine I.set ha e hs (fun kp=>⟨is++[i],ys++[y],_,by rw[List.length_append,List.length_singleton];(first|lia|omega),by rw[ho',List.push_toArray],by
  rw[List.map_append];exact(rs.kp kp).append ⟨y,[],rfl,AW Y kp,rfl⟩,by
  rw[List.any_append,hbad,S.bd];simp only[List.any_cons,List.any_nil,Bool.or_false];cases C.fb<;>rcases c with _|_<;>cases bP i<;>cases ks.any (dJ R)<;>rfl,hk⟩) fun st2 q2 l2 I2 _ _=>?_
 exact P .non st2 R h' s.toks _ (.refl R) l2 I2 rfl q2
theorem GO(S:Sta C B K mg mb)(I:At w C B oU env R st s.heap){l:Nat}{es:List (List Nat×SV)}(hg:st.get C.p l=some (.dct es)){n:Nat}{x:Value}{vs:List SV}{xs:List Value}(X:RV C R s.heap (.loc l) x)(XS:RVs C R s.heap vs xs)(e:M3 es n vs st k=true)
  (P:PV w C B oU env R s.heap s k Q):wpAny (model C.prog w) A (call (.builtin (Jt n)) (x::xs)) Q E' s:=by
 obtain⟨a,ha,rfl⟩:=X;obtain⟨a',ha',kvs,hd,rk⟩:=I.inv.at hg;rw[ha] at ha';obtain rfl:=aF ha';obtain⟨en,e⟩:=aG e;obtain rfl:=aT en;have t:=hd.mapOf.typeIs;rcases vs with _|⟨v,r⟩
 ·exact ff e
 ·obtain⟨y,xs,rfl,Y,XS⟩:=XS;induction v using SV.casesOn with
 |str ks=>
   obtain⟨o1,u,rfl⟩:=Y;have f:=rk.find ks;rcases r with _|⟨dv,r⟩
   ·subst XS;refine call_meetsIn F.slot_dict_get t F.entry_dict_get (F.args_dict_get_2 _ _) (meets_dict_get (strKind C.prog w) a (strKind_is C.prog w (bB ks) u) (mC S I.inv ha)) ⟨_,hd.mapOf,?_⟩;replace e:(match cS ks es with|some v=>k v st|none=>k .non st)=true:=e;rcases z:cS ks es with _|v1
    ·rw[z] at f e;rw[show valueAt kvs (bB ks)=none from f];exact P.tok I _ .non rfl e
    ·rw[z] at f e;obtain⟨x1,hx1,X1⟩:=f;rw[hx1];exact P.tok I _ _ X1 e
   ·obtain⟨y2,xs,rfl,Y2,XS⟩:=XS;rcases r with _|_
    ·subst XS;refine call_meetsIn F.slot_dict_get t F.entry_dict_get (F.args_dict_get_3 _ _ _) (meets_dict_get_default (strKind C.prog w) a (strKind_is C.prog w (bB ks) u) (mC S I.inv ha) y2) ⟨_,hd.mapOf,?_⟩;replace e:(match cS ks es with|some v=>k v st|none=>k dv st)=true:=e;rcases z:cS ks es with _|v1
     ·rw[z] at f e;rw[show valueAt kvs (bB ks)=none from f];exact P.tok I _ _ Y2 e
     ·rw[z] at f e;obtain⟨x1,hx1,X1⟩:=f;rw[hx1];exact P.tok I _ _ X1 e
    ·exact ff e
 |_=>exact ff e
theorem GQ(S:Sta C B K mg mb)(I:At w C B oU env R st s.heap){x:Value}{l n:Nat}{vs:List SV}{xs:List Value}(X:RV C R s.heap (.loc l) x)(XS:RVs C R s.heap vs xs)(e:Gh C.p l n vs st k=true)(P:PV w C B oU env R s.heap s k Q) :
  wpAny (model C.prog w) A (call (.builtin (Jt n)) (x::xs)) Q E' s:=by
 refine dO e fun o hg e=>?_;induction o using SO.casesOn with
|lst us=>exact CY I hg X XS e P
|dct es=>exact GO S I hg X XS e P
|lls m c ks=>
  rcases vs with _|⟨v,r⟩
  ·exact ff e
  ·rcases r with _|_
   ·refine aY XS fun y _ u12 Y e0=>?_;subst u12;subst e0;refine dO e fun i hi e=>?_;refine mJ e fun e2 e1 e3=>?_;have e2:=aT e2;subst e2;exact GP S I hg X Y hi e1 e3 P
   ·exact ff e
|_=>exact ff e
theorem Jh(I:At w C B oU env R st s.heap){cs:List Nat}{x:Value}{vs:List SV}{xs:List Value}(X:RV C R s.heap (.str cs) x)(XS:RVs C R s.heap vs xs)(e:NF cs vs st k=true)(P:PV w C B oU env R s.heap s k Q) :
  wpAny (model C.prog w) A (call (.builtin "str.isupper") (x::xs)) Q E' s:=by
 refine qD X fun o1 t u13=>?_;subst u13;rcases vs with _|_
 ·subst XS;rcases cs with _|⟨c,r⟩
  ·exact ff e
  ·rcases r with _|_
   ·refine bZ e fun e1 e=>?_;refine SC.isupper ?_;rw[rP c (aP e1)];exact P.same I (v:=.bol _) rfl e
   ·exact ff e
 ·exact ff e
end
end
section
theorem O1:nm 2=Str.ofString "append":=rfl
theorem O2:nm 3=Str.ofString "pop":=rfl
theorem O3:nm 4=Str.ofString "extend":=rfl
theorem O4:nm 5=Str.ofString "get":=rfl
theorem Os:nm 6=Str.ofString "isupper":=rfl
section
variable{E':Value->Shared->Prop}{Q:Value->Shared->Prop}{q:Pos}
theorem fA(M:Model)(h:Heap)(i:String):Kpr M h (.builtin i):=⟨.machine,.inr (.inl rfl),.now⟩
theorem lL(M:Model)(h:Heap)(i:String):Kpr M h (.type i):=⟨.machine,.inr (.inl rfl),.now⟩
theorem Ea(I:At w C B oU env R st s.heap){l:Nat}{o:SO}{x:Value}{n:Nat}{pl:Sem Bool}{Q:Value×List Value->Shared->Prop}(hg:st.get C.p l=some o)(X:RV C R s.heap (.loc l) x)(e:xL o n=true)(h:Q (.builtin (Jt n),[x]) s) :
  wpAny (model C.prog w) A (getMethod x (nm n) pl) Q E' s:=by
 refine oEA X fun a ha u1=>?_;subst u1;refine oEA (I.inv.at hg) fun a' ha' ro=>?_;rw[ha] at ha';obtain rfl:=aF ha';induction o using SO.casesOn with
|lst us=>
  refine cX ro fun xs m ho _=>?_;have hd:∀b,Value.ref a=.ref b->∃o,s.heap.get? b=some o/\o.dict=none:=fun b e=>by cases e;exact⟨_,ho,rfl⟩
  rcases Gk e with e|e
  ·rcases Gk e with e|e<;>obtain rfl:=aT e
   ·exact getMethod_builtin ⟨_,ho,rfl⟩ F.plainAttrs_list F.slot_list_append F.type_list_append hd h
   ·exact getMethod_builtin ⟨_,ho,rfl⟩ F.plainAttrs_list F.slot_list_pop F.type_list_pop hd h
  ·obtain rfl:=aT e;exact getMethod_builtin ⟨_,ho,rfl⟩ F.plainAttrs_list F.slot_list_extend F.type_list_extend hd h
|lls m c ks=>refine dT ro fun is xs m _ ho _=>?_;obtain rfl:=aT e;exact getMethod_builtin ⟨_,ho,rfl⟩ F.plainAttrs_list F.slot_list_append F.type_list_append (fun b e=>by cases e;exact⟨_,ho,rfl⟩) h
|dct es=>refine oEA ro fun kvs dd _=>?_;refine dT (id dd) fun o es ep ho ex r=>?_;obtain rfl:=aT e;exact getMethod_builtin dd.mapOf.typeIs F.plainAttrs_dict F.slot_dict_get F.type_dict_get (fun b e=>by cases e;exact⟨_,ho,ex.2.1⟩) h
|_=>exact ff e
theorem NG(hs:kD w C B ih)(c:CxOk C oU env R cx A){as:List E}(o:dU C.p.lams env.scope as=true)(I:At w C B oU env R st s.heap){v:SV}{x:Value}{f:String}{kk:List SV->St->Bool}(X:RV C R s.heap v x)
  (h:ih.exs cx as st kk ke=true) (PX:PE w C B oU env R s.heap s ke E')
  (go:∀{s':Shared} {st' R'} {vs xs},R.le R'->Le oU s.heap s'.heap->(∃h' tk',s'={s with heap:=h',toks:=tk'})->At w C B oU env R' st' s'.heap->RV C R' s'.heap v x->RVs C R' s'.heap vs xs->kk vs st'=true->wpAny (model C.prog w) A (call (.builtin f) (x::xs)) Q E' s') :
  wpAny (model C.prog w) A (callWith q (.builtin f) [x] (dH (aN C.p.lams) as env) []) Q E' s:=
 callWith_of (P:=fun h=>Kpr (model C.prog w) h (.builtin f)) (d6 _ _ _) (fun h p=>p) (cQ
  (hs cx as st _ ke oU env R A s _ E' c o I h (fun vs st1 R1 h1 tk1 xs ln g l I1 XS z=>⟨fA _ _ _,go (s':={s with heap:=h1,toks:=tk1}) g l ⟨h1,tk1,rfl⟩ I1 (X.mono g l.kp) XS z⟩) PX))
theorem wU(g:Nat->Pos->PySem.Expr)(es:List E)(env:Env):(dH g es env).all (!·.1)=true:=by simp only[dH,List.all_map];exact List.all_eq_true.mpr fun _ _=>rfl
theorem hJ(f:Nat->Pos->PySem.Expr):∀(es:List E),(b_ f es).length=es.length
|[]=>rfl
|_::r=>congrArg (·+1) (hJ f r)
theorem MQ(S:Sta C B K mg mb)(hx:eE w C B ih)(hs:kD w C B ih)(hc:j1 w C B ih)(c:CxOk C oU env R cx A){e:E}{n:Nat}{as:List E}{q':Pos}(o:cN C.p.lams env.scope (.mca e n as q q')=true)(I:At w C B oU env R st s.heap)
  (h:Da C.p ih cx e n as st k ke=true) (P:PV w C B oU env R s.heap s k Q) (PX:PE w C B oU env R s.heap s ke E') :
  wpAny (model C.prog w) A (eval (.Call (.Attribute (bC (aN C.p.lams) e) (nm n) q) (b_ (aN C.p.lams) as) [] q') env) Q E' s:=by
 refine bZ o fun on o=>?_;replace on:n<1024:=aP on;replace o:=qG o;refine oA o fun u2 o5=>?_;refine oA u2 fun u3 o4=>?_;refine oA u3 fun u4 o3=>?_;refine oA u4 fun o1 o2=>?_;rw[arm_eval_Call,sZ o1,bU env o3,cE];refine wpAny_bind (hx cx e st _ ke oU env R A s _ E' c o2 I h (fun v st1 R1 h1 tk1 x g le1 I1 X z=>?_) PX);refine wpAny_bind (wpAny_standAt ?_);have hform:methodCallForm ((b_ (aN C.p.lams) as).length+([]:List Keyword).length) (dH (aN C.p.lams) as env) (backToKw q' (keywordEach [] env))=true:=by unfold methodCallForm;rw[wU,hJ];exact decide_eq_true (Nat.lt_of_le_of_lt (aP o4) (by decide))
 have hpos:methodCallPos true (bC (aN C.p.lams) e) env q q'=Pure.pure q':=by unfold methodCallPos;rw[show(q.endLine==q'.line)=true from beq_iff_eq.mpr (aT o5)];rfl
 have go:∀{f:Value} {fst:List Value} {s1:Shared},wpAny (model C.prog w) A (callWith q' f fst (dH (aN C.p.lams) as env) []) Q E' s1->
   (wpAny (model C.prog w) A (methodCallPos true (bC (aN C.p.lams) e) env q q' >>= fun callPos=>callWith callPos f fst (dH (aN C.p.lams) as env) []) Q E' s1):=fun h=>by
  rw[hpos,pure_bind];exact h
 unfold methodCall;rw[hform];have I1:At w C B oU env R1 st1 ({s with heap:=h1,toks:=tk1}:Shared).heap:=I1;induction v using SV.casesOn with
|str cs=>refine bZ z fun z1 z2=>?_;obtain rfl:=aT z1;refine qD (id X) fun o1' t u5=>?_;subst u5;refine wpAny_bind (wpAny_holding ?_);show wpAny _ _ (getMethod (.str (bB cs) t) (nm 6) _) _ _ _;rw[Os];exact GM.isupper (go (NG hs (c.le g) o3 I1 X z2 (PX.mono g le1) fun{s'} {_} {_} {_} {_} g2 l2 hs' I2 X2 XS2 e2=>by refine H9 hs' fun h' tk' u6=>?_;subst u6;exact Jh I2 X2 XS2 e2 ((P.mono g le1).mono g2 l2)))
|loc l=>
  refine dO z fun ob hg z=>?_;have alt:(∃cl d,ob=.ins cl d)\/(xL ob n&&ih.exs cx as st1 (fun vs st=>Gh C.p l n vs st k) ke)=true:=by
   induction ob using SO.casesOn with
  |ins c d=>exact .inl ⟨c,d,rfl⟩
  |_=>exact .inr z
  rcases alt with⟨cl,d,rfl⟩|z
  ·replace z:Fk C.p ih cx n as l cl d st1 k ke=true:=z;unfold Fk at z;rcases hf:C.p.meth.look (cl*1024+n) with _|f
   ·rw[hf] at z;refine i8 (sL S I1.inv X z) fun l' c' y d' es b ds m fs attr e1 hg' u7 hfs hfa F _=>?_;subst u7;cases e1;rw[hg] at hg';cases hg';refine wpAny_bind (wpAny_holding (method_usual (DO S I1.inv) F.ia F.gt F.ge (S.mu cl _ n hfs hfa) rfl ?_));exact Iw S I1 X (k:=fun gv st=>ih.exs cx as st (fun vs st=>ih.call cx.dp cx.un gv vs st k ke) ke) z (fun v2 st2 R2 h2 tk2 x2 g2 l2 I2 X2 e2=>
     go (AQ hs hc (c.le (g.trans g2)) o3 I2 X2 (fst:=[]) (fx:=[]) rfl e2 (P.mono (g.trans g2) (le1.trans l2)) (PX.mono (g.trans g2) (le1.trans l2))))
   ·rw[hf] at z;refine bZ z fun z1 z2=>?_;refine oEA (id X) fun a ha u8=>?_;subst u8;refine fS (I1.inv.at hg) fun a' ha' b hb ho=>?_;rw[ha] at ha';obtain rfl:=aF ha';refine dA z1 fun es hes z1=>?_;refine fM (I1.inv.at hes) fun b' hb' ds m hdo re=>?_;rw[hb] at hb';obtain rfl:=aF hb';refine pN (S.me cl n f hf on) fun m1 m2 m3 m4=>?_;have sh:shadowIn (some (dictOf ds m)) (nm n)=some false:=by
     show(lookIn (nm n) (dictOf ds m)).map (·.isSome)=some false;rw[lookIn_dict,(re.get (nm n)).2 (by
      rw[pA S];rcases hn:look n es with _|v
      ·rfl
      ·rw[hn] at z1;exact ff z1)]
     rfl
    refine wpAny_bind (wpAny_holding (method_fn (DO S I1.inv) ⟨ho,rfl,rfl,hdo⟩ m3 m4 m1 m2 sh ?_));exact go (AQ hs hc (c.le g) o3 I1 (f:=.glo f) (fst:=[.loc l]) rfl ⟨_,[],rfl,X,rfl⟩ z2 (P.mono g le1) (PX.mono g le1))
  ·refine bZ z fun z1 z2=>?_;refine wpAny_bind (wpAny_holding (Ea I1 hg X z1 ?_));exact go (NG hs (c.le g) o3 I1 X z2 (PX.mono g le1) fun{s'} {_} {_} {_} {_} g2 l2 hs' I2 X2 XS2 e2=>by refine H9 hs' fun h' tk' u9=>?_;subst u9;exact GQ S I2 X2 XS2 e2 ((P.mono g le1).mono g2 l2))
|_=>exact ff z
end
end
section
theorem q7{env:Env}(h:env.scope.kind=.function):interactive env=false:=by unfold interactive;rw[h];rfl
section
variable (w:World)(C:Cst)(B:Heap)
def fO(F:Ev)(x:S):Prop:=∀(cx:Cx) (st:St) (k:Fl->St->Bool) (ke:Ke) (oU:List Env) (env:Env) (R:Rn) (A:Around) (s:Shared) (Q:Flow->Shared->Prop) (E':Value->Shared->Prop),
 CxOk C oU env R cx A->env.frame=some env.locals->FB C.p.lams env.scope x=true->At w C B oU env R st s.heap->cT C.p F cx x st k ke=true->PF w C B oU env R s.heap s k Q->PE w C B oU env R s.heap s ke E'->
 wpAny (model C.prog w) A (exec (Mz (aN C.p.lams) x) env) Q E' s
end
section
variable{E':Value->Shared->Prop}{k:Fl->St->Bool}{Q:Flow->Shared->Prop}{q:Pos}
theorem MU(hs:SSts w C B ih)(h1:∀x,fO w C B ih x)(c:CxOk C oU env R cx A)(hf:env.frame=some env.locals){ss:List S}(o:gN C.p.lams env.scope ss=true)(I:At w C B oU env R st s.heap)(e:DH C.p ih cx ss st k ke=true)
  (P:PF w C B oU env R s.heap s k Q) (PX:PE w C B oU env R s.heap s ke E'):wpAny (model C.prog w) A (execs (fU (aN C.p.lams) ss) env) Q E' s:=by
 rcases ss with _|⟨x,r⟩
 ·exact wpAny_execs_nil (P .nxt st R s.heap s.toks (.refl _) (.refl _ _) I e)
 ·replace o:=aG o;replace e:cT C.p ih cx x st (fun fl st=>match fl with|.nxt=>ih.sts cx r st k ke|fl=>k fl st) ke=true:=e;refine wpAny_execs_cons (h1 x cx st _ ke oU env R A s _ E' c hf o.1 I e (fun f st1 R1 h1 tk g l I1 z=>?_) PX);induction f using Fl.casesOn with
 |nxt=>exact hs cx r st1 k ke oU env R1 A _ Q E' (c.le g) hf o.2 I1 z (P.mono g l) (PX.mono g l)
 |cnt=>exact P .cnt st1 R1 h1 tk g l I1 z
 |ret v=>exact P (.ret v) st1 R1 h1 tk g l I1 z
theorem MN(hx:eE w C B ih){e:E}:fO w C B ih (.exp e q):=by
 intro cx st k ke oU env R A s Q E' c hf o I h P PX;replace o:=aG o;obtain⟨o,hn⟩:=o;refine wpAny_Expr_any (hx cx e st _ ke oU env R A s _ E' c o I h (fun v st1 R1 h1 tk x g l I1 X z=>?_) PX) (q7 c.kind) (kO hn _ _ _);have z:k .nxt st1=true:=by rcases v with _|_<;>first|exact z|exact ff z
 exact P .nxt st1 R1 h1 tk g l I1 z
theorem MS(hx:eE w C B ih){e:E}:fO w C B ih (.ret e q):=by intro cx st k ke oU env R A s Q E' c hf o I h P PX;exact wpAny_Return_some (hx cx e st _ ke oU env R A s _ E' c o I h (fun v st1 R1 h1 tk x g l I1 X z=>P (.ret v) st1 R1 h1 tk g l I1 z x X) PX)
theorem Jp:fO w C B ih (.ret0 q):=by intro cx st k ke oU env R A s Q E' c hf o I h P PX;exact wpAny_Return_none (P (.ret .non) st R s.heap s.toks (.refl _) (.refl _ _) I h .none rfl)
theorem MK:fO w C B ih (.cnt q):=by intro cx st k ke oU env R A s Q E' c hf o I h P PX;exact wpAny_Continue (P .cnt st R s.heap s.toks (.refl _) (.refl _ _) I h)
theorem NI(ht:wW w C B ih)(hs:SSts w C B ih){t:E}{a b:List S}:fO w C B ih (.ife t a b q):=by
 intro cx st k ke oU env R A s Q E' c hf o I h P PX;replace o:=eO o;refine wpAny_If (ht cx t st _ ke oU env R A s _ E' c o.1.1 I h (fun r st1 R1 h1 tk g l I1 z=>?_) PX);rcases r with _|_
 ·exact hs cx b st1 k ke oU env R1 A _ Q E' (c.le g) hf o.2 I1 z (P.mono g l) (PX.mono g l)
 ·exact hs cx a st1 k ke oU env R1 A _ Q E' (c.le g) hf o.1.2 I1 z (P.mono g l) (PX.mono g l)
end
end
section
section
variable{E':Value->Shared->Prop}{q:Pos}
theorem Gm(S:Sta C B K mg mb)(c:CxOk C oU env R cx A){n:Nat}{v:SV}{x:Value}{k:St->Bool}{Q:Shared->Prop}(o:(kd env.scope n .local||kd env.scope n .cell)=true)(I:At w C B oU env R st s.heap)
  (X:RV C R s.heap v x) (e:kE C.p cx.cl n v st k=true) (P:PU w C B oU env R s.heap s k Q):wpAny (model C.prog w) A (storeName env (nm n) x) (fun _=>Q) E' s:=by
 have ck:=c.ck n;replace o:=Gk o;unfold kE at e;rcases hl:look n cx.cl with _|l
 ·rw[hl] at e ck;rw[bJ] at e;have e:=dN e;have hk:kd env.scope n .local=true:=o.resolve_right fun z=>ck (cD z);refine oEA (I.frm) fun m hm hf=>?_;refine wpAny_storeName_local (cD hk) hm (fun h' ns sb=>?_) (by rw[c.kind];rfl);obtain⟨I2,l2⟩:=I.store (fr:=put n v st.fr) sb fun kp=>⟨_,ns,fun n' v' q=>by
   rw[bM] at q;by_cases z:n'=n
   ·rw[if_pos z] at q;obtain rfl:=aF q;subst z;exact⟨x,if_pos rfl,X.mono (.refl R) kp⟩
   ·rw[if_neg z] at q;refine oEA (hf n' v' q) fun y hy Y=>?_;exact⟨y,by rw[if_neg (fun z'=>z (S.nmi _ _ z'))];exact hy,Y.mono (.refl R) kp⟩⟩
  exact P _ R h' _ (.refl R) l2 I2 e
 ·rw[hl] at e ck;refine dC e fun v0 hv0 e=>?_;refine oEA (c.cl n l hl) fun a ha hc=>?_;refine oEA (I.inv.at hv0) fun a' ha' ro=>?_;rw[ha] at ha';obtain rfl:=aF ha';have hk:kd env.scope n .cell=true:=o.resolve_left fun z=>ck (cD z);have hcell:∃v1,s.heap.IsCell a v1:=by
   rcases v0 with _|v1
   ·exact⟨_,ro⟩
   ·refine oEA ro fun y hy _=>?_;exact⟨_,hy⟩
  refine oE hcell fun v1 hv1=>?_;refine wpAny_storeName_cell c.kind (cD hk) hc hv1 fun h' hcell sb=>?_;refine I.set ha e sb (fun kp=>⟨x,hcell,X.mono (.refl R) kp⟩) fun st2 e2 l2 I2 _ _=>?_;exact P st2 R h' s.toks (.refl R) l2 I2 e2
theorem Mj(S:Sta C B K mg mb){ns:List (Nat×Pos)}:∀{vs:List SV} {xs:List Value} {st:St} {R:Rn} {s:Shared} {k:St->Bool} {Q:Shared->Prop},CxOk C oU env R cx A->
  (ns.all fun x=>kd env.scope x.1 .local||kd env.scope x.1 .cell)=true->At w C B oU env R st s.heap->RVs C R s.heap vs xs->mW C.p cx.cl ns vs st k=true->PU w C B oU env R s.heap s k Q->
  wpAny (model C.prog w) A (assignInOrder ((assignEach (ns.map fun x=>PySem.Expr.Name (nm x.1) x.2) env).map (·.2)) xs) (fun _=>Q) E' s:=by
 induction ns with
|nil=>
  intro vs xs st R s k Q _ _ I _ e P;rcases vs with _|_
  ·exact assignInOrder_nil (P st R s.heap s.toks (.refl R) (.refl _ _) I e)
  ·exact ff e
|cons n ns ih=>
  intro vs xs st R s k Q c o I X e P;rcases vs with _|⟨v,vs⟩
  ·exact ff e
  refine aY X fun y ys z Y Ys=>?_;subst z;exact assignInOrder_cons (PyProof.Rows.assign_Name (Gm S c (aG o).1 I Y e fun st' R' _ _ g l I' e'=>
   ih (c.le g) (aG o).2 I' (Ys.mono g l.kp) e' (P.mono g l)))
end
end
section
section
variable{prog:Program}{E:Value->Shared->Prop}
theorem m_{it t:Addr}{items:Array Value}(hne:t≠it):∀(n i:Nat) (s:Shared) (Q:List Value->Shared->Prop),s.heap.IsListIter it t i->s.heap.IsList t items->i+n<=items.size->
  (∀h',h'.IsListIter it t (i+n)->Heap.SameBut it s.heap h'->Q ((items.toList.drop i).take n) {s with heap:=h'})->wpAny (model prog w) A (draw (.ref it) n) Q E s
|0,i,s,Q,hit,_,_,hQ=>by show wpAny _ _ (pure []) Q E s;exact wpAny_pure (by simpa using hQ s.heap hit (Heap.SameBut.refl ..))
|n+1,i,s,Q,hit,ht,hle,hQ=>by
  have hlt:i<items.size:=by(first|lia|omega)
  show wpAny _ _ (pyNext (.ref it) >>= _) Q E s;refine wpAny_bind (wpAny_pyNext_list_item hit ht (x:=items[i]) (by simp[hlt]) fun h₁ hit₁ hs₁=>?_);refine wpAny_bind (wpAny_holding (m_ hne n (i+1) _ _ hit₁ (ht.extBut hs₁.extBut hne) (by(first|lia|omega)) fun h₂ hit₂ hs₂=>wpAny_pure ?_));have hd:items.toList.drop i=items[i]::items.toList.drop (i+1):=by simp[List.drop_eq_getElem_cons,hlt]
  have:=hQ h₂ (by rw[show i+(n+1)=i+1+n by(first|lia|omega)];exact hit₂) (hs₁.trans hs₂);rw[hd,List.take_succ_cons] at this;exact this
theorem jY{t:Addr}{items:Array Value}{Q:List Value->Shared->Prop}(hh:A.handled=none)(ht:s.heap.IsList t items)
  (hQ:∀h',Heap.ExtBut s.heap.objs.size s.heap h'->Q items.toList {s with heap:=h'}):wpAny (model prog w) A (unpackItems (.ref t) items.size none) Q E s:=by
 have hlt:t≠s.heap.objs.size:=by refine oEA ht fun o ho _=>?_;exact Nat.ne_of_lt (Heap.lt_size ho)
 have htp:∀o,(s.heap.push o).IsList t items:=fun o=>by refine oEA ht fun x hx r=>?_;exact⟨x,Heap.get?_push_of_some _ hx,r⟩
 unfold unpackItems;refine wpAny_bind ?_
 ·unfold notIterableAtAll;refine wpAny_bind (wpAny_specialOf ht.typeIs slot_list_iter.lookup ?_);refine wpAny_pure ?_;simp only[Bool.false_eq_true,if_false];refine wpAny_bind (wpAny_holding (wpAny_pyIter_list ht ?_));refine wpAny_bind (wpAny_holding (m_ hlt items.size 0 _ _ ⟨_,Heap.get?_push_size _ rfl,rfl,rfl⟩ (htp _) (by(first|lia|omega)) fun h₁ hit₁ hs₁=>?_));have hall:List.take items.size (List.drop 0 items.toList)=items.toList:=by rw[List.drop_zero];exact List.take_of_length_le (by simp)
  rw[hall];rw[if_neg (by simp)];have ht₁:h₁.IsList t items:=(htp _).extBut hs₁.extBut hlt;refine wpAny_bind (wpAny_holding (wpAny_pyNext_list_end hh hit₁ ht₁ (by simp) fun h₂ he₂=>?_));simp only[Option.isSome_none,Bool.false_eq_true,if_false];refine wpAny_pure (hQ h₂ fun b o hb e=>he₂ b o hb (hs₁.extBut b o hb (Heap.get?_push_of_some _ e)))
end
theorem qR{h h':Heap}(x:Heap.ExtBut h.objs.size h h'):∀b o,h.get? b=some o->h'.get? b=some o:=fun b o e=>x b o (Nat.ne_of_lt (Heap.lt_size e)) e
theorem AJ{p:P}{v:SV}{st:St}{f:List SV->Bool}(e:Jg p v st f=true):∃vs,(v=.tup vs\/∃l,v=.loc l/\st.get p l=some (.lst vs))/\f vs=true:=by
 induction v using SV.casesOn with
|tup vs=>exact⟨vs,.inl rfl,e⟩
|loc l=>refine dL e fun vs h e=>?_;exact⟨vs,.inr ⟨l,rfl,h⟩,e⟩
|_=>exact ff e
section
variable{E':Value->Shared->Prop}{q:Pos}
theorem FS(hh:A.handled=none)(I:At w C B oU env R st s.heap){v:SV}{x:Value}{vs:List SV}{n:Nat}{Q:List Value->Shared->Prop}(X:RV C R s.heap v x)(hv:v=.tup vs\/∃l,v=.loc l/\st.get C.p l=some (.lst vs))(hn:n=vs.length)
  (hQ:∀h' xs,(∀b o,s.heap.get? b=some o->h'.get? b=some o)->RVs C R h' vs xs->Q xs {s with heap:=h'}):wpAny (model C.prog w) A (unpackItems x n none) Q E' s:=by
 rcases hv with rfl|⟨l,rfl,hl⟩
 ·refine aY X fun a xs u1 t rs=>?_;subst u1;have:n=xs.toArray.size:=by rw[hn,List.size_toArray,rs.len]
  subst this;refine unpackItems_tuple hh t fun h' he=>?_;have kk:=qR he;exact hQ h' xs kk (rs.mono (.refl R) (.of_keep kk))
 ·refine oEA X fun a ha u2=>?_;subst u2;refine fM (I.inv.at hl) fun a' ha' xs m ho rs=>?_;rw[ha] at ha';obtain rfl:=aF ha';have:n=xs.toArray.size:=by rw[hn,List.size_toArray,rs.len]
  subst this;refine jY hh ⟨_,ho,rfl,_,rfl⟩ fun h' he=>?_;have kk:=qR he;exact hQ h' xs kk (rs.mono (.refl R) (.of_keep kk))
theorem sI(ns:List (Nat×Pos)):(assignEach (ns.map fun x=>PySem.Expr.Name (nm x.1) x.2) env).length=ns.length/\(assignEach (ns.map fun x=>PySem.Expr.Name (nm x.1) x.2) env).findIdx? (·.1)=none:=by
 induction ns with
|nil=>exact⟨rfl,rfl⟩
|cons n r ih=>refine⟨congrArg (·+1) ih.1,?_⟩;show((false,assign (.Name (nm n.1) n.2) env)::assignEach (r.map fun x=>PySem.Expr.Name (nm x.1) x.2) env).findIdx? (·.1)=none;rw[List.findIdx?_cons,ih.2];rfl
theorem Ab(S:Sta C B K mg mb)(c:CxOk C oU env R cx A){t:T}{v:SV}{x:Value}{k:St->Bool}{Q:Shared->Prop}(o:Fd env.scope t=true)(I:At w C B oU env R st s.heap)
  (X:RV C R s.heap v x) (e:eP C.p cx.cl t v st k=true) (P:PU w C B oU env R s.heap s k Q):wpAny (model C.prog w) A (assign (n9 t) env x) (fun _=>Q) E' s:=by
 induction t using T.casesOn with
|nm n q=>exact PyProof.Rows.assign_Name (Gm S c o I X e P)
|tp ns q=>refine oEA (AJ e) fun vs hv e=>?_;refine bZ e fun e1 e=>?_;refine oA (sI (env:=env) ns) fun h1 h2=>?_;show wpAny _ _ (assign (.Tuple _ _ _) env x) _ _ _;rw[PyProof.Rows.assign_Tuple];refine wpAny_bind (wpAny_standAt ?_);unfold unpack;rw[h1,h2];refine wpAny_bind (wpAny_holding (FS c.hd I X hv (aT e1) fun h' xs kk rs=>?_));exact Mj S c o (I.keep kk) rs e (P.mono (.refl R) (.of_keep kk))
end
end
section
section
variable{E':Value->Shared->Prop}{k:Fl->St->Bool}{Q:Flow->Shared->Prop}{q q':Pos}
theorem vT(S:Sta C B K mg mb)(hx:eE w C B ih){n:Nat}{e:E}(hn:fB (bC (aN C.p.lams) e)=true):fO w C B ih (.asg (.nm n q) e q'):=by intro cx st k ke oU env R A s Q E' c hf o I h P PX;replace o:=eO o;refine wpAny_Assign_Name (hx cx e st _ ke oU env R A s _ E' c o.1.2 I h (fun v st1 R1 h1 tk x g l I1 X z=>?_) PX) (kO hn _ _ _);refine Gm S (c.le g) o.1.1 I1 X z fun st2 R2 h2 tk2 g2 l2 I2 z2=>?_;exact P .nxt st2 R2 h2 tk2 (g.trans g2) (l.trans l2) I2 z2
theorem rQ(S:Sta C B K mg mb)(hx:eE w C B ih){ns:List (Nat×Pos)}{e:E}(hn:fB (bC (aN C.p.lams) e)=true)(hw:swappedStores [n9 (.tp ns q)] (bC (aN C.p.lams) e) env=pure none)(c:CxOk C oU env R cx A)
  (o:FB C.p.lams env.scope (.asg (.tp ns q) e q')=true) (I:At w C B oU env R st s.heap) (h:cT C.p ih cx (.asg (.tp ns q) e q') st k ke=true) (P:PF w C B oU env R s.heap s k Q) (PX:PE w C B oU env R s.heap s ke E') :
  wpAny (model C.prog w) A (exec (Mz (aN C.p.lams) (.asg (.tp ns q) e q')) env) Q E' s:=by
 replace o:=eO o;refine Assign_Tuple (hx cx e st _ ke oU env R A s _ E' c o.1.2 I h (fun v st1 R1 h1 tk x g l I1 X z=>?_) PX) (pM hn _ _ _) hw;refine Ab (t:=.tp ns q) S (c.le g) o.1.1 I1 X z fun st2 R2 h2 tk2 g2 l2 I2 z2=>?_;exact P .nxt st2 R2 h2 tk2 (g.trans g2) (l.trans l2) I2 z2
theorem Mp(S:Sta C B K mg mb)(c:CxOk C oU env R cx A){a b:Nat}{v u:SV}{x y:Value}{k:St->Bool}{Q:Shared->Prop}{pa pb:Pos}(ha:kd env.scope a .local=true)(hb:kd env.scope b .local=true)(ne:a≠b)
  (I:At w C B oU env R st s.heap) (X:RV C R s.heap v x) (Y:RV C R s.heap u y) (e:mW C.p cx.cl [(a,pa),(b,pb)] [v,u] st k=true) (P:PU w C B oU env R s.heap s k Q) :
  wpAny (model C.prog w) A (assignInOrder ([nm a,nm b].reverse.map fun n=>bindName env n) [x,y].reverse) (fun _=>Q) E' s:=by
 have ca:=c.ck a;have cb:=c.ck b;have la:look a cx.cl=none:=by
  rcases z:look a cx.cl with _|_
  ·rfl
  ·rw[z] at ca;exact absurd (cD ha) ca
 have lb:look b cx.cl=none:=by
  rcases z:look b cx.cl with _|_
  ·rfl
  ·rw[z] at cb;exact absurd (cD hb) cb
 replace e:kE C.p cx.cl a v st (fun st=>kE C.p cx.cl b u st fun st=>k st)=true:=e;unfold kE at e;rw[la,lb] at e;rw[bJ] at e;have e:=dN e;rw[bJ] at e;have e:=dN e;refine oEA (I.frm) fun m hm hf=>?_;show wpAny _ _ (assignInOrder [bindName env (nm b),bindName env (nm a)] [y,x]) _ _ _;have hp:(env.scope.kind==.class||(env.scope.kind==.module&&env.locals != env.globals))=false:=by rw[c.kind];rfl
 refine assignInOrder_cons (wpAny_bindName (wpAny_storeName_local (cD hb) hm (fun h1 ns1 sb1=>?_) hp));refine assignInOrder_cons (wpAny_bindName (wpAny_storeName_local (cD ha) ns1 (fun h2 ns2 sb2=>?_) hp));obtain⟨I2,l2⟩:=I.store (fr:=put b u (put a v st.fr)) (sb1.trans sb2) fun kp=>⟨_,ns2,fun n' v' q=>by
  rw[bM,bM] at q;by_cases z:n'=b
  ·rw[if_pos z] at q;obtain rfl:=aF q;subst z;exact⟨y,by rw[if_neg (fun z=>ne (S.nmi _ _ z).symm),if_pos rfl],Y.mono (.refl R) kp⟩
  ·rw[if_neg z] at q;by_cases z2:n'=a
   ·rw[if_pos z2] at q;obtain rfl:=aF q;subst z2;exact⟨x,by rw[if_pos rfl],X.mono (.refl R) kp⟩
   ·rw[if_neg z2] at q;refine oEA (hf n' v' q) fun y' hy Y'=>?_;exact⟨y',by rw[if_neg (fun z'=>z2 (S.nmi _ _ z')),if_neg (fun z'=>z (S.nmi _ _ z'))];exact hy,Y'.mono (.refl R) kp⟩⟩
 exact assignInOrder_nil (P _ R h2 _ (.refl R) l2 I2 e)
end
end
section
section
variable{q q':Pos}
theorem Jl(S:Sta C B K mg mb)(hx:eE w C B ih){ns:List (Nat×Pos)}{e:E}:fO w C B ih (.asg (.tp ns q) e q'):=by
 intro cx st k ke oU env R A s Q E' c hf o I h P PX;have oe:=(aG (aG o).1).2;refine oA (aG (aG o).2) fun hn oa=>?_;have hs:=jE [n9 (.tp ns q)] (bC (aN C.p.lams) e) env;unfold Dw at oa;rcases hz:pureOf (swappedStores [n9 (.tp ns q)] (bC (aN C.p.lams) e) (yB env.scope)) with _|r
 ·rw[hz] at oa;exact ff oa
 ·rw[hz] at oa;have hw:=hs.trans (of_pureOf hz);rcases r with _|l
  ·exact rQ S hx hn hw c o I h P PX
  ·rcases ns with _|⟨a,_|⟨b,_|⟨_,_⟩⟩⟩
   ·exact ff oa
   ·exact ff oa
   ·refine AS oa fun od ka kb ne=>?_;obtain rfl:=bD od;refine Assign_Tuple_swapped (names:=[nm a.1,nm b.1]) (hx cx e st _ ke oU env R A s _ E' c oe I h (fun v st1 R1 h1 tk u g l I1 X z=>?_) PX) (pM hn _ _ _) hw;refine oEA (AJ z) fun vs hv z=>?_;refine bZ z fun z1 z=>?_;refine FS c.hd I1 X hv (aT z1) fun h2 xs kk rs=>?_;rcases vs with _|⟨v1,_|⟨v2,_|⟨_,_⟩⟩⟩<;>first|((first|exact ff z1|cases z1);done)|skip
    refine hU rs fun y1 ys u2 Y1 y2 ys' u3 Y2 e0=>?_;subst u2;subst u3;rw[show ys'=[] from e0];refine Mp (s:={s with heap:=h2,toks:=tk}) S (c.le g) ka kb (fun e=>by rw[show Nat.beq a.1 b.1=true by rw[e];exact Nat.beq_refl _] at ne;exact ff ne) (I1.keep kk) Y1 Y2 z fun st2 R2 h3 tk2 g2 l2 I2 z2=>?_;exact P .nxt st2 R2 h3 tk2 (g.trans g2) (l.trans ((Le.of_keep kk).trans l2)) I2 z2
   ·exact ff oa
end
end
section
theorem nX{v o:PySem.Expr}{a:Str}{p:Pos}{l:Nat}{env:Env}:swapsWith v (some (.Attribute o a p)) l env=pure false:=by rcases v with _|_<;>rfl
theorem wQ{v o i:PySem.Expr}{p:Pos}{l:Nat}{env:Env}:swapsWith v (some (.Subscript o i p)) l env=pure false:=by rcases v with _|_<;>rfl
section
variable{E':Value->Shared->Prop}{q q':Pos}
theorem IE(S:Sta C B K mg mb)(I:At w C B oU env R st s.heap){a v:SV}{x y:Value}{n:Nat}{k:St->Bool}{Q:Shared->Prop}(X:RV C R s.heap a x)(Y:RV C R s.heap v y)(e:Cp C.p a n v st k=true)(P:PU w C B oU env R s.heap s k Q) :
  wpAny (model C.prog w) A (setAttr x (nm n) y) (fun _=>Q) E' s:=by
 obtain⟨l,c,z,d,es,b,ds,m,fs,attr,rfl,hg,rfl,hf,_,F,e⟩:=sL S I.inv X e;obtain⟨hsz,e⟩:=aG e;rw[bJ] at e;have hl:(getL (nm n) ds).isSome=true:=by
  rcases f:fE (nm n) (es.map fun e=>(nm e.1,e.2)) with _|u
  ·rw[(F.re.get (nm n)).2 f];rfl
  ·obtain⟨_,h,_⟩:=(F.re.get (nm n)).1 u f;rw[h];rfl
 have re2:=F.re.put (k:=nm n) Y (s.toks+1);rw[rG S] at re2;obtain⟨m0,hns,_⟩:=I.frm;refine FU (DO S I.inv) F.ia rfl F.sa F.pl F.tk F.hd hl hns (fun z=>I.lA d (by rw[F.hb,z])) ?_ fun h' ns kk hd'=>?_
 ·rw[re2.len,List.length_map];exact al__3 (vH n v es) (al__3 (Nat.succ_le_succ (aP hsz)) (by decide))
 ·refine I.setW F.hb e kk (fun m' hm'=>by rw[jL hm' hns];exact ns) (fun kp=>⟨_,_,hd',re2.mono (.refl R) kp⟩) fun st2 e2 l2 I2 _ _=>?_;exact P st2 R h' _ (.refl R) l2 I2 e2
theorem MB(S:Sta C B K mg mb)(hx:eE w C B ih){a e:E}{n:Nat}:fO w C B ih (.asa a n e q q'):=by intro cx st k ke oU env R A s Q E' c hf o I h P PX;replace o:=aG o;refine plainObj_wpAny_Assign_Attribute (hx cx e st _ ke oU env R A s _ E' c o.2 I h (fun v st1 R1 h1 tk y g l I1 Y z=>?_) PX) nX;refine hx cx a st1 _ ke oU env R1 A _ _ E' (c.le g) o.1 I1 z (fun u st2 R2 h2 tk2 x g2 l2 I2 X z2=>?_) (PX.mono g l);refine IE (s:={s with heap:=h2,toks:=tk2}) S I2 X (Y.mono g2 l2.kp) z2 fun st3 R3 h3 tk3 g3 l3 I3 z3=>?_;exact P .nxt st3 R3 h3 tk3 (g.trans (g2.trans g3)) (l.trans (l2.trans l3)) I3 z3
end
end
section
theorem zU{β:Type}(k:List Nat)(v:β):∀(es:List (List Nat×β)),(i9 k v es).length<=es.length+1
|[]=>by simp[i9]
|(a,b)::r=>by
  simp only[i9];split
  ·simp
  ·have:=zU k v r;simp;omega
theorem RK.len{C:Cst}{R:Rn}{h:Heap}:∀{es:List (List Nat×SV)} {kvs:List (Str×Value)},RK C R h es kvs->kvs.length=es.length
|[],_,e=>by rw[show _=[] from e];rfl
|(k,v)::r,_,⟨_,x,ds',e,a,b⟩=>by subst e;simp[b.len]
theorem zD{kvs:List (Str×Value)}{k:Str}{v:Value}(h:∀p∈kvs,p.1≠k):kvs.map (fun kv=>if kv.1=k then(kv.1,v) else kv)=kvs:=by
 induction kvs with
|nil=>rfl
|cons p r ih=>rw[List.map_cons,if_neg (h p (.head _)),ih fun q hq=>h q (.tail _ hq)]
theorem RK.put{C:Cst}{R:Rn}{h:Heap}{k:List Nat}{v:SV}{x:Value}(X:RV C R h v x)(ok:nP k=true){es:List (List Nat×SV)}:∀{kvs:List (Str×Value)},RK C R h es kvs->(kvs.map (·.1)).Nodup->
  RK C R h (i9 k v es) (stored kvs (bB k) x):=by
 induction es with
|nil=>exact fun e _=>by rw[show _=[] from e];exact⟨ok,x,[],rfl,X,rfl⟩
|cons p r ih=>
  obtain⟨a,b⟩:=p;intro kvs e nd;refine cV e fun oa y ds' e hb r'=>?_;subst e;replace nd:=List.nodup_cons.mp nd;show RK C R h (match jJ a k with|true=>(a,v)::r|false=>(a,b)::i9 k v r) _;rcases z:jJ a k
  ·have ne:¬bB a=bB k:=fun y=>ff (z.symm.trans ((eH _ _).mpr (jF y)));have e:stored ((bB a,y)::ds') (bB k) x=(bB a,y)::stored ds' (bB k) x:=by
    unfold stored;rw[List.any_cons,List.map_cons,decide_eq_false ne,Bool.false_or,if_neg ne];by_cases q:(ds'.any fun p=>decide (p.1=bB k))=true
    ·rw[if_pos q,if_pos q]
    ·rw[if_neg q,if_neg q];rfl
   rw[e];exact⟨oa,y,_,rfl,hb,ih r' nd.2⟩
  ·obtain rfl:=(eH _ _).mp z;have e:stored ((bB a,y)::ds') (bB a) x=(bB a,x)::ds':=by unfold stored;rw[if_pos (show(((bB a,y)::ds').any fun kv=>decide (kv.1=bB a))=true from List.any_eq_true.mpr ⟨_,.head _,decide_eq_true rfl⟩),List.map_cons,if_pos rfl,zD fun p hp q=>nd.1 (List.mem_map.mpr ⟨p,hp,q⟩)]
   rw[e];exact⟨oa,x,ds',rfl,X,r'⟩
theorem RVs.setN{C:Cst}{R:Rn}{h:Heap}{v:SV}{y:Value}(Y:RV C R h v y){vs:List SV}:∀{xs:List Value},RVs C R h vs xs->∀i,RVs C R h (Mine.setN vs i v) (xs.set i y):=by
 induction vs with
|nil=>exact fun e _=>by rw[show _=[] from e];exact rfl
|cons u r ih=>
  intro xs e i;refine aY e fun z ys e a b=>?_;subst e;rcases i with _|i
  ·exact⟨y,ys,rfl,Y,b⟩
  ·exact⟨z,_,rfl,a,ih b i⟩
section
variable{E':Value->Shared->Prop}{q q':Pos}{k:Fl->St->Bool}{Q:Flow->Shared->Prop}
theorem DC(S:Sta C B K mg mb)(I:At w C B oU env R st s.heap){a i v:SV}{x y z:Value}(X:RV C R s.heap a x)(Z:RV C R s.heap i z)(Y:RV C R s.heap v y)(e:l_ C.p a i v st k=true)(P:PF w C B oU env R s.heap s k Q) :
  wpAny (model C.prog w) A (setItem x z y) (fun _=>Q .next) E' s:=by
 induction a using SV.casesOn with
|loc l=>
  refine oEA X fun d hd u1=>?_;subst u1;induction i using SV.casesOn with
 |int j=>
   rcases j with j|_
   ·refine oE Z fun u u2=>?_;subst u2;refine dL e fun vs hg e=>?_;refine mJ e fun e1 e0 e=>?_;rw[bJ] at e;have e0:=aP e0;have e1:j<vs.length:=aP e1;refine fM (I.inv.at hg) fun d' hd' xs n ho rs=>?_;rw[hd] at hd';obtain rfl:=aF hd';have lt:j<xs.length:=by rw[rs.len];exact e1
    refine ki_setAt ho (Int.natCast_nonneg j) (by show(j:Int)<_;omega) (by show(j:Int)<_;simp;omega) ?_;have q:=PySem.IsL.update ho (·.setIfInBounds j y);refine I.set hd e (Heap.SameBut.update ..) (fun kp=>⟨xs.set j y,n,(by simpa using q),(rs.mono (.refl R) kp).setN (Y.mono (.refl R) kp) j⟩) fun st2 e2 l2 I2 _ _=>?_;exact P .nxt st2 R _ _ (.refl R) l2 I2 e2
   ·exact ff e
 |str ks=>
   refine dD e fun es hg e=>?_;refine qD Z fun ok t u4=>?_;subst u4;refine bZ e fun hsz e=>?_;rw[bJ] at e;refine fS (I.inv.at hg) fun d' hd' kvs hdo rk=>?_;rw[hd] at hd';obtain rfl:=aF hd';refine wpAny_setItem_pairs (knd:=strKind C.prog w) (k:=bB ks) (hsz:=by rw[rk.len];exact al__3 (aP hsz) (by decide)) (strKind_is C.prog w (bB ks) t) hdo fun h' hm sb=>?_;have nd:(kvs.map (·.1)).Nodup:=by refine wF hdo fun o es' ep ho hc hdd hk hp hn=>?_;exact hn
   refine I.set hd e sb (fun kp=>⟨_,hm,(rk.mono (.refl R) kp).put (Y.mono (.refl R) kp) ok nd⟩) fun st2 e2 l2 I2 _ _=>?_;exact P .nxt st2 R h' _ (.refl R) l2 I2 e2
 |_=>exact ff e
|_=>exact ff e
theorem MD(S:Sta C B K mg mb)(hx:eE w C B ih){a i e:E}:fO w C B ih (.ass a i e q q'):=by intro cx st k ke oU env R A s Q E' c hf o I h P PX;replace o:=eO o;refine wpAny_Assign_Subscript (hx cx e st _ ke oU env R A s _ E' c o.2 I h (fun v st1 R1 h1 tk y g l I1 Y z=>?_) PX) wQ;refine hx cx a st1 _ ke oU env R1 A _ _ E' (c.le g) o.1.1 I1 z (fun u st2 R2 h2 tk2 x g2 l2 I2 X z2=>?_) (PX.mono g l);refine hx cx i st2 _ ke oU env R2 A _ _ E' (c.le (g.trans g2)) o.1.2 I2 z2 (fun j st3 R3 h3 tk3 zz g3 l3 I3 Z z3=>?_) (PX.mono (g.trans g2) (l.trans l2));exact DC (s:={s with heap:=h3,toks:=tk3}) S I3 (X.mono g3 l3.kp) Z (Y.mono (g2.trans g3) (l2.trans l3).kp) z3 (P.mono (g.trans (g2.trans g3)) (l.trans (l2.trans l3)))
end
end
section
section
variable{q q' q'' qn:Pos}
theorem MC(S:Sta C B K mg mb)(hx:eE w C B ih){n:Nat}{a i e:E}:fO w C B ih (.asn n qn a i e q q' q''):=by
 intro cx st k ke oU env R A s Q E' c hf o I h P PX;replace o:=GC o;refine oA o fun u1 ot=>?_;refine oA u1 fun u2 hn=>?_;refine oA u2 fun u3 oe=>?_;refine oA u3 fun u4 oi=>?_;refine oA u4 fun on oa=>?_;have hw:swappedStores [PySem.Expr.Tuple [.Name (nm n) qn,.Subscript (bC (aN C.p.lams) a) (bC (aN C.p.lams) i) q] 0 q'] (bC (aN C.p.lams) e) env=pure none:=by
  refine(jE _ _ env).trans (of_pureOf ?_);rcases hz:pureOf (swappedStores [PySem.Expr.Tuple [.Name (nm n) qn,.Subscript (bC (aN C.p.lams) a) (bC (aN C.p.lams) i) q] 0 q'] (bC (aN C.p.lams) e) (yB env.scope)) with _|r
  ·rw[hz] at ot;exact ff ot
  ·rw[hz] at ot;rcases r with _|_
   ·rfl
   ·exact ff ot
 refine Assign_Tuple (hx cx e st _ ke oU env R A s _ E' c oe I h (fun v st1 R1 h1 tk x g l I1 X z=>?_) PX) (pM hn _ _ _) hw;induction v using SV.casesOn with
|tup vs=>
  rcases vs with _|⟨va,_|⟨vb,_|⟨_,_⟩⟩⟩<;>first|(exact ff z;done)|skip
  rw[PyProof.Rows.assign_Tuple];refine wpAny_bind (wpAny_standAt ?_);unfold unpack;refine wpAny_bind (wpAny_holding (FS c.hd I1 X (.inl rfl) rfl fun h2 xs kk rs=>?_));refine hU rs fun ya ys u5 Ya yb ys' u6 Yb e0=>?_;subst u5;subst u6;rw[show ys'=[] from e0];show wpAny _ _ (assignInOrder [assign (.Name (nm n) qn) env,assign (.Subscript (bC (aN C.p.lams) a) (bC (aN C.p.lams) i) q) env] [ya,yb]) _ _ _;have l2:Le oU s.heap h2:=l.trans (.of_keep kk);refine assignInOrder_cons (PyProof.Rows.assign_Name (Gm (s:={s with heap:=h2,toks:=tk}) S (c.le g) on (I1.keep kk) Ya z fun st3 R3 h3 tk3 g3 l3 I3 z3=>?_));refine assignInOrder_cons ?_;rw[assign_Subscript];refine wpAny_bind (wpAny_holding (hx cx a st3 _ ke oU env R3 A _ _ E' (c.le (g.trans g3)) oa I3 z3 (fun u st4 R4 h4 tk4 xa g4 l4 I4 XA z4=>?_) (PX.mono (g.trans g3) (l2.trans l3))));refine wpAny_bind (wpAny_holding (hx cx i st4 _ ke oU env R4 A _ _ E' (c.le (g.trans (g3.trans g4))) oi I4 z4 (fun j st5 R5 h5 tk5 xi g5 l5 I5 XI z5=>?_) (PX.mono (g.trans (g3.trans g4)) (l2.trans (l3.trans l4)))));refine wpAny_bind (wpAny_standAt (wpAny_bind (wpAny_holding ?_)));refine wpAny_mono (DC (s:={s with heap:=h5,toks:=tk5}) (Q:=Q) S I5 (XA.mono g5 l5.kp) XI (Yb.mono (g3.trans (g4.trans g5)) (l3.trans (l4.trans l5)).kp) z5 (P.mono (g.trans (g3.trans (g4.trans g5))) (l2.trans (l3.trans (l4.trans l5))))) (fun _ _ y=>?_) fun _ _ y=>y;exact wpAny_release (assignInOrder_nil y)
|_=>exact ff z
end
end
section
section
variable{h₁:Heap}{E':Value->Shared->Prop}
theorem Exc.note{c:Nat}{e:Addr}{Q:Unit->Shared->Prop}(I:At w C B oU env R st h₁)(hf:env.frame=some env.locals)(hk:env.scope.kind=.function)(hA:A.frames=some (env::oU))(X:Exc C B (env::oU) R c e h₁ s.heap)
  (hQ:∀h' base a0,Kept C B R h₁ base->Heap.HeldW base (env::oU) e (.ref c) a0 env.locals h'->h₁.UpToSlots h'->Q () {s with heap:=h'}):wpAny (model C.prog w) A (noteFrame (.ref e) env) Q E' s:=by
 rcases X with⟨kk,en,oe,vs,a0,he,hcls,hd,h0,h1⟩|⟨base,a0,Kb,X,U⟩|⟨base,a0,env2,oU2,L,hfs,Kb,hL,X,U⟩
 ·have Kb:=nG I hf;have hl:=iE I hf hk _ fun _ h=>h;have fresh:∀b,h₁.get? b=none->(hideAll h₁ ((env::oU).filterMap (·.frame))).get? b=none:=fun b hb=>by
   cases hq:(hideAll h₁ ((env::oU).filterMap (·.frame))).get? b with
  |none=>rfl
  |some o'=>have:=Kb.sub b o' hq;rw[hb] at this;exact nf this
  unfold noteFrame;simp only[hf];refine wpAny_bind (wpAny_field he hd h1 ?_);rw[if_neg (by decide)];refine wpAny_entryW hA (hl.of_keeps fun b o hb _=>⟨o,kk b o hb,rfl⟩) hf he (fun b o hb=>kk b o (Kb.sub b o hb)) (fresh e en) hd (Array.getElem?_eq_some_iff.mp h1).1 h0 fun h' hN=>?_;refine pN hN fun k1 k2 k3 k4=>?_;rw[hcls] at k3;exact hQ h' _ _ Kb ⟨k1,fresh e en,k2,k3⟩ ((Heap.UpToSlots.of_keeps kk).trans k4)
 ·exact wpAny_looks_onW hA hf X fun h' x1 x2=>hQ h' base a0 Kb x1 (U.trans x2)
 ·cases hfs;rw[hf] at hL;obtain rfl:=aF hL;exact wpAny_noteFrame_againW hf X.2.2.2 (hQ s.heap base a0 Kb X U)
theorem Exc.cameBack{c:Nat}{e:Addr}(hf:env.frame=some env.locals){base:Heap}{a0:Value}(Kb:Kept C B R h₁ base)(X:Heap.HeldW base (env::oU) e (.ref c) a0 env.locals s.heap)(U:h₁.UpToSlots s.heap)
  (hE:∀h',Exc C B (env::oU) R c e h₁ h'->E' (.ref e) {s with heap:=h'}):cameBackBy (model C.prog w) A env E' (.ref e) s:=by
 refine i7 X fun f1 f2 f3 oe vs T oT ts he hcls hd h1 hnT hTe hT hdT h3=>?_;have hsz3:3<ts.size:=(Array.getElem?_eq_some_iff.mp h3).1;unfold cameBackBy;refine wpAny_bind (wpAny_field he hd h1 ?_);rw[if_neg (show ¬((Value.ref T==Value.none)=true) from Bool.false_ne_true)];rw[hf];unfold setFlight;refine wpAny_bind (wpAny_field he hd h1 ?_);rw[if_pos (show(Value.ref T != Value.none)=true from by simp)];have noRecord:∀b o,s.heap.get? b=some o->(∀vs,o.data≠.fields vs)->b≠T:=fun b o hb hnf q=>by rw[q,hT] at hb;injection hb with hb;subst hb;exact hnf ts hdT
 have other:∀b,b≠T->(s.heap.update T (Obj.mapFields (·.setIfInBounds 3 (rawInt env.locals)))).get? b=s.heap.get? b:=
  fun b hb=>Heap.get?_update_other _ _ (Ne.symm hb)
 refine wpAny_setField hT hdT hsz3 (hE _ (.inr (.inr ⟨base,a0,env,oU,env.locals,rfl,Kb,hf,⟨fun b o hbo=>(other b fun q=>by rw[q,hnT] at hbo;exact nf hbo).trans (f1 b o hbo),f2,
  f3.of_keeps fun b o hb hnf=>⟨o,(other b (noRecord b o hb hnf)).trans hb,rfl⟩,?_⟩,U.trans fun b o hb hnf=>⟨o.slots,(other b (noRecord b o hb hnf)).trans hb⟩⟩)))
 exact⟨oe,vs,T,_,_,(other e (Ne.symm hTe)).trans he,hcls,hd,h1,hnT,hTe,Heap.get?_update_self _ hT (Obj.isFreed_of_fields (Obj.data_mapFields hdT _)),Obj.data_mapFields hdT _,by simp[hsz3]⟩
end
end
section
section
variable{h:Heap}{E':Value->Shared->Prop}
theorem PE.noted(c:CxOk C oU env R cx A)(hf:env.frame=some env.locals)(P:PE w C B oU env R h s ke E'):PE w C B oU env R h s ke (notedBy (model C.prog w) A env fun e s'=>cameBackBy (model C.prog w) A env E' e s'):=
 fun cc st' R' h1 h' tk' e g l I X q=>Exc.note (s:={s with heap:=h',toks:=tk'}) I hf c.kind (by rw[c.stk,c9 hf]) (by rw[<-c9 hf];exact X) fun h2 base a0 Kb HX U=>Exc.cameBack (s:={s with heap:=h2,toks:=tk'}) hf Kb HX U fun h3 X3=>P cc st' R' h1 h3 tk' e g l I (by rw[c9 hf];exact X3) q
end
section
variable (w:World)(C:Cst)(B:Heap)
def Gx(F:Ev):Prop:=∀(cx:Cx) (t:E) (body:List S) (st:St) (k:Fl->St->Bool) (ke:Ke) (oU:List Env) (env:Env) (R:Rn) (A:Around) (s:Shared) (Q:Flow->Shared->Prop) (E':Value->Shared->Prop),
 CxOk C oU env R cx A->env.frame=some env.locals->cN C.p.lams env.scope t=true->gN C.p.lams env.scope body=true->At w C B oU env R st s.heap->F.whil cx t body st k ke=true->PF w C B oU env R s.heap s k Q->PE w C B oU env R s.heap s ke E'->
 codeAny (model C.prog w) A (.whileLoop (bC (aN C.p.lams) t) (fU (aN C.p.lams) body) [] env) (fun r s'=>match r with|.ok f=>Q f s'|.error e=>cameBackBy (model C.prog w) A env E' e s') s
end
section
variable{q:Pos}
theorem OX{N:Nat}(hh:∀m,m<N->wW w C B (ev C.p m)/\SSts w C B (ev C.p m)):Gx w C B (ev C.p N):=by
 intro cx t body st k ke oU env R A s Q E' c hf ot ob I e P PX;refine codeAny_whileLoop (I:=fun m s'=>m<=N/\∃st' R' h' tk',s'={s with heap:=h',toks:=tk'}/\R.le R'/\Le oU s.heap h'/\At w C B oU env R' st' h'/\(ev C.p m).whil cx t body st' k ke=true)
  (fun m s' hI=>?_) N ⟨Nat.le_refl _,st,R,s.heap,s.toks,rfl,.refl R,.refl _ _,I,e⟩
 refine f_ hI fun hm st' R' h' tk' u1 g l I' e'=>?_;subst u1;rcases m with _|m
 ·exact ff e'
 ·have e':AP (ev C.p m) cx t body st' k ke=true:=e';refine oA (hh m hm) fun ht hs=>?_;refine ht cx t st' _ ke oU env R' A _ _ _ (c.le g) ot I' e' (fun b st2 R2 h2 tk2 g2 l2 I2 z=>?_) ((PX.mono g l).noted (c.le g) hf);rcases b with _|_
  ·exact wpAny_execs_nil (P .nxt st2 R2 h2 tk2 (g.trans g2) (l.trans l2) I2 z)
  ·refine hs cx body st2 _ ke oU env R2 A _ _ _ (c.le (g.trans g2)) hf ob I2 z (fun f st3 R3 h3 tk3 g3 l3 I3 z3=>?_) ((PX.mono (g.trans g2) (l.trans l2)).noted (c.le (g.trans g2)) hf);induction f using Fl.casesOn with
  |nxt=>exact⟨m,Nat.lt_succ_self m,Nat.le_of_lt hm,st3,R3,h3,tk3,rfl,g.trans (g2.trans g3),l.trans (l2.trans l3),I3,z3⟩
  |cnt=>exact⟨m,Nat.lt_succ_self m,Nat.le_of_lt hm,st3,R3,h3,tk3,rfl,g.trans (g2.trans g3),l.trans (l2.trans l3),I3,z3⟩
  |ret v=>exact fun x X=>P (.ret v) st3 R3 h3 tk3 (g.trans (g2.trans g3)) (l.trans (l2.trans l3)) I3 z3 x X
theorem MY{ih:Ev}(hw:Gx w C B ih){t:E}{body:List S}:fO w C B ih (.whi t body q):=by intro cx st k ke oU env R A s Q E' c hf o I h P PX;replace o:=aG o;exact wpAny_While (hw cx t body st k ke oU env R A s Q E' c hf o.1 o.2 I h P PX)
end
end
section
def cU(T:String)(n:Nat):Bool:=T==iK n||(T=="bool"&&Nat.beq n 0)
theorem Mv:(["NoneType","bool","int","bytes","tuple","str"].all fun T=>(List.range 5).all fun n=>((fastBuiltinMro T).map (·.contains (.type (iK n))))==some (cU T n))=true:=by decide +kernel
theorem iJ{T:String}{n:Nat}(hT:T∈["NoneType","bool","int","bytes","tuple","str"])(hn:n<5):isSubtype (.type T) (.type (iK n))=pure (cU T n):=by have h:=eq_of_beq (aZ (aZ Mv T hT) n (List.mem_range.mpr hn));refine oEA (Option.map_eq_some_iff.mp h) fun m e e'=>?_;rw[isSubtype_type,e,<-e']
theorem Gb:∀n,n<5->typeOf (.type (iK n))=pure (.type "type")
|0,_=>by kernel_rfl
|1,_=>by kernel_rfl
|2,_=>by kernel_rfl
|3,_=>by kernel_rfl
|4,_=>by kernel_rfl
|n+5,h=>absurd h (by(first|lia|omega))
theorem nK{T:String}{n:Nat}(h:cU T n=false):(Value.type T==Value.type (iK n))=false:=by
 rcases q:(Value.type T==Value.type (iK n)) with _|_
 ·rfl
 ·cases eq_of_beq q;rw[show cU (iK n) n=true from by unfold cU;rw[beq_self_eq_true];rfl] at h;cases h
section
variable{E':Value->Shared->Prop}{Q:Value->Shared->Prop}
theorem hM{x:Value}{T:String}{n:Nat}(hn:n<5)(hT:T∈["NoneType","bool","int","bytes","tuple","str"])(ht:s.TypeIs x T)
  (no:cU T n=false->wpAny (model C.prog w) A (call (.builtin "isinstance") [x,.type (iK n)]) Q E' s) (yes:cU T n=true->Q (.bool true) s):wpAny (model C.prog w) A (call (.builtin "isinstance") [x,.type (iK n)]) Q E' s:=by
 rcases b:cU T n with _|_
 ·exact no b
 ·exact call_isinstance (isinstance_true (Gb n hn) (by rw[iJ hT hn,b])) ⟨ht,yes b⟩
theorem Mg(I:At w C B oU env R st s.heap){v:SV}{x:Value}{n:Nat}{b:Bool}(X:RV C R s.heap v x)(n4:Nat.ble n 4=true)(e:yV v n=some b)(z:k (.bol b) st=true)(P:PV w C B oU env R s.heap s k Q) :
  wpAny (model C.prog w) A (call (.builtin "isinstance") [x,.type (iK n)]) Q E' s:=by
 have hn:n<5:=Nat.lt_succ_of_le (aP n4);have fin:∀{T:String} {b':Bool},cU T n=b'->b=cU T n->∀tk,Q (.bool b') {s with toks:=tk}:=fun q r tk=>by subst r;subst q;exact P.tok I (v:=.bol _) tk rfl z
 have five:∀{f:Nat->Bool},(∀n:Fin 5,f n.val=true)->f n=true:=fun h=>h ⟨n,hn⟩;induction v using SV.casesOn with
|non=>subst X;obtain rfl:=aF e;have q:(false==cU "NoneType" n)=true:=five (f:=fun n=>false==cU "NoneType" n) (by decide +kernel);exact hM hn (by decide) rfl (fun b=>call_isinstance (isinstance_false_none (nK b) (Gb n hn) (by rw[iJ (by decide) hn,b])) (fin b (eq_of_beq q) _)) fun b=>fin b (eq_of_beq q) _
|bol c=>subst X;obtain rfl:=aF e;have q:(Nat.ble n 1==cU "bool" n)=true:=five (f:=fun n=>Nat.ble n 1==cU "bool" n) (by decide +kernel);exact hM hn (by decide) rfl (fun b=>call_isinstance (isinstance_false_bool (nK b) (Gb n hn) (by rw[iJ (by decide) hn,b])) (fin b (eq_of_beq q) _)) fun b=>fin b (eq_of_beq q) _
|int c=>
  (refine oE X fun t u1=>?_;subst u1);obtain rfl:=aF e
  have q:(Nat.beq n 0==cU "int" n)=true:=five (f:=fun n=>Nat.beq n 0==cU "int" n) (by decide +kernel);exact hM hn (by decide) rfl (fun b=>call_isinstance (isinstance_false_int (nK b) (Gb n hn) (by rw[iJ (by decide) hn,b])) (fin b (eq_of_beq q) _)) fun b=>fin b (eq_of_beq q) _
|str c=>
  (refine qD X fun _ t u2=>?_;subst u2);obtain rfl:=aF e
  have q:(Nat.beq n 4==cU "str" n)=true:=five (f:=fun n=>Nat.beq n 4==cU "str" n) (by decide +kernel);exact hM hn (by decide) rfl (fun b=>call_isinstance (isinstance_false_str (nK b) (Gb n hn) (by rw[iJ (by decide) hn,b])) (fin b (eq_of_beq q) _)) fun b=>fin b (eq_of_beq q) _
|byt c=>
  (refine oE X fun t u3=>?_;subst u3);obtain rfl:=aF e
  have q:(Nat.beq n 2==cU "bytes" n)=true:=five (f:=fun n=>Nat.beq n 2==cU "bytes" n) (by decide +kernel);refine hM hn (by decide) rfl (fun b=>?_) fun b=>fin b (eq_of_beq q) _;refine call_isinstance (S:=fun _ R s=>R (.ok (.ret (.bool false))) {s with toks:=s.toks+1}) (fun _ _ _ _ s hs=>?_) (fin b (eq_of_beq q) _);obtain⟨h,g,d,t,os⟩:=s;exact isinstance_outer (isinstance_nested_false_bytes (nK b) (Gb n hn) (by rw[iJ (by decide) hn,b]) hs)
|tup c=>
  (refine aY X fun a xs u4 u5 _=>?_;subst u4;refine oEAA u5 fun o ho hc r=>?_);obtain rfl:=aF e
  have q:(Nat.beq n 3==cU "tuple" n)=true:=five (f:=fun n=>Nat.beq n 3==cU "tuple" n) (by decide +kernel);exact hM hn (by decide) ⟨o,ho,hc⟩ (fun b=>call_isinstance (isinstance_false_tuple (nK b) (Gb n hn) (by rw[iJ (by decide) hn,b])) ⟨⟨o,ho,hc⟩,fin b (eq_of_beq q) _⟩) fun b=>fin b (eq_of_beq q) _
|_=>exact nf e
end
end
section
theorem yG{n:Nat}(h:Nat.ble n 10000=true):(n:Int)<2^63:=by
 have:=aP h
 (first|lia|omega)
theorem y9{n:Nat}(h:Nat.ble n 100=true):n<=sizeLine:=al__3 (aP h) (by decide)
theorem GV:∀n:Nat,n<10->Str.ofString (toString (n:Int))=bB [48+n]:=by
 have all:∀n:Fin 10,(Str.ofString (toString (n.val:Int))==bB [48+n.val])=true:=by decide +kernel
 exact fun n h=>eq_of_beq (all ⟨n,h⟩)
section
variable{E':Value->Shared->Prop}{Q:Value->Shared->Prop}
theorem zC(I:At w C B oU env R st s.heap){l:Nat}{vs:List SV}{x:Value}(X:RV C R s.heap (.loc l) x)(h:st.get C.p l=some (.lst vs)):∃a xs,x=.ref a/\s.heap.IsList a xs.toArray/\RVs C R s.heap vs xs:=by refine oEA X fun a ha u1=>?_;subst u1;refine fM (I.inv.at h) fun a' ha' xs m ho rs=>?_;rw[ha] at ha';obtain rfl:=aF ha';exact⟨a,xs,rfl,⟨_,ho,rfl,_,rfl⟩,rs⟩
theorem Mh(I:At w C B oU env R st s.heap){v:SV}{x:Value}(X:RV C R s.heap v x)(e:HP C.p v st (fun n=>k (.int (.ofNat n)) st)=true)(P:PV w C B oU env R s.heap s k Q) :
  wpAny (model C.prog w) A (call (.builtin "len") [x]) Q E' s:=by
 induction v using SV.casesOn with
|tup vs=>refine aY X fun a xs u2 t rs=>?_;subst u2;refine bZ e fun e1 e=>?_;rw[<-rs.len] at e1 e;exact PyProof.Rows.len_tuple t (yG e1) (P.tok I (v:=.int (.ofNat xs.length)) _ ⟨_,rfl⟩ e)
|str cs=>
  refine qD X fun o t u3=>?_;subst u3;refine bZ e fun e1 e=>?_;have ln:(bB cs).length=cs.length:=by simp only[bB,Str.length,List.size_toArray]
  exact len_str (by rw[ln];exact Int.not_le.mpr (yG e1)) (by rw[ln];exact P.tok I (v:=.int (.ofNat cs.length)) _ ⟨_,rfl⟩ e)
|loc l=>refine dL e fun vs h e=>?_;refine aY (zC I X h) fun a xs u4 t rs=>?_;subst u4;refine bZ e fun e1 e=>?_;rw[<-rs.len] at e1 e;exact call_len_list t (yG e1) (P.tok I (v:=.int (.ofNat xs.length)) _ ⟨_,rfl⟩ e)
|_=>exact ff e
theorem IJ(I:At w C B oU env R st s.heap){v:SV}{x:Value}(X:RV C R s.heap v x)(e:BN C.p v st (fun vs=>Nat.ble vs.length 100&&k (.tup vs) st)=true)(P:PV w C B oU env R s.heap s k Q) :
  wpAny (model C.prog w) A (call (.type "tuple") [x]) Q E' s:=by
 induction v using SV.casesOn with
|loc l=>refine dL e fun vs h e=>?_;refine aY (zC I X h) fun a xs u5 t rs=>?_;subst u5;refine bZ e fun e1 e=>?_;rw[<-rs.len] at e1;refine call_tuple_list t (fun h' kk=>?_) (y9 e1);have k2:∀b o,s.heap.get? b=some o->(h'.push {cls:=.type "tuple",data:=.seq xs.toArray}).get? b=some o:=fun b o q=>Heap.get?_push_of_some _ (kk b o q);exact P (.tup vs) st R _ s.toks _ (.refl R) (.of_keep k2) (I.keep k2) ⟨_,xs,rfl,⟨_,Heap.get?_push_size _ rfl,rfl,0,rfl⟩,rs.mono (.refl R) (.of_keep k2)⟩ e
|_=>exact ff e
theorem IG(I:At w C B oU env R st s.heap){v:SV}{x:Value}(X:RV C R s.heap v x)(e:wC v (fun n=>Nat.blt n 10&&k (.str [48+n]) st)=true)(P:PV w C B oU env R s.heap s k Q) :
  wpAny (model C.prog w) A (call (.type "str") [x]) Q E' s:=by
 refine aY (sW X e) fun n t u6 u7 e=>?_;subst u6;subst u7;refine bZ e fun e1 e=>?_;have lt:n<10:=aP e1;refine str_of_int_fit (N:=10) (by show(if(n:Int)<0 then _ else(n:Int))<10;rw[if_neg (Int.not_lt.mpr (Int.natCast_nonneg n))];exact Int.ofNat_lt.mpr lt) (by decide) fun _=>?_;have:=P.tok I (v:=.str [48+n]) (x:=.str (bB [48+n]) s.toks) (s.toks+1) ⟨by unfold nP;simp;(first|lia|omega),_,rfl⟩ e;rw[<-GV n lt] at this;exact this
theorem IB(I:At w C B oU env R st s.heap){vs:List SV}{x:Value}(X:RV C R s.heap (.tup vs) x)(e1:Nat.ble vs.length 100=true)(e:(st.new C.p (.lst vs) fun l st=>k (.loc l) st)=true)(P:PV w C B oU env R s.heap s k Q) :
  wpAny (model C.prog w) A (call (.type "list") [x]) Q E' s:=by
 refine aY X fun a xs u8 u9 rs=>?_;subst u8;refine vC u9 fun o ho hc m hd=>?_;rw[<-rs.len] at e1;refine call_list_seq a (.inr rfl) ho hc hd (fun h' c' kk hS=>?_) (y9 e1);refine I.new e kk (Heap.get?_none_of_le (Nat.le_refl _)) ⟨xs,c',hS,rs.mono ⟨⟨_,rfl⟩,[],by simp⟩ (.of_keep kk)⟩ fun l st2 q2 le2 l2 I2 X2 _ _=>?_;exact P (.loc l) st2 _ h' s.toks _ le2 l2 I2 X2 q2
end
end
end Mine
end
section
open PySem PySem.W PyProof.Rows PySem.Calls PySem.Spec
namespace Mine
variable{w:World}{C:Cst}{B:Heap}{K:Frag}{mg mb:Str->Option Value}{A:Around}{s:Shared}{oU:List Env}{env:Env}{R:Rn}{st:St}{k:Kv}
section
theorem pE:∀a b:List Nat,y_ a b=ltCps a b
|[],[]=>rfl
|[],_::_=>rfl
|_::_,[]=>rfl
|a::r,b::s=>by
  show(match Nat.blt a b with|true=>true|false=>match Nat.beq a b with|true=>y_ r s|false=>false)=(decide (a<b)||(a==b&&ltCps r s));rw[pE r s];rcases h:Nat.blt a b with _|_
  ·rw[show decide (a<b)=false from decide_eq_false fun q=>by rw[show Nat.blt a b=true from cA q] at h;cases h];rcases e:Nat.beq a b with _|_
   ·rw[show(a==b)=false from beq_eq_false_iff_ne.mpr (Nat.ne_of_beq_eq_false e)];rfl
   ·rw[show(a==b)=true from beq_iff_eq.mpr (aT e)];rfl
  ·rw[show decide (a<b)=true from decide_eq_true (aP h)];rfl
theorem nD(k:List Nat):∀l,(Bx k l).Perm (k::l)
|[]=>.refl _
|a::r=>by
  show(match y_ k a with|true=>k::a::r|false=>a::Bx k r).Perm _;rcases y_ k a with _|_
  ·exact((nD k r).cons a).trans (.swap k a r)
  ·exact .refl _
theorem iI:∀l,(hG l).Perm l
|[]=>.refl _
|a::r=>(nD a (hG r)).trans ((iI r).cons a)
theorem vM:∀{l:List (List Nat)},wK l=true->l.Pairwise (fun a b=>y_ b a=false)
|[],_=>.nil
|a::r,h=>.cons (fun b hb=>by have:=aZ (aG h).1 b hb;cases q:y_ b a<;>rw[q] at this<;>first|rfl|exact ff this) (vM (aG h).2)
theorem nR:∀(l:List Str) (p:Str),risingS p l=true->(p::l).Pairwise (fun a b=>y_ b.cps.toList a.cps.toList=false)
|[],_,_=>List.pairwise_singleton ..
|x::r,p,h=>by
  refine bZ h fun h1 h2=>?_;have ih:=nR r x h2;have h0:y_ x.cps.toList p.cps.toList=false:=by rw[pE];cases q:ltCps x.cps.toList p.cps.toList<;>rw[q] at h1<;>first|rfl|exact ff h1
  refine .cons (fun b hb=>?_) ih;rcases bN hb with rfl|hb
  ·exact h0
  ·have h3:=List.rel_of_pairwise_cons ih hb;rw[pE,ltCps_eq,decide_eq_false_iff_not] at h0 h3 ⊢;exact List.not_lt.mpr (List.le_trans (List.not_lt.mp h0) (List.not_lt.mp h3))
theorem tE{ks:List (List Nat)}{ss:List Str}(p:ss.Perm (ks.map bB))(h:sortedS ss=true)(r:wK (hG ks)=true):ss=(hG ks).map bB:=by
 refine List.Perm.eq_of_pairwise (le:=fun a b=>y_ b.cps.toList a.cps.toList=false) (fun a b _ _ h1 h2=>?_) ?_ ?_ (p.trans ((iI ks).map bB).symm)
 ·rw[pE,ltCps_eq,decide_eq_false_iff_not] at h1 h2;have:=List.le_antisymm (List.not_lt.mp h1) (List.not_lt.mp h2);cases a;cases b;exact congrArg Str.mk (Array.toList_inj.mp this)
 ·rcases ss with _|⟨x,r⟩
  ·exact .nil
  ·exact nR r x h
 ·exact List.pairwise_map.mpr (vM r)
theorem Cz{C:Cst}{R:Rn}{h:Heap}{ks:List (List Nat)}:∀{vs:List Value},(∀s∈ks,nP s=true)->StrsAre vs (ks.map bB)->RVs C R h (ks.map .str) vs:=by
 induction ks with
|nil=>exact fun _ e=>by rcases e;exact rfl
|cons k r ih=>intro vs o e;rcases e with _|⟨_,t,e⟩;exact⟨_,_,rfl,⟨o _ (.head _),t,rfl⟩,ih (fun s hs=>o s (.tail _ hs)) e⟩
theorem RK.keys{C:Cst}{R:Rn}{h:Heap}{es:List (List Nat×SV)}:∀{kvs:List (Str×Value)},RK C R h es kvs->kvs.map (·.1)=(es.map (·.1)).map bB/\∀s∈es.map (·.1),nP s=true:=by
 induction es with
|nil=>exact fun e=>by rw[show _=[] from e];exact⟨rfl,fun _ h=>nomatch h⟩
|cons p r ih=>exact fun e=>cV e fun o x ds' e _ b=>e▸oA (ih b) fun h1 h2=>⟨congrArg (bB p.1::·) h1,fun s hs=>(bN hs).elim (fun z=>z▸o) (h2 s)⟩
theorem j_:∀{vs:List Value} {ks:List Str},vs.length=ks.length->(∀(i:Nat) (v:Value),vs[i]?=some v->∃(k:Str) (t:Tok),ks[i]?=some k/\v=Value.str k t)->StrsAre vs ks
|[],[],_,_=>.nil
|[],_::_,e,_=>nomatch e
|_::_,[],e,_=>nomatch e
|v::vs,k::ks,e,h=>by refine cX (h 0 v rfl) fun k' t e1 u1=>?_;subst u1;obtain rfl:=aF e1;exact .cons k t (j_ (Nat.succ.inj e) fun i v hv=>h (i+1) v hv)
section
variable{E':Value->Shared->Prop}{Q:Value->Shared->Prop}
theorem Mm(S:Sta C B K mg mb)(hh:A.handled=none)(I:At w C B oU env R st s.heap){l:Nat}{es:List (List Nat×SV)}{x:Value}(X:RV C R s.heap (.loc l) x)(hg:st.get C.p l=some (.dct es))(e0:Nat.ble es.length 50=true)(er:wK (hG (es.map (·.1)))=true)
  (e:(st.new C.p (.lst ((hG (es.map (·.1))).map .str)) fun l st=>k (.loc l) st)=true) (P:PV w C B oU env R s.heap s k Q) :
  wpAny (model C.prog w) A (call (.builtin "sorted") [x]) Q E' s:=by
 refine oEA X fun d hd u2=>?_;subst u2;refine fS (I.inv.at hg) fun d' hd' kvs hdo rk=>?_;rw[hd] at hd';obtain rfl:=aF hd';refine oE (hdo.dictAt) fun ep hat=>?_;refine oA (rk.keys) fun hk1 hk2=>?_;have hlen:kvs.length<=50:=by rw[rk.len];exact aP e0
 refine call_function_entry kind_sorted plain_sorted entry_sorted (args_sorted1 _) ?_;unfold Builtin.«sorted»;refine wpAny_bind (m:=checkCount "sorted" 1 1 _) (wpAny_pure ?_);refine wpAny_bind (kdu_collect (A:=A.in1) (kdl_dict (knd:=strKind C.prog w) (kvs:=kvs) (ep:=ep) (mC S I.inv hd)) hh hat (al__3 hlen (by decide)) fun h' tk acc hk hacc=>?_);have hl:acc.toList.length=kvs.length:=by rw[Array.length_toList];exact hacc.1
 have hs:StrsAre acc.toList ((es.map (·.1)).map bB):=by rw[<-hk1];refine j_ (by rw[hl,List.length_map]) fun i v hv=>?_;refine cX (hacc.2 i v (by rw[<-Array.getElem?_toList];exact hv)) fun k x hx hkk=>?_;refine oE (Value.isStrOf_shape hkk) fun t u3=>?_;subst u3;exact⟨k,t,by rw[List.getElem?_map,hx];rfl,rfl⟩
 refine wpAny_bind (wpAny_newList ?_ (by rw[hl];exact al__3 hlen (by decide)));have hoL:(h'.push {cls:=.type "list",data:=.seq acc.toList.toArray}).get? h'.objs.size=some (seqObj "list" acc.toList.toArray 0):=Heap.get?_push_size _ rfl;refine wpAny_bind (wpAny_holding (wpAny_call_entry slot_list_sort ⟨_,hoL,rfl⟩ entry_list_sort (list_sort_treeK strKind_oneLt hoL hs.keysOf (fun v₁ v₂ rest e=>keyKind_strs (by rw[<-e];exact hs)) (by rw[hl];(first|lia|omega)) fun st' a1 a2=>⟨_,rfl,?_⟩) (args_list_sort _)));refine oEAA (sorted_out_str hs a1 a2) fun ss b1 b2 b3=>?_;rw[tE b2 b3 er] at b1;refine wpAny_pure ⟨_,rfl,?_⟩;have kk:∀b o,s.heap.get? b=some o->(sortedHeap (h'.push {cls:=.type "list",data:=.seq acc.toList.toArray}) h'.objs.size acc.toList ((arrOf st').map (·.2))).get? b=some o:=fun b o q=>by have q:=hk b o q;rw[sortedHeap_old (Nat.ne_of_lt (Heap.lt_size q)) (by rw[size_push'];exact Nat.lt_succ_of_lt (Heap.lt_size q))];exact Heap.get?_push_of_some _ q
 refine oE (sortedHeap_at (out:=(arrOf st').map (·.2)) hoL) fun ep' hat'=>?_;refine I.new e kk (by
  rcases q:s.heap.get? h'.objs.size with _|o
  ·rfl
  ·have:=Heap.lt_size (hk _ o q);exact absurd this (Nat.lt_irrefl _)) ⟨((arrOf st').map (·.2)).toList,ep',by rw[hat',Array.toArray_toList],Cz (fun s hs=>hk2 s ((iI _).mem_iff.mp hs)) b1⟩ fun l st2 q2 le2 l2 I2 X2 _ _=>?_
 exact P (.loc l) st2 _ _ tk _ le2 l2 I2 X2 q2
end
end
end Mine
end
section
open PySem PySem.W PyProof.Rows PySem.Calls
namespace Mine
variable{w:World}{C:Cst}{B:Heap}{oU:List Env}{env:Env}
section
section
variable{R R':Rn}{st st':St}{h h':Heap}{a:Addr}
def held(C:Cst)(R:Rn)(oU:List Env)(env:Env)(h:Heap):Heap:=up C R ({env with frame:=some env.locals}::oU) h
theorem At.lower{B':Heap}(k:B.StaysIn B')(I:At w C B' oU env R st h):At w C B oU env R st h:=
 ⟨I.inv.low k,I.frm,b9 k I.lB,I.lA,fun e he=>let⟨hk,L,o,es,n,a1,b,c,d,r⟩:=I.out e he;⟨hk,L,o,es,n,a1,b,c,b9 k d,r⟩⟩
theorem At.hold(I:At w C B oU env R st h):At w C (held C R oU env h) oU env R st h:=
 ⟨I.inv.up _,I.frm,fV (.head _) rfl,I.lA,fun e he=>let⟨hk,L,o,es,n,a1,b,c,_,r⟩:=I.out e he;⟨hk,L,o,es,n,a1,b,c,fV (.tail _ he) a1,r⟩⟩
theorem At.low_held(I:At w C B oU env R st h):B.StaysIn (held C R oU env h):=fun b o e=>by
 have no:∀{c:Addr},B.get? c=none->c≠b:=fun e2 z=>by subst z;rw[e2] at e;exact nf e
 refine mD (I.inv.stays b o e) (fun i z=>no (I.inv.new i b z).1 rfl) (fun x hx z=>?_) fun q hq=>no (I.inv.tab q hq).1;rcases bN hx with rfl|hx
 ·obtain rfl:=aF z;exact no I.lB rfl
 ·refine f_ (I.out x hx) fun _ L _ _ _ a1 _ _ d _=>?_;rw[a1] at z;obtain rfl:=aF z;exact no d rfl
theorem Fresh.held(f:Fresh C B oU env R h a){o:Obj}(e:h.get? a=some o):(Mine.held C R oU env h).get? a=some o:=
 mD e f.nl (fun x hx z=>by
  rcases bN hx with rfl|hx
  ·obtain rfl:=aF z;exact f.nf rfl
  ·exact f.no x hx z) f.nt
theorem At.still{B':Heap}{o:Obj}(I:At w C B' oU env R st h)(nb:B.get? a=none)(e:B'.get? a=some o)(m:¬iP o):Fresh C B oU env R h a/\h.get? a=some o:=
 have no:∀{c:Addr},B'.get? c=none->c≠a:=fun e2 z=>by subst z;rw[e2] at e;exact nf e
 ⟨⟨nb,fun i z=>no (I.inv.new i a z).1 rfl,fun q hq=>no (I.inv.tab q hq).1,fun z=>no I.lB z.symm,fun x hx z=>by refine f_ (I.out x hx) fun _ L _ _ _ a1 _ _ d _=>?_;rw[a1] at z;obtain rfl:=aF z;exact no d rfl,o,I.inv.stays a o e,m⟩,I.inv.stays a o e⟩
theorem Fresh.same(f:Fresh C B oU env R h a){o:Obj}(e:h'.get? a=some o)(m:¬iP o):Fresh C B oU env R h' a:=⟨f.nb,f.nl,f.nt,f.nf,f.no,o,e,m⟩
theorem At.pushed(I:At w C B oU env R st h){o:Obj}(hf:o.isFreed=false)(m:¬iP o):At w C B oU env R st (h.push o)/\Fresh C B oU env R (h.push o) h.objs.size/\Le oU h (h.push o):=by
 have k:∀b o',h.get? b=some o'->(h.push o).get? b=some o':=fun b o' e=>Heap.get?_push_of_some _ e;have hn:h.get? h.objs.size=none:=Heap.get?_none_of_le (Nat.le_refl _);have no:∀{b:Addr} {o:Obj},h.get? b=some o->b≠h.objs.size:=fun e z=>by rw[z,hn] at e;exact nf e
 refine⟨I.keep k,⟨?_,fun i e=>?_,fun q hq e=>?_,fun e=>?_,fun e he z=>?_,o,Heap.get?_push_size _ hf,m⟩,.of_keep k⟩
 ·rcases q:B.get? h.objs.size with _|o
  ·rfl
  ·exact absurd rfl (no (I.inv.stays _ o q))
 ·refine cZ (I.inv.new i _ e) fun _ o q _=>?_;exact no q rfl
 ·refine cZ (I.inv.tab q hq) fun _ ps z _=>?_;exact no z e
 ·refine c_ (I.ns) fun o _ _ q _=>?_;exact no q e.symm
 ·refine gY (I.out e he) fun _ L _ _ _ a1 b _=>?_;rw[a1] at z;obtain rfl:=aF z;exact no b rfl
theorem At.own{o:SO}{k:Nat->St->Bool}(I:At w C B oU env R st h)(e:st.new C.p o k=true)(f:Fresh C B oU env R h a)(ho:RO w C ⟨R.ρ++[a],R.δ⟩ h a o) :
  ∃i st',k i st'=true/\R.le ⟨R.ρ++[a],R.δ⟩/\At w C B oU env ⟨R.ρ++[a],R.δ⟩ st' h/\RV C ⟨R.ρ++[a],R.δ⟩ h (.loc i) (.ref a)/\st'.get C.p i=some o/\st'.fr=st.fr:=by
 refine kM e fun st2 e2 f1 f2 f3 f4 f5=>?_;refine oA (I.add (fun _ _ e=>e) f ho ⟨f2,f3 I.inv.olen,f4,f5⟩ f1) fun I2 _=>?_;exact⟨_,st2,e2,⟨⟨_,rfl⟩,[],by simp⟩,I2,⟨a,by rw[<-I.inv.len];simp,rfl⟩,by rw[f5];simp,f1⟩
theorem PV.lower{B':Heap}{s:Shared}{k:Kv}{Q:Value->Shared->Prop}(kk:B.StaysIn B')(P:PV w C B oU env R h s k Q):PV w C B' oU env R h s k Q:=fun v st' R' h' tk' x g l I X e=>P v st' R' h' tk' x g l (I.lower kk) X e
theorem PE.lower{B':Heap}{s:Shared}{ke:Ke}{E:Value->Shared->Prop}(kk:B.StaysIn B')(P:PE w C B oU env R h s ke E):PE w C B' oU env R h s ke E:=fun c st' R' h₁ h' tk' e g l I X z=>P c st' R' h₁ h' tk' e g l (I.lower kk) (X.low_of kk) z
end
end
variable{K:Frag}{mg mb:Str->Option Value}{A:Around}{s:Shared}{R:Rn}{cx:Cx}{st:St}{ih:Ev}{k:Kv}{ke:Ke}
section
theorem sH{C:Cst}{R:Rn}{h:Heap}{es:List (List Nat×SV)}:∀{kvs:List (Str×Value)},RK C R h es kvs->Em es=true->(kvs.map (·.1)).Nodup:=by
 induction es with
|nil=>exact fun e _=>by rw[show _=[] from e];exact .nil
|cons p r ih=>intro kvs e d;refine cV e fun _ x ds e _ b=>bZ d fun d1 d2=>?_;subst e;refine .cons (fun y hy z=>?_) (ih b d2);rw[b.keys.1] at hy;refine oEA (List.mem_map.mp hy) fun k' hk' e1=>oEA (List.mem_map.mp hk') fun p hp e2=>?_;subst e1 e2;have:=aZ d1 p hp;rw[(eH _ _).mpr (jF z)] at this;exact ff this
section
variable{E':Value->Shared->Prop}{Q:Value->Shared->Prop}{q:Pos}
theorem FO(hx:eE w C B ih)(c:CxOk C oU env R cx A){ks:List E}:∀{vs:List E} {st:St} {R':Rn} {s:Shared} {k:List (List Nat×SV)->St->Bool} {Q:List (Value×Value)->Shared->Prop},R.le R'->dU C.p.lams env.scope ks=true->dU C.p.lams env.scope vs=true->
  At w C B oU env R' st s.heap->xZ ih cx ks vs st k ke=true->
  (∀es st' R'' h' tk' ps kvs,R'.le R''->Le oU s.heap h'->At w C B oU env R'' st' h'->Carries (strKind C.prog w) ps kvs->RK C R'' h' es kvs->k es st'=true->Q ps {s with heap:=h',toks:=tk'})->
  PE w C B oU env R' s.heap s ke E'->wpAny (model C.prog w) A (evalPairs (pairTrees ((b_ (aN C.p.lams) ks).map some) (b_ (aN C.p.lams) vs) env q)) Q E' s:=by
 induction ks with
|nil=>exact fun _ _ _ I e P _=>evalPairs_nil (P [] _ _ _ _ [] [] (.refl _) (.refl _ _) I trivial rfl e)
|cons a ks iv=>
  intro vs st R' s k Q g ok ov I e P PX;rcases vs with _|⟨b,vs⟩
  ·exact ff e
  refine pairTrees_cons_walk (hx cx a st _ ke oU env R' A s _ E' (c.le g) (aG ok).1 I e (fun v st1 R1 h1 tk1 x g1 l1 I1 X z=>?_) PX);induction v using SV.casesOn with
 |str cs=>
   refine qD X fun o t e=>?_;subst e;refine hx cx b st1 _ ke oU env R1 A _ _ E' (c.le (g.trans g1)) (aG ov).1 I1 z (fun v2 st2 R2 h2 tk2 y g2 l2 I2 Y z2=>?_) (PX.mono g1 l1);exact iv (g.trans (g1.trans g2)) (aG ok).2 (aG ov).2 I2 z2 (fun es st3 R3 h3 tk3 ps kvs g3 l3 I3 cr rk z3=>
    P ((cs,v2)::es) st3 R3 h3 tk3 _ ((bB cs,y)::kvs) (g1.trans (g2.trans g3)) (l1.trans (l2.trans l3)) I3 ⟨strKind_is _ _ _ _,rfl,cr⟩ ⟨o,y,kvs,rfl,Y.mono g3 l3.kp,rk⟩ z3) (PX.mono (g1.trans g2) (l1.trans l2))
 |_=>exact ff z
theorem ML(hx:∀B',B.StaysIn B'->eE w C B' ih)(c:CxOk C oU env R cx A){ks vs:List E}(o:cN C.p.lams env.scope (.dct ks vs q)=true)(I:At w C B oU env R st s.heap)(e:C8 C.p ih cx ks vs st k ke=true)
  (P:PV w C B oU env R s.heap s k Q) (PX:PE w C B oU env R s.heap s ke E'):wpAny (model C.prog w) A (eval (bC (aN C.p.lams) (.dct ks vs q)) env) Q E' s:=by
 obtain⟨⟨⟨o1,o2⟩,o3⟩,o4⟩:(((Nat.beq ks.length vs.length=true)/\Nat.ble ks.length 15=true)/\dU C.p.lams env.scope ks=true)/\dU C.p.lams env.scope vs=true:=⟨eO (aG o).1,(aG o).2⟩;have l1:=aT o1;obtain⟨Ip,fp,lp⟩:=I.pushed (o:={cls:=.type "dict",data:=.dict #[]}) rfl (bL (es:=#[]) (n:=0) rfl);rcases ks with _|⟨a,ks⟩
 ·rcases vs with _|_
  ·refine wpAny_Dict_empty ?_;replace e:(st.new C.p (.dct []) fun l st=>k (.loc l) st)=true:=e;obtain⟨l,st2,q2,g2,I2,X2,_⟩:=Ip.own e fp ⟨[],Heap.DictOf.new s.heap,rfl⟩;exact P (.loc l) st2 _ _ s.toks _ g2 lp I2 X2 q2
  ·cases l1
 ·refine wpAny_Dict_walk (knd:=strKind C.prog w) (by rw[List.all_map];exact List.all_eq_true.mpr fun _ _=>rfl) (by rw[List.length_map,hJ,hJ,l1]) (by exact fun z=>by cases z) (by rw[List.length_map,hJ];exact aP o2) ?_;have low:=Ip.low_held;have hat:=fp.held (Heap.get?_push_size _ rfl);refine FO (B:=held C R oU env _) (hx _ low) c (ks:=a::ks) (.refl R) o3 o4 Ip.hold e (fun es st2 R2 h2 tk2 ps kvs g2 l2 I2 cr rk z=>?_) (PE.lower low (PX.mono (.refl R) lp));obtain⟨z1,z⟩:=aG z;obtain⟨f2,h2a⟩:=I2.still fp.nb hat (bL (es:=#[]) (n:=0) rfl);have I2:=I2.lower low;have hd:h2.DictOf (strKind C.prog w) s.heap.objs.size []:=(Heap.DictOf.new s.heap).at fun _ z=>h2a.trans ((Heap.get?_push_size _ rfl).symm.trans z);refine⟨kvs,cr,hd,fun h3 hm sb=>?_⟩;rw[merged_nil_of_nodup _ (sH rk z1)] at hm;obtain⟨I3,l3⟩:=I2.other f2 sb.extBut;obtain⟨o',hm1,hm2⟩:=Heap.dictOf_iff.mp hm;obtain⟨l,st4,q4,g4,I4,X4,_⟩:=I3.own z (f2.same hm1 (by obtain⟨es,ep,hc,hd,_⟩:=hm2;exact bL hd)) ⟨kvs,hm,rk.mono ⟨⟨_,rfl⟩,[],by simp⟩ l3.kp⟩;exact P (.loc l) st4 _ h3 _ _ (g2.trans g4) (lp.trans (l2.trans l3)) I4 X4 q4
end
end
section
theorem sE(env:Env)(f:Str->Addr):∀(ns:List (Str×NameKind)) (acc:List (Str×Addr)),(∀n∈ns,n.2=.free->env.cells.lookup n.1=some (f n.1))->
  (forIn ns acc fun(x:Str×NameKind) (r:List (Str×Addr))=>(if x.2==.free then do
    let a <-cellOf env x.1
    pure (ForInStep.yield ((x.1,a)::r))
   else pure (ForInStep.yield r):Sem (ForInStep (List (Str×Addr)))))=pure ((((ns.filter fun x=>x.2==.free).map fun x=>(x.1,f x.1)).reverse)++acc)
|[],_,_=>rfl
|n::ns,acc,h=>by
  rw[List.forIn_cons];rcases q:(n.2==NameKind.free) with _|_
  ·rw[List.filter_cons_of_neg (p:=fun x:Str×NameKind=>x.2==.free) (by rw[q];exact Bool.false_ne_true)];exact sE env f ns acc fun m hm=>h m (.tail _ hm)
  ·rw[List.filter_cons_of_pos (p:=fun x:Str×NameKind=>x.2==.free) q,List.map_cons,List.reverse_cons,List.append_assoc];have e:cellOf env n.1=pure (f n.1):=by unfold cellOf;rw[h n (.head _) (eq_of_beq q)]
   rw[if_pos rfl,e];exact sE env f ns _ fun m hm=>h m (.tail _ hm)
theorem sG{sc:Scope}{env:Env}(f:Str->Addr)(h:∀x∈fJ sc,env.cells.lookup x=some (f x)):closureFor sc env=pure ((fJ sc).reverse.map fun x=>(x,f x)):=by
 have:=sE env f sc.names [] fun n hn e=>h n.1 (List.mem_map.mpr ⟨n,List.mem_filter.mpr ⟨hn,by rw[e];rfl⟩,rfl⟩);rw[List.append_nil] at this;have e:((fJ sc).reverse.map fun x=>(x,f x))=((sc.names.filter fun x=>x.2==.free).map fun x=>(x.1,f x.1)).reverse:=by rw[List.map_reverse,fJ,List.map_map];rfl
 rw[e];exact(congrArg (· >>= pure) this).trans rfl
theorem lG{cl:List (Nat×Nat)}:∀{ns:List Nat} {cs:List (Nat×Nat)},c8 cl ns=some cs->cs.map (·.1)=ns/\∀p∈cs,look p.1 cl=some p.2
|[],_,e=>by obtain rfl:=aF e;exact⟨rfl,fun _ h=>nomatch h⟩
|n::r,cs,e=>by
  unfold c8 at e;rcases h:look n cl with _|l
  ·rw[h] at e;exact nf e
  ·rw[h] at e;rcases h2:c8 cl r with _|cs'
   ·rw[h2] at e;exact nf e
   ·rw[h2] at e;obtain rfl:=aF e;refine oA (lG h2) fun a b=>?_;exact⟨congrArg (n::·) a,fun p hp=>(bN hp).elim (fun z=>by rw[z];exact h) (b p)⟩
theorem RCl.of{R:Rn}(f:Str->Addr){cs:List (Nat×Nat)}:(∀p∈cs,R.ρ[p.2]?=some (f (nm p.1)))->RCl R cs ((cs.map fun p=>nm p.1).map fun x=>(x,f x)):=by
 induction cs with
|nil=>exact fun _=>rfl
|cons p r ih=>exact fun h=>⟨f (nm p.1),_,rfl,h p (.head _),ih fun q hq=>h q (.tail _ hq)⟩
theorem kU{pos:Pos}{a b:Int}{c cv:Value}:∀{l:List Value},TriplesOk l->codeAmong pos (l++[rawInt a,rawInt b,c])=some cv->codeAmong pos l=some cv\/cv=c
|[],_,h=>by
  replace h:(if(a==pos.line&&b==pos.col)=true then some c else none)=some cv:=h;by_cases q:(a==pos.line&&b==pos.col)=true
  ·rw[if_pos q] at h;exact .inr (aF h).symm
  ·rw[if_neg q] at h;exact nf h
|.int x t::.int y u::z::r,ht,h=>by
  replace h:(if(x==pos.line&&y==pos.col)=true then some z else codeAmong pos (r++[rawInt a,rawInt b,c]))=some cv:=h;show(if(x==pos.line&&y==pos.col)=true then some z else codeAmong pos r)=some cv\/_;by_cases q:(x==pos.line&&y==pos.col)=true
  ·rw[if_pos q] at h ⊢;exact .inl h
  ·rw[if_neg q] at h ⊢;exact kU (l:=r) ht h
theorem gX{ps:Array Value}(h:TriplesOk ps.toList):¬iP (tabObj ps):=by
 rintro(⟨e,_⟩|⟨f,e⟩|⟨vs,q,t,e,e2⟩)
 ·cases e
 ·cases e
 ·cases e;rw[<-Array.getElem?_toList] at e2;generalize ps.toList=l at h e2;rcases l with _|⟨a,_|⟨b,l⟩⟩
  ·exact nf e2
  ·exact nf e2
  ·obtain rfl:=aF e2;rcases a with _|_<;>first|exact h|(cases l<;>exact h)
section
variable{h h':Heap}
theorem At.tab{q:Addr×Str}{ps:Array Value}(I:At w C B oU env R st h)(hq:q∈C.tq)(uq:∀q'∈C.tq,q.1=q'.1->q=q')(k:Heap.ExtBut q.1 h h')(hP:h'.get? q.1=some (tabObj ps))(ht:TriplesOk ps.toList)
  (hc:∀pos cv,codeAmong pos ps.toList=some cv->h'.CodeRec cv q.2):At w C B oU env R st h'/\Le oU h h':=by
 refine zM (I.inv.tab q hq) fun nb ps0 e0 t0 _=>?_;have no:∀{b o},h.get? b=some o->(∀es n,o.data=.dict es n->False)\/b≠q.1:=fun{b o} e=>by
  by_cases z:b=q.1
  ·rw[z,e0] at e;obtain rfl:=aF e;exact .inl fun es n e=>by cases e
  ·exact .inr z
 have kp:Kp h h':=fun b o e m=>k b o (fun z=>by rw[z,e0] at e;obtain rfl:=aF e;exact gX t0 m) e;have nO:∀e∈oU,∀L,e.frame=some L->L≠q.1:=fun e he L hL z=>by refine hO (I.out e he) fun _ L' o es n f1 f2 f3 _=>?_;rw[f1] at hL;obtain rfl:=aF hL;exact(no f2).elim (fun h=>h es n f3) fun h=>h z
 have lo:env.locals≠q.1:=fun z=>I.not_tab q hq z.symm;exact⟨⟨{
  stays:=fun b o e=>k b o (fun z=>by rw[z,nb] at e;exact nf e) (I.inv.stays b o e)
  len:=I.inv.len
  olen:=I.inv.olen
  dlen:=I.inv.dlen
  dD:=I.inv.dD
  da:=I.inv.da
  inj:=I.inv.inj
  new:=fun i a e=>let⟨n,o,e2,m⟩:=I.inv.new i a e;⟨n,o,k a o (fun z=>I.inv.tabA q hq i (z▸e)) e2,m⟩
  obj:=fun i o a e q'=>by refine cZ (I.inv.new i a q') fun _ o2 q2 _=>?_;exact(I.inv.obj i o a e q').mono (.refl R) kp ((k a o2 (fun z=>I.inv.tabA q hq i (z▸q')) q2).trans q2.symm)
  tab:=fun q' hq'=>by
   by_cases z:q.1=q'.1
   ·obtain rfl:=uq q' hq' z;exact⟨nb,ps,hP,ht,hc⟩
   ·let⟨n,ps',e,t,c⟩:=I.inv.tab q' hq';exact⟨n,ps',k _ _ (fun y=>z y.symm) e,t,fun pos cv y=>kp.code (c pos cv y)⟩
  tabA:=I.inv.tabA},I.frk kp (.refl R) fun m x=>x.extBut k lo,I.lB,I.lA,fun e he=>by refine gY (I.out e he) fun hk L o es n a1 b r=>?_;exact⟨hk,L,o,es,n,a1,k _ _ (nO e he L a1) b,r⟩⟩,kp,fun e he L o hL hl=>⟨o.slots,k _ _ (nO e he L hL) hl⟩⟩
end
section
variable{E':Value->Shared->Prop}{Q:Value->Shared->Prop}{q:Pos}
theorem xR(c:CxOk C oU env R cx A){sc:Scope}{ns:List Nat}{cs:List (Nat×Nat)}(hf:ns.map nm=(fJ sc).reverse)(e:c8 cx.cl ns=some cs) :
  ∃f:Str->Addr,closureFor sc env=pure ((cs.map fun p=>nm p.1).map fun x=>(x,f x))/\∀p∈cs,R.ρ[p.2]?=some (f (nm p.1))/\env.cells.lookup (nm p.1)=some (f (nm p.1)):=by
 refine oA (lG e) fun e1 e2=>?_;have hm:(cs.map fun p=>nm p.1)=(fJ sc).reverse:=by rw[<-hf,<-e1,List.map_map];rfl
 have all:∀p∈cs,∃a,R.ρ[p.2]?=some a/\env.cells.lookup (nm p.1)=some a:=fun p hp=>c.cl p.1 p.2 (e2 p hp);have at_:∀p∈cs,R.ρ[p.2]?=some ((env.cells.lookup (nm p.1)).getD 0)/\env.cells.lookup (nm p.1)=some ((env.cells.lookup (nm p.1)).getD 0):=fun p hp=>by refine oEA (all p hp) fun a h1 h2=>?_;rw[h2];exact⟨h1,rfl⟩
 refine⟨fun x=>(env.cells.lookup x).getD 0,?_,at_⟩;rw[hm];refine sG _ fun x hx=>?_;have:x∈cs.map fun p=>nm p.1:=by rw[hm];exact List.mem_reverse.mpr hx
 refine oEA (List.mem_map.mp this) fun p hp u1=>?_;subst u1;exact(at_ p hp).2
theorem MP(S:Sta C B K mg mb)(c:CxOk C oU env R cx A){j:Nat}(I:At w C B oU env R st s.heap)(e:uL C.p cx j st k=true)(P:PV w C B oU env R s.heap s k Q) :
  wpAny (model C.prog w) A (eval (bC (aN C.p.lams) (.lam j q)) env) Q E' s:=by
 refine bZ e fun e1 e=>?_;refine dO e fun l hl e=>?_;refine dO e fun cs hcs e=>?_;refine dT (S.tbn cx.tb (aP e1)) fun cc P' qq t1 t2 t3=>?_;refine oA (c.tb cc P' qq t1) fun hcode hqual=>?_;have ol:=(S.lm j l hl).1;have hfr:l.frees.map nm=(fJ l.sc).reverse:=bD (aG (aG (aG (aG ol).1).1).1).2;refine oEA (xR c hfr hcs) fun f hclo hat=>?_;refine zM (I.inv.tab (P',qq) t2) fun hPB ps hP htr hcv=>?_;have hk:=I.inv.stays;refine wE (S.blt) fun bm bo b1 b2 b3 b4 b5 b6 b7=>?_;have bat:s.heap.BuiltinsAt mg P':=⟨bm,bo,b1,b2,b3,(fun z=>by rw[z,hPB] at b4;exact nf b4),hk _ _ b4,b5,b6,b7⟩;show wpAny _ _ (eval (aN C.p.lams j q) env) _ _ _;unfold aN;rw[hl];refine kla_eval rfl ?_;rw[hqual];have rcl:RCl R cs ((cs.map fun p=>nm p.1).map fun x=>(x,f x)):=.of f fun p hp=>(hat p hp).1;rcases hf:codeAmong q ps.toList with _|cv
 ·refine kla_makeFunction (mg:=mg) hclo c.gl (S.g.keeps hk) hcode (t3.keeps hk) hP htr hf (fun z=>by refine c_ (S.g) fun o _ _ z2 _=>?_;rw[z,hPB] at z2;exact nf z2) bat fun c' ctv h' tk kk _ _ hrec htab=>?_;rw[S.mgn];obtain⟨I2,l2⟩:=I.tab t2 (fun q' hq' z=>S.tqu _ t2 q' hq' z) kk htab (by rw[Array.toList_append];exact TriplesOk_snoc _ _ _ _ htr) fun pos cv z=>by
   rw[Array.toList_append] at z;rcases kU htr z with z|z
   ·refine kP (hcv pos cv z) fun c2 oc vs t e1 e2 r=>?_;exact⟨c2,oc,vs,t,e1,kk _ _ (fun y=>by rw[y,hP] at e2;obtain rfl:=aF e2;exact absurd r.1 (fun z=>gX htr (.inr (.inr ⟨_,_,_,rfl,by cases z;exact r.2⟩)))) e2,r⟩
   ·subst z;exact hrec
  refine kP hrec fun c2 oc vs t e1 e2 r=>?_;cases e1;have k2:∀o:Obj,∀b o',h'.get? b=some o'->(h'.push o).get? b=some o':=fun o b o' z=>Heap.get?_push_of_some _ z;exact P (.lam j cs) st R _ tk _ (.refl R) (l2.trans (.of_keep (k2 _))) (I2.keep (k2 _)) ⟨_,l,_,qq,c',ctv,hl,rfl,rcl,⟨c',oc,vs,t,rfl,k2 _ _ _ e2,r⟩,Heap.get?_push_size _ rfl⟩ e
 ·refine kla_makeFunctionHit (mg:=mg) hclo c.gl (S.g.keeps hk) hcode (t3.keeps hk) hP htr hf bat fun ctv h' tk kk sz=>?_;refine Fv (hcv q cv hf) fun c' oc vs t u2 r=>?_;subst u2;rw[S.mgn];have k2:∀o:Obj,∀b o',s.heap.get? b=some o'->(h'.push o).get? b=some o':=fun o b o' z=>Heap.get?_push_of_some _ (kk b o' z);exact P (.lam j cs) st R _ tk _ (.refl R) (.of_keep (k2 _)) (I.keep (k2 _)) ⟨_,l,_,qq,c',ctv,hl,rfl,rcl,⟨c',oc,vs,t,rfl,k2 _ _ _ r.1,r.2⟩,Heap.get?_push_size _ rfl⟩ e
end
end
section
section
variable{dp un:Nat}{E':Value->Shared->Prop}{Q:Value->Shared->Prop}
theorem RCl.look(nmi:∀n n',nm n=nm n'->n=n'){n i:Nat}{cs:List (Nat×Nat)}:∀{cl:List (Str×Addr)},RCl R cs cl->Mine.look n cs=some i->∃a,R.ρ[i]?=some a/\cl.lookup (nm n)=some a:=by
 induction cs with
|nil=>exact fun _ z=>nf z
|cons p r ih=>
  intro cl e z;refine aY e fun a cl' e q h=>?_;subst e;replace z:(match Nat.beq p.1 n with|true=>some p.2|false=>Mine.look n r)=some i:=z;rw[List.lookup_cons];rcases y:Nat.beq p.1 n
  ·rw[y] at z;rw[show(nm n==nm p.1)=false from beq_eq_false_iff_ne.mpr fun e=>ff (y.symm.trans (nmi _ _ e▸Nat.beq_refl _))];exact ih h z
  ·rw[y] at z;obtain rfl:=aF z;rw[show(nm n==nm p.1)=true from beq_iff_eq.mpr (congrArg nm (aT y).symm)];exact⟨a,q,rfl⟩
theorem Ch{l:List (Str×Value)}{n:Str}{v:Value}(nd:(l.map (·.1)).Nodup)(h:(n,v)∈l):l.reverse.lookup n=some v:=by
 have:(n,v)∈l.reverse:=List.mem_reverse.mpr h;have nd:(l.reverse.map (·.1)).Nodup:=by rw[List.map_reverse];exact(List.reverse_perm _).symm.nodup nd
 generalize l.reverse=r at this nd;induction r with
|nil=>cases this
|cons p r ih=>
  obtain⟨m,u⟩:=p;rw[List.lookup_cons];rcases bN this with e|this
  ·cases e;rw[beq_self_eq_true]
  ·have⟨n1,n2⟩:=List.nodup_cons.mp nd;rw[show(n==m)=false from beq_eq_false_iff_ne.mpr fun e=>n1 (List.mem_map.mpr ⟨_,this,e⟩)];exact ih this n2
theorem AR(S:Sta C B K mg mb)(hx:∀B',Sta C B' K mg mb->eE w C B' ih)(c:CaOk oU env A dp un)(hdp:dp<200)(hun:un<=4007)(I:At w C B oU env R st s.heap){j:Nat}{cs:List (Nat×Nat)}{x:Value}{as:List SV}{xs:List Value}(F:RV C R s.heap (.lam j cs) x)(X:RVs C R s.heap as xs)
  (h:oS C.p ih dp un j cs as st k ke=true) (P:PV w C B oU env R s.heap s k Q) (PX:PE w C B oU env R s.heap s ke E'):wpAny (model C.prog w) A (call x xs) Q E' s:=by
 refine dZ F fun a l cl qual c' ctv hl u1 rcl hcd ho=>?_;subst u1;refine dO h fun l' hl' h=>?_;rw[hl] at hl';cases hl';refine bZ h fun hcs h=>?_;refine dO h fun bs hb h=>?_;replace h:=dN h;refine oA (S.lm j l hl) fun ol o12=>?_;refine GH ol fun o1 o2 o3 o4 o5 o6 o7 o8 o9 o10 o11=>?_;have k1:l.sc.kind=.function:=bD o1;refine s8 (qI hb) fun l1 l2 hbs=>?_;rw[List.nil_append] at hbs;refine wpAny_call (kla_callFunE (by have:=c.dep;show A.depth<1000;(first|lia|omega)) ho rfl (by cases q:l.sc.isCoroutine<;>rw[q] at o2<;>first|rfl|cases o2) (by cases q:l.sc.isGenerator<;>rw[q] at o3<;>first|rfl|cases o3) rfl hcd ?_);have la:(d8 vA l.params []).args.length=l.params.length:=by simp only[d8,List.length_map]
 have nms:(d8 vA l.params []).args.map (·.arg)=l.params.map fun x=>nm x.1:=by simp only[d8,List.map_map];rfl
 have l2:l.params.length<=as.length:=l2;refine iB _ xs [] rfl rfl rfl rfl (.inl ⟨rfl,rfl⟩) (by show((d8 vA l.params []).args.map (·.arg)).Nodup;rw[nms];exact bD o4) (by show _<=(d8 vA l.params []).args.length;rw[X.len,la];exact l1) (by show(d8 vA l.params []).args.length<=_;rw[X.len,la];exact l2) (Nat.zero_le _) ?_;rw[List.drop_nil,List.append_nil];show wpAny _ _ (newFunctionEnv _ _ _ (((d8 vA l.params []).args.map (·.arg)).zip xs) _ _ _ _ _) _ _ _;rw[nms];have hrb:RB C R s.heap bs ((l.params.map fun x=>nm x.1).zip xs):=by rw[hbs];have:=w6 l.params X;rw[show as++([]:List SV).drop _=as from by rw[List.drop_nil,List.append_nil]];exact this
 generalize hbi:(l.params.map fun x=>nm x.1).zip xs=binds at hrb ⊢;have bnd:(binds.map (·.1)).Nodup:=by rw[<-hbi,List.map_fst_zip (by rw[List.length_map,X.len];exact l2)];exact bD o4
 have pmem:∀n v,(n,v)∈bs->∃x∈l.params,x.1=n:=fun n v hp=>by rw[hbs] at hp;refine oEA (List.mem_map.mp (List.of_mem_zip hp).1) fun x hx e=>?_;exact⟨x,hx,e⟩
 refine wpAny_newFunctionEnv (fun x hx z=>by have:=aZ o7 x hx;rw[z] at this;cases this) (fun x hx=>?_) (fun h₁ ns sb=>?_) k1
 ·have:x.1∈l.params.map fun x=>nm x.1:=by rw[<-hbi] at hx;exact(List.of_mem_zip hx).1
  refine oEA (List.mem_map.mp this) fun y hy e=>?_;rw[<-e];exact cD (aZ o6 y hy)
 have kk:∀b o,s.heap.get? b=some o->h₁.get? b=some o:=fun b o e=>sb.extBut b o (Nat.ne_of_lt (Heap.lt_size e)) (Heap.get?_push_of_some _ e);have hE:bC vA l.body=bC (aN C.p.lams) l.body:=o12;show h₁.NoLimit/\codeAny _ A (.expr (bC vA l.body) (envX qual l.sc s.heap.objs.size a (.ref c') cl)) _ _;rw[hE];generalize hn:envX qual l.sc s.heap.objs.size a (.ref c') cl=env';refine⟨(S.nolimit.keeps I.inv.stays).keeps kk,kla_codeExpr ?_⟩;have eL:env'.locals=s.heap.objs.size:=by rw[<-hn]
 have eF:env'.frame=some env'.locals:=by rw[<-hn]
 have eS:env'.scope=l.sc:=by rw[<-hn]
 have fro:FrOk C R h₁ env'.locals bs:=⟨_,by rw[eL];exact ns,fun n v q=>by refine oEA (hrb.mem n v (look_mem q)) fun y hy Y=>?_;exact⟨y,Ch bnd hy,Y.mono (.refl R) (.of_keep kk)⟩⟩;have I1:=I.enter c.kind kk eL fro;have c2:CxOk C (cI env oU) env' R ⟨cs,dp+1,un+3,99⟩ (A.deeper env'):={
  kind:=by rw[eS];exact k1
  gl:=by rw[<-hn]
  bi:=by rw[<-hn]
  stk:=by rw[c9 eF];show A.frames.map _=_;rw[c.stk];rfl
  dep:=by have:=c.dep;show A.depth+1<=dp+1+400;(first|lia|omega)
  un:=cK c.un 3
  hd:=c.hd
  tb:=fun cc P q e=>by rw[S.tb9] at e;cases e
  cl:=fun n i e=>by rw[<-hn];exact rcl.look S.nmi e
  ck:=fun n=>by
   rw[eS];cases q:Mine.look n cs with
  |some i=>refine oEA (List.any_eq_true.mp (aZ hcs _ (look_mem q))) fun m hm e=>?_;cases aT e;show l.sc.names.lookup (nm n)≠_;rw[cD (aZ o10 n hm)];exact fun z=>by cases z
  |none=>intro z;have:=aZ o7 _ (bQ z);cases this
  ub:=cK hun 3
  fr:=.inl eF
  db:=al__3 hdp (by decide)}
 have le1:Le (cI env oU) s.heap h₁:=.of_keep kk;refine hx _ (S.up I.low_up) ⟨cs,dp+1,un+3,99⟩ l.body _ _ _ (cI env oU) env' R (A.deeper env') _ _ _ c2 (by rw[eS];exact o11) I1 h (fun v st3 R3 h3 tk3 y g3 l3 I3 Y e3=>?_) (fun cc st3 R3 h3 h4 tk3 e g3 l3 I3 X3 e3=>?_)
 ·refine oA (At.back I g3 I3 (le1.trans l3)) fun I4 l4=>?_;exact P v _ R3 h3 tk3 y g3 l4 I4 Y (dN e3)
 ·refine oA (At.back I g3 I3 (le1.trans l3)) fun I4 l4=>?_;refine Exc.leave I3 eF (by rw[eS];exact k1) (by show A.frames.map _=_;rw[c.stk];rfl) (by rw[<-c9 eF];exact X3) fun h5 X5=>?_;exact PX cc _ R3 h3 h5 tk3 e g3 l4 I4 (X5.low_of I.low_up) (dN e3)
end
end
section
section
variable{dp un:Nat}{E':Value->Shared->Prop}{Q:Value->Shared->Prop}
theorem CaOk.under(c:CaOk oU env A dp un){a:Addr}{xs:List Value}:CaOk oU env (A.under (.builtin "type.__call__" ⟨.ref a::xs,[]⟩)) (dp+1) (un+4) where
 kind:=c.kind
 stk:=by have:=c.stk;obtain⟨hd,d,fr,gs,u⟩:=A;subst this;rfl
 dep:=by have:=c.dep;show A.depth+1<=dp+1+400;(first|lia|omega)
 un:=al__3 (cK c.un 1) (Nat.add_le_add_left (by decide) _)
 hd:=c.hd
theorem vF(R:Rn)(a:Addr):R.le ⟨R.ρ++[a],R.δ⟩:=⟨⟨_,rfl⟩,[],(List.append_nil _).symm⟩
theorem CM(S:Sta C B K mg mb)(hst:∀B',Sta C B' K mg mb->SSts w C B' ih)(c:CaOk oU env A dp un)(hun:un<4000)(I:At w C B oU env R st s.heap){a f:Nat}(hi:look a C.p.inits=some f){as:List SV}{xs:List Value}(X:RVs C R s.heap as xs)
  (h:oR C.p ih dp un a f as st k=true) (P:PV w C B oU env R s.heap s k Q):wpAny (model C.prog w) A (call (.ref a) xs) Q E' s:=by
 refine pN (S.ini a f hi) fun _ m1 m2 m3=>?_;have XK:=DO S I.inv;have h:(st.new C.p (.adc []) fun d st=>st.new C.p (.ins a d) fun l st=>Nat.blt dp 199&&bO (C.p.funs.look f) fun g=>fG C.p ih (dp+1) (un+4) g (.loc l::as) st (fun v st=>H8 v (k (.loc l) st)) dX)=true:=h;refine s8 (I.pushed (o:=emptyDict) rfl (bL (es:=#[]) (n:=0) rfl)) fun I1 f1 l1=>?_;refine rD (I1.own h f1 ⟨[],0,Heap.get?_push_size _ rfl,rfl⟩) fun d st1 e1 g1 I1 D1 hd _=>?_;refine s8 (I1.pushed (o:=instObj a s.heap.objs.size) rfl (i6 a s.heap.objs.size)) fun I2 f2 l2=>?_;refine oEA D1 fun b hb eb=>?_;cases eb;refine vD (I2.own e1 f2 ⟨s.heap.objs.size,(vF _ _).at hb,Heap.get?_push_size _ rfl⟩) fun l st2 e2 g2 I2 L2 _=>?_;refine bZ e2 fun e3 e2=>?_;refine dO e2 fun g hg e2=>?_;have g12:=g1.trans g2;have l12:=l1.trans l2;obtain⟨hh,gg,dd,tk,os⟩:=s;refine wpAny_call (make_core (makes_of XK m1) (looks_findIn XK m2) (fun self=>bind_fn XK self m3) (.inl rfl) ?_);have lx:(hh.push emptyDict).objs.size=hh.objs.size+1:=Heap.size_push ..;refine codeAny_mono (DN (s:=⟨(hh.push emptyDict).push (instObj a hh.objs.size),gg,dd,tk,os⟩) S (fun B' S'=>(hst B' S').bd _) c.under (Nat.succ_le_succ (aP e3)) (al__3 (cK (Nat.le_of_lt hun) 4) (by decide)) I2 hg (as:=.loc l::as) (xs:=.ref (hh.objs.size+1)::xs) ⟨_,xs,rfl,by rw[<-lx];exact L2,X.mono g12 l12.kp⟩ e2 (Q:=fun v s'=>v=.none/\Q (.ref (hh.objs.size+1)) s') (E':=fun _ _=>False) (fun v st3 R3 h3 tk3 x g3 l3 I3 Y z=>?_) fun _ _ _ _ _ _ _ _ _ _ _ z=>nomatch z) fun r s' hr=>?_
 ·induction v using SV.casesOn with
 |non=>exact⟨Y,P (.loc l) st3 R3 h3 tk3 _ (g12.trans g3) (l12.trans l3) I3 (by rw[<-lx];exact L2.mono g3 l3.kp) z⟩
 |_=>exact ff z
 ·cases r with
 |ok f=>rcases f with _|_<;>exact hr
 |error e=>exact hr.elim
end
end
section
theorem qA{kvs:List (Str×Value)}{k:Str}{v:Value}(h:(kvs.map (·.1)).Nodup):((stored kvs k v).map (·.1)).Nodup:=by
 unfold stored;by_cases q:(kvs.any fun kv=>decide (kv.1=k))=true
 ·rw[if_pos q];have:(kvs.map fun kv=>if kv.1=k then(kv.1,v) else kv).map (·.1)=kvs.map (·.1):=by rw[List.map_map];exact List.map_congr_left fun p _=>by show(if p.1=k then(p.1,v) else p).1=p.1;by_cases z:p.1=k<;>simp only[z,if_true,if_false]
  rw[this];exact h
 ·rw[if_neg q,List.map_append];refine List.nodup_append.mpr ⟨h,List.nodup_cons.mpr ⟨(fun z=>nomatch z),.nil⟩,fun a ha b hb z=>q ?_⟩;refine oEA (List.mem_map.mp ha) fun p hp e=>?_;rw[List.map_singleton,List.mem_singleton] at hb;exact List.any_eq_true.mpr ⟨p,hp,decide_eq_true (e.trans (z.trans hb))⟩
theorem wH{C:Cst}{R:Rn}{h:Heap}{d it:Addr}(ne:∀a,h.get? a≠none->a≠d/\a≠it){vs:List SV}:∀{xs:List Value} {acc es:List (List Nat×SV)} {kvs:List (Str×Value)},RVs C R h vs xs->eZ vs acc=some es->RK C R h acc kvs->(kvs.map (·.1)).Nodup->
  ∃ps,PA d it h xs ps/\RK C R h es (ps.foldl (fun a p=>stored a p.1 p.2) kvs):=by
 induction vs with
|nil=>exact fun e e2 rk _=>⟨[],by rw[show _=[] from e];exact rfl,aF e2▸rk⟩
|cons v vs ih=>
  intro xs acc es kvs r e2 rk nd;refine aY r fun y ys e Y rs=>?_;subst e;induction v using SV.casesOn with
 |tup p=>
   rcases p with _|⟨a,_|⟨b,_|⟨_,_⟩⟩⟩<;>first|(exact nf e2;done)|skip
   induction a using SV.casesOn with
  |str cs=>refine mO Y fun t zs u1 T z1 zs1 e3 u2 z2 zs2 e5 Z2 e6=>?_;refine qD u2 fun o u e4=>?_;subst u1 e3 e4 e5 e6;have nn:h.get? t≠none:=oEA T fun o ho _ z=>nomatch ho.symm.trans z;exact oEA (ih rs e2 (rk.put Z2 o nd) (qA nd)) fun ps h1 h2=>⟨(bB cs,z2)::ps,⟨t,u,_,_,ps,rfl,rfl,T,(ne t nn).1,(ne t nn).2,h1⟩,h2⟩
  |_=>exact nf e2
 |_=>exact nf e2
section
variable{E':Value->Shared->Prop}{Q:Value->Shared->Prop}
theorem Ix(hh:A.handled=none)(I:At w C B oU env R st s.heap){v:SV}{x:Value}(X:RV C R s.heap v x)(e:BN C.p v st (fun vs=>bO (eZ vs []) fun es=>Nat.ble vs.length 100&&st.new C.p (.dct es) fun l st=>k (.loc l) st)=true)(P:PV w C B oU env R s.heap s k Q) :
  wpAny (model C.prog w) A (call (.type "dict") [x]) Q E' s:=by
 induction v using SV.casesOn with
|loc l=>
  refine dL e fun vs h e=>?_;refine dO e fun es he e=>?_;refine bZ e fun e1 e=>?_;refine oEA X fun a ha u3=>?_;subst u3;refine fM (I.inv.at h) fun a' ha' xs m ho rs=>?_;rw[ha] at ha';obtain rfl:=aF ha';have hn:xs.length<=100:=by rw[rs.len];exact aP e1
  have hdn:s.heap.get? s.heap.objs.size=none:=Heap.get?_none_of_le (Nat.le_refl _);refine oEA (wH (d:=s.heap.objs.size) (it:=s.heap.objs.size) (fun b n=>⟨fun z=>n (by rw[z];exact hdn),fun z=>n (by rw[z];exact hdn)⟩) rs he (show RK C R s.heap [] [] from rfl) .nil) fun ps hp rk=>?_;refine lC (ps:=ps) hh ho (by rw[List.size_toArray];(first|lia|omega)) (fun d it h1 ne kk=>hp.to fun b o _ _ g=>have q:=ne b fun z=>nomatch g.symm.trans z;⟨kk b o q.1 q.2 g,q⟩) fun h1 tk hd kk=>?_;refine I.new e kk hdn ⟨_,hd,rk.mono (vF _ _) (.of_keep kk)⟩ fun l2 st2 q2 g2 l2' I2 X2 _ _=>?_;exact P (.loc l2) st2 _ h1 tk _ g2 l2' I2 X2 q2
|_=>exact ff e
end
end
section
section
variable (w:World)(C:Cst)(B:Heap)
def iO:Prop:=∀(a:Nat) (g:Fun),C.p.funs.look a=some g->∀(cx:Cx) (st:St) (k:Fl->St->Bool) (ke:Ke) (oU:List Env) (env:Env) (R:Rn) (A:Around) (s:Shared) (Q:Flow->Shared->Prop) (E':Value->Shared->Prop),
 CxOk C oU env R cx A->env.frame=some env.locals->gN C.p.lams env.scope g.body=true->At w C B oU env R st s.heap->C.p.bod a cx st k ke=some true->PF w C B oU env R s.heap s k Q->PE w C B oU env R s.heap s ke E'->
 wpAny (model C.prog w) A (execs (fU (aN C.p.lams) g.body) env) Q E' s
end
section
theorem MF{A:Around}{s:Shared}{oU:List Env}{env:Env}{R:Rn}{st:St}{E':Value->Shared->Prop}{k:Kv}{Q:Value->Shared->Prop}(S:Sta C B K mg mb)(hh:A.handled=none)(I:At w C B oU env R st s.heap){f:Nat}{as:List SV}{xs:List Value}(X:RVs C R s.heap as xs)
  (e:A0 C.p f as st k=true) (P:PV w C B oU env R s.heap s k Q):wpAny (model C.prog w) A (call (.builtin (D8 f)) xs) Q E' s:=by
 rcases as with _|⟨v,_|⟨t,_|⟨_,_⟩⟩⟩
 ·exact ff e
 ·obtain⟨x,_,rfl,X,e0⟩:=X;subst e0;rcases f with _|_|_|_
  ·exact Mh I X e P
  ·exact ff e
  ·induction v using SV.casesOn with
  |loc l=>refine dD e fun es hg e=>?_;obtain⟨e0,e⟩:=aG e;obtain⟨e0,er⟩:=aG e0;exact Mm S hh I X hg e0 er e P
  |_=>exact ff e
  ·exact ff e
 ·obtain⟨x,_,rfl,X,y,_,rfl,Y,e0⟩:=X;subst e0;obtain⟨e1,e⟩:=aG e;have e1:=aT e1;subst e1;induction t using SV.casesOn with
 |typ t=>subst Y;obtain⟨e1,e3⟩:=aG e;obtain⟨b,hb,e3⟩:=qH e3;exact Mg I X e1 hb e3 P
 |_=>exact ff e
 ·exact ff e
theorem MX{A:Around}{s:Shared}{oU:List Env}{env:Env}{R:Rn}{st:St}{E':Value->Shared->Prop}{k:Kv}{Q:Value->Shared->Prop}(hh:A.handled=none)(I:At w C B oU env R st s.heap){f:Nat}{as:List SV}{xs:List Value}(X:RVs C R s.heap as xs)
  (e:Jf C.p f as st k=true) (P:PV w C B oU env R s.heap s k Q):wpAny (model C.prog w) A (call (.type (iK f)) xs) Q E' s:=by
 rcases as with _|⟨v,_|⟨_,_⟩⟩
 ·exact ff e
 ·obtain⟨x,_,rfl,X,e0⟩:=X;subst e0
  match f,e with
 |0,e=>
   induction v using SV.casesOn with
  |nn c=>obtain⟨i,t,rfl,hi,hs⟩:=X;exact PySem.call_int_int (P.same I (v:=.nn c) ⟨i,t,rfl,hi,hs⟩ e)
  |bol b=>
    subst X;rcases b with _|_
    ·exact PySem.call_int_bool (P.tok I _ (.int 0) ⟨_,rfl⟩ e)
    ·exact PySem.call_int_bool (P.tok I _ (.int 1) ⟨_,rfl⟩ e)
  |_=>exact ff e
 |3,e=>exact IJ I X e P
 |4,e=>exact IG I X e P
 |6,e=>
   induction v using SV.casesOn with
  |tup vs=>exact IB I X (aG e).1 (aG e).2 P
  |_=>exact ff e
 |7,e=>exact Ix hh I X e P
 |1,e|2,e|5,e|_+8,e=>exact ff e
 ·exact ff e
theorem CN(S:Sta C B K mg mb)(oo:∀B',Sta C B' K mg mb->iO w C B')(hst:∀B',Sta C B' K mg mb->SSts w C B' ih)(hx:∀B',Sta C B' K mg mb->eE w C B' ih):j1 w C B (step C.p ih):=by
 intro dp un f as st k ke oU env R A s Q E' x xs c I F X e P PX;refine oA (aG (show(Nat.blt dp 200&&Nat.blt un 4000&&_)=true from e)) fun e0 e=>?_;refine bZ e0 fun e1 e2=>?_;have hdp:dp<200:=aP e1;have hun:un<4000:=aP e2;have hu7:un<=4007:=al__3 (Nat.le_of_lt hun) (by decide);have kp:∀{a:Nat},keepIn K (.ref a)=true->Kpr (model C.prog w) s.heap (.ref a):=fun h=>keeps_K h _ (DO S I.inv);cases f with
|glo a=>
  subst F;have e:(match C.p.funs.look a with|some g=>fG C.p (GR C.p ih a) dp un g as st k ke|none=>bO (look a C.p.inits) fun fi=>oR C.p ih dp un a fi as st k)=true:=e;rcases hf:C.p.funs.look a with _|g
  ·rw[hf] at e;refine dO e fun fi hi e=>?_;exact⟨kp (S.ini a fi hi).1,CM S hst c hun I hi X e P⟩
  ·rw[hf] at e;refine⟨kp (S.fn a g hf).2,MM S (fun B' S' cx st k ke oU env R A s Q E' c hfr o I h P PX=>?_) c hdp hu7 I hf X e P PX⟩;replace h:(match C.p.bod a cx st k ke with|some b=>b|none=>ih.sts cx g.body st k ke)=true:=h;rcases hb:C.p.bod a cx st k ke with _|b
   ·rw[hb] at h;exact hst B' S' cx g.body st k ke oU env R A s Q E' c hfr o I h P PX
   ·rw[hb] at h;subst h;exact oo B' S' a g hf cx st k ke oU env R A s Q E' c hfr o I hb P PX
|lam j cs=>refine dZ (id F) fun a l cl qual c' ctv h1 u6 h2 h3 h4=>?_;subst u6;exact⟨⟨.frame,.inl rfl,(Looks.ld h4).andThen .now⟩,AR S hx c hdp hu7 I F X e P PX⟩
|«bif» f=>subst F;exact⟨fA _ _ _,MF S c.hd I X e P⟩
|typ f=>subst F;exact⟨lL _ _ _,MX c.hd I X e P⟩
|_=>exact ff e
end
end
section
def ItOk(C:Cst)(R:Rn)(h:Heap)(src:It)(i:Nat)(a a2:Addr):Prop:=match src with
|.fix vs=>a2=a/\∃t xs,h.IsTupleIter a t i/\IsTup h t xs.toArray/\RVs C R h vs xs
|.lst l=>a2=a/\∃b,R.ρ[l]?=some b/\h.IsListIter a b i
|.rng n=>a2=a/\i<=n/\n<=64/\PySem.IsRangeIter h a i (n-i:Int) 1
|.enu l=>a≠a2/\∃b old,R.ρ[l]?=some b/\IsEnum h a a2 i old/\h.IsListIter a2 b i
def vZ(src:It)(t:T):Bool:=match src with
|.enu _=>match t with
 |.tp _ _=>true
 |.nm _ _=>false
|_=>true
theorem dS{o:Obj}{t:Addr}{i:Int}{u:Tok}(d:o.data=.fields #[.ref t,.int i u]):¬iP o:=by
 rintro(⟨_,xs,n,e⟩|⟨f,e⟩|⟨vs,q,t,e,e2⟩)
 ·rw[d] at e;cases e
 ·rw[d] at e;cases e
 ·rw[d] at e;cases e;cases e2
theorem dY{o:Obj}{vs:Array Value}{x:Value}(d:o.data=.fields vs)(h:vs[1]?=some x)(hx:∀q t,x≠.str q t):¬iP o:=by
 rintro(⟨_,xs,n,e⟩|⟨f,e⟩|⟨vs,q,t,e,e2⟩)
 ·rw[d] at e;cases e
 ·rw[d] at e;cases e
 ·rw[d] at e;cases e;rw[h] at e2;obtain rfl:=aF e2;exact hx _ _ rfl
theorem lY{C:Cst}{R:Rn}{h:Heap}{vs:List SV}{xs:List Value}{i:Nat}(X:RVs C R h vs xs)(e:nth vs i=none):xs[i]?=none:=by rw[bS] at e;exact List.getElem?_eq_none (by rw[X.len];exact List.getElem?_eq_none_iff.mp e)
section
variable{R R':Rn}{h h':Heap}{src:It}{i:Nat}{a a2:Addr}
theorem ItOk.keep(x:ItOk C R h src i a a2)(g:R.le R')(k:Kp h h')(e:∀o,h.get? a=some o->h'.get? a=some o)(e2:∀o,h.get? a2=some o->h'.get? a2=some o):ItOk C R' h' src i a a2:=by
 induction src using It.casesOn with
|fix vs=>(refine cV x fun z t xs u1 h3 h4=>?_;refine oEA u1 fun o h1 h2=>?_);exact⟨z,t,xs,⟨o,e o h1,h2⟩,k.tup h3,h4.mono g k⟩
|lst l=>(refine cZ x fun z b h1 u2=>?_;refine oEA u2 fun o h2 h3=>?_);exact⟨z,b,g.at h1,⟨o,e o h2,h3⟩⟩
|rng n=>refine pN x fun z h1 h2 h3=>?_;exact⟨z,h1,h2,e _ h3⟩
|enu l=>(refine cV x fun z b old h1 h2 u3=>?_;refine oEA u3 fun o h3 h4=>?_);exact⟨z,b,old,g.at h1,e _ h2,⟨o,e2 o h3,h4⟩⟩
theorem ItOk.obj(X:ItOk C R h src i a a2):(∃o,h.get? a=some o/\¬iP o)/\∃o,h.get? a2=some o/\¬iP o:=by
 induction src using It.casesOn with
|fix vs=>(refine Dp X fun u4 t xs u5 _=>?_;subst u4;refine oEAA u5 fun o h1 h2 h3=>?_);exact⟨⟨o,h1,dS h3⟩,o,h1,dS h3⟩
|lst l=>(refine cZ X fun u6 b _ u7=>?_;subst u6;refine oEAA u7 fun o h1 h2 h3=>?_);exact⟨⟨o,h1,dS h3⟩,o,h1,dS h3⟩
|rng n=>(refine pN X fun u8 _ _ h3=>?_;subst u8);exact⟨⟨_,h3,dY rfl rfl fun _ _ e=>by cases e⟩,_,h3,dY rfl rfl fun _ _ e=>by cases e⟩
|enu l=>(refine cV X fun _ b old _ h2 u9=>?_;refine oEAA u9 fun o h3 _ h4=>?_);exact⟨⟨_,h2,dY rfl rfl fun _ _ e=>by cases e⟩,o,h3,dS h4⟩
theorem ItOk.kp(X:ItOk C R h src i a a2)(k:∀b o,b≠a->b≠a2->h.get? b=some o->h'.get? b=some o):Kp h h':=fun b o e m=>by refine cZ (X.obj) fun u10 o2 q2 n2=>?_;refine oEA u10 fun o1 q1 n1=>?_;exact k b o (fun z=>by rw[z,q1] at e;obtain rfl:=aF e;exact n1 m) (fun z=>by rw[z,q2] at e;obtain rfl:=aF e;exact n2 m) e
end
section
variable{E':Value->Shared->Prop}{src:It}{i:Nat}{a a2:Addr}
theorem lM{o:Obj}{n:String}{vs:Array Value}(h1:s.heap.get? a=some o)(h2:o.cls=.type n)(h3:o.data=.fields vs)(h4:(["enumerate","zip","dict_itemiterator","dict_reverseitemiterator","odict_iterator","itertools.zip_longest","itertools.pairwise"].contains n)=false)
  {t:PySem.Expr} {v:Value} {Q:Unit->Shared->Prop} (h:Q () s):wpAny (model C.prog w) A (letOwnedTupleGo t (.ref a) v) Q E' s:=by
 have tup:wpAny (model C.prog w) A (do
   let(.ref r,.ref b):=(Value.ref a,v)|return
   let o <-load r
   match o.cls,o.data with
  |.type n,.fields vs=>
    if["enumerate","zip","dict_itemiterator","dict_reverseitemiterator","odict_iterator","itertools.zip_longest","itertools.pairwise"].contains n&&vs[0]?==some (rawInt b) then
     rule "for.unpacks-the-owned-tuple"
     updateField r 0 .none
  |_,_=>pure ()) Q E' s:=by
  induction v using PySem.Value.casesOn with
 |ref b=>refine wpAny_bind (wpAny_load h1 ?_);rw[h2,h3];dsimp only;rw[h4,Bool.false_and,if_neg Bool.false_ne_true];exact wpAny_pure h
 |_=>exact wpAny_pure h
 cases t with
|Tuple=>exact tup
|List=>exact tup
|_=>exact wpAny_pure h
theorem ID(hh:A.handled=none)(I:At w C B oU env R st s.heap)(X:ItOk C R s.heap src i a a2){t:T}(tt:vZ src t=true){f:Option SV->Bool}(e:sR C.p src i st f=true){Qn:Shared->Prop}{Qy:Value->Shared->Prop}
  (no:f none=true->∀h',(∀b o,b≠a->b≠a2->s.heap.get? b=some o->h'.get? b=some o)->Qn {s with heap:=h'})
  (yes:∀v x h' tk,f (some v)=true->(∀b o,b≠a->b≠a2->s.heap.get? b=some o->h'.get? b=some o)->ItOk C R h' src (i+1) a a2->RV C R h' v x->Qy x {s with heap:=h',toks:=tk}) :
  wpAny (model C.prog w) A (pyNext (.ref a)) (fun r s1=>match r with
  |none=>Qn s1
  |some v=>wpAny (model C.prog w) A (letOwnedTupleGo (n9 t) (.ref a) v) (fun _ s2=>Qy v s2) E' s1) E' s:=by
 have kp:=fun h'=>X.kp (h':=h');induction src using It.casesOn with
|fix vs=>
  refine cV X fun u11 t xs h1 h3 h4=>?_;subst u11;replace e:f (nth vs i)=true:=e;rcases hv:nth vs i with _|v
  ·rw[hv] at e;exact wpAny_pyNext_tuple_end hh h1 h3 (by rw[List.getElem?_toArray];exact lY h4 hv) fun h' he=>no e h' fun b o z _=>he b o z
  ·rw[hv] at e;refine oEA (h4.nth hv) fun x hx X=>?_;refine wpAny_pyNext_tuple_item h1 h3 (by rw[List.getElem?_toArray];exact hx) fun h' hi sb=>?_;have k:∀b o,b≠a2->b≠a2->s.heap.get? b=some o->h'.get? b=some o:=fun b o z _=>sb.extBut b o z;refine oEAA (id hi) fun oi q1 q2 q3=>?_;exact lM (s:={s with heap:=h'}) q1 q2 q3 (by decide) (yes v x h' s.toks e k ⟨rfl,t,xs,hi,(kp h' k).tup h3,h4.mono (.refl R) (kp h' k)⟩ (X.mono (.refl R) (kp h' k)))
|lst l=>
  refine cZ X fun u12 b hb h1=>?_;subst u12;refine dL e fun vs hg e=>?_;refine fM (I.inv.at hg) fun b' hb' xs m ho rs=>?_;rw[hb] at hb';obtain rfl:=aF hb';have hl:s.heap.IsList b xs.toArray:=⟨_,ho,rfl,_,rfl⟩;rcases hv:nth vs i with _|v
  ·rw[hv] at e;exact wpAny_pyNext_list_end hh h1 hl (by rw[List.getElem?_toArray];exact lY rs hv) fun h' he=>no e h' fun b o z _=>he b o z
  ·rw[hv] at e;refine oEA (rs.nth hv) fun x hx X=>?_;refine wpAny_pyNext_list_item h1 hl (by rw[List.getElem?_toArray];exact hx) fun h' hi sb=>?_;have k:∀b o,b≠a2->b≠a2->s.heap.get? b=some o->h'.get? b=some o:=fun b o z _=>sb.extBut b o z;refine oEAA (id hi) fun oi q1 q2 q3=>?_;exact lM (s:={s with heap:=h'}) q1 q2 q3 (by decide) (yes v x h' s.toks e k ⟨rfl,b,hb,hi⟩ (X.mono (.refl R) (kp h' k)))
|rng n=>
  refine pN X fun u13 h1 h2 h3=>?_;subst u13;replace e:(match Nat.blt i n with|true=>f (some (.int (.ofNat i)))|false=>f none)=true:=e;rcases q:Nat.blt i n with _|_
  ·rw[q] at e;exact wpAny_pyNext_range_end hh h3 (by have:¬i<n:=(fun z=>by rw[show Nat.blt i n=true from cA z] at q;cases q);(first|lia|omega)) fun h' he=>no e h' fun b o z _=>he b o z
  ·rw[q] at e;have lt:i<n:=aP q;refine wpAny_pyNext_range_item h3 (by(first|lia|omega)) fun h' hi sb=>?_;have k:∀b o,b≠a2->b≠a2->s.heap.get? b=some o->h'.get? b=some o:=fun b o z _=>sb.extBut b o z;have e1:((i:Int)+1)=((i+1:Nat):Int):=by(first|lia|omega)
   have e2:((n:Int)-i-1)=(n:Int)-((i+1:Nat):Int):=by(first|lia|omega)
   rw[e1,e2] at hi;exact lM (s:={s with heap:=h',toks:=_}) hi rfl rfl (by decide) (yes _ _ h' _ e k ⟨rfl,lt,h2,hi⟩ ⟨_,rfl⟩)
|enu l=>
  refine cV X fun ne b old hb h1 h2=>?_;refine dL e fun vs hg e=>?_;refine fM (I.inv.at hg) fun b' hb' xs m ho rs=>?_;rw[hb] at hb';obtain rfl:=aF hb';have hl:s.heap.IsList b xs.toArray:=⟨_,ho,rfl,_,rfl⟩;induction t using T.casesOn with
 |nm=>exact ff tt
 |tp ns q=>
  rcases hv:nth vs i with _|v
  ·rw[hv] at e;exact wpAny_pyNext_enum_end hh h1 h2 hl (by rw[List.getElem?_toArray];exact lY rs hv) fun h' he=>no e h' fun b o _ z=>he b o z
  ·rw[hv] at e;refine oEA (rs.nth hv) fun x hx X=>?_;refine wpAny_pyNext_enum_item h1 h2 hl (by rw[List.getElem?_toArray];exact hx) ne fun h' ho hi ht hz k=>?_;refine wpAny_letOwnedTupleGo_enum ho fun h2 he sb=>?_;replace sb:Heap.SameBut a h' h2:=sb;have k2:∀b o,b≠a->b≠a2->s.heap.get? b=some o->h2.get? b=some o:=fun b o z1 z2 y=>sb.extBut b o z1 (k b o z1 z2 y);have na:a≠s.heap.objs.size:=Nat.ne_of_lt (Heap.lt_size h1);have e1:((i:Int)+1)=((i+1:Nat):Int):=by(first|lia|omega)
   refine yes _ _ h2 _ e k2 ⟨ne,b,x,hb,by rw[<-e1];exact he,hi.extBut sb.extBut ne.symm⟩ ⟨_,[.int i s.toks,x],rfl,⟨_,(sb.2 _ na.symm).trans ht,rfl,_,rfl⟩,_,_,rfl,⟨_,rfl⟩,_,_,rfl,X.mono (.refl R) (kp h2 k2),rfl⟩
end
end
section
section
variable{h h':Heap}{src:It}{i:Nat}{a a2:Addr}
theorem At.other2(I:At w C B oU env R st h)(f:Fresh C B oU env R h a)(f2:Fresh C B oU env R h a2)(k:∀b o,b≠a->b≠a2->h.get? b=some o->h'.get? b=some o):At w C B oU env R st h'/\Le oU h h':=
 I.chg (D:=fun b=>b=a\/b=a2) (fun b o d e=>k b o (fun z=>d (.inl z)) (fun z=>d (.inr z)) e) (fun b d=>.inr (.inr (d.elim (fun z=>z▸f) fun z=>z▸f2))) (fun j b e d=>d.elim (fun z=>absurd e (z▸f.nl j)) fun z=>absurd e (z▸f2.nl j)) (.inl rfl)
  (by rw[I.inv.len];exact Nat.add_comm _ _) I.inv.olen rfl (fun i o b e q=>.inl ⟨e,q,fun d=>d.elim (fun z=>f.nl i (z▸q)) fun z=>f2.nl i (z▸q)⟩) fun kp g=>I.frk kp g fun m ⟨o,es,ep,a1,b1⟩=>⟨o,es,ep,k _ _ (fun z=>f.nf z.symm) (fun z=>f2.nf z.symm) a1,b1⟩
theorem Aj{A:Around}{s:Shared}{cx:Cx}{E':Value->Shared->Prop}(S:Sta C B K mg mb)(c:CxOk C oU env R cx A){t:T}(ot:Fd env.scope t=true)(tt:vZ src t=true)(I:At w C B oU env R st s.heap)(X:ItOk C R s.heap src i a a2)
  (F:Fresh C B oU env R s.heap a) (F2:Fresh C B oU env R s.heap a2) {kn:Bool} {kk:SV->St->Bool} (e:sR C.p src i st (fun o=>match o with|none=>kn|some v=>eP C.p cx.cl t v st (kk v))=true) {Qn Qy:Shared->Prop}
  (no:kn=true->∀h',Le oU s.heap h'->At w C B oU env R st h'->Qn {s with heap:=h'})
  (yes:∀B' v st' R' h' tk',B.StaysIn B'->R.le R'->Le oU s.heap h'->At w C B' oU env R' st' h'->kk v st'=true->
   (∀R2 st2 h2,R'.le R2->Le oU h' h2->At w C B' oU env R2 st2 h2->ItOk C R2 h2 src (i+1) a a2/\Fresh C B oU env R2 h2 a/\Fresh C B oU env R2 h2 a2)->Qy {s with heap:=h',toks:=tk'}) :
  wpAny (model C.prog w) A (pyNext (.ref a)) (fun r s1=>match r with
  |none=>Qn s1
  |some v=>wpAny (model C.prog w) A (letOwnedTupleGo (n9 t) (.ref a) v) (fun _ s2=>wpAny (model C.prog w) A (assign (n9 t) env v) (fun _=>Qy) E' s2) E' s1) E' s:=by
 refine ID c.hd I X tt e (fun z h2 kb=>no z h2 (I.other2 F F2 kb).2 (I.other2 F F2 kb).1) fun v x h2 tk2 z kb X2 V=>?_;refine oA (I.other2 F F2 kb) fun I2 l2=>?_;refine cZ (X2.obj) fun u1 o2 q2 n2=>?_;refine oEA u1 fun o1 q1 n1=>?_;have low:=I2.low_held;have hat1:=(F.same q1 n1).held q1;have hat2:=(F2.same q2 n2).held q2;refine Ab (B:=held C R oU env h2) (s:={s with heap:=h2,toks:=tk2}) (S.up low) c ot I2.hold V z fun st3 R3 h3 tk3 g3 l3 I3 z3=>?_;refine yes _ v st3 R3 h3 tk3 low g3 (l2.trans l3) I3 z3 fun R4 st4 h4 g4 l4 I4=>?_;refine oA (I4.still F.nb hat1 n1) fun F4 q4=>?_;refine oA (I4.still F2.nb hat2 n2) fun F5 q5=>?_;exact⟨X2.keep (g3.trans g4) (l3.trans l4).kp (fun o e=>by rw[q1] at e;obtain rfl:=aF e;exact q4) fun o e=>by rw[q2] at e;obtain rfl:=aF e;exact q5,F4,F5⟩
end
section
def Gw(w:World)(C:Cst)(B:Heap)(F:Ev):Prop:=∀(cx:Cx) (t:T) (body:List S) (src:It) (i:Nat) (st:St) (k:Fl->St->Bool) (ke:Ke) (oU:List Env) (env:Env) (R:Rn) (A:Around) (s:Shared) (Q:Flow->Shared->Prop) (E':Value->Shared->Prop) (a a2:Addr),
 CxOk C oU env R cx A->env.frame=some env.locals->Fd env.scope t=true->vZ src t=true->gN C.p.lams env.scope body=true->At w C B oU env R st s.heap->ItOk C R s.heap src i a a2->Fresh C B oU env R s.heap a->Fresh C B oU env R s.heap a2->
 F.loop cx t body src i st k ke=true->PF w C B oU env R s.heap s k Q->PE w C B oU env R s.heap s ke E'->
 codeAny (model C.prog w) A (.forLoop (n9 t) (.ref a) (fU (aN C.p.lams) body) [] env) (fun r s'=>match r with|.ok f=>Q f s'|.error e=>cameBackBy (model C.prog w) A env E' e s') s
theorem OU{B:Heap}{N:Nat}(S:Sta C B K mg mb)(hst:∀m,m<N->∀B',Sta C B' K mg mb->SSts w C B' (ev C.p m)):Gw w C B (ev C.p N):=by
 intro cx t body src i st k ke oU env R A s Q E' a a2 c hf ot tt ob I X F F2 e P PX;refine codeAny_forLoop_any (I:=fun m s'=>m<=N/\∃i st' R' h' tk',s'={s with heap:=h',toks:=tk'}/\R.le R'/\Le oU s.heap h'/\At w C B oU env R' st' h'/\ItOk C R' h' src i a a2/\Fresh C B oU env R' h' a/\Fresh C B oU env R' h' a2/\(ev C.p m).loop cx t body src i st' k ke=true)
  (fun m s' hI=>?_) N ⟨Nat.le_refl _,i,st,R,s.heap,s.toks,rfl,.refl R,.refl _ _,I,X,F,F2,e⟩
 refine gZ hI fun hm i st' R' h' tk' u2 g l I' X' F' F2' e'=>?_;subst u2;rcases m with _|m
 ·exact ff e'
 ·refine Aj (s:={s with heap:=h',toks:=tk'}) (kn:=k .nxt st') (kk:=fun _ st=>(ev C.p m).sts cx body st (fun fl st=>match fl with
   |.ret x=>k (.ret x) st
   |_=>(ev C.p m).loop cx t body src (i+1) st k ke) ke) S (c.le g) ot tt I' X' F' F2' e' (fun z h2 l2 I2=>?_) fun B' v st3 R3 h3 tk3 low g3 l3 I3 z3 nx=>?_
  ·exact wpAny_execs_nil (P .nxt st' R' h2 tk' g (l.trans l2) I2 z)
  ·refine hst m hm _ (S.up low) cx body st3 _ ke oU env R3 A _ _ _ (c.le (g.trans g3)) hf ob I3 z3 (fun f st4 R4 h4 tk4 g4 l4 I4 z4=>?_) (((PX.mono (tk:=tk3) (g.trans g3) (l.trans l3)).lower low).noted (c.le (g.trans g3)) hf);have g5:=g.trans (g3.trans g4);have l5:=l.trans (l3.trans l4);refine s8 (nx R4 st4 h4 g4 l4 I4) fun X4 F4 F5=>?_;have I4':=I4.lower low;induction f using Fl.casesOn with
  |nxt=>exact⟨m,Nat.lt_succ_self m,Nat.le_of_lt hm,i+1,st4,R4,h4,tk4,rfl,g5,l5,I4',X4,F4,F5,z4⟩
  |cnt=>exact⟨m,Nat.lt_succ_self m,Nat.le_of_lt hm,i+1,st4,R4,h4,tk4,rfl,g5,l5,I4',X4,F4,F5,z4⟩
  |ret v=>exact fun x X=>P (.ret v) st4 R4 h4 tk4 g5 l5 I4' z4 x X
end
end
section
section
variable{E':Value->Shared->Prop}
theorem dW(I:At w C B oU env R st s.heap){h':Heap}{a:Addr}(hn:s.heap.get? a=none)(it:∃o,h'.get? a=some o/\¬iP o):Fresh C B oU env R h' a where
 nb:=b9 I.inv.stays hn
 nl:=fun i e=>by refine cZ (I.inv.new i a e) fun _ o q _=>?_;rw[hn] at q;exact nf q
 nt:=fun q hq e=>by refine cZ (I.inv.tab q hq) fun _ ps z _=>?_;rw[e,hn] at z;exact nf z
 nf:=fun e=>by refine c_ (I.ns) fun o _ _ q _=>?_;rw[<-e,hn] at q;exact nf q
 no:=fun e he z=>by refine gY (I.out e he) fun _ L _ _ _ a1 b _=>?_;rw[a1] at z;obtain rfl:=aF z;rw[hn] at b;exact nf b
 it:=it
theorem Ad(I:At w C B oU env R st s.heap){v:SV}{x:Value}(X:RV C R s.heap v x){f:It->Bool}(e:BB C.p v st f=true){Q:Value->Shared->Prop}
  (go:∀src h' a,f src=true->(∀b o,s.heap.get? b=some o->h'.get? b=some o)->s.heap.get? a=none->ItOk C R h' src 0 a a->(∀t,vZ src t=true)->Q (.ref a) {s with heap:=h'}):wpAny (model C.prog w) A (pyIter x) Q E' s:=by
 have k:∀o b o',s.heap.get? b=some o'->(s.heap.push o).get? b=some o':=fun o b o' e=>Heap.get?_push_of_some _ e;induction v using SV.casesOn with
|tup vs=>refine aY X fun t xs u1 ht rs=>?_;subst u1;exact wpAny_pyIter_tuple ht (go (.fix vs) _ _ e (k _) (bK _) ⟨rfl,t,xs,⟨_,Heap.get?_push_size _ rfl,rfl,rfl⟩,(Kp.of_keep (k _)).tup ht,rs.mono (.refl R) (.of_keep (k _))⟩ fun _=>rfl)
|loc i=>refine dL e fun vs hg e=>?_;refine oEA (id X) fun a ha u2=>?_;subst u2;refine fM (I.inv.at hg) fun a' ha' xs m ho rs=>?_;rw[ha] at ha';obtain rfl:=aF ha';exact wpAny_pyIter_list ⟨_,ho,rfl,_,rfl⟩ (go (.lst i) _ _ e (k _) (bK _) ⟨rfl,a,ha,⟨_,Heap.get?_push_size _ rfl,rfl,rfl⟩⟩ fun _=>rfl)
|_=>exact ff e
theorem Ae{src:It}{i:Nat}{a a2:Addr}(X:ItOk C R s.heap src i a a2){Q:Value->Shared->Prop}(h:Q (.ref a) s):wpAny (model C.prog w) A (pyIter (.ref a)) Q E' s:=by
 induction src using It.casesOn with
|fix vs=>refine Dp X fun _ _ _ h1 _=>?_;exact wpAny_pyIter_tupleiter h1 h
|lst l=>refine cZ X fun _ _ _ h1=>?_;exact wpAny_pyIter_listiter h1 h
|rng n=>refine pN X fun _ _ _ h1=>?_;exact wpAny_pyIter_rangeiter h1 h
|enu l=>refine cV X fun _ _ _ _ h1 _=>?_;exact wpAny_pyIter_enum h1 h
theorem FY(e:E):jD e=.plain e\/∃n q a q',e=.cal (.gl n q) [a] q'/\((n=pV/\jD e=.range a)\/(n=uI/\jD e=.enum a)):=by
 induction e using E.casesOn with
|cal g as q'=>
  induction g using E.casesOn with
 |gl n q=>
   rcases as with _|⟨a,_|⟨_,_⟩⟩
   ·exact .inl rfl
   ·rcases h1:Nat.beq n pV with _|_
    ·rcases h2:Nat.beq n uI with _|_
     ·exact .inl (by simp only[jD,h1,h2])
     ·exact .inr ⟨n,q,a,q',rfl,.inr ⟨aT h2,by simp only[jD,h1,h2]⟩⟩
    ·exact .inr ⟨n,q,a,q',rfl,.inl ⟨aT h1,by simp only[jD,h1]⟩⟩
   ·exact .inl rfl
 |_=>exact .inl rfl
|_=>exact .inl rfl
theorem Ap{n:Nat}(h:n<=64):Builtin.Range.small 0 (n:Int) 1=true:=small_one (by decide) (by decide) (by(first|lia|omega)) (by(first|lia|omega))
theorem Cv(n:Nat):Builtin.Range.rangeSize 0 (n:Int) 1=(n:Int)-(0:Nat):=by rw[rangeSize_one];split<;>(first|lia|omega)
theorem DD{ih:Ev}{ke:Ke}{cx:Cx}(S:Sta C B K mg mb)(hx:eE w C B ih)(c:CxOk C oU env R cx A){n ty:Nat}{q q':Pos}{a:E}(hn:C.p.G.look n=some (.typ ty))(o:cN C.p.lams env.scope (.cal (.gl n q) [a] q')=true)(I:At w C B oU env R st s.heap){kv:Kv}(e:ih.ex cx a st kv ke=true)
  (PX:PE w C B oU env R s.heap s ke E') {Q:Value->Shared->Prop}
  (go:∀v st' R' h' tk' x,R.le R'->Le oU s.heap h'->At w C B oU env R' st' h'->RV C R' h' v x->kv v st'=true->wpAny (model C.prog w) A (call (.type (iK ty)) [x]) Q E' {s with heap:=h',toks:=tk'}) :
  wpAny (model C.prog w) A (eval (bC (aN C.p.lams) (.cal (.gl n q) [a] q')) env) Q E' s:=by
 replace o:=eO o;have oa:=(aG o.2).1;show wpAny _ _ (eval (.Call (.Name (nm n) q) (b_ (aN C.p.lams) [a]) [] q') env) _ _ _;rw[sY rfl,bU env o.2,cE];have er:Be C.p n st (fun v st'=>(match v with|.typ k=>Nat.beq k ty|_=>false)&&ih.ex cx a st' kv ke)=true:=by unfold Be;rw[hn];show(Nat.beq ty ty&&_)=true;rw[Nat.beq_refl];exact e
 refine wpAny_bind (Nw S c o.1.2 I er fun v st1 R1 h1 tk1 x g l I1 X z=>?_);refine bZ z fun z e=>?_;induction v using SV.casesOn with
|typ k=>cases aT z;cases X;refine callWith_of (P:=fun h=>Kpr (model C.prog w) h (.type (iK ty))) (d6 _ _ _) (fun h p=>p) (cQ (spliced_cons ?_));refine hx cx a st1 kv ke oU env R1 A {s with heap:=h1,toks:=tk1} _ E' (c.le g) oa I1 e (fun u st2 R2 h2 tk2 y g2 l2 I2 Y z2=>spliced_nil ⟨lL _ _ _,go u st2 R2 h2 tk2 y (g.trans g2) (l.trans l2) I2 Y z2⟩) (PX.mono g l)
|_=>exact ff z
theorem IF{ih:Ev}{ke:Ke}{cx:Cx}(S:Sta C B K mg mb)(hx:eE w C B ih)(c:CxOk C oU env R cx A){it:E}{t:T}(o:cN C.p.lams env.scope it=true)(oe:uH t it=true)(I:At w C B oU env R st s.heap){kk:It->St->Bool}(e:nF C.p ih cx it st kk ke=true)
  (PX:PE w C B oU env R s.heap s ke E') {Q:Value->Shared->Prop}
  (go:∀src st' R' h0 h' tk' a a2,kk src st'=true->R.le R'->Le oU s.heap h0->At w C B oU env R' st' h0->(∀b o,h0.get? b=some o->h'.get? b=some o)->h0.get? a=none->h0.get? a2=none->ItOk C R' h' src 0 a a2->vZ src t=true->Q (.ref a) {s with heap:=h',toks:=tk'}) :
  wpAny (model C.prog w) A (eval (bC (aN C.p.lams) it) env) (fun x s1=>wpAny (model C.prog w) A (pyIter x) Q E' s1) E' s:=by
 unfold nF at e;have k:∀(h:Heap) o b o',h.get? b=some o'->(h.push o).get? b=some o':=fun h o b o' e=>Heap.get?_push_of_some _ e;rcases FY it with hs|⟨n,q,a,q',rfl,⟨rfl,hs⟩|⟨rfl,hs⟩⟩
 ·rw[hs] at e;refine hx cx it st _ ke oU env R A s _ E' c o I e (fun v st1 R1 h1 tk1 x g l I1 X z=>?_) PX;exact Ad (s:={s with heap:=h1,toks:=tk1}) I1 X z fun src h' a z k hn X2 tt=>go src st1 R1 h1 h' tk1 a a z g l I1 k hn hn X2 (tt t)
 ·rw[hs] at e;refine DD S hx c S.rg o I e PX fun v st1 R1 h1 tk1 x g l I1 X z=>?_;induction v using SV.casesOn with
 |int i=>
   rcases i with n|i
   ·refine bZ z fun z1 z=>?_;refine oE X fun u u3=>?_;subst u3;have n64:=aP z1;refine call_range_1 (s:={s with heap:=h1,toks:=tk1}) ?_;have I2:=I1.keep (k h1 {cls:=.type "range",data:=.fields #[.int 0 tk1,.int (Int.ofNat n) u,.int 1 (tk1+1)]});refine wpAny_pyIter_range (IsRange.new h1 0 (Int.ofNat n) 1 _ _ _) (Ap n64) (go (.rng n) st1 R1 _ _ _ _ _ z g (l.trans (.of_keep (k h1 _))) I2 (k _ _) (bK _) (bK _) ⟨rfl,Nat.zero_le _,n64,?_⟩ rfl);refine(Heap.get?_push_size _ rfl).trans ?_;rw[show Builtin.Range.rangeSize 0 (Int.ofNat n) 1=(n:Int)-(0:Nat) from Cv n];rfl
   ·exact ff z
 |_=>exact ff z
 ·rw[hs] at e;refine DD S hx c S.en o I e PX fun v st1 R1 h1 tk1 x g l I1 X z=>?_;induction v using SV.casesOn with
 |loc i=>
   refine dL z fun vs hg z=>?_;refine oEA (id X) fun b hb u4=>?_;subst u4;refine fM (I1.inv.at hg) fun b' hb' xs m ho rs=>?_;rw[hb] at hb';obtain rfl:=aF hb';refine call_enumerate_1 (s:={s with heap:=h1,toks:=tk1}) ho fun h2 e1 e2 e3 e4=>?_;refine wpAny_pyIter_enum e1 (go (.enu i) st1 R1 h1 h2 tk1 _ _ z g l I1 e4 (Heap.get?_none_of_le (Nat.le_succ _)) (bK _) ⟨Nat.succ_ne_self _,b,.none,hb,e1,e2⟩ ?_);unfold uH at oe;rw[hs] at oe;induction t using T.casesOn with
  |nm=>exact ff oe
  |tp=>rfl
 |_=>exact ff z
theorem OT{ih:Ev}{it:E}{t:T}{body:List S}{q:Pos}(S:Sta C B K mg mb)(hx:eE w C B ih)(hl:Gw w C B ih):fO w C B ih (.fo t it body q):=by intro cx st k ke oU env R A s Q E' c hf o I h P PX;refine AS o fun ot oi ob oe=>?_;refine wpAny_For (IF S hx c oi oe I h PX fun src st1 R1 h0 h1 tk1 a a2 z g l I0 kk hn hn2 X tt=>?_) fun x=>i_ (bY oi) env x;have ob2:=X.obj;exact hl cx t body src 0 st1 k ke oU env R1 A {s with heap:=h1,toks:=tk1} Q E' a a2 (c.le g) hf ot tt ob (I0.keep kk) X (dW (s:={s with heap:=h0}) I0 hn ob2.1) (dW (s:={s with heap:=h0}) I0 hn2 ob2.2) z (P.mono g (l.trans (.of_keep kk))) (PX.mono g (l.trans (.of_keep kk)))
end
end
section
structure ScLe(sc sc':Scope):Prop where
 l:∀n,kd sc n .local=true->kd sc' n .local=true
 g:∀n,kd sc n .globalImplicit=true->kd sc' n .globalImplicit=true
 c:∀n,(kd sc n .cell||kd sc n .free)=true->(kd sc' n .cell||kd sc' n .free)=true
mutual
theorem cC{ls:List Lam}{sc sc':Scope}(L:ScLe sc sc'):∀{e:E},cN ls sc e=true->cN ls sc' e=true
|.lo n _,h=>L.l n h
|.gl n _,h=>L.g n h
|.ce n _,h=>L.c n h
|.non _,_=>rfl
|.bol _ _,_=>rfl
|.int _ _,_=>rfl
|.str _ _ _,h=>h
|.byt _ _,_=>rfl
|.tup _ _,h=>cO (aG h).1 (dE L (aG h).2)
|.lst _ _,h=>cO (aG h).1 (dE L (aG h).2)
|.dct _ _ _,h=>cO (cO (aG (aG h).1).1 (dE L (aG (aG h).1).2)) (dE L (aG h).2)
|.att _ _ _,h=>cO (aG h).1 (cC L (aG h).2)
|.sub _ _ _,h=>cO (cC L (aG h).1) (cC L (aG h).2)
|.sli _ _ _ _,h=>cO (cC L (aG h).1) (cC L (aG h).2)
|.bin _ _ _ _,h=>cO (cC L (aG h).1) (cC L (aG h).2)
|.nt e _,h=>cC (e:=e) L h
|.bop _ _ _,h=>dE L h
|.cmp _ _ _ _,h=>cO (cC L (aG h).1) (dE L (aG h).2)
|.ife _ _ _ _,h=>cO (cO (cC L (eO h).1.1) (cC L (eO h).1.2)) (cC L (eO h).2)
|.cal _ _ _,h=>cO (cO (eO h).1.1 (cC L (eO h).1.2)) (dE L (eO h).2)
|.mca _ _ _ _ _,h=>cO (aG h).1 (cO (cO (cO (cO (qG (aG h).2).1.1.1.1 (cC L (qG (aG h).2).1.1.1.2)) (dE L (qG (aG h).2).1.1.2)) (qG (aG h).2).1.2) (qG (aG h).2).2)
|.lam _ _,_=>rfl
|.lc _ _ _ _ _ _ _,h=>cO (cO (cO (eO (aG h).1).1.1 (B7 L (eO (aG h).1).1.2)) (eO (aG h).1).2) (aG h).2
|.dc _ _ _ _ _ _ _,h=>cO (cO (aG (aG h).1).1 (cC L (aG (aG h).1).2)) (aG h).2
|.any _,h=>h
theorem dE{ls:List Lam}{sc sc':Scope}(L:ScLe sc sc'):∀{es:List E},dU ls sc es=true->dU ls sc' es=true
|[],_=>rfl
|_::_,h=>cO (cC L (aG h).1) (dE L (aG h).2)
theorem B7{ls:List Lam}{sc sc' sc1:Scope}(L:ScLe sc sc'):∀{es:List E},Fy ls sc sc1 es=true->Fy ls sc' sc1 es=true
|[],h=>h
|_::_,h=>cO (cC L (aG h).1) (aG h).2
end
theorem rF{ls:List Lam}{sc sc':Scope}(L:ScLe sc sc'):∀{es:List (List E)},rE ls sc es=true->rE ls sc' es=true
|[],_=>rfl
|_::_,h=>cO (dE L (aG h).1) (rF L (aG h).2)
theorem yZ{sc sc':Scope}(L:ScLe sc sc'){t:T}(h:BE sc t=true):BE sc' t=true:=by
 induction t using T.casesOn with
|nm n q=>exact L.l n h
|tp ns q=>exact List.all_eq_true.mpr fun x hx=>L.l _ (aZ h x hx)
theorem j7(g:Str->NameKind->NameKind)(x:Str):∀(l:List (Str×NameKind)),(l.map fun p=>(p.1,g p.1 p.2)).lookup x=(l.lookup x).map (g x)
|[]=>rfl
|(n,k)::r=>by
  simp only[List.map_cons,List.lookup_cons];rcases h:x==n with _|_
  ·exact j7 g x r
  ·rw[eq_of_beq h];rfl
theorem gB(sc:Scope)(env:Env)(x:Str):(relabel sc env).names.lookup x=(sc.names.lookup x).map fun k=>if(k==.free&&env.scope.kind==.function&&env.kindOf x==some .cell) then .cell else k:=by rw[<-j7 (fun x k=>if(k==.free&&env.scope.kind==.function&&env.kindOf x==some .cell) then .cell else k) x];unfold relabel;simp only;congr 2;funext p;split<;>rfl
theorem lV(sc:Scope)(env:Env):ScLe sc (relabel sc env):=by
 have f:∀{n k},kd sc n k=true->(k==NameKind.free)=false->kd (relabel sc env) n k=true:=fun{n k} h hk=>by have:=cD h;unfold kd;rw[gB,this];simp only[Option.map_some,hk,Bool.false_and,Bool.false_eq_true,if_false,decide_true]
 refine⟨fun n h=>f h rfl,fun n h=>f h rfl,fun n h=>?_⟩;rcases Gk h with h|h
 ·rw[f h rfl];rfl
 ·have:=cD h;unfold kd;rw[gB,this];simp only[Option.map_some];split
  ·rfl
  ·rfl
structure CoOk(ls:List Lam) (sc:Scope) (elt:E) (ts:List T) (its:List E) (cs:List (List E)):Prop where
 e:cN ls sc elt=true
 t:ts.all (BE sc)=true
 i:dU ls sc its.tail=true
 c:rE ls sc cs=true
 n:ts.length=its.length/\cs.length=its.length
section
theorem j4{M:Model}{A:Around}{E':Value->Shared->Prop}{s:Shared}{Q:Fin->Shared->Prop}{elt:PySem.Expr}{gs:List Comprehension}{sc:Scope}{q:Pos}{d:Nat}{it acc:Value}{env:Env}{t it':PySem.Expr}{ifs:List PySem.Expr}
  (h:gs[d]?=some ⟨t,it',ifs,0⟩) (hg:∀g',gs[d+1]?=some g'->g'.is_async=0/\∀x,foldedSetIterable g'.iter env x=pure x)
  (H:wpAny M A (pyNext it) (fun r s1=>match r with
  |none=>Q (.done .next) s1
  |some v=>wpAny M A (letOwnedTupleGo t it v) (fun _ s2=>wpAny M A (assign t env v) (fun _ s3=>
    wpAny M A (forIn ifs true fun c r=>if r=true then do let ok <-isTrue c env (eval c env);pure (ForInStep.yield ok) else pure (ForInStep.yield r)) (fun ok s4=>match ok with
    |false=>Q (.again (.compLoop (.ListComp elt gs sc q) d it acc env)) s4
    |true=>match gs[d+1]? with
     |some g'=>wpAny M A (eval g'.iter env) (fun x s5=>wpAny M A (pyIter x) (fun it2 s6=>wpAny M A (runOwn (.compStart (.ListComp elt gs sc q) (d+1) it2 acc env) env) (fun _ s7=>Q (.again (.compLoop (.ListComp elt gs sc q) d it acc env)) s7) E' s6) E' s5) E' s4
     |none=>wpAny M A (eval elt env) (fun x s5=>wpAny M A (call (.builtin "list.append") [acc,x]) (fun _ s6=>Q (.again (.compLoop (.ListComp elt gs sc q) d it acc env)) s6) E' s5) E' s4) E' s3) E' s2) E' s1) E' s) :
  wpAny M A (compTurn (.ListComp elt gs sc q) d it acc env) Q E' s:=by
 unfold compTurn;simp only[h];refine wpAny_bind (wpAny_standAt ?_);show wpAny M A (pyNext it >>= _) Q E' s;refine wpAny_bind (wpAny_mono H (fun r s1 h1=>?_) fun _ _ x=>x);rcases r with _|v
 ·exact wpAny_pure h1
 ·refine wpAny_bind (wpAny_mono h1 (fun _ s2 h2=>wpAny_bind (wpAny_mono h2 (fun _ s3 h3=>wpAny_bind (wpAny_mono h3 (fun ok s4 h4=>?_) fun _ _ x=>x)) fun _ _ x=>x)) fun _ _ x=>x);rcases ok with _|_
  ·rw[if_neg Bool.false_ne_true];exact wpAny_pure h4
  ·rw[if_pos rfl];rcases hd:gs[d+1]? with _|g'
   ·rw[hd] at h4;exact wpAny_bind (wpAny_bind (wpAny_mono h4 (fun x s5 h5=>wpAny_bind (wpAny_mono h5 (fun _ s6 h6=>wpAny_pure (wpAny_pure h6)) fun _ _ x=>x)) fun _ _ x=>x))
   ·rw[hd] at h4;refine oA (hg g' hd) fun a0 hs=>?_;dsimp only;simp only[a0];refine wpAny_bind (wpAny_mono h4 (fun x s5 h5=>wpAny_bind (wpAny_standAt ?_)) fun _ _ x=>x);show wpAny M A (foldedSetIterable g'.iter env x >>= _) _ _ _;refine wpAny_bind (wpAny_of_eq (hs x) (wpAny_bind (wpAny_holding ?_)));show wpAny M A (pyIter x) _ _ _;exact wpAny_mono h5 (fun it2 s6 h6=>wpAny_bind (wpAny_mono h6 (fun _ s7 h7=>wpAny_pure h7) fun _ _ x=>x)) fun _ _ x=>x
theorem b8{A:Around}{R:Result->Shared->Prop}{s:Shared}{e:PySem.Expr}{d:Nat}{it acc:Value}{env:Env}{t it':PySem.Expr}{ifs:List PySem.Expr}(h:(clausesOf e)[d]?=some ⟨t,it',ifs,0⟩)(hA:A.under (.compStart e d it acc env)=A)(hd:(model C.prog w).den (.compStart e d it acc env)=(compStart e d it acc env).onRaise fun x=>do noteFrame x env;standAt theWindowsPlace)
  (h0:codeAny (model C.prog w) A (.compLoop e d it acc env) R s)
  (h1:∀E,wpAny (model C.prog w) A (pyIter it) (fun it' s'=>codeAny (model C.prog w) A (.compLoop e d it' acc env) R s') E s) :
  codeAny (model C.prog w) A (.compStart e d it acc env) R s:=by
 refine codeAny_of_tree ?_;rw[hA,hd];refine wpAny_notedAt ?_;unfold compStart;simp only[h];show wpAny _ _ (ask >>= _) _ _ s;refine wpAny_bind (wpAny_askSetting ?_);split
 ·exact wpAny_bind (wpAny_pure (wpAny_pure (And.intro rfl h0)))
 ·exact wpAny_bind (wpAny_rule (wpAny_bind (wpAny_standAt (wpAny_bind (wpAny_mono (h1 _) (fun it' s' h'=>wpAny_pure (And.intro rfl h')) fun _ _ x=>x)))))
end
end
section
section
def vU(w:World)(C:Cst)(B:Heap)(F:Ev):Prop:=∀(cx:Cx) (elt:E) (ts:List T) (its:List E) (cs:List (List E)) (src:It) (i l:Nat) (st:St) (k:St->Bool) (oU:List Env) (env:Env) (R:Rn) (A:Around) (s:Shared) (RR:Result->Shared->Prop) (a a2 acc:Addr) (d:Nat) (gs:List Comprehension) (sc:Scope) (q:Pos),
 CxOk C oU env R cx A->CoOk C.p.lams env.scope elt ts its cs->its≠[]->(∀t,ts.head?=some t->vZ src t=true)->gs.drop d=tR ts (b_ (aN C.p.lams) its) (n8 (aN C.p.lams) cs)->
 At w C B oU env R st s.heap->ItOk C R s.heap src i a a2->Fresh C B oU env R s.heap a->Fresh C B oU env R s.heap a2->R.ρ[l]?=some acc->F.comp cx elt ts its cs src i l st k=true->PU w C B oU env R s.heap s k (RR (.ok .next))->
 codeAny (model C.prog w) A (.compLoop (.ListComp (bC (aN C.p.lams) elt) gs sc q) d (.ref a) (.ref acc) env) RR s
theorem y0{sc:Scope}{t:T}(h:BE sc t=true):Fd sc t=true:=by
 induction t using T.casesOn with
|nm n q=>exact(by rw[show kd sc n .local=true from h];rfl:(kd sc n .local||kd sc n .cell)=true)
|tp ns q=>exact List.all_eq_true.mpr fun x hx=>by rw[aZ h x hx];rfl
section
variable{E':Value->Shared->Prop}{q:Pos}
theorem kW(c:CxOk C oU env R cx A){n:Nat}{v:SV}{st:St}{k:St->Bool}(h:kd env.scope n .local=true):kE C.p cx.cl n v st k=(fc (put n v st.fr) fun fr=>st.wf fr k):=by
 have ck:=c.ck n;unfold kE;rcases hl:look n cx.cl with _|l
 ·rfl
 ·rw[hl] at ck;exact absurd (cD h) ck
theorem rH(c:CxOk C oU env R cx A):∀(ns:List (Nat×Pos)) (vs:List SV) (st:St) (k:St->Bool),(ns.all fun x=>kd env.scope x.1 .local)=true->vG ns vs st.fr (fun fr=>st.wf fr k)=true->(Nat.beq ns.length vs.length&&mW C.p cx.cl ns vs st k)=true
|[],[],st,k,_,h=>by obtain⟨fr,n,objs,da,ov⟩:=st;exact h
|[],_::_,_,_,_,h=>by exact ff h
|_::_,[],_,_,_,h=>by exact ff h
|n::ns,v::vs,st,k,o,h=>by obtain⟨o1,o2⟩:=aG o;replace h:fc (put n.1 v st.fr) (fun fr=>vG ns vs fr (fun fr=>st.wf fr k))=true:=h;rw[bJ] at h;obtain⟨h1,h2⟩:=aG (rH c ns vs {st with fr:=put n.1 v st.fr} k o2 (by obtain⟨fr,n,objs,da,ov⟩:=st;exact h));refine cO h1 ?_;show kE C.p cx.cl n.1 v st (fun st=>mW C.p cx.cl ns vs st k)=true;rw[kW c o1,bJ];obtain⟨fr,n,objs,da,ov⟩:=st;exact h2
theorem qJ(c:CxOk C oU env R cx A){t:T}{v:SV}{st:St}{k:St->Bool}(o:BE env.scope t=true)(h:tY t v st k=true):eP C.p cx.cl t v st k=true:=by
 induction t using T.casesOn with
|nm n q=>exact(kW c o).trans h
|tp ns q=>
  induction v using SV.casesOn with
 |tup vs=>exact rH c ns vs st k o h
 |_=>exact ff h
theorem Ai{N:Nat}(ht:∀m,m<N->wW w C B (ev C.p m))(c:CxOk C oU env R cx A):∀(cs:List E) (n:Nat),n<=N->∀(st:St) (R':Rn) (s:Shared) (k:Bool->St->Bool) (Q:Bool->Shared->Prop),R.le R'->dU C.p.lams env.scope cs=true->At w C B oU env R' st s.heap->(ev C.p n).ts cx (.bop true cs q) st k dX=true->PB w C B oU env R' s.heap s k Q->
  wpAny (model C.prog w) A (forIn (b_ (aN C.p.lams) cs) true fun c r=>if r=true then do let ok <-isTrue c env (eval c env);pure (ForInStep.yield ok) else pure (ForInStep.yield r)) Q E' s
|_,0,_,_,_,_,_,_,_,_,_,h,_=>by exact ff h
|[],n+1,_,st,R',s,k,Q,_,_,I,h,P=>wpAny_pure (P true st R' s.heap s.toks (.refl _) (.refl _ _) I h)
|x::r,n+1,hn,st,R',s,k,Q,g,o,I,h,P=>by
  obtain⟨o1,o2⟩:=aG o;show wpAny _ _ (forIn (bC (aN C.p.lams) x::b_ (aN C.p.lams) r) true _) _ _ _;rw[List.forIn_cons,if_pos rfl];refine wpAny_bind (wpAny_bind (ht n hn cx x st _ dX oU env R' A s _ E' (c.le g) o1 I h (fun b st1 R1 h1 tk1 g1 l1 I1 z=>?_) (PE.no _)));refine wpAny_pure ?_;rcases b with _|_
  ·have no:∀(l:List PySem.Expr),wpAny (model C.prog w) A (forIn l false fun c r=>if r=true then do let ok <-isTrue c env (eval c env);pure (ForInStep.yield ok) else pure (ForInStep.yield r)) Q E' {s with heap:=h1,toks:=tk1}:=fun l=>by
    induction l with
   |nil=>exact wpAny_pure (P false st1 R1 h1 tk1 g1 l1 I1 z)
   |cons y l ih=>rw[List.forIn_cons,if_neg Bool.false_ne_true];exact wpAny_bind (wpAny_pure ih)
   exact no _
  ·exact Ai ht c r n (Nat.le_of_lt hn) st1 R1 _ k Q (g.trans g1) o2 I1 z (P.mono g1 l1)
end
end
end
section
section
variable{E':Value->Shared->Prop}{q:Pos}
noncomputable def dP(bs:List Bool):List Value:=bs.map Value.bool
theorem v5(S:Sta C B K mg mb)(I:At w C B oU env R st s.heap){l m n:Nat}{f:Bool}{fs:List Nat}{bs:List Bool}{acc a:Addr}(hl:R.ρ[l]?=some acc)(F:Fresh C B oU env R s.heap a)(hb:bs.length<=m)(hf:bs.any (!·)=(f||fs.any (dJ R)))(hk:∀k∈fs,k<R.δ.length)
  (hn:look n st.fr=none) {k:St->Bool} (e:BC C.p l m f fs st k=true):∃bs0 n0,s.heap.get? acc=some (listOf (dP bs0).toArray n0)/\(dP (bs0++bs)).length<=1000000/\
  ∀h' n',(∀b o,b≠acc->b≠env.locals->b≠a->s.heap.get? b=some o->h'.get? b=some o)->h'.get? acc=some (listOf (dP (bs0++bs)).toArray n')->(∀m0,s.heap.Ns env.locals m0->∃m',h'.Ns env.locals m'/\∀y,y≠nm n->m' y=m0 y)->
   ∃st',k st'=true/\Le oU s.heap h'/\At w C B oU env R st' h':=by
 have core:∀{o:SO} (e:st.set C.p l o k=true) (h':Heap) (n':Nat) (xs:Array Value),(∀b o,b≠acc->b≠env.locals->b≠a->s.heap.get? b=some o->h'.get? b=some o)->h'.get? acc=some (listOf xs n')->RO w C R h' acc o->(∀m0,s.heap.Ns env.locals m0->∃m',h'.Ns env.locals m'/\∀y,y≠nm n->m' y=m0 y)->
   ∃st',k st'=true/\Le oU s.heap h'/\At w C B oU env R st' h':=fun{o} e h' n' xs kk ho ro ns=>by
  refine dF I.inv.olen e fun st' e' f1 f2 f3 f4 f5=>?_;have:=I.chg (D:=fun x=>x=acc\/x=env.locals\/x=a) (h':=h') (st':=st') (R':=R) (fun b o d e=>kk b o (fun z=>d (.inl z)) (fun z=>d (.inr (.inl z))) (fun z=>d (.inr (.inr z))) e)
   (fun b d=>d.elim (fun z=>.inl ⟨l,z▸hl⟩) fun d=>d.elim (fun z=>.inr (.inl z)) fun z=>.inr (.inr (z▸F)))
   (fun i b e d=>d.elim (fun z=>⟨_,z▸ho,eJ _ _⟩) fun d=>d.elim (fun z=>absurd e (z▸I.lA i)) fun z=>absurd e (z▸F.nl i)) (.inl rfl) (by rw[f2,I.inv.len];exact Nat.add_comm _ _) f3 f4
   (fun j o' b e q=>by
    rw[f5 j] at e;by_cases z:j=l
    ·rw[if_pos z] at e;obtain rfl:=aF e;rw[z,hl] at q;obtain rfl:=aF q;exact .inr ro
    ·rw[if_neg z] at e;exact .inl ⟨e,q,fun d=>d.elim (fun y=>z (I.inv.inj j l acc (y▸q) hl)) fun d=>d.elim (fun y=>I.lA j (y▸q)) fun y=>F.nl j (y▸q)⟩)
   fun kp g=>by refine oEA (I.frm) fun m0 h0 h1=>?_;refine oEA (ns m0 h0) fun m' h2 h3=>?_;refine⟨m',h2,fun n1 v q=>?_⟩;rw[f1] at q;refine oEA (h1 n1 v q) fun x hx X=>?_;exact⟨x,(h3 _ fun z=>by rw[S.nmi _ _ z,hn] at q;exact nf q).trans hx,X.mono g kp⟩
  exact⟨st',e',this.2,this.1⟩
 refine dO e fun o ho e=>?_;have ro:=I.inv.obj l o acc ho hl;have len:∀(bs:List Bool),(dP bs).length=bs.length:=fun bs=>List.length_map ..;induction o using SO.casesOn with
|lst vs=>
  rcases vs with _|_
  ·refine bZ e fun e0 e=>?_;refine cX ro fun xs n0 h0 rs=>?_;subst rs;refine⟨[],n0,h0,?_,fun h' n' kk h1 ns=>core e h' n' _ kk h1 ⟨bs,n',hb,h1,hf,hk⟩ ns⟩;rw[len];exact al__3 hb (aP e0)
  ·exact ff e
|kls n1 g gs=>
  refine bZ e fun e0 e=>?_;refine fN ro fun bs0 n0 c0 h0 c1 c2=>?_;refine⟨bs0,n0,h0,?_,fun h' n' kk h1 ns=>core e h' n' _ kk h1 ⟨bs0++bs,n',by rw[List.length_append];exact Nat.add_le_add c0 hb,h1,?_,fun k hk'=>(List.mem_append.mp hk').elim (c2 k) (hk k)⟩ ns⟩
  ·rw[len,List.length_append];exact al__3 (Nat.add_le_add c0 hb) (aP e0)
  ·rw[List.any_append,List.any_append,c1,hf];rcases g with _|_<;>rcases f with _|_<;>cases gs.any (dJ R)<;>rfl
|_=>exact ff e
theorem FP(S:Sta C B K mg mb)(c:CxOk C oU env R cx A)(I:At w C B oU env R st s.heap){i l m n d:Nat}{f:Bool}{fs:List Nat}{b acc a:Addr}(hi:st.get C.p i=some (.kls m f fs))(hb:R.ρ[i]?=some b)(hl:R.ρ[l]?=some acc)(ne:i≠l)(kl:kd env.scope n .local=true)(hn:look n st.fr=none)
  {k:St->Bool} (e:BC C.p l m f fs st k=true) {gs:List Comprehension} {sc:Scope} {q1 qn:Pos} {it':PySem.Expr} (hg:gs[d]?=some ⟨.Name (nm n) qn,it',[],0⟩) (hg2:gs[d+1]?=none) {RR:Result->Shared->Prop} (P:PU w C B oU env R s.heap s k (RR (.ok .next)))
  (X:s.heap.IsListIter a b 0) (F:Fresh C B oU env R s.heap a):codeAny (model C.prog w) A (.compLoop (.ListComp (.Name (nm n) q1) gs sc q) d (.ref a) (.ref acc) env) RR s:=by
 refine fN (I.inv.obj i _ b hi hb) fun bs nb b1 b2 b3 b4=>?_;refine aY (v5 S I hl F b1 b3 b4 hn e) fun bs0 n0 h0 hsz fin=>?_;refine oEA (I.frm) fun m0 hm0 _=>?_;have nab:a≠b:=fun z=>F.nl i (z▸hb);have naa:a≠acc:=fun z=>F.nl l (z▸hl);have nbl:b≠env.locals:=fun z=>I.lA i (z▸hb);have nal:acc≠env.locals:=fun z=>I.lA l (z▸hl);have nba:b≠acc:=fun z=>ne (I.inv.inj i l b hb (z▸hl));refine codeAny_loop rfl (I:=fun m1 s'=>∃j h' tk' n' m',s'={s with heap:=h',toks:=tk'}/\m1=bs.length-j/\j<=bs.length/\h'.IsListIter a b j/\h'.get? acc=some (listOf (dP (bs0++bs.take j)).toArray n')/\h'.Ns env.locals m'/\(∀y,y≠nm n->m' y=m0 y)/\
  ∀b o,b≠acc->b≠env.locals->b≠a->s.heap.get? b=some o->h'.get? b=some o) (fun m1 s' hI=>?_) bs.length ⟨0,s.heap,s.toks,n0,m0,rfl,rfl,Nat.zero_le _,X,by rw[List.take_zero,List.append_nil];exact h0,hm0,fun _ _=>rfl,fun _ _ _ _ _ e=>e⟩
 refine mQ hI fun j h' tk' n' m' u1 u2 hj X' ho hm hy kk=>?_;subst u1;subst u2;show wpAny _ A ((compTurn (.ListComp (.Name (nm n) q1) gs sc q) d (.ref a) (.ref acc) env).onRaise (fun x=>do noteFrame x env;theTreesLotGoes x)) _ _ _;refine wpAny_noted (j4 hg (fun g' z=>by rw[hg2] at z;exact nf z) ?_);have hbl:h'.IsList b (dP bs).toArray:=⟨_,kk b _ nba nbl nab.symm b2,rfl,_,rfl⟩;have len:∀(bs:List Bool),(dP bs).length=bs.length:=fun bs=>List.length_map ..;rcases Nat.lt_or_ge j bs.length with lt|ge
 ·have hv:(dP bs).toArray[j]?=some (.bool bs[j]):=by rw[List.getElem?_toArray];unfold dP;rw[List.getElem?_map,List.getElem?_eq_getElem lt];rfl
  refine wpAny_pyNext_list_item (s:={s with heap:=h',toks:=tk'}) X' hbl hv fun h2 X2 sb=>?_;replace sb:Heap.SameBut a h' h2:=sb;show wpAny _ _ (letOwnedTupleGo (.Name (nm n) qn) (.ref a) (.bool bs[j])) _ _ _;refine wpAny_pure (PyProof.Rows.assign_Name ?_);have hm2:h2.Ns env.locals m':=hm.sameBut sb F.nf.symm;refine wpAny_storeName_local (s:={s with heap:=h2,toks:=tk'}) (cD kl) hm2 (fun h3 hm3 sb3=>?_) (by rw[c.kind];rfl);replace sb3:Heap.SameBut env.locals h2 h3:=sb3;refine wpAny_pure ?_;dsimp only;rw[hg2];dsimp only;refine wpAny_Name (wpAny_loadName_local (s:={s with heap:=h3,toks:=_}) c.kind (cD kl) hm3 (if_pos rfl) ?_) (S.dbg n).1;have ho3:h3.get? acc=some (listOf (dP (bs0++bs.take j)).toArray n'):=(sb3.2 _ nal).trans ((sb.2 _ naa.symm).trans ho);refine append_at (s:={s with heap:=h3,toks:=_}) ho3 (fun h4 sb4 ho4=>?_) ?_
  ·replace sb4:Heap.SameBut acc h3 h4:=sb4;have ea:(dP (bs0++bs.take j)).toArray.push (.bool bs[j])=(dP (bs0++bs.take (j+1))).toArray:=by rw[List.take_add_one,List.getElem?_eq_getElem lt];simp only[dP,List.map_append,List.push_toArray,Option.toList_some,List.map_cons,List.map_nil,List.append_assoc]
   rw[ea] at ho4;exact⟨rfl,bs.length-(j+1),by(first|lia|omega),j+1,h4,_,_,_,rfl,rfl,lt,(by refine oEA X2 fun oi y1 y2=>?_;exact⟨oi,(sb4.2 a naa).trans ((sb3.2 a F.nf).trans y1),y2⟩),ho4,hm3.sameBut sb4 nal.symm,fun y hne=>(if_neg hne).trans (hy y hne),fun x o z1 z2 z3 e=>sb4.extBut x o z1 (sb3.extBut x o z2 (sb.extBut x o z3 (kk x o z1 z2 z3 e)))⟩
  ·rw[List.size_toArray,len,List.length_append,List.length_take];rw[len,List.length_append] at hsz;rw[sizeLine_eq]
   (first|lia|omega)
 ·have ej:j=bs.length:=Nat.le_antisymm hj ge;refine wpAny_pyNext_list_end (s:={s with heap:=h',toks:=tk'}) c.hd X' hbl (by rw[List.getElem?_toArray];exact List.getElem?_eq_none (by rw[len];exact ge)) fun h2 eb=>?_;replace eb:Heap.ExtBut a h' h2:=eb;subst ej;rw[List.take_length] at ho;refine oEAA (fin h2 n' (fun x o z1 z2 z3 e=>eb x o z3 (kk x o z1 z2 z3 e)) (eb _ _ naa.symm ho) fun m1 h1=>⟨m',hm.extBut eb F.nf.symm,fun y hne=>(hy y hne).trans (by rw[jL h1 hm0])⟩) fun st' e' l' I'=>?_;exact P st' R h2 tk' (.refl R) l' I' e'
end
end
section
theorem v8{p:P}{src:It}{i:Nat}{st:St}{f g:Option SV->Bool}(h:∀o,f o=true->g o=true)(e:sR p src i st f=true):sR p src i st g=true:=by
 induction src using It.casesOn with
|fix vs=>exact h _ e
|lst l=>refine dL e fun vs hg e=>?_;show gL p st l (fun vs=>g (nth vs i))=true;unfold gL;rw[hg];exact h _ e
|rng n=>replace e:(match Nat.blt i n with|true=>f (some (.int (.ofNat i)))|false=>f none)=true:=e;show(match Nat.blt i n with|true=>g (some (.int (.ofNat i)))|false=>g none)=true;cases q:Nat.blt i n<;>rw[q] at e<;>exact h _ e
|enu l=>refine dL e fun vs hg e=>?_;show gL p st l (fun vs=>match nth vs i with|some v=>g (some (.tup [.int (.ofNat i),v]))|none=>g none)=true;unfold gL;rw[hg];show(match nth vs i with|some v=>g (some (.tup [.int (.ofNat i),v]))|none=>g none)=true;cases q:nth vs i<;>rw[q] at e<;>exact h _ e
section
theorem mG{gs:List Comprehension}{d:Nat}{g:Comprehension}{r:List Comprehension}(h:gs.drop d=g::r):gs[d]?=some g/\gs.drop (d+1)=r:=by
 refine⟨?_,?_⟩
 ·have:=congrArg List.head? h;rwa [List.head?_drop] at this
 ·have:=congrArg List.tail h;rwa [List.tail_drop] at this
theorem mH{gs:List Comprehension}{d:Nat}(h:gs.drop d=[]):gs[d]?=none:=by rw[<-List.head?_drop,h];rfl
theorem FR{B:Heap}{A:Around}{s:Shared}{oU:List Env}{env:Env}{R:Rn}{cx:Cx}{st:St}{E':Value->Shared->Prop}(S:Sta C B K mg mb)(c:CxOk C oU env R cx A)(I:At w C B oU env R st s.heap){i l m d:Nat}{f:Bool}{fs:List Nat}{b acc:Addr}(hi:st.get C.p i=some (.kls m f fs))(hb:R.ρ[i]?=some b)(hl:R.ρ[l]?=some acc)
  {elt:E} {ts:List T} {it:PySem.Expr} {cs:List (List E)} {k:St->Bool} (e:(!(Nat.beq i l)&&uM elt ts cs st (BC C.p l m f fs st k))=true) (ot:ts.all (BE env.scope)=true) {gs:List Comprehension} {sc:Scope} {q:Pos} (hg:∀t r c r2,ts=t::r->cs=c::r2->gs[d]?=some ⟨n9 t,it,b_ (aN C.p.lams) c,0⟩) (hg2:ts.length=1->gs[d+1]?=none)
  {G:Shared->Prop} (P:PU w C B oU env R s.heap s k G) :
  wpAny (model C.prog w) A (pyIter (.ref b)) (fun it2 s6=>wpAny (model C.prog w) A (runOwn (.compStart (.ListComp (bC (aN C.p.lams) elt) gs sc q) d it2 (.ref acc) env) env) (fun _=>G) E' s6) E' s:=by
 refine bZ e fun ne e=>?_;refine fN (I.inv.obj i _ b hi hb) fun bs nb b1 b2 b3 b4=>?_;induction elt using E.casesOn with
|lo n q1=>
  rcases ts with _|⟨t,_|⟨_,_⟩⟩
  ·exact ff e
  ·induction t using T.casesOn with
  |nm n' qn=>
    rcases cs with _|⟨_|⟨_,_⟩,_|⟨_,_⟩⟩<;>try (exact ff e;done)
    refine mJ e fun y1 y2 e3=>?_;obtain rfl:=aT y1;have y2:look n st.fr=none:=by cases q:look n st.fr with|none=>rfl|some v=>rw[q] at y2;exact ff y2
    refine wpAny_pyIter_list ⟨_,b2,rfl,_,rfl⟩ ?_;refine s8 (I.pushed (o:={cls:=.type "list_iterator",data:=.fields #[.ref b,.int 0 0]}) rfl (dS rfl)) fun I6 F6 l6=>?_;generalize hh:s.heap.push {cls:=.type "list_iterator",data:=.fields #[.ref b,.int 0 0]}=h6 at I6 F6 l6;have X6:h6.IsListIter s.heap.objs.size b 0:=⟨_,by rw[<-hh];exact Heap.get?_push_size _ rfl,rfl,rfl⟩;have main:=FP (q:=q) (sc:=sc) (q1:=q1) (s:={s with heap:=h6}) (RR:=fun r s'=>match r with|.ok f=>G s'|.error e=>cameBackBy (model C.prog w) A env E' e s') S c I6 hi hb hl (fun z=>by rw[z,Nat.beq_refl] at ne;exact ff ne) (aG ot).1 y2 e3 (hg _ _ _ _ rfl rfl) (hg2 rfl) (P.mono (tk:=s.toks) (.refl R) l6) X6 F6;exact wpAny_runOwn (b8 (hg _ _ _ _ rfl rfl) rfl rfl main fun E=>wpAny_pyIter_listiter X6 main)
  |tp=>exact ff e
  ·exact ff e
|_=>exact ff e
theorem IC{B:Heap}{ih:Ev}{A:Around}{s:Shared}{oU:List Env}{env:Env}{R:Rn}{cx:Cx}{st:St}{E':Value->Shared->Prop}(S:Sta C B K mg mb)(hx:eE w C B ih)(hc:vU w C B ih)(c:CxOk C oU env R cx A)(I:At w C B oU env R st s.heap){l d:Nat}{acc:Addr}(hl:R.ρ[l]?=some acc)
  {elt it:E} {ts:List T} {its:List E} {cs:List (List E)} {k:St->Bool} (e:xU C.p ih cx elt ts (it::its) cs l it st k=true) (o:CoOk C.p.lams env.scope elt ts (it::its) cs) (oi:cN C.p.lams env.scope it=true) {gs:List Comprehension} {sc:Scope} {q:Pos} (hgs:gs.drop d=tR ts (b_ (aN C.p.lams) (it::its)) (n8 (aN C.p.lams) cs))
  {G:Shared->Prop} (P:PU w C B oU env R s.heap s k G) :
  wpAny (model C.prog w) A (eval (bC (aN C.p.lams) it) env) (fun x s5=>wpAny (model C.prog w) A (pyIter x) (fun it2 s6=>wpAny (model C.prog w) A (runOwn (.compStart (.ListComp (bC (aN C.p.lams) elt) gs sc q) d it2 (.ref acc) env) env) (fun _=>G) E' s6) E' s5) E' s:=by
 refine hx cx it st _ dX oU env R A s _ _ c oi I e (fun v st1 R1 h1 tk1 x g l1 I1 V z=>?_) (PE.no _);have gi:∀t r c r2,ts=t::r->cs=c::r2->gs[d]?=some ⟨n9 t,bC (aN C.p.lams) it,b_ (aN C.p.lams) c,0⟩:=fun t r c r2 e1 e2=>by subst e1 e2;exact(mG hgs).1
 have P1:=P.mono (tk:=tk1) g l1;have go:BB C.p v st1 (fun src=>ih.comp cx elt ts (it::its) cs src 0 l st1 k)=true->wpAny (model C.prog w) A (pyIter x) (fun it2 s6=>wpAny (model C.prog w) A (runOwn (.compStart (.ListComp (bC (aN C.p.lams) elt) gs sc q) d it2 (.ref acc) env) env) (fun _=>G) E' s6) E' {s with heap:=h1,toks:=tk1}:=fun z=>by
  refine Ad (s:={s with heap:=h1,toks:=tk1}) I1 V z fun src h6 a z6 kk hn X6 tt6=>?_;have fr:=dW (s:={s with heap:=h1,toks:=tk1}) I1 hn X6.obj.1;have main:=hc cx elt ts (it::its) cs src 0 l st1 k oU env R1 A {s with heap:=h6,toks:=tk1} (fun r s'=>match r with|.ok f=>G s'|.error e=>cameBackBy (model C.prog w) A env E' e s') a a acc d gs sc q (c.le g) o (List.cons_ne_nil _ _) (fun t _=>tt6 t) hgs (I1.keep kk) X6 fr fr (g.at hl) z6 (P1.mono (tk:=tk1) (.refl R1) (.of_keep kk));refine oA (o.n) fun n1 n2=>?_;rcases ts with _|⟨t,ts⟩
  ·cases n1
  rcases cs with _|⟨c1,cs⟩
  ·cases n2
  exact wpAny_runOwn (b8 (gi _ _ _ _ rfl rfl) rfl rfl main fun E=>Ae X6 main)
 induction v using SV.casesOn with
|loc i=>
  refine oEA (id V) fun b hb u1=>?_;subst u1;refine dO z fun o5 h5 z=>?_;induction o5 using SO.casesOn with
 |lst vs=>exact go (by show gL C.p st1 i _=true;unfold gL;rw[h5];exact z)
 |kls m f fs=>
   refine FR (s:={s with heap:=h1,toks:=tk1}) S (c.le g) I1 h5 hb (g.at hl) z o.t gi (fun h1=>?_) P1;rcases ts with _|⟨t,_|⟨_,_⟩⟩
   ·cases h1
   ·refine oA (o.n) fun n1 n2=>?_;rcases cs with _|⟨c1,cs⟩
    ·cases n2
    ·exact mH ((mG hgs).2.trans (by cases b_ (aN C.p.lams) its<;>rfl))
   ·cases h1
 |_=>exact ff z
|tup ws=>exact go z
|_=>exact ff z
theorem Md{B:Heap}{ih:Ev}{A:Around}{s:Shared}{oU:List Env}{env:Env}{R:Rn}{cx:Cx}{st:St}{E':Value->Shared->Prop}(hx:eE w C B ih)(c:CxOk C oU env R cx A)(I:At w C B oU env R st s.heap){l:Nat}{acc:Addr}(hl:R.ρ[l]?=some acc)
  {elt:E} {k:St->Bool} (e:ih.ex cx elt st (fun x st=>uB C.p l x st k) dX=true) (o:cN C.p.lams env.scope elt=true) {G:Shared->Prop} (P:PU w C B oU env R s.heap s k G) :
  wpAny (model C.prog w) A (eval (bC (aN C.p.lams) elt) env) (fun x s5=>wpAny (model C.prog w) A (call (.builtin "list.append") [.ref acc,x]) (fun _=>G) E' s5) E' s:=by
 refine hx cx elt st _ dX oU env R A s _ _ c o I e (fun v st1 R1 h1 tk1 x g l1 I1 V z=>?_) (PE.no _);refine dL z fun xs hg z=>?_;exact CY (s:={s with heap:=h1,toks:=tk1}) (n:=2) (vs:=[v]) (xs:=[x]) (k:=fun _ st=>k st) I1 hg ⟨acc,g.at hl,rfl⟩ ⟨_,_,rfl,V,rfl⟩ z fun v6 st6 R6 h6 tk6 y g6 l6 I6 _ z6=>P st6 R6 h6 tk6 (g.trans g6) (l1.trans l6) I6 z6
theorem II{B:Heap}{N m:Nat}{A:Around}{s:Shared}{oU:List Env}{env:Env}{R:Rn}{cx:Cx}{st:St}{E':Value->Shared->Prop}(S:Sta C B K mg mb)(hm:m<N)(hx:∀m,m<N->∀B',Sta C B' K mg mb->eE w C B' (ev C.p m))(ht:∀m,m<N->∀B',Sta C B' K mg mb->wW w C B' (ev C.p m))(hc:∀m,m<N->∀B',Sta C B' K mg mb->vU w C B' (ev C.p m))(c:CxOk C oU env R cx A)(I:At w C B oU env R st s.heap){l d:Nat}{acc:Addr}(hl:R.ρ[l]?=some acc)
  {elt it:E} {t:T} {ts:List T} {its c1:List E} {cs:List (List E)} {q0:Pos} {k:St->Bool} (e:(ev C.p m).ts cx (.bop true c1 q0) st (fun b st=>match b with
    |false=>k st
    |true=>lD C.p (ev C.p m) cx elt ts (it::its) cs l st k) dX=true) (o:CoOk C.p.lams env.scope elt (t::ts) (it::its) (c1::cs)) {gs:List Comprehension} {sc:Scope} {q:Pos} (hgs:gs.drop (d+1)=tR ts (b_ (aN C.p.lams) its) (n8 (aN C.p.lams) cs))
  {G:Shared->Prop} (P:PU w C B oU env R s.heap s k G) :
  wpAny (model C.prog w) A (forIn (b_ (aN C.p.lams) c1) true fun c r=>if r=true then do let ok <-isTrue c env (eval c env);pure (ForInStep.yield ok) else pure (ForInStep.yield r)) (fun ok s4=>match ok with
    |false=>G s4
    |true=>match gs[d+1]? with
     |some g'=>wpAny (model C.prog w) A (eval g'.iter env) (fun x s5=>wpAny (model C.prog w) A (pyIter x) (fun it2 s6=>wpAny (model C.prog w) A (runOwn (.compStart (.ListComp (bC (aN C.p.lams) elt) gs sc q) (d+1) it2 (.ref acc) env) env) (fun _=>G) E' s6) E' s5) E' s4
     |none=>wpAny (model C.prog w) A (eval (bC (aN C.p.lams) elt) env) (fun x s5=>wpAny (model C.prog w) A (call (.builtin "list.append") [.ref acc,x]) (fun _=>G) E' s5) E' s4) E' s:=by
 refine Ai (fun m hm=>ht m hm B S) c c1 m (Nat.le_of_lt hm) st R s _ _ (.refl _) (aG o.c).1 I e fun b st4 R4 h4 tk4 g4 l4 I4 z4=>?_;have P4:=P.mono (tk:=tk4) g4 l4;rcases b with _|_
 ·exact P4 st4 R4 h4 tk4 (.refl _) (.refl _ _) I4 z4
 ·dsimp only;refine oA (o.n) fun n1 n2=>?_;rcases its with _|⟨it2,its⟩
  ·rcases ts with _|⟨_,_⟩
   ·rw[mH hgs];exact Md (s:={s with heap:=h4,toks:=tk4}) (hx m hm B S) (c.le g4) I4 (g4.at hl) z4 o.e P4
   ·cases n1
  ·rcases ts with _|⟨t2,ts⟩
   ·cases n1
   rcases cs with _|⟨c2,cs⟩
   ·cases n2
   rw[(mG hgs).1];exact IC (s:={s with heap:=h4,toks:=tk4}) S (hx m hm B S) (hc m hm B S) (c.le g4) I4 (g4.at hl) z4 ⟨o.e,(aG o.t).2,(aG o.i).2,(aG o.c).2,Nat.succ.inj n1,Nat.succ.inj n2⟩ (aG o.i).1 hgs P4
def NL(w:World)(C:Cst)(B:Heap)(oU:List Env)(env:Env)(R:Rn)(s:Shared)(N:Nat)(src:It)(a a2:Addr)(run:Nat->Nat->St->Bool)(m:Nat)(s':Shared):Prop:=m<=N/\∃i st' R' h' tk',s'={s with heap:=h',toks:=tk'}/\R.le R'/\Le oU s.heap h'/\At w C B oU env R' st' h'/\ItOk C R' h' src i a a2/\Fresh C B oU env R' h' a/\Fresh C B oU env R' h' a2/\run m i st'=true
theorem OR{B:Heap}{N:Nat}(S:Sta C B K mg mb)(hx:∀m,m<N->∀B',Sta C B' K mg mb->eE w C B' (ev C.p m))(ht:∀m,m<N->∀B',Sta C B' K mg mb->wW w C B' (ev C.p m))(hc:∀m,m<N->∀B',Sta C B' K mg mb->vU w C B' (ev C.p m)):vU w C B (ev C.p N):=by
 intro cx elt ts its cs src i l st k oU env R A s RR a a2 acc d gs sc q c o ne tt hgs I X F F2 hl e P;refine oA (o.n) fun n1 n2=>?_;rcases its with _|⟨it,its⟩
 ·exact absurd rfl ne
 rcases ts with _|⟨t,ts⟩
 ·cases n1
 rcases cs with _|⟨c1,cs⟩
 ·cases n2
 refine oA (mG hgs) fun hg hgs2=>?_;refine oA (aG o.t) fun ot ots=>?_;refine oA (aG o.c) fun oc ocs=>?_;have tt:=tt t rfl;have ln1:ts.length=its.length:=Nat.succ.inj n1;have ln2:cs.length=its.length:=Nat.succ.inj n2;have hgp:∀g',gs[d+1]?=some g'->g'.is_async=0/\∀x,foldedSetIterable g'.iter env x=pure x:=fun g' h=>by
  rcases ts with _|⟨t2,ts⟩
  ·rw[mH hgs2] at h;exact nf h
  ·rcases its with _|⟨it2,its⟩
   ·cases ln1
   ·rcases cs with _|⟨c2,cs⟩
    ·cases ln2
    ·rw[(mG hgs2).1] at h;obtain rfl:=aF h;exact⟨rfl,fun x=>i_ (bY (aG o.i).1) env x⟩
 refine codeAny_loop rfl (I:=NL w C B oU env R s N src a a2 fun m i st=>(ev C.p m).comp cx elt (t::ts) (it::its) (c1::cs) src i l st k)
  (fun m s' hI=>?_) N ⟨Nat.le_refl _,i,st,R,s.heap,s.toks,rfl,.refl R,.refl _ _,I,X,F,F2,e⟩
 refine gZ hI fun hm i st' R' h' tk' u2 g l0 I' X' F' F2' e'=>?_;subst u2;rcases m with _|m
 ·exact ff e'
 ·show wpAny _ A ((compTurn (.ListComp (bC (aN C.p.lams) elt) gs sc q) d (.ref a) (.ref acc) env).onRaise (fun x=>do noteFrame x env;theTreesLotGoes x)) _ _ _;refine wpAny_noted (j4 hg hgp ?_);replace e':=v8 (g:=fun o=>match o with
  |none=>k st'
  |some v=>eP C.p cx.cl t v st' (fun st=>(ev C.p m).ts cx (.bop true c1 ⟨0,0,0,0⟩) st (fun b st=>match b with
    |false=>(ev C.p m).comp cx elt (t::ts) (it::its) (c1::cs) src (i+1) l st k
    |true=>lD C.p (ev C.p m) cx elt ts (it::its) cs l st fun st=>(ev C.p m).comp cx elt (t::ts) (it::its) (c1::cs) src (i+1) l st k) dX)) (fun o h=>by
   cases o with
  |none=>exact h
  |some v=>exact qJ (c.le g) ot h) (show sR C.p src i st' (fun o=>match o with
  |none=>k st'
  |some v=>tY t v st' (fun st=>(ev C.p m).ts cx (.bop true c1 ⟨0,0,0,0⟩) st (fun b st=>match b with
    |false=>(ev C.p m).comp cx elt (t::ts) (it::its) (c1::cs) src (i+1) l st k
    |true=>lD C.p (ev C.p m) cx elt ts (it::its) cs l st fun st=>(ev C.p m).comp cx elt (t::ts) (it::its) (c1::cs) src (i+1) l st k) dX))=true from e')
  refine Aj (s:={s with heap:=h',toks:=tk'}) (kn:=k st') (kk:=fun _ st=>(ev C.p m).ts cx (.bop true c1 ⟨0,0,0,0⟩) st (fun b st=>match b with
    |false=>(ev C.p m).comp cx elt (t::ts) (it::its) (c1::cs) src (i+1) l st k
    |true=>lD C.p (ev C.p m) cx elt ts (it::its) cs l st fun st=>(ev C.p m).comp cx elt (t::ts) (it::its) (c1::cs) src (i+1) l st k) dX) S (c.le g) (y0 ot) tt I' X' F' F2' e' (fun z h2 l2 I2=>P st' R' h2 tk' g (l0.trans l2) I2 z) fun B' v st3 R3 h3 tk3 low g3 l3 I3 z3 nx=>?_
  have S':=S.up low;have cR:=c.le (g.trans g3);exact II (s:={s with heap:=h3,toks:=tk3}) S' hm hx ht hc cR I3 ((g.trans g3).at hl) z3 o hgs2 fun st7 R7 h7 tk7 g7 l7 I7 z7=>
   let⟨X4,F4,F5⟩:=nx R7 st7 h7 g7 l7 I7
   ⟨rfl,m,Nat.lt_succ_self m,Nat.le_of_lt hm,i+1,st7,R7,h7,tk7,rfl,g.trans (g3.trans g7),l0.trans (l3.trans l7),I7.lower low,X4,F4,F5,z7⟩
end
end
section
section
variable{E':Value->Shared->Prop}{q:Pos}
theorem qU(c:CxOk C oU env R cx A){h:Heap}{st:St}{R':Rn}(I:At w C B oU env R' st h){a:Addr}(hn:h.get? a=none):env.frame≠some a:=fun z=>by
 rcases c.fr with e|⟨x,hx,e⟩
 ·rw[e] at z;obtain rfl:=aF z;refine c_ (I.ns) fun o _ _ q _=>?_;rw[hn] at q;exact nf q
 ·refine gY (I.out x hx) fun _ L o _ _ a1 b1 _=>?_;rw[<-e,a1] at z;obtain rfl:=aF z;rw[hn] at b1;exact nf b1
theorem uC(S:Sta C B K mg mb)(c:CxOk C oU env R cx A){frees:List Nat}{sc:Scope}{cl:List (Nat×Nat)}(hcs:c8 cx.cl frees=some cl)(o:FA frees sc=true) :
  sc.kind=.function/\(∀x∈sc.names,x.2≠.cell)/\(∀x∈sc.names,x.2=.local->sc.names.lookup x.1=some .local)/\∃clo,closureFor sc env=pure clo/\
   ∀(R':Rn) (Cd:Addr),R.le R'->env.frame≠some Cd->CxOk C (cI env oU) (compEnvC sc clo Cd env) R' {cx with cl} A:=by
 refine AS o fun o1 o2 o3 o4=>?_;have k1:sc.kind=.function:=bD o1;have hf:frees.map nm=(fJ sc).reverse:=bD o3;have nc:∀x∈sc.names,x.2≠.cell:=fun x hx z=>by have:=(aG (aZ o2 x hx)).1;rw[z] at this;exact ff this
 refine⟨k1,nc,fun x hx z=>?_,?_⟩
 ·have:=(aG (aZ o2 x hx)).2;rw[decide_eq_true z] at this;exact bD this
 ·refine oEA (xR c hf hcs) fun f hclo hat=>?_;refine oA (lG hcs) fun fr1 fr2=>?_;refine⟨_,hclo,fun R' Cd g hfr=>?_⟩;have rcl:RCl R' cl ((cl.map fun p=>nm p.1).map fun x=>(x,f x)):=.of f fun p hp=>g.at (hat p hp).1;exact{
   kind:=k1
   gl:=c.gl
   bi:=c.bi
   stk:=by rw[qW (env:=compEnvC sc _ Cd env) hfr];exact c.stk
   dep:=c.dep
   un:=c.un
   hd:=c.hd
   tb:=c.tb
   cl:=fun n i e=>rcl.look S.nmi e
   ck:=fun n=>by
    show match look n cl with
    |some _=>(relabel sc env).names.lookup (nm n)≠some .local
    |none=>(relabel sc env).names.lookup (nm n)≠some .cell
    rw[gB];have inF:sc.names.lookup (nm n)=some .free->n∈frees:=fun h=>by
     have:nm n∈frees.map nm:=by rw[hf];exact List.mem_reverse.mpr (List.mem_map.mpr ⟨_,List.mem_filter.mpr ⟨bQ h,rfl⟩,rfl⟩)
     refine oEA (List.mem_map.mp this) fun m hm e=>?_;rw[<-S.nmi _ _ e];exact hm
    rcases h:look n cl with _|i
    ·intro z;rcases h2:sc.names.lookup (nm n) with _|k2
     ·rw[h2] at z;exact nf z
     ·rw[h2] at z;have z:(if(k2==NameKind.free&&env.scope.kind==.function&&env.kindOf (nm n)==some .cell)=true then NameKind.cell else k2)=.cell:=aF z;split at z
      ·rename_i y
       have:=inF (by rw[h2,eq_of_beq (aG (aG y).1).1]);rw[<-fr1] at this;refine oEA (List.mem_map.mp this) fun p hp e=>?_;exact fL h p hp e
      ·exact nc _ (bQ h2) z
    ·have:n∈frees:=by rw[<-fr1];exact List.mem_map_of_mem (f:=(·.1)) (look_mem h)
     rw[cD (aZ o4 n this)];intro z;have z:(if(NameKind.free==NameKind.free&&env.scope.kind==.function&&env.kindOf (nm n)==some .cell)=true then NameKind.cell else .free)=.local:=aF z;split at z<;>cases z
   ub:=c.ub
   db:=c.db
   fr:=by
    refine .inr ?_;show ∃e∈cI env oU,e.frame=env.frame;rcases c.fr with e|⟨x,hx,e⟩
    ·exact⟨env,by rw[c9 e];exact .head _,rfl⟩
    ·refine⟨x,?_,e⟩;unfold cI;split
     ·exact .tail _ hx
     ·exact hx}
theorem Fresh.inC{R':Rn}{st0:St}{h0 h1 h':Heap}{cenv:Env}{a acc:Addr}(I0:At w C B oU env R st0 h0)(f:Fresh C B oU env R h1 a)(e1:R'.ρ=R.ρ++[acc])(n1:a≠acc)(n2:a≠cenv.locals)(hn:h0.get? a=none)(it:∃o,h'.get? a=some o/\¬iP o) :
  Fresh C (up C R (cI env oU) h0) (cI env oU) cenv R' h' a:=
 ⟨b9 oJ hn,fun i z=>by rw[e1] at z;exact(iQ z).elim (f.nl i) fun z=>n1 z.2,f.nt,n2,fun e he z=>(by refine pO (I0.fs_frame he z) fun _ _ o _ _ h1 _=>?_;rw[hn] at h1;cases h1),it⟩
theorem DB(S:Sta C B K mg mb)(hx:eE w C B ih)(hc:∀B',Sta C B' K mg mb->vU w C B' ih)(c:CxOk C oU env R cx A){elt it:E}{ts:List T}{its:List E}{cs:List (List E)}{frees:List Nat}{sc:Scope}{q1:Pos}(o:cN C.p.lams env.scope (.lc elt ts (it::its) cs frees sc q)=true)(I:At w C B oU env R st s.heap)
  (e:Bf C.p ih cx elt ts (it::its) cs frees st k ke=true) (PX:PE w C B oU env R s.heap s ke E') {use:Option (Value->Sem Unit)} {Q:Value->Shared->Prop}
  (fin:∀l st' R' h' tk' acc Cd m,R.le R'->Le oU s.heap h'->At w C B oU env R' st' h'->RV C R' h' (.loc l) (.ref acc)->h'.Ns Cd m->Fresh C B oU env R' h' Cd->k (.loc l) st'=true->compPost (model C.prog w) A E' use Q (.ref acc) Cd (.ok .next) {s with heap:=h',toks:=tk'}) :
  wpAny (model C.prog w) A (comprehension (bC (aN C.p.lams) (.lc elt ts (it::its) cs frees sc q)) sc env q1 (newList []) false (eval (bC (aN C.p.lams) it) env) use) Q E' s:=by
 refine jN o fun o1 o3 o2 o4 o5 o6 o7 o8=>?_;have n1:=aT o7;have n2:=aT o8;refine bZ o2 fun oi ois=>?_;rcases ts with _|⟨t,ts⟩
 ·cases n1
 rcases cs with _|⟨c1,cs⟩
 ·cases n2
 refine dO e fun cl hcs e=>?_;refine zK (uC S c hcs o5) fun k1 nc hnm clo hclo hcx=>?_;refine wpAny_comprehension_free (use:=use) (g:=⟨n9 t,bC (aN C.p.lams) it,b_ (aN C.p.lams) c1,0⟩) rfl (fun x=>i_ (bY oi) env x) hclo k1 hnm (IF S hx c oi o6 I e PX fun src st1 R1 h0 h1 tk1 a a2 z g l I0 kk hn hn2 X tt=>?_);have I1:=I0.keep kk;have ob:=X.obj;refine wpAny_newList (s:={s with heap:=h1,toks:=tk1}) ?_;generalize hh2:h1.push {cls:=.type "list",data:=.seq ([]:List Value).toArray}=h2;have kk2:∀b o,h1.get? b=some o->h2.get? b=some o:=fun b o e=>by rw[<-hh2];exact Heap.get?_push_of_some _ e
 refine I1.new z kk2 (bK h1) ⟨[],0,by rw[<-hh2];exact Heap.get?_push_size _ rfl,rfl⟩ fun i st2 e2 g2 l2 I2 X2 _ fr2=>?_;refine wpAny_newFunctionEnv (s:={s with heap:=h2,toks:=tk1}) nc (fun x hx=>by rcases hx with _|_) (fun h3 ns sb=>?_) k1;have kk3:∀b o,h2.get? b=some o->h3.get? b=some o:=fun b o e=>sb.extBut b o (Nat.ne_of_lt (Heap.lt_size e)) (Heap.get?_push_of_some _ e);have hCd0:h0.get? h2.objs.size=none:=b9 (fun b o e=>kk2 b o (kk b o e)) (bK h2);have I3:=I0.inC (env':=compEnvC sc clo h2.objs.size env) (fr:=[]) I2 (fun i a e=>(iQ e).elim .inl fun z=>.inr (z.2▸b9 kk (bK h1))) (fun b o e=>kk2 b o (kk b o e)) c.kind kk3 (bK h2) ⟨_,ns,fun n v q=>by exact nf q⟩;have lt1:∀{b o},h1.get? b=some o->b≠h1.objs.size/\b≠h2.objs.size:=fun{b o} e=>⟨Nat.ne_of_lt (Heap.lt_size e),Nat.ne_of_lt (Heap.lt_size (kk2 _ _ e))⟩;have fr:∀{a},h0.get? a=none->(∃o,h1.get? a=some o/\¬iP o)->Fresh C (up C R1 (cI env oU) h0) (cI env oU) (compEnvC sc clo h2.objs.size env) ⟨R1.ρ++[h1.objs.size],R1.δ⟩ h3 a:=fun hn ⟨o,q1,n1⟩=>
  (dW (s:={s with heap:=h0}) I0 hn ⟨o,q1,n1⟩).inC I0 rfl (lt1 q1).1 (lt1 q1).2 hn ⟨o,kk3 _ _ (kk2 _ _ q1),n1⟩
 have X3:ItOk C ⟨R1.ρ++[h1.objs.size],R1.δ⟩ h3 src 0 a a2:=X.keep g2 (.of_keep fun b o e=>kk3 b o (kk2 b o e)) (fun o e=>kk3 _ _ (kk2 _ _ e)) fun o e=>kk3 _ _ (kk2 _ _ e);have le3:Le (cI env oU) h0 h3:=.of_keep fun b o e=>kk3 b o (kk2 b o (kk b o e));have L:=lV sc env;refine oEA X2 fun _ hX2 eX2=>?_;cases eX2;have main:=hc _ (S.up I0.low_up) {cx with cl} elt (t::ts) (it::its) (c1::cs) src 0 i {st2 with fr:=[]} _ (cI env oU) (compEnvC sc clo h2.objs.size env) ⟨R1.ρ++[h1.objs.size],R1.δ⟩ A {s with heap:=h3,toks:=tk1+0} (compPost (model C.prog w) A E' use Q (.ref h1.objs.size) h2.objs.size) a a2 h1.objs.size 0 (⟨n9 t,bC (aN C.p.lams) it,b_ (aN C.p.lams) c1,0⟩::tR ts (b_ (aN C.p.lams) its) (n8 (aN C.p.lams) cs)) sc q
  (hcx _ _ (g.trans g2) (qU c I0 hCd0)) ⟨cC L o1,List.all_eq_true.mpr fun t ht=>yZ L (aZ o3 t ht),dE L ois,rF L o4,n1,n2⟩ (List.cons_ne_nil _ _) (fun t' ht=>by obtain rfl:=aF ht;exact tt) rfl I3 X3 (fr hn ob.1) (fr hn2 ob.2) hX2 (dN e2) fun st7 R7 h7 tk7 g7 l7 I7 z7=>?_
 ·exact b8 rfl rfl rfl main fun E=>Ae (s:={s with heap:=h3,toks:=tk1+0}) X3 main
 ·refine oA (At.back I0 (g2.trans g7) I7 (le3.trans l7)) fun I8 l8=>?_;have z8:=dN z7;rw[fr2] at z8;refine oEA (I7.frm) fun m hm _=>?_;refine c_ (I7.ns) fun oC esC nC qC dC=>?_;have fC:=dW (s:={s with heap:=h0}) (h':=h7) I0 hCd0 ⟨oC,qC,bL dC⟩;exact fin i _ R7 h7 tk7 h1.objs.size h2.objs.size m (g.trans (g2.trans g7)) (l.trans l8) I8 ⟨_,g7.at hX2,rfl⟩ hm ⟨fC.nb,I7.lA,fC.nt,fC.nf,fC.no,fC.it⟩ z8
end
end
section
section
variable{E':Value->Shared->Prop}{q q' q'':Pos}{Q:Value->Shared->Prop}
theorem NJ(S:Sta C B K mg mb)(hx:eE w C B ih)(hc:∀B',Sta C B' K mg mb->vU w C B' ih)(c:CxOk C oU env R cx A){elt:E}{ts:List T}{its:List E}{cs:List (List E)}{frees:List Nat}{sc:Scope}(o:cN C.p.lams env.scope (.lc elt ts its cs frees sc q)=true)(I:At w C B oU env R st s.heap)
  (e:Bf C.p ih cx elt ts its cs frees st k ke=true) (P:PV w C B oU env R s.heap s k Q) (PX:PE w C B oU env R s.heap s ke E'):wpAny (model C.prog w) A (eval (bC (aN C.p.lams) (.lc elt ts its cs frees sc q)) env) Q E' s:=by
 rcases its with _|⟨it,its⟩
 ·exact ff e
 rcases ts with _|⟨t,ts⟩
 ·have:=(aG (aG (aG o).2).1).2;exact ff this
 rcases cs with _|⟨c1,cs⟩
 ·have:=(aG (aG o).2).2;exact ff this
 refine DB S hx hc c o I e PX fun l st' R' h' tk' acc Cd m g l1 I1 X hm F z=>⟨m,hm,fun h2 sb=>?_⟩;obtain⟨I2,l2⟩:=I1.other F sb.extBut;exact P (.loc l) st' R' h2 tk' _ g (l1.trans l2) I2 (X.mono (.refl _) l2.kp) z
theorem Jk(S:Sta C B K mg mb)(hx:eE w C B ih)(hc:∀B',Sta C B' K mg mb->vU w C B' ih){n:Nat}{elt:E}{ts:List T}{its:List E}{cs:List (List E)}{frees:List Nat}{sc:Scope}:fO w C B (step C.p ih) (.asg (.nm n q) (.lc elt ts its cs frees sc q') q''):=by
 intro cx st k ke oU env R A s Q E' c hf o I h P PX;obtain⟨⟨ot,oe⟩,_⟩:=eO o;have hb:∃b,swapsWith (bC (aN C.p.lams) (.lc elt ts its cs frees sc q')) (some (.Name (nm n) q)) q''.line env=pure b:=⟨_,rfl⟩;obtain⟨b,hb⟩:=hb;have h:Bf C.p ih cx elt ts its cs frees st (fun v st=>kE C.p cx.cl n v st fun st=>k .nxt st) ke=true:=h;rcases b with _|_
 ·refine wpAny_Assign_Name (NJ S hx hc c oe I h (fun v st1 R1 h1 tk x g l I1 X z=>?_) PX) hb;refine Gm S (c.le g) ot I1 X z fun st2 R2 h2 tk2 g2 l2 I2 z2=>?_;exact P .nxt st2 R2 h2 tk2 (g.trans g2) (l.trans l2) I2 z2
 ·rcases its with _|⟨it,its⟩
  ·exact ff h
  rcases ts with _|⟨t,ts⟩
  ·have:=(aG (aG (aG oe).2).1).2;exact ff this
  rcases cs with _|⟨c1,cs⟩
  ·have:=(aG (aG oe).2).2;exact ff this
  show wpAny _ _ (exec (.Assign [.Name (nm n) q] (bC (aN C.p.lams) (.lc elt (t::ts) (it::its) (c1::cs) frees sc q')) q'') env) _ _ _;rw[exec_Assign_Name_used _ _ _ _ hb];refine wpAny_bind (wpAny_standAt (wpAny_bind ?_));refine wpAny_bind (wpAny_mono (DB (q1:=bC (aN C.p.lams) it |>.pos) S hx hc c oe I h PX (use:=some (assign (.Name (nm n) q) env)) (Q:=fun _ s'=>Q .next s') fun l st' R' h' tk' acc Cd m g l1 I1 X hm F z=>?_) (fun _ _ x=>wpAny_pure (wpAny_pure x)) fun _ _ x=>x);obtain⟨oC,qC,nC⟩:=F.it;have low:=I1.low_held;refine PyProof.Rows.assign_Name (Gm (s:={s with heap:=h',toks:=tk'}) (B:=held C R' oU env h') (S.up low) (c.le g) ot I1.hold X z fun st2 R2 h2 tk2 g2 l2 I2 z2=>?_);obtain⟨F2,q2⟩:=I2.still F.nb (F.held qC) nC;refine⟨m,j0 hm fun o e=>?_,fun h3 sb=>?_⟩
  ·replace e:h'.get? Cd=some o:=e;rw[qC] at e;obtain rfl:=aF e;exact⟨oC.slots,q2⟩
  ·obtain⟨I3,l3⟩:=(I2.lower low).other F2 sb.extBut;exact P .nxt st2 R2 h3 tk2 (g.trans g2) (l1.trans (l2.trans l3)) I3 z2
end
end
section
section
variable{h:Heap}{n:Nat}
theorem CV(C:Cst)(n:Nat):RV (C.at n)=RV C:=by kernel_rfl
theorem w8(C:Cst)(n:Nat):RVs (C.at n)=RVs C:=by kernel_rfl
theorem Gs(C:Cst)(n:Nat)(P:Params):RE P (C.at n)=RE P C:=by kernel_rfl
theorem CT(C:Cst)(n:Nat):RK (C.at n)=RK C:=by kernel_rfl
theorem tT(C:Cst)(n:Nat):FrOk (C.at n)=FrOk C:=by kernel_rfl
theorem CU(a:Addr){o:SO}(hs:still o=true):RO w (C.at n) R h a o=RO w C R h a o:=by
 induction o using SO.casesOn with
|cel v=>rcases v with _|_<;>simp only[RO,CV]
|dcf es=>exact ff hs
|lst vs=>simp only[RO,w8]
|dct vs=>simp only[RO,CT]
|adc vs=>simp only[RO,Gs]
|_=>rfl
theorem nW(hF:∀i o,C.p.F.look i=some o->Mine.still o=true)(h:fP st=true){i:Nat}{o:SO}(e:st.get C.p i=some o):still o=true:=by
 refine bZ h fun h1 h2=>?_;unfold St.get at e;split at e
 ·split at e
  ·rename_i x hx
   obtain rfl:=aF e;exact aZ h2 _ (look_mem hx)
  ·exact hF i o e
 ·split at e
  ·rw[bS] at e;exact aZ h1 _ (List.mem_of_getElem? e)
  ·exact nf e
theorem At.atN(I:At w C B oU env R st h)(hF:∀i o,C.p.F.look i=some o->Mine.still o=true)(hs:fP st=true)(n:Nat):At w (C.at n) B oU env R st h:=
 ⟨⟨I.inv.stays,I.inv.len,I.inv.olen,I.inv.dlen,I.inv.dD,I.inv.da,I.inv.inj,I.inv.new,fun i o a e q=>CU a (nW hF hs e)▸I.inv.obj i o a e q,I.inv.tab,I.inv.tabA⟩,tT C n▸I.frm,I.lB,I.lA,I.out⟩
theorem At.ofN(I:At w (C.at n) B oU env R st h)(hF:∀i o,C.p.F.look i=some o->Mine.still o=true)(hs:fP st=true):At w C B oU env R st h:=
 ⟨⟨I.inv.stays,I.inv.len,I.inv.olen,I.inv.dlen,I.inv.dD,I.inv.da,I.inv.inj,I.inv.new,fun i o a e q=>CU (n:=n) a (nW (C:=C) hF hs e)▸I.inv.obj i o a e q,I.inv.tab,I.inv.tabA⟩,tT C n▸I.frm,I.lB,I.lA,I.out⟩
theorem Sta.atN(S:Sta C B K mg mb)(n:Nat):Sta (C.at n) B K mg mb where
 X:=S.X
 g:=S.g
 b:=S.b
 dbg:=S.dbg
 nolimit:=S.nolimit
 exc:=S.exc
 exf:=S.exf
 exn:=S.exn
 exm:=S.exm
 stl:=S.stl
 rg:=S.rg
 en:=S.en
 nmi:=S.nmi
 room:=⟨S.room.lb,S.room.lu⟩
 sysm:=S.sysm
 fl:=S.fl
 fn:=fun a g e=>by obtain⟨⟨⟨o,fd,h1,h2,h3,h4,h5,h6,h7,h8,h9,h10,h11⟩,y,z⟩,k⟩:=S.fn a g e;refine⟨⟨⟨o,fd,h1,h2,h3,h4,h5,h6,h7,h8,h9,?_,h11⟩,y,z⟩,k⟩;rw[w8];exact h10
 me:=S.me
 mu:=S.mu
 bd:=S.bd
 ky:=S.ky
 lm:=S.lm
 tbn:=S.tbn
 blt:=S.blt
 mgn:=S.mgn
 tb9:=S.tb9
 ini:=S.ini
 sc:=S.sc
 tqu:=S.tqu
 gt:=fun k v e=>by rw[CV];exact S.gt k v e
end
section
variable{E':Value->Shared->Prop}{q:Pos}{Q:Value->Shared->Prop}
theorem xX{RR:Result->Shared->Prop}{kx vx t it':PySem.Expr}{sc:Scope}{it:Value}{D:Addr}
  (H:∀E',wpAny (model C.prog w) A (pyNext it) (fun r s1=>match r with
  |none=>RR (.ok .next) s1
  |some v=>wpAny (model C.prog w) A (letOwnedTupleGo t it v) (fun _ s2=>wpAny (model C.prog w) A (assign t env v) (fun _ s3=>wpAny (model C.prog w) A (eval kx env) (fun kv s4=>wpAny (model C.prog w) A (eval vx env) (fun vv s5=>
    wpAny (model C.prog w) A (dictSet D kv vv) (fun _ s6=>codeAny (model C.prog w) A (.compLoop (.DictComp kx vx [⟨t,it',[],0⟩] sc q) 0 it (.ref D) env) RR s6) E' s5) E' s4) E' s3) E' s2) E' s1) E' s) :
  codeAny (model C.prog w) A (.compLoop (.DictComp kx vx [⟨t,it',[],0⟩] sc q) 0 it (.ref D) env) RR s:=by
 refine codeAny_of_tree ?_;show wpAny _ A ((compTurn (.DictComp kx vx [⟨t,it',[],0⟩] sc q) 0 it (.ref D) env).onRaise (fun x=>do noteFrame x env;theTreesLotGoes x)) _ _ s;refine wpAny_noted ?_;unfold compTurn;refine wpAny_bind (wpAny_standAt ?_);show wpAny _ A (pyNext it >>= _) _ _ s;refine wpAny_bind (wpAny_mono (H _) (fun r s1 h1=>?_) fun _ _ x=>x);rcases r with _|v
 ·exact wpAny_pure h1
 ·refine wpAny_bind (wpAny_mono h1 (fun _ s2 h2=>wpAny_bind (wpAny_mono h2 (fun _ s3 h3=>?_) fun _ _ x=>x)) fun _ _ x=>x);refine wpAny_bind (wpAny_pure ?_);rw[if_pos rfl];refine wpAny_bind (wpAny_bind (wpAny_mono h3 (fun kv s4 h4=>?_) fun _ _ x=>x));refine wpAny_bind (wpAny_holding (wpAny_mono h4 (fun vv s5 h5=>?_) fun _ _ x=>x));refine wpAny_bind (wpAny_standAt (wpAny_holding (wpAny_mono h5 (fun _ s6 h6=>?_) fun _ _ x=>x)));exact wpAny_pure ⟨rfl,h6⟩
theorem Ck(S:Sta C B K mg mb)(hx:∀B',Sta C B' K mg mb->eE w C B' ih)(c:CxOk C oU env R cx A){ek ev:E}{t:T}(ok:cN C.p.lams env.scope ek=true)(ov:cN C.p.lams env.scope ev=true)(ot:BE env.scope t=true)(I:At w C B oU env R st s.heap){l d:Nat}{a D it:Addr}{s0:List Nat}{x0:Value}(hl:R.ρ[l]?=some a)(hd:R.ρ[d]?=some D)(o0:nP s0=true)(dm:s.heap.DictAt (strKind C.prog w) a [(bB s0,x0)] C.ep)
  {kf:St->Bool} (e:xV C.p ih cx ek ev t l d s0 st kf=true) {it':PySem.Expr} {sc:Scope} (X:s.heap.IsKeyIter it a 0 1 C.ep) (F:Fresh C B oU env R s.heap it) {RR:Result->Shared->Prop}
  (P:PU w C B oU env R s.heap s (fun st=>fP st&&kf st) (RR (.ok .next))) :
  codeAny (model C.prog w) A (.compLoop (.DictComp (bC (aN C.p.lams) ek) (bC (aN C.p.lams) ev) [⟨n9 t,it',[],0⟩] sc q) 0 (.ref it) (.ref D) env) RR s:=by
 refine xX fun E'=>?_;refine wpAny_pyNext_dict_item X dm rfl fun key h2 hk X2 sb=>?_;refine oA (I.other F sb.extBut) fun I2 l2=>?_;refine oE (Value.isStrOf_shape hk) fun tk0 u3=>?_;subst u3;refine letGo_keyiter X2 ?_;refine oEAA (id X2) fun oi q1 q2 q3=>?_;have ni:¬iP oi:=dY q3 rfl fun _ _ e=>by cases e
 have F2:=F.same q1 ni;have low:=I2.low_held;have hat:=F2.held q1;have S2:=S.up low;have e:=qJ c ot e;refine Ab (B:=held C R oU env h2) (s:={s with heap:=h2}) S2 c (y0 ot) I2.hold (v:=.str s0) ⟨o0,tk0,rfl⟩ e fun st3 R3 h3 tk3 g3 l3 I3 z3=>?_;refine hx _ S2 cx ek st3 _ dX oU env R3 A _ _ _ (c.le g3) ok I3 z3 (fun kv st4 R4 h4 tk4 xk g4 l4 I4 XK z4=>?_) (PE.no _);refine hx _ S2 cx ev st4 _ dX oU env R4 A _ _ _ (c.le (g3.trans g4)) ov I4 z4 (fun vv st5 R5 h5 tk5 xv g5 l5 I5 XV z5=>?_) (PE.no _);have z5:C3 C.p l d kv vv st5 kf=true:=z5;have g35:=g3.trans (g4.trans g5);induction kv using SV.casesOn with
|str sk=>
  refine qD XK fun ok0 tkk u4=>?_;subst u4;refine dD z5 fun es0 gd z5=>?_;refine bZ z5 fun ze zf=>?_;rcases es0 with _|⟨_,_⟩
  ·refine oEA (I5.inv.at gd) fun D' hD' ro=>?_;rw[g35.at hd] at hD';obtain rfl:=aF hD';refine oEA ro fun kvs0 dD rk0=>?_;subst rk0;refine wpAny_dictSet_pairs (s:={s with heap:=h5,toks:=tk5}) (k:=bB sk) (strKind_is _ _ _ _) dD (fun h6 dm6 sb6=>?_) (Nat.zero_le _);replace sb6:Heap.SameBut D h5 h6:=sb6;have dm6:h6.DictOf (strKind C.prog w) D [(bB sk,xv)]:=dm6;refine I5.set (g35.at hd) zf sb6 (fun kp=>⟨_,dm6,ok0,xv,[],rfl,XV.mono (.refl _) kp,rfl⟩) fun st6 e6 l6 I6 _ _=>?_;refine dO e6 fun o6 gl6 e6=>?_;induction o6 using SO.casesOn with
  |dcf es=>
    rcases es with _|⟨e1,_|⟨_,_⟩⟩
    ·exact ff e6
    ·refine fS (I6.inv.at gl6) fun a' ha' kvs1 dm1 rk1=>?_;rw[g35.at hl] at ha';obtain rfl:=aF ha';refine cV rk1 fun oo1 x1 ds1 u5 X1 e01=>?_;subst u5;rw[show ds1=[] from e01] at dm1;refine oA (I6.still F.nb hat ni) fun F6 q6=>?_;have X6:h6.IsKeyIter it a 1 1 C.ep:=⟨oi,q6,q2,q3⟩;refine xX fun E''=>?_;refine wpAny_pyNext_dict_end (s:={s with heap:=h6,toks:=_}) c.hd X6 dm1 rfl fun h7 eb=>?_;replace eb:Heap.ExtBut it h6 h7:=eb;have I6':=I6.lower low;refine oA (I6'.other F6 eb) fun I7 l7=>?_;have na:a≠it:=fun z=>F6.nl l (z▸g35.at hl);refine I7.setW (g35.at hl) e6 (fun _ _ _ _ e=>e) (fun _ e=>e) (fun kp=>⟨_,(dm1.extBut eb na).dictOf,oo1,x1,[],rfl,X1.mono (.refl _) l7.kp,rfl⟩) fun st8 e8 l8 I8 _ _=>?_;exact P st8 R5 h7 _ g35 (l2.trans (l3.trans (l4.trans (l5.trans (l6.trans (l7.trans l8)))))) I8 e8
    ·exact ff e6
  |_=>exact ff e6
  ·exact ff ze
|_=>exact ff z5
end
end
section
section
variable{E':Value->Shared->Prop}{q:Pos}{Q:Value->Shared->Prop}
theorem CxOk.atN(c:CxOk C oU env R cx A)(n:Nat):CxOk (C.at n) oU env R cx A:=⟨c.kind,c.gl,c.bi,c.stk,c.dep,c.un,c.hd,c.tb,c.cl,c.ck,c.ub,c.fr,c.db⟩
theorem OS(S:Sta C B K mg mb)(hx:eE w C B ih)(hxE:∀n B',Sta (C.at n) B' K mg mb->eE w (C.at n) B' ih)(c:CxOk C oU env R cx A){ek ev it:E}{t:T}{frees:List Nat}{sc:Scope}(o:cN C.p.lams env.scope (.dc ek ev t it frees sc q)=true)(I:At w C B oU env R st s.heap)
  (e:G6 C.p ih cx ek ev t it frees st k ke=true) (P:PV w C B oU env R s.heap s k Q) (PX:PE w C B oU env R s.heap s ke E'):wpAny (model C.prog w) A (eval (bC (aN C.p.lams) (.dc ek ev t it frees sc q)) env) Q E' s:=by
 refine oA (qG o) fun u1 os=>?_;refine oA u1 fun u2 oi=>?_;refine oA u2 fun u3 ot=>?_;refine oA u3 fun ok ov=>?_;refine dO e fun cl hcs e=>?_;refine zK (uC S c hcs os) fun k1 nc hnm clo hclo hcx=>?_;show wpAny _ _ (eval (.DictComp (bC (aN C.p.lams) ek) (bC (aN C.p.lams) ev) [⟨n9 t,bC (aN C.p.lams) it,[],0⟩] sc q) env) _ _ _;rw[arm_eval_DictComp];refine wpAny_comprehension_free (use:=none) (g:=⟨n9 t,bC (aN C.p.lams) it,[],0⟩) rfl (fun x=>i_ (bY oi) env x) hclo k1 hnm (hx cx it st _ ke oU env R A s _ E' c oi I e (fun v st1 R1 h1 tk1 x g l1 I1 X z=>?_) PX);induction v using SV.casesOn with
|loc l=>
  refine dD z fun es gl z=>?_;rcases es with _|⟨e0,_|⟨_,_⟩⟩
  ·exact ff z
  ·refine bZ z fun zs zr=>?_;refine oEA X fun a ha eX=>?_;subst eX;refine fS (I1.inv.at gl) fun a' ha' kvs dm rk=>?_;rw[ha] at ha';obtain rfl:=aF ha';refine oE (dm.dictAt) fun n dm=>?_;have I1n:=I1.atN S.stl zs n;refine I1n.setW ha zr (fun _ _ _ _ e=>e) (fun _ e=>e) (fun _=>⟨kvs,dm,by rw[CT];exact rk⟩) fun st2 e2 l2 I2 fr2 gt2=>?_;have nsys:(a==sysModules)=false:=beq_eq_false_iff_ne.mpr fun z=>by refine oE (S.sysm) fun o ho=>?_;rw[<-z,(I1.inv.new l a ha).1] at ho;exact nf ho
   refine wpAny_pyIter_dict (s:={s with heap:=h1,toks:=tk1}) nsys dm ?_;generalize hh2:h1.push {cls:=.type "dict_keyiterator",data:=.fields #[.ref a,.int 0 0,.int kvs.length 0,.int n 0]}=h2;have kk2:∀b o,h1.get? b=some o->h2.get? b=some o:=fun b o e=>by rw[<-hh2];exact Heap.get?_push_of_some _ e
   refine cV (id rk) fun o0 x0 ds' ekv X0 e0'=>?_;have lk:kvs.length=1:=by rw[ekv,show ds'=[] from e0'];rfl
   have X2:h2.IsKeyIter h1.objs.size a 0 1 n:=⟨_,by rw[<-hh2];exact Heap.get?_push_size _ rfl,rfl,by rw[lk];rfl⟩;refine wpAny_newObj_type (s:={s with heap:=h2,toks:=tk1}) ?_;generalize hh3:h2.push {cls:=.type "dict",dict:=none,data:=.dict #[]}=h3;have kk3:∀b o,h2.get? b=some o->h3.get? b=some o:=fun b o e=>by rw[<-hh3];exact Heap.get?_push_of_some _ e
   refine(I2.keep kk2).new e2 kk3 (bK h2) ⟨[],by rw[<-hh3];exact Heap.DictOf.new h2,rfl⟩ fun d st3 e3 g3 l3 I3 X3 _ fr3=>?_;refine oEA X3 fun _ hX3 eX3=>?_;cases eX3;refine wpAny_newFunctionEnv (s:={s with heap:=h3,toks:=tk1}) nc (fun x hx=>by rcases hx with _|_) (fun h4 ns sb=>?_) k1;have kk4:∀b o,h3.get? b=some o->h4.get? b=some o:=fun b o e=>sb.extBut b o (Nat.ne_of_lt (Heap.lt_size e)) (Heap.get?_push_of_some _ e);have kk13:∀b o,h1.get? b=some o->h3.get? b=some o:=fun b o e=>kk3 b o (kk2 b o e);have hCd0:h1.get? h3.objs.size=none:=b9 kk13 (bK h3);have I4:=I2.inC (env':=compEnvC sc clo h3.objs.size env) (fr:=[]) I3 (fun i a e=>(iQ e).elim .inl fun z=>.inr (z.2▸b9 kk2 (bK h2))) kk13 c.kind kk4 (bK h3) ⟨_,ns,fun n v q=>by exact nf q⟩;refine oEAA (id X2) fun oi2 q1 q2 q3=>?_;have ni:¬iP oi2:=dY q3 rfl fun _ _ e=>by cases e
   have F4:Fresh (C.at n) (up (C.at n) R1 (cI env oU) h1) (cI env oU) (compEnvC sc clo h3.objs.size env) ⟨R1.ρ++[h2.objs.size],R1.δ⟩ h4 h1.objs.size:=
    (dW (s:={s with heap:=h1}) I2 (bK h1) ⟨oi2,q1,ni⟩).inC I2 rfl (Nat.ne_of_lt (Heap.lt_size q1)) (Nat.ne_of_lt (Heap.lt_size (kk3 _ _ q1))) (bK h1) ⟨oi2,kk4 _ _ (kk3 _ _ q1),ni⟩
   have X4:h4.IsKeyIter h1.objs.size a 0 1 n:=⟨oi2,kk4 _ _ (kk3 _ _ q1),q2,q3⟩;have L:=lV sc env;have le4:Le (cI env oU) h1 h4:=.of_keep fun b o e=>kk4 b o (kk13 b o e);have dm4:h4.DictAt (strKind C.prog w) a [(bB e0.1,x0)] n:=by rw[<-show kvs=[(bB e0.1,x0)] by rw[ekv,show ds'=[] from e0']];exact dm.at fun o e=>kk4 _ _ (kk13 _ _ e)
   have main:=Ck (C:=C.at n) (q:=q) (sc:=sc) (it':=bC (aN C.p.lams) it) (s:={s with heap:=h4,toks:=tk1+0}) (RR:=compPost (model C.prog w) A E' none Q (.ref h2.objs.size) h3.objs.size) ((S.atN n).up I2.low_up) (fun B' S'=>hxE n B' S') ((hcx ⟨R1.ρ++[h2.objs.size],R1.δ⟩ h3.objs.size (g.trans g3) (qU c I1 hCd0)).atN n) (cC L ok) (cC L ov) (yZ L ot) I4 (l:=l) (d:=d) (a:=a) (D:=h2.objs.size) (it:=h1.objs.size) (g3.at ha) hX3 (s0:=e0.1) (x0:=x0) o0 dm4 (dN e3) X4 F4 fun st7 R7 h7 tk7 g7 l7 I7 z7=>?_
   ·exact b8 rfl rfl rfl main fun E=>wpAny_pyIter_keyiter X4 main
   ·refine bZ z7 fun z7s z7=>?_;refine oA (At.back I2 (g3.trans g7) I7 (le4.trans l7)) fun I8 l8=>?_;refine oEA (I7.frm) fun m hm _=>?_;refine c_ (I7.ns) fun oC esC nC qC dC=>?_;have fC:=dW (s:={s with heap:=h1}) (h':=h7) I2 hCd0 ⟨oC,qC,bL dC⟩;have I9:At w C B oU env R7 {st7 with fr:=st2.fr} h7:=I8.ofN S.stl z7s;refine⟨m,hm,fun h9 sb9=>?_⟩;refine oA (I9.other ⟨fC.nb,I7.lA,fC.nt,fC.nf,fC.no,fC.it⟩ sb9.extBut) fun I10 l10=>?_;have z8:=dN z7;rw[fr3] at z8;exact P (.loc d) _ R7 h9 tk7 _ (g.trans (g3.trans g7)) (l1.trans (l8.trans l10)) I10 ⟨_,g7.at hX3,rfl⟩ z8
  ·exact ff z
|_=>exact ff z
end
end
section
theorem Av{ls:List Lam}{sc:Scope}{C:Cst}{R:Rn}{h:Heap}{s:List Nat}{l:String}{q:Pos}{t:Tok}(o:cN ls sc (.str s l q)=true):RV C R h (.str s) (.str (Str.ofString l) t):=by refine bZ o fun o1 o2=>?_;refine⟨o2,t,?_⟩;rw[<-(eH _ _).mp o1];rfl
theorem yE{K:Frag}{M:Model}{A:Around}{E:Value->Shared->Prop}{s:Shared}{c hc e:Addr}{b:Bool}{oe:Obj}{Q:Bool->Shared->Prop}(X:K.In s.heap)(hm:Bj K c hc b=true)(he:s.heap.get? e=some oe)(hcl:oe.cls=.ref c)(hq:Q b s) :
  wpAny M A (excMatches (.ref e) (.ref hc)) Q E s:=by
 refine AS hm fun m1 m2 m3 m4=>?_;have it:Looks M s.heap (isType (.ref hc)) true:=by
  unfold clsIn at m2;split at m2
  ·rename_i ho;exact(Looks.ld (part:=none) (X _ _ ho)).andThen .now
  ·exact ff m2
 have te:Looks M s.heap (typeOf (.ref e)) (.ref c):=hcl▸(Looks.ld he).andThen .now;unfold excMatches;refine wpAny_bind ((looks_instIn X (eq_of_beq m1)).here ?_);rw[if_neg Bool.false_ne_true];refine wpAny_bind (wpAny_pure ?_);dsimp only;rw[List.forIn_cons];refine wpAny_bind (wpAny_bind (wpAny_bind ?_));unfold isExcClass;refine wpAny_bind (it.here ?_);rw[if_pos rfl];refine(looks_mroIn X (eq_of_beq m3)).here ?_;refine wpAny_pure (wpAny_pure ?_);refine wpAny_bind (te.here ?_);rw[List.forIn_cons];refine wpAny_bind (wpAny_bind (wpAny_bind ((looks_mroIn X (eq_of_beq m4)).here ?_)));rcases b with _|_
 ·exact wpAny_pure (wpAny_pure (wpAny_pure hq))
 ·exact wpAny_pure (wpAny_pure (wpAny_pure hq))
section
variable{E':Value->Shared->Prop}{k:Fl->St->Bool}{Q:Flow->Shared->Prop}{q:Pos}{h₁ h' base:Heap}
theorem At.landed(I:At w C B oU env R st h₁)(Kb:Kept C B R h₁ base)(f:base.StaysIn h')(U:h₁.UpToSlots h'):At w C B oU env R st h'/\Le oU h₁ h':=by
 have kp:Kp h₁ h':=fun b o e m=>f b o (Kb.imm b o e m);have kl:∀(i:Nat) a,R.ρ[i]?=some a->h'.get? a=h₁.get? a:=fun i a e=>by refine cZ (I.inv.new i a e) fun _ o ho _=>?_;rw[ho];exact f a o ((Kb.loc i a e).trans ho)
 refine⟨⟨⟨fun b o e=>f b o (Kb.low b o e),I.inv.len,I.inv.olen,I.inv.dlen,I.inv.dD,I.inv.da,I.inv.inj,fun i a e=>?_,fun i o a e q=>(I.inv.obj i o a e q).mono (.refl R) kp (kl i a q),fun q hq=>?_,I.inv.tabA⟩,?_,I.lB,I.lA,fun e he=>?_⟩,kp,fun e he L o hL ho=>?_⟩
 ·refine cZ (I.inv.new i a e) fun n o ho m=>?_;exact⟨n,o,(kl i a e).trans ho,m⟩
 ·refine zM (I.inv.tab q hq) fun n ps e t c=>?_;exact⟨n,ps,f _ _ ((Kb.tab q hq).trans e),t,fun pos cv z=>kp.code (c pos cv z)⟩
 ·refine c_ (I.ns) fun o es n ho hd=>?_;exact I.frm.mono (.refl R) kp fun o' e=>by rw[ho] at e;obtain rfl:=aF e;exact mE U ho hd
 ·refine(I.out e he).mono (fun i a e=>.inl e) fun L o hL ho=>?_;refine hO (I.out e he) fun _ L' o' es n a1 b1 d1 _=>?_;rw[a1] at hL;obtain rfl:=aF hL;rw[b1] at ho;obtain rfl:=aF ho;exact mE U b1 d1
 ·refine hO (I.out e he) fun _ L' o' es n a1 b1 d1 _=>?_;rw[a1] at hL;obtain rfl:=aF hL;rw[b1] at ho;obtain rfl:=aF ho;exact mE U b1 d1
theorem Cn(S:Sta C B K mg mb)(ck:env.scope.kind=.function)(cg:env.globals=mainGlobals)(cb:env.builtins=builtinsNs){R0:Rn}{h0:Heap}{s0:Shared}(P:PF w C B oU env R0 h0 s0 k Q)(g:R0.le R)(l0:Le oU h0 h₁)(I:At w C B oU env R st h₁)(Kb:Kept C B R h₁ base){c:Nat}{e:Addr}{a0:Value}{hs:List H} :
  ∀{s':Shared},Fz C.p.lams env.scope hs=true->jR C.p c hs st k=true->Heap.FlyingW base (env::oU) e (.ref c) a0 s'.heap->h₁.UpToSlots s'.heap->(∃h tk,s'={s0 with heap:=h,toks:=tk})->wpAny (model C.prog w) A (handleBy (.ref e) env (hs.map (ND (aN C.p.lams)))) Q E' s':=by
 induction hs with
|nil=>exact fun _ z=>ff z
|cons h r hi=>
  intro s' o z X U hs';induction h using H.casesOn with
 |any=>exact ff z
 |ret n hc ex q1 q2 q3=>
   refine mJ o fun on oe or=>?_;refine mJ z fun z1 z2 z3=>?_;refine dO z3 fun l hl z3=>?_;have hm:=S.exm c l hc hl z2;have I':=(I.landed Kb X.1 U).1;have XK:=DO S I'.inv;refine oEA (X.there) fun oe1 he hcl=>?_;refine dO z1 fun v hv z1=>?_;induction v using SV.casesOn with
  |glo a=>
    obtain rfl:=aT z1;refine wpAny_handleBy_cons (codeAny_handlers_test (Cl (q:=q1) S ck cg cb on I'.inv.stays hv fun x V=>?_)) (fun q=>nomatch q);cases V;refine yE XK hm he hcl ?_;cases hb:l.any (Nat.beq a) with
   |true=>
     rw[hb] at z3;induction ex using E.casesOn with
    |str t u q4=>refine codeAny_handlers_suite (lands_againW X fun h6 X6 U6=>?_);refine H9 hs' fun h7 tk7 u2=>?_;subst u2;refine oA (I.landed Kb X6.1 (U.trans U6)) fun I6 l6=>?_;refine wpAny_execs_cons (wpAny_Return_some (Constant_str (k:=0) ?_));exact P (.ret (.str t)) st R h6 _ g (l0.trans l6) I6 z3 _ (Av (q:=q4) oe)
    |_=>exact ff z3
   |false=>rw[hb] at z3;exact hi or z3 X U hs'
  |_=>exact ff z1
theorem OW(S:Sta C B K mg mb)(hst:SSts w C B ih){body:List Mine.S}{hs:List H}:fO w C B ih (.tr body hs q):=by
 intro cx st k ke oU env R A s Q E' c hf o I e P PX;refine mJ o fun ob oh on=>?_;rcases hs with _|⟨h0,hs⟩
 ·exact ff on
 refine wpAny_Try_except (hst cx body st k _ oU env R A s _ _ c hf ob I e (fun f st1 R1 h1 tk1 g l I1 z=>?_) fun cc st1 R1 h1 h' tk1 e g l I1 X z=>?_)
 ·induction f using Fl.casesOn with
 |nxt=>exact wpAny_execs_nil (P .nxt st1 R1 h1 tk1 g l I1 z)
 |cnt=>exact P .cnt st1 R1 h1 tk1 g l I1 z
 |ret v=>exact fun x V=>P (.ret v) st1 R1 h1 tk1 g l I1 z x V
 ·refine Exc.note (s:={s with heap:=h',toks:=tk1}) I1 hf c.kind (by rw[c.stk,c9 hf]) (by rw[<-c9 hf];exact X) fun h2 base a0 Kb HX U=>?_;refine wpAny_landsW (s:={s with heap:=h2,toks:=tk1}) HX fun h3 HX3 U3=>?_;exact Cn S c.kind c.gl c.bi P g l I1 Kb (hs:=h0::hs) oh z HX3 (U.trans U3) ⟨h3,tk1,rfl⟩
end
end
end Mine
end
section
open PySem PySem.W PyProof.Rows PySem.Calls Builtin Builtin.ObjectAttr
namespace Mine
variable{w:World}{A:Around}{s:Shared}{K:Frag}
section
theorem Er(K:Frag):findCls K (.type "Exception") (.type "type") "__init__"=some (.val (.builtin "Exception.__init__")):=by kernel_rfl
theorem vK(self:Value):∀{l:List Value},rL l=true->refuseLoop self "__setattr__" l=pure ()
|[],e=>by exact ff e
|v::r,e=>by
  induction v using PySem.Value.casesOn with
 |ref c=>rw[refuseLoop_ref];exact vK self e
 |_=>rw[eq_of_beq (show(_==[Value.type "Exception",.type "BaseException",.type "object"])=true from e)];exact PySem.F.store_Exception.passes self
theorem nY:∀{l:List Value},rL l=true->l.contains (.type "object")=true
|[],e=>by exact ff e
|v::r,e=>by
  induction v using PySem.Value.casesOn with
 |ref c=>rw[List.contains_cons,nY (l:=r) e,Bool.or_true]
 |_=>rw[eq_of_beq (show(_==[Value.type "Exception",.type "BaseException",.type "object"])=true from e)];decide
section
variable{prog:Program}{E:Value->Shared->Prop}{C x:Addr}{mA:Str->Option Value}{name:Str}{v:Value}
theorem Es{pl:Sem Bool}{Q:Value×List Value->Shared->Prop}(X:K.In s.heap)(h:Q (.builtin "Exception.__init__",[]) {s with toks:=s.toks+1}):wpAny (model prog w) A (getMethod (.type "Exception") "__init__" pl) Q E s:=by
 have hstub:opaqueClassAbove (.type "Exception")=pure none:=by unfold opaqueClassAbove;dsimp only;rw[show Manifest.isStub "Exception"=false by decide +kernel];rfl
 have L0:Looks (model prog w) s.heap (typeOf (.type "Exception")) (.type "type"):=Looks.of_pure (by kernel_rfl);have hg:findIn K (.type "type") "__getattribute__"=some (some (.builtin "type.__getattribute__")):=type_tga;have LO:Looks (model prog w) s.heap (opaqueClassAbove (.type "Exception")) none:=Looks.of_pure hstub;unfold getMethod specialOf;refine wpAny_bind (wpAny_bind (L0.here ((looks_findIn X hg).here ?_)));dsimp only;rw[if_pos canon_tga];refine wpAny_bind (wpAny_mono (Q:=fun v=>Q (v,[])) (E:=E) ?_ (fun _ _ z=>wpAny_pure z) fun _ _ z=>z);refine cls_open X LO L0 hg (looks_hook X (r:=none) (by rfl)) (by show subIn K _ _=_;rfl) (Er K) ?_;exact wpAny_pure (handed_on rfl h)
theorem vN{Q:Fin->Shared->Prop}{dx:Addr}{m:Str->Option Value}{ns:List Str}{tk:Tok}(hns:s.heap.Ns1 dx m)(hw:Within m ns)(hsz:ns.length+1<=sizeLine)
  (h:∀h' tk',h'.Ns1 dx (fun y=>if y=name then some v else m y)->Heap.SameBut dx s.heap h'->Q (.done (.ret .none)) {s with heap:=h',toks:=tk'}):wpAny (model prog w) A (storeInDict dx (.str name tk) name v) Q E s:=by
 unfold storeInDict newKeyGuard;refine wpAny_bind (wpAny_pure (wpAny_bind (wpAny_nsSet1 hns fun h' hn' hs=>?_)));refine dT (hn'.count (Within.cons name v hw)) fun oD esD epD hoD hdD hcD=>?_;refine wpAny_bind (wpAny_lookBehind hoD (by rw[hdD];exact pastItsLine_dict (al__3 hcD (al__3 (by rw[List.length_cons];exact hsz) (by rw[sizeLine_eq];(first|lia|omega))))) ?_);exact wpAny_pure (h h' _ hn' hs)
theorem Bl{Q:Unit->Shared->Prop}{cd:ClassData}{ns:List Str}(X:K.In s.heap)(hc:clsIn K C=some cd)(hm:rL cd.mro=true)(hdct:cd.hasDict=true)(hs:findIn K (.ref C) "__setattr__"=some (some (.builtin "object.__setattr__")))(ht:takerIn K C name=some none)
  (I:s.heap.Inst x C mA) (hw:Within mA ns) (hsz:ns.length+1<=sizeLine)
  (hq:∀h' tk',h'.Inst x C (fun y=>if y=name then some v else mA y)->
   (∀b o,b≠x->(∀o₀ dx,s.heap.get? x=some o₀->o₀.dict=some dx->b≠dx)->s.heap.get? b=some o->h'.get? b=some o)->
   (∀o₀,s.heap.get? x=some o₀->∃o₁,h'.get? x=some o₁/\o₁.cls=o₀.cls/\o₁.data=o₀.data/\∀dx,o₁.dict=some dx->o₀.dict=some dx\/s.heap.get? dx=none)->Q () {s with heap:=h',toks:=tk'}) :
  wpAny (model prog w) A (setAttr (.ref x) name v) Q E s:=by
 refine Dq I fun o hx hcl hnc hd=>?_;have SF:=PySem.F.store_object;have T:Looks (model prog w) s.heap (typeOf (.ref x)) (.ref C):=hcl▸(Looks.ld hx).andThen .now;have mk:Looks (model prog w) s.heap (mroOf (.ref C)) cd.mro:=(looks_clsIn X hc).andThen .now;have ne:cd.mro.isEmpty=false:=by cases q:cd.mro with|nil=>rw[q] at hm;exact ff hm|cons _ _=>rfl
 have sub:Looks (model prog w) s.heap (isInstance (.ref x) (.type "object")) true:=T.andThen (looks_mroIn X (by unfold mroIn;rw[hc,Option.bind_some,if_neg (by rw[ne];decide),nY hm]));have It:InstAt s.heap x o C (o.dict.bind s.heap.get?):=⟨hx,hcl,by unfold notCls;split;exact absurd (by assumption) (hnc _);rfl,by
  rcases hd with⟨hd,_⟩|⟨d,hd,_,⟨od,_,_,hod,_⟩⟩
  ·rw[hd];trivial
  ·rw[hd,Option.bind_some,hod];exact hod⟩
 refine set_plain X It hs ?_;refine codeAny_call_builtin SF.slot.plain SF.entry (@check_slot (model prog w) _ _ {s with toks:=s.toks+1} "object.__setattr__" "object" "__setattr__" (.ref x) [.str name s.toks,v] [] _ SF.kind SF.split sub (SF.args (.ref x) (.str name s.toks) v) ?_);refine oEA (Option.bind_eq_some_iff.mp ht) fun attr ha hr=>?_;have L3:Looks (model prog w) s.heap (storeTaker? attr) none:=by
  rcases attr with _|a
  ·exact .now
  ·refine oEA (Option.map_eq_some_iff.mp hr) fun b hb e=>?_;refine(looks_takesIn X hb).andThen ?_;rcases b with _|_
   ·exact .now
   ·cases e
 rw[osa_eq,refuse_eq];refine wpAny_bind (wpAny_bind (Looks.here (s:={s with toks:=s.toks+1}) T (wpAny_bind (Looks.here (s:={s with toks:=s.toks+1}) mk ?_))));rw[vK _ hm];refine wpAny_pure (wpAny_bind (Looks.here (s:={s with toks:=s.toks+1}) T (wpAny_bind (Looks.here (s:={s with toks:=s.toks+1}) (looks_findIn X ha) (wpAny_bind (Looks.here (s:={s with toks:=s.toks+1}) L3 ?_))))));obtain⟨oc,odi,oda,osl⟩:=o;dsimp only at hcl hnc hd;subst hcl;refine wpAny_bind (wpAny_pure (wpAny_bind (wpAny_bind (wpAny_loadPart hx (wpAny_bind (Looks.here (s:={s with toks:=s.toks+1}) (looks_clsIn X hc) ?_))))));rw[hdct];rcases hd with⟨rfl,hmA⟩|⟨dx,rfl,hne,hns⟩
 ·have hx₁:(s.heap.push {cls:=.type "dict",data:=.dict #[]}).get? x=some ⟨.ref C,none,oda,osl⟩:=Heap.get?_push_of_some _ hx;have hxs:x≠s.heap.objs.size:=Nat.ne_of_lt (Heap.lt_size hx);rw[if_neg (by decide)];dsimp only;rw[if_neg (by simp[typeHasDict])];split
  ·exact absurd rfl (hnc _)
  refine wpAny_bind (wpAny_alloc' ?_);refine wpAny_bind (wpAny_update' hx₁ ?_);refine wpAny_pure ?_;generalize hg:(s.heap.push {cls:=.type "dict",data:=.dict #[]}).update x (fun o=>{cls:=o.cls,dict:=some s.heap.objs.size,data:=o.data,slots:=o.slots})=h1;have old:∀b o,b≠x->s.heap.get? b=some o->h1.get? b=some o:=fun b o n e=>by rw[<-hg];exact(Heap.get?_update_ne _ _ _ _ n).trans (Heap.get?_push_of_some _ e)
  have hnew:h1.get? x=some ⟨.ref C,some s.heap.objs.size,oda,osl⟩:=by rw[<-hg];refine Heap.get?_update_self _ hx₁ ?_;have hfr:=(Heap.get?_some_iff.mp hx).2;rcases oda with _|_<;>first|rfl|exact hfr
  have hnd:h1.Ns1 s.heap.objs.size mA:=by have:h1.Ns s.heap.objs.size (fun _=>none):=⟨_,#[],0,by rw[<-hg];exact(Heap.get?_update_ne _ _ _ _ hxs.symm).trans (Heap.get?_push_at rfl rfl),rfl,fun e he=>absurd he (by simp),fun _=>rfl⟩;have e:mA=fun _=>none:=funext hmA;rw[e];exact Heap.Ns1.of_empty this
  refine vN (s:={s with heap:=h1,toks:=s.toks+1}) hnd hw hsz fun h' tk' hn' hs=>?_;replace hs:Heap.SameBut s.heap.objs.size h1 h':=hs;have hx':=(hs.2 x hxs).trans hnew;exact hq h' tk' ⟨_,hx',rfl,hnc,.inr ⟨_,rfl,hxs.symm,hn'⟩⟩ (fun b ob hbx _ hb=>(hs.2 b (Nat.ne_of_lt (Heap.lt_size hb))).trans (old b ob hbx hb))
   fun o₀ h₀=>by rw[hx] at h₀;obtain rfl:=aF h₀;exact⟨_,hx',rfl,rfl,fun dx e=>by obtain rfl:=aF e;exact .inr (bK _)⟩
 ·refine wpAny_pure (a:=some dx) ?_;refine vN (s:={s with toks:=s.toks+1}) hns hw hsz fun h' tk' hn' hs=>?_;replace hs:Heap.SameBut dx s.heap h':=hs;have hx':=(hs.2 x hne.symm).trans hx;exact hq h' tk' ⟨_,hx',rfl,hnc,.inr ⟨_,rfl,hne,hn'⟩⟩ (fun b ob hbx hbd hb=>(hs.2 b (hbd _ dx hx rfl)).trans hb)
   fun o₀ h₀=>by rw[hx] at h₀;obtain rfl:=aF h₀;exact⟨_,hx',rfl,rfl,fun dx e=>.inl e⟩
end
end
end Mine
end
section
open PySem PySem.W PyProof.Rows PySem.Calls
namespace Mine
variable{w:World}{B:Heap}{K:Frag}{mg mb:Str->Option Value}{A:Around}{s:Shared}
section
def Gg(h:Heap)(e c:Addr):Prop:=∃oe vs a0,h.get? e=some oe/\oe.cls=.ref c/\oe.data=.fields vs/\vs[0]?=some a0/\vs[1]?=some .none
section
variable{prog:Program}{E':Value->Shared->Prop}{c e:Addr}
theorem yA{rest:List Value}{M:Model}{Q:Unit->Shared->Prop}(X:K.In s.heap)(hc:ExcC K c){oe:Obj}(he:s.heap.get? e=some oe)(hcls:oe.cls=.ref c)(hq:Q () s):wpAny M A (checkBuiltinCall "Exception.__init__" ⟨.ref e::rest,[]⟩) Q E' s:=by
 have F:=PySem.F.excBase_Exception;have hC:=hc.ob X;obtain⟨hh,g,d,t,os⟩:=s;have hcB:=hc.inn.i1;have hshort:=F.noStar;simp only[checkBuiltinCall,F.initKind,F.initSplit,F.initRow]
 repeat (first|(with_reducible refine wpAny_loadPart_at he ?_;rw[hcls])|with_reducible refine wpAny_loadPart_at hC ?_|(with_reducible refine wpAny_isSubtype_exc hC ?_;rw[hcB])|wp_step)
 refine wpAny_onRaise ?_;rw[show ∀(a b:String) (n:Nat),Bind.check ⟨.positional,"*","Exception",.self,[⟨"args",.varPos,false⟩]⟩ a b n (List.map (fun x=>x.fst) ({pos:=Value.ref e::rest}:Args).kw)=pure () from
  fun a b n=>check_star_args _ _ _ _ _ _]
 exact wpAny_pure hq
theorem A9{m:Value}{Q:Value->Shared->Prop}(X:K.In s.heap)(hc:ExcC K c){t0:Addr}
  (he:s.heap.get? e=some {cls:=.ref c,data:=.fields #[.ref t0,.none,.none,.none,.bool false,.none]})
  (h:∀h',(∀b o,b≠e->s.heap.get? b=some o->h'.get? b=some o)->Gg h' e c->h'.Inst e c (fun _=>none)->(∃oe,h'.get? e=some oe/\oe.dict=none)->Q .none {s with heap:=h'}) :
  wpAny (model prog w) A (call (.builtin "Exception.__init__") [.ref e,m]) Q E' s:=by
 have F:=PySem.F.excBase_Exception;refine wpAny_call (codeAny_call_builtin F.init.plain F.initEntry (yA X hc he rfl ?_));unfold Builtin.«BaseException.__init__»;dsimp only;rw[if_neg (by simp)];unfold newTuple Builtin.BaseException.bexcPut;have he₁:=Heap.get?_push_of_some (h:=s.heap) {cls:=.type "tuple",data:=.seq [m].toArray} he;refine wpAny_bind (wpAny_newObj_type (wpAny_bind (wpAny_bind (wpAny_field he₁ rfl (x:=.ref t0) rfl (wpAny_bind (wpAny_setField he₁ rfl (Nat.zero_lt_succ 5) ?_))))));refine wpAny_letGo (wpAny_pure (h _ (fun b o n hb=>?_) ?_ ?_ ?_))
 ·exact(Heap.get?_update_other _ _ n.symm).trans (Heap.get?_push_of_some _ hb)
 ·exact⟨_,_,_,Heap.get?_update_self _ he₁ (Obj.isFreed_of_fields (Obj.data_mapFields rfl _)),Obj.cls_mapFields _ _,Obj.data_mapFields rfl _,rfl,rfl⟩
 ·exact⟨_,Heap.get?_update_self _ he₁ (Obj.isFreed_of_fields (Obj.data_mapFields rfl _)),Obj.cls_mapFields _ _,(fun c z=>by rw[Obj.data_mapFields rfl] at z;cases z),.inl ⟨rfl,fun _=>rfl⟩⟩
 ·exact⟨_,Heap.get?_update_self _ he₁ (Obj.isFreed_of_fields (Obj.data_mapFields rfl _)),rfl⟩
end
end
variable{C:Cst}
section
section
variable{E':Value->Shared->Prop}{c e:Addr}
theorem Bk(hc:ExcC K c):∃cd,clsIn K c=some cd/\cd.mro=.ref c::(tQ K c).bm/\cd.hasDict=true:=⟨_,(show clsIn K c=some _ by unfold clsIn;rw[show K.lookup c=some (CP (tQ K c) c) from congrArg (·.1) hc]),rfl,rfl⟩
theorem Co(S:Sta C B K mg mb){env:Env}{n:Nat}{v:Value}{q:Pos}{m:Str->Option Value}{Q:Value->Shared->Prop}(hk:env.scope.kind=.function)(h1:kd env.scope n .local=true)(h2:s.heap.Ns env.locals m)(h3:m (nm n)=some v)(h4:Q v s):wpAny (model C.prog w) A (eval (.Name (nm n) q) env) Q E' s:=
 wpAny_Name (wpAny_loadName_local hk (cD h1) h2 h3 h4) (S.dbg n).1
theorem EB(S:Sta C B K mg mb)(k:B.StaysIn s.heap){env:Env}{m:Str->Option Value}{mv:Value}(hk:env.scope.kind=.function)(eS:env.scope=f36.sc)(eG:env.globals=mainGlobals)(eB:env.builtins=builtinsNs)(ns:s.heap.Ns env.locals m)(k1:m (nm 47)=some (.ref e))(k2:m (nm 219)=some mv){t0:Addr}
  (he:s.heap.get? e=some {cls:=.ref c,data:=.fields #[.ref t0,.none,.none,.none,.bool false,.none]}) (hc:ExcC K c) {Q:Value->Shared->Prop}
  (h:∀h' tk,(∀b o,b≠e->s.heap.get? b=some o->h'.get? b=some o)->Gg h' e c->h'.Inst e c (fun _=>none)->(∃oe,h'.get? e=some oe/\oe.dict=none)->Q .none {s with heap:=h',toks:=tk}) {qa qb q0:Pos} {l a0 a1 a2 b1 b2 b3:Nat} :
  wpAny (model C.prog w) A (eval (.Call (.Attribute (.Name (nm 220) q0) (nm 221) ⟨a0,a1,l,a2⟩) (b_ (aN C.p.lams) [.lo 47 qa,.lo 219 qb]) [] ⟨l,b1,b2,b3⟩) env) Q E' s:=by
 have l1:kd env.scope 47 .local=true:=by rw[eS];rfl
 have l2:kd env.scope 219 .local=true:=by rw[eS];rfl
 have oks:dU C.p.lams env.scope [.lo 47 qa,.lo 219 qb]=true:=cO l1 (cO l2 rfl);rw[arm_eval_Call,sZ rfl,bU env oks,cE];refine wpAny_bind (Cl (q:=q0) S hk eG eB (show kd env.scope 220 .globalImplicit=true by rw[eS];rfl) k S.exn fun x V=>?_);subst V;refine wpAny_bind (wpAny_standAt ?_);have hform:methodCallForm ((b_ (aN C.p.lams) [.lo 47 qa,.lo 219 qb]).length+([]:List Keyword).length) (dH (aN C.p.lams) [.lo 47 qa,.lo 219 qb] env) (backToKw ⟨l,b1,b2,b3⟩ (keywordEach [] env))=true:=rfl;have hpos:methodCallPos true (.Name (nm 220) q0) env ⟨a0,a1,l,a2⟩ ⟨l,b1,b2,b3⟩=Pure.pure ⟨l,b1,b2,b3⟩:=by unfold methodCallPos;rw[show((⟨a0,a1,l,a2⟩:Pos).endLine==(⟨l,b1,b2,b3⟩:Pos).line)=true from beq_self_eq_true l];rfl
 unfold methodCall;rw[hform];refine wpAny_bind (wpAny_holding ?_);show wpAny _ _ (getMethod (.type "Exception") "__init__" _) _ _ _;refine Es (S.X.keeps k) ?_;dsimp only;rw[hpos];refine wpAny_bind (wpAny_pure ?_);refine callWith_of (P:=fun h=>Kpr (model C.prog w) h (.builtin "Exception.__init__")) (d6 _ _ _) (fun h p=>p) (cQ (spliced_cons (Co (s:={s with toks:=_}) S hk l1 ns k1 (spliced_cons (Co (s:={s with toks:=_}) S hk l2 ns k2 (spliced_nil ⟨fA _ _ _,?_⟩))))));exact A9 (s:={s with toks:=_}) (S.X.keeps k) hc he fun h1 q1 r1 i1 d1=>h h1 _ q1 r1 i1 d1
theorem yD(S:Sta C B K mg mb)(k:B.StaysIn s.heap){env:Env}{m mA:Str->Option Value}{v:Value}{n j:Nat}(hk:env.scope.kind=.function)(l1:kd env.scope 47 .local=true)(l2:kd env.scope j .local=true)(ns:s.heap.Ns env.locals m)(k1:m (nm 47)=some (.ref e))(k2:m (nm j)=some v)(hc:ExcC K c)(ht:takerIn K c (nm n)=some none)
  (I:s.heap.Inst e c mA) {ls:List Str} (hw:Within mA ls) (hsz:ls.length+1<=sizeLine) (r:Gg s.heap e c) {Q:Flow->Shared->Prop} {q1 q2 q3 q4:Pos}
  (h:∀h' tk,h'.Inst e c (fun y=>if y=nm n then some v else mA y)->(∀b o,b≠e->(∀o₀ dx,s.heap.get? e=some o₀->o₀.dict=some dx->b≠dx)->s.heap.get? b=some o->h'.get? b=some o)->Gg h' e c->
   (∀o₀,s.heap.get? e=some o₀->∃o₁,h'.get? e=some o₁/\∀dx,o₁.dict=some dx->o₀.dict=some dx\/s.heap.get? dx=none)->Q .next {s with heap:=h',toks:=tk}) :
  wpAny (model C.prog w) A (exec (.Assign [.Attribute (.Name (nm 47) q1) (nm n) q2] (.Name (nm j) q3) q4) env) Q E' s:=by
 refine oEAA (Bk hc) fun cd f1 f2 f3=>?_;refine plainObj_wpAny_Assign_Attribute (Co S hk l2 ns k2 (Co S hk l1 ns k1 (Bl (S.X.keeps k) f1 (by rw[f2];exact congrArg (·.2.2.2.2.2.2.1) hc) f3 (congrArg (·.2.2.2.2.2.2.2.2.2.1) hc) ht I hw hsz fun h' tk a b d=>?_))) nX;refine eV r fun oe vs a0 r1 r2 r3 r4 r5=>?_;refine Dq (d oe r1) fun o1 d1 d2 d3 d4=>?_;exact h h' tk a b ⟨o1,vs,a0,d1,d2.trans r2,d3.trans r3,r4,r5⟩ fun o₀ e=>let⟨o1,d1,_,_,d4⟩:=d o₀ e;⟨o1,d1,d4⟩
theorem Bg(S:Sta C B K mg mb)(k:B.StaysIn s.heap){env:Env}{m:Str->Option Value}{mv sp:Value}(hk:env.scope.kind=.function)(eS:env.scope=f36.sc)(eG:env.globals=mainGlobals)(eB:env.builtins=builtinsNs)(ns:s.heap.Ns env.locals m)(k1:m (nm 47)=some (.ref e))(k2:m (nm 219)=some mv)(k3:m (nm 35)=some sp)(nL:env.locals≠e)(nB:∀b o,B.get? b=some o->b≠e){t0:Addr}
  (he:s.heap.get? e=some {cls:=.ref c,data:=.fields #[.ref t0,.none,.none,.none,.bool false,.none]}) (hc:ExcC K c) {Q:Flow->Shared->Prop}
  (fin:∀h' tk,(∀b o,b≠e->s.heap.get? b=some o->h'.get? b=some o)->Gg h' e c->Q .next {s with heap:=h',toks:=tk}):wpAny (model C.prog w) A (execs (fU (aN C.p.lams) f36.body) env) Q E' s:=by
 show wpAny _ _ (execs [.Expr (.Call (.Attribute (.Name (nm 220) ⟨8,8,8,17⟩) (nm 221) ⟨8,8,8,26⟩) (b_ (aN C.p.lams) [.lo 47 ⟨8,27,8,31⟩,.lo 219 ⟨8,33,8,40⟩]) [] ⟨8,8,8,41⟩) ⟨8,8,8,41⟩,
  .Assign [.Attribute (.Name (nm 47) ⟨9,8,9,12⟩) (nm 219) ⟨9,8,9,20⟩] (.Name (nm 219) ⟨9,23,9,30⟩) ⟨9,8,9,30⟩,.Assign [.Attribute (.Name (nm 47) ⟨10,8,10,12⟩) (nm 35) ⟨10,8,10,17⟩] (.Name (nm 35) ⟨10,20,10,24⟩) ⟨10,8,10,24⟩] env) _ _ _
 have l1:kd env.scope 47 .local=true:=by rw[eS];rfl
 have l2:kd env.scope 219 .local=true:=by rw[eS];rfl
 have l3:kd env.scope 35 .local=true:=by rw[eS];rfl
 have f5:takerIn K c (nm 219)=some none:=congrArg (·.2.2.2.2.2.2.2.2.2.2.1) hc;have f6:takerIn K c (nm 35)=some none:=congrArg (·.2.2.2.2.2.2.2.2.2.2.2) hc;refine wpAny_execs_cons (wpAny_Expr_any (EB S k hk eS eG eB ns k1 k2 he hc fun h1 tk1 q1 r1 i1 d1=>?_) (q7 hk) (kO rfl _ _ _));have ns1:h1.Ns env.locals m:=by refine c_ ns fun o es ep a b=>?_;exact⟨o,es,ep,q1 _ _ nL a,b⟩
 refine wpAny_execs_cons (yD (s:={s with heap:=h1,toks:=tk1}) (n:=219) S (fun b o h=>q1 b o (nB b o h) (k b o h)) hk l1 l2 ns1 k1 k2 hc f5 i1 (ls:=[]) Within.nil (by rw[sizeLine_eq];decide) r1 fun h2 tk2 i2 q2 r2 d2=>?_);refine oEA d1 fun o1 g1 n1=>?_;have q2':∀b o,b≠e->h1.get? b=some o->h2.get? b=some o:=fun b o hb z=>q2 b o hb (fun o₀ dx w1 w2=>by rw[show h1.get? e=some o₀ from w1] at g1;obtain rfl:=aF g1;rw[n1] at w2;exact nf w2) z;have ns2:h2.Ns env.locals m:=by refine c_ ns1 fun o es ep a b=>?_;exact⟨o,es,ep,q2' _ _ nL a,b⟩
 refine oEA (d2 o1 g1) fun o2 g2 n2=>?_;refine wpAny_execs_cons (yD (s:={s with heap:=h2,toks:=tk2}) (n:=35) S (fun b o h=>q2' b o (nB b o h) (q1 b o (nB b o h) (k b o h))) hk l1 l3 ns2 k1 k3 hc f6 i2 (ls:=[nm 219]) (Within.cons _ _ Within.nil) (by rw[sizeLine_eq];decide) r2 fun h3 tk3 i3 q3 r3 _=>?_);refine wpAny_execs_nil (fin h3 tk3 (fun b o hb z=>q3 b o hb (fun o₀ dx w1 w2=>?_) (q2' b o hb (q1 b o hb z))) r3);rw[show h2.get? e=some o₀ from w1] at g2;obtain rfl:=aF g2;intro z2;subst z2;rcases n2 _ w2 with y|y
 ·rw[n1] at y;exact nf y
 ·have:=q1 b o hb z;rw[show h1.get? b=none from y] at this;exact nf this
theorem Bi(S:Sta C B K mg mb){h:Heap}(k0:B.StaysIn h)(hA:A.depth<1000)(hc:ExcC K c){xs:List Value}(m:Heap.MadeExcOf h s.heap e (.ref c) xs)(hl:∃m,xs=[m]\/∃sp,xs=[m,sp]){Q:Shared->Prop}
  (fin:∀h2 tk,(∀b o,h.get? b=some o->h2.get? b=some o)->Gg h2 e c->Q {s with heap:=h2,toks:=tk}) :
  wpAny (model C.prog w) A (call (.ref 36) (.ref e::xs)) (fun r s'=>r=.none/\Q s') E' s:=by
 have k:B.StaysIn s.heap:=fun b o e=>m.keeps b o (k0 b o e);obtain⟨⟨o,fd,ho,hd,hbody,hsc,hpar,hclo,hglo,hbui,hcd,hdf,_⟩,_,_⟩:=(S.fn 36 f36 S.exf).1;obtain⟨d,hdv⟩:∃d,∃T o n,fd.defaults=.ref T/\s.heap.get? T=some o/\o.data=.seq [d].toArray n:=by
  rcases hdf with⟨e1,_⟩|⟨T,o,n,dv,e1,e2,e3,y,ys,e4,_,e5⟩
  ·cases e1
  ·rw[e4,show ys=[] from e5] at e3;exact⟨y,T,o,n,e1,k _ _ e2,e3⟩
 obtain⟨mv,sp,hb⟩:∃mv sp,BindsTo s fd ⟨.ref e::xs,[]⟩ [(nm 47,.ref e),(nm 219,mv),(nm 35,sp)]:=by
  have bp:=fun(xs:List Value) l1 l2 (M:Model) (A:Around) (E:Value->Shared->Prop) Q h=>iB (M:=M) (A:=A) (E:=E) (s:=s) (Q:=Q) fd xs [d] (by rw[hpar];rfl) (by rw[hpar];rfl) (by rw[hpar];rfl) (by rw[hpar];rfl) (.inr hdv) (by rw[hpar];exact(by decide:[nm 47,nm 219,nm 35].Nodup)) l1 l2 (by rw[hpar];exact(by decide:1<=3)) h;obtain⟨mv,rfl|⟨sp,rfl⟩⟩:=hl
  ·exact⟨mv,d,fun M A E Q h=>bp _ (by rw[hpar];exact(by decide:2<=3)) (by rw[hpar];exact(by decide:3<=3)) M A E Q (by rw[hpar];exact h)⟩
  ·exact⟨mv,sp,fun M A E Q h=>bp _ (by rw[hpar];exact(by decide:3<=3)) (by rw[hpar];exact(by decide:3<=4)) M A E Q (by rw[hpar];exact h)⟩
 refine wpAny_call (codeAny_call_def hA (k _ _ ho) hd (S.nolimit.keeps k) (hcd.keeps k) hbody hb (by rw[hsc];decide) (fun x hx=>?_) (fun h0 ns kk=>?_) (by rw[hsc];rfl) (by rw[hsc];rfl) (by rw[hsc];rfl))
 ·rw[hsc];rcases bN hx with rfl|hx
  ·exact(by decide:f36.sc.names.lookup (nm 47)=some .local)
  rcases bN hx with rfl|hx
  ·exact(by decide:f36.sc.names.lookup (nm 219)=some .local)
  rcases bN hx with rfl|hx
  ·exact(by decide:f36.sc.names.lookup (nm 35)=some .local)
  rcases hx with _|_
 generalize hen:callEnv fd s.heap.objs.size 36=env;have eS:env.scope=f36.sc:=by rw[<-hen];exact hsc
 have eG:env.globals=mainGlobals:=by rw[<-hen];exact hglo
 have eB:env.builtins=builtinsNs:=by rw[<-hen];exact hbui
 have eL:env.locals=s.heap.objs.size:=by rw[<-hen];rfl
 have hk:env.scope.kind=.function:=by rw[eS];rfl
 rw[<-eL] at ns;obtain⟨mk,me,t0,he,_,_⟩:=m;have nL:env.locals≠e:=fun z=>by rw[eL] at z;exact Nat.lt_irrefl _ (z▸Heap.lt_size he)
 refine Bg (s:={s with heap:=h0,toks:=_}) S (fun b o e=>kk b o (k b o e)) hk eS eG eB ns rfl rfl rfl nL (fun b o hb z=>by rw[<-z] at me;rw[k0 b o hb] at me;cases me) (kk _ _ he) hc fun h2 tk q r=>⟨rfl,fin h2 tk (fun b o hb=>q b o (fun z=>by rw[z,me] at hb;exact nf hb) (kk b o (mk b o hb))) r⟩
end
end
variable{ih:Ev}
section
section
variable{q q' q'':Pos}
theorem Cb{R:Rn}{h:Heap}{vs:List SV}{xs:List Value}(X:RVs C R h vs xs)(e:vJ vs=true):∃m,xs=[m]\/∃sp,xs=[m,sp]:=by
 rcases vs with _|⟨a,_|⟨b,_|⟨_,_⟩⟩⟩
 ·exact ff e
 ·refine aY X fun x _ u1 _ e0=>?_;subst u1;subst e0;exact⟨x,.inl rfl⟩
 ·refine hU X fun x _ u2 _ y _ u3 _ e0=>?_;subst u2;subst u3;subst e0;exact⟨x,.inr ⟨y,rfl⟩⟩
 ·rcases a with _|_<;>first|(exact ff e;done)|(rcases b with _|_<;>exact ff e)
theorem MR(S:Sta C B K mg mb)(hs:kD w C B ih){n c:Nat}{as:List E}:fO w C B ih (.rai n c as q q' q''):=by
 intro cx st k ke oU env R A s Q E' cc hf o I e P PX;refine bZ o fun on oa=>?_;refine oA (aG (show(nE C.p n c&&(look c C.p.excs).isSome&&ih.exs cx as st (fun vs st=>vJ vs&&ke c st) ke)=true from e)) fun e0 e=>?_;refine bZ e0 fun e1 e2=>?_;refine dO e1 fun v hv e1=>?_;refine oA (S.exc c e2) fun hc hkp=>?_;have hC:=hc.ob S.X;have fi:findIn K (.ref c) "__init__"=some (some (.ref 36)):=congrArg (·.2.2.2.2.2.2.2.1) hc;have ft:typeIn K (.ref 36)=some (.type "function"):=congrArg (·.2.2.2.2.2.2.2.2.1) hc;refine oEA (Option.map_eq_some_iff.mp ft) fun of hof hfc=>?_;induction v using SV.casesOn with
|glo a=>
  cases aT e1;show wpAny _ _ (exec (.Raise (some (.Call (.Name (nm n) q) (b_ (aN C.p.lams) as) [] q')) none q'') env) _ _ _;rw[arm_exec_Raise];refine wpAny_bind (wpAny_standAt (yC (C:=c) hc.inn cc.hd ?_));refine wpAny_bind (wpAny_mono (Q:=fun v s1=>∃e oe vs,v=.ref e/\s1.heap.get? c=some (CP (tQ K c) c)/\s1.heap.get? e=some oe/\oe.cls=.ref c/\oe.data=.fields vs/\vs[1]?=some .none/\E' (.ref e) s1) (E:=E') ?_ (fun v s1 h1=>wpAny_bind (wpAny_standAt (wpAny_pure h1))) fun _ _ x=>x);show wpAny _ _ (eval (.Call (.Name (nm n) q) (b_ (aN C.p.lams) as) [] q') env) _ _ _;rw[sY rfl,bU env oa,cE];refine wpAny_bind (Cl (q:=q) S cc.kind cc.gl cc.bi on I.inv.stays hv fun x V=>?_);cases V;refine callWith_of (P:=fun h=>Kpr (model C.prog w) h (.ref c)) (d6 _ _ _) (fun h p=>p) (cQ ?_);refine hs cx as st _ ke oU env R A s _ E' cc oa I e (fun vs st1 R1 h1 tk1 xs ln g l I1 XS z=>?_) PX;refine bZ z fun z1 z2=>?_;have hl:=Cb XS z1;have K1:K.In h1:=S.X.keeps I1.inv.stays;refine⟨keeps_K hkp _ K1,Bh (K:=K) (h:=h1) (t:=tk1) (rest:=xs) (fI:=36) (oI:=of) K1 hc.inn (I1.inv.stays _ _ hC) fi (K1 _ _ hof) hfc (fun h' e m=>?_) (by rw[sizeLine_eq];obtain⟨m,rfl|⟨_,rfl⟩⟩:=hl;exact(by decide:1<=16777216);exact(by decide:2<=16777216))⟩;refine Bi (s:={s with heap:=h',toks:=tk1}) (h:=h1) S I1.inv.stays ?_ hc m hl fun h2 tk2 kk r=>?_
  ·have:=cc.dep;have:=cc.db;show A.depth+1<1000
   (first|lia|omega)
  ·refine eV r fun oe vs a0 r1 r2 r3 r4 r5=>?_;refine⟨e,oe,vs,rfl,kk _ _ (I1.inv.stays _ _ hC),r1,r2,r3,r5,?_⟩;exact PX c st1 R1 h1 h2 tk2 e g l I1 (.inl ⟨kk,m.new,oe,vs,a0,r1,r2,r3,r4,r5⟩) z2
|_=>exact ff e1
end
end
section
section
theorem NH(S:Sta C B K mg mb)(hx:eE w C B ih)(hs:kD w C B ih)(ht:wW w C B ih)(hc:j1 w C B ih)(hB:∀B',Sta C B' K mg mb->eE w C B' ih)(hE:∀n B',Sta (C.at n) B' K mg mb->eE w (C.at n) B' ih)(hco:∀B',Sta C B' K mg mb->vU w C B' ih):eE w C B (step C.p ih):=by
 intro cx e st k ke oU env R A s Q E' c o I h P PX;replace h:Ez C.p ih cx e st k ke=true:=h;induction e using E.casesOn with
|lo n q=>exact NA S c o I h P
|gl n q=>exact Nw S c o I h P
|ce n q=>exact ON S c o I h P
|non q=>exact Constant_none (P.same I (v:=.non) rfl h)
|bol b q=>exact Constant_bool (P.same I (v:=.bol b) rfl h)
|int i q=>exact fun _ _ _=>P.here (tk:=s.toks+1) I (v:=.int i) ⟨_,rfl⟩ h
|str u l q=>exact Constant_str (P.here I (v:=.str u) (Av o) h)
|byt u q=>exact fun _ _ _=>P.here (tk:=s.toks+1) I (v:=.byt u) ⟨_,rfl⟩ h
|tup es q=>exact Mo hs c o I h P PX
|lst es q=>exact Mi hs c o I h P PX
|dct ks vs q=>exact ML (fun B' k=>hB B' (S.up k)) c o I h P PX
|att e n q=>exact ME S hx c o I h P PX
|sub e i q=>exact MV hx c o I h P PX
|sli e u q q'=>exact MT hx c o I h P PX
|bin b a i q=>exact MG hx c o I h P PX
|nt e q=>exact OV hx c o I h P PX
|bop b es q=>exact ff h
|cmp a os es q=>exact MJ S hx c c.ub o I h P PX
|ife t a b q=>exact MO hx ht c o I h P PX
|cal f as q=>exact MI hx hs hc c o I h P PX
|mca e n as q q'=>exact MQ S hx hs hc c o I h P PX
|lam j q=>exact MP S c I h P
|lc elt ts its cs fr sc q=>exact NJ S hx hco c o I h P PX
|dc ek ev t it fr sc q=>exact OS S hx hE c o I h P PX
|any e=>exact ff h
theorem Jo{N:Nat}(S:Sta C B K mg mb)(hx:eE w C B (ev C.p N))(hs:kD w C B (ev C.p N))(ht:wW w C B (ev C.p N))(hst:SSts w C B (ev C.p N))(hl:Gw w C B (ev C.p N))(hw:Gx w C B (ev C.p N))
  (hp:∀m,m<N->eE w C B (ev C.p m)/\∀B',Sta C B' K mg mb->vU w C B' (ev C.p m)):∀x,fO w C B (ev C.p N) x
|.exp e q=>MN hx
|.ret e q=>MS hx
|.ret0 q=>Jp
|.asg (.nm n q) e q'=>by
  intro cx st k ke oU env R A s Q E' c hf o I h P PX;rcases Gk (aG o).2 with hn|hn
  ·exact vT S hx hn cx st k ke oU env R A s Q E' c hf o I h P PX
  ·induction e using E.casesOn with
  |lc elt ts its cs fr sc q2=>
    rcases N with _|m
    ·exact ff h
    ·refine oA (hp m (Nat.lt_succ_self m)) fun h1 h2=>?_;exact Jk S h1 h2 cx st k ke oU env R A s Q E' c hf o I h P PX
  |_=>exact ff hn
|.asg (.tp ns q) e q'=>Jl S hx
|.asa o n e q q'=>MB S hx
|.ass o i e q q'=>MD S hx
|.ife t a b q=>NI ht hst
|.fo t it b q=>OT S hx hl
|.whi t b q=>MY hw
|.rai n c as q q' q''=>MR S hs
|.tr b hs q=>OW S hst
|.cnt q=>MK
|.asn n qn o i e q q' q''=>MC S hx
|.any s=>fun _ _ _ _ _ _ _ _ _ _ _ _ _ _ _ h=>by exact ff h
end
structure Ok(w:World) (C:Cst) (K:Frag) (mg mb:Str->Option Value) (F:Ev):Prop where
 ex:∀n B,Sta (C.at n) B K mg mb->eE w (C.at n) B F
 exs:∀n B,Sta (C.at n) B K mg mb->kD w (C.at n) B F
 ts:∀n B,Sta (C.at n) B K mg mb->wW w (C.at n) B F
 sts:∀n B,Sta (C.at n) B K mg mb->SSts w (C.at n) B F
 call:∀n B,Sta (C.at n) B K mg mb->j1 w (C.at n) B F
 co:∀n B,Sta (C.at n) B K mg mb->vU w (C.at n) B F
 lp:∀n B,Sta (C.at n) B K mg mb->Gw w (C.at n) B F
 wh:∀n B,Sta (C.at n) B K mg mb->Gx w (C.at n) B F
theorem fR{w:World}{C:Cst}{K:Frag}{mg mb:Str->Option Value}(oo:∀n B,Sta (C.at n) B K mg mb->iO w (C.at n) B)(N:Nat):Ok w C K mg mb (ev C.p N):=by
 induction N using Nat.strongRecOn with
|ind N ih=>
  have co:∀n B,Sta (C.at n) B K mg mb->vU w (C.at n) B (ev C.p N):=fun n B S=>OR (C:=C.at n) S (fun m hm=>(ih m hm).ex n) (fun m hm=>(ih m hm).ts n) fun m hm=>(ih m hm).co n;have lp:∀n B,Sta (C.at n) B K mg mb->Gw w (C.at n) B (ev C.p N):=fun n B S=>OU (C:=C.at n) S fun m hm=>(ih m hm).sts n;have wh:∀n B,Sta (C.at n) B K mg mb->Gx w (C.at n) B (ev C.p N):=fun n B S=>OX (C:=C.at n) fun m hm=>⟨(ih m hm).ts n B S,(ih m hm).sts n B S⟩;rcases N with _|m
  ·exact⟨fun n B S cx e st k ke oU env R A s Q E' c o I h=>(by exact ff h),fun n B S cx e st k ke oU env R A s Q E' c o I h=>(by exact ff h),fun n B S cx e st k ke oU env R A s Q E' c o I h=>(by exact ff h),
    fun n B S cx e st k ke oU env R A s Q E' c hf o I h=>(by exact ff h),fun n B S dp un f as st k ke oU env R A s Q E' x xs c I F X h=>(by exact ff h),co,lp,wh⟩
  ·have I:=ih m (Nat.lt_succ_self m);exact⟨fun n B S=>NH (C:=C.at n) S (I.ex n B S) (I.exs n B S) (I.ts n B S) (I.call n B S) (I.ex n) (fun n'=>I.ex n') (I.co n),
    fun n B S cx e st k ke oU env R A s Q E' c o J h P PX=>Jn (C:=C.at n) (I.ex n B S) (I.exs n B S) c o J h P PX,
    fun n B S cx e st k ke oU env R A s Q E' c o J h P PX=>NK (C:=C.at n) S (I.ex n B S) (I.ts n B S) c c.ub o J h P PX,
    fun n B S cx e st k ke oU env R A s Q E' c hf o J h P PX=>MU (C:=C.at n) (I.sts n B S) (Jo (C:=C.at n) S (I.ex n B S) (I.exs n B S) (I.ts n B S) (I.sts n B S) (I.lp n B S) (I.wh n B S) fun m' hm=>⟨(ih m' (Nat.lt_succ_of_lt hm)).ex n B S,(ih m' (Nat.lt_succ_of_lt hm)).co n⟩) c hf o J h P PX,
    fun n B S=>CN (C:=C.at n) S (oo n) (I.sts n) (I.ex n),co,lp,wh⟩
end
variable{oU:List Env}{env:Env}{R:Rn}{st:St}
section
def Cst.sub(C:Cst)(n0:Nat)(F:Tr SO)(bod:Nat->Cx->St->(Fl->St->Bool)->Ke->Option Bool)(lb lu td:Nat)(fb:Bool):Cst:={C with p:={C.p with N0:=n0,F:=F,bod:=bod},lb:=lb,lu:=lu,td:=td,fb:=fb}
section
variable{h:Heap}{n0:Nat}{F:Tr SO}{bod:Nat->Cx->St->(Fl->St->Bool)->Ke->Option Bool}{lb lu td:Nat}{fb:Bool}
theorem kT:RV (C.sub n0 F bod lb lu td fb)=RV C:=by kernel_rfl
theorem oL:RVs (C.sub n0 F bod lb lu td fb)=RVs C:=by kernel_rfl
theorem w7(P:Params):RE P (C.sub n0 F bod lb lu td fb)=RE P C:=by kernel_rfl
theorem rW:RK (C.sub n0 F bod lb lu td fb)=RK C:=by kernel_rfl
theorem kS:FrOk (C.sub n0 F bod lb lu td fb)=FrOk C:=by kernel_rfl
theorem Sta.sub(S:Sta C B K mg mb)(hF:∀i o,F.look i=some o->still o=true)(hr:lb+4*lu<=8388608/\1<=lu):Sta (C.sub n0 F bod lb lu td fb) B K mg mb where
 X:=S.X
 g:=S.g
 b:=S.b
 dbg:=S.dbg
 nolimit:=S.nolimit
 exc:=S.exc
 exf:=S.exf
 exn:=S.exn
 exm:=S.exm
 stl:=hF
 rg:=S.rg
 en:=S.en
 nmi:=S.nmi
 room:=⟨hr.1,hr.2⟩
 sysm:=S.sysm
 fl:=S.fl
 fn:=fun a g e=>by obtain⟨⟨⟨o,fd,h1,h2,h3,h4,h5,h6,h7,h8,h9,h10,h11⟩,y,z⟩,k⟩:=S.fn a g e;refine⟨⟨⟨o,fd,h1,h2,h3,h4,h5,h6,h7,h8,h9,?_,h11⟩,y,z⟩,k⟩;rw[oL];exact h10
 me:=S.me
 mu:=S.mu
 bd:=S.bd
 ky:=S.ky
 lm:=S.lm
 tbn:=S.tbn
 blt:=S.blt
 mgn:=S.mgn
 tb9:=S.tb9
 ini:=S.ini
 sc:=S.sc
 tqu:=S.tqu
 gt:=fun k v e=>by rw[kT];exact S.gt k v e
theorem At.sub(I:At w C B oU env R st h)(R1:Rn)(st1:St)(hρ:∀(i:Nat) (a:Addr),R1.ρ[i]?=some a->∃j:Nat,R.ρ[j]?=some a)(hinj:∀(i j:Nat) (a:Addr),R1.ρ[i]?=some a->R1.ρ[j]?=some a->i=j)
  (hlen:R1.ρ.length=n0+st1.n) (holen:st1.objs.length=st1.n) (hdl:R1.δ.length=st1.da.length) (hdD:∀ty∈R1.δ,(iM ty<=30/\dM false ty=true)/\iM ty<=td)
  (hda:∀(k:Nat) (b:Bool),st1.da[k]?=some (some b)->dJ R1 k=b) (hobj:∀(i:Nat) (o:SO) (a:Addr),st1.get (C.sub n0 F bod lb lu td fb).p i=some o->R1.ρ[i]?=some a->RO w (C.sub n0 F bod lb lu td fb) R1 h a o)
  (hfr:FrOk C R1 h env.locals st1.fr):At w (C.sub n0 F bod lb lu td fb) (held C R1 oU env h) oU env R1 st1 h where
 inv:={
  stays:=oJ
  len:=hlen
  olen:=holen
  dlen:=hdl
  dD:=hdD
  da:=hda
  inj:=hinj
  new:=fun i a e=>⟨tM e,let⟨j,e2⟩:=hρ i a e;(I.inv.new j a e2).2⟩
  obj:=hobj
  tab:=fun q hq=>⟨tN hq,(I.inv.tab q hq).2⟩
  tabA:=fun q hq i e=>let⟨j,e2⟩:=hρ i _ e;I.inv.tabA q hq j e2}
 frm:=by rw[kS];exact hfr
 lB:=fV (.head _) rfl
 lA:=fun i e=>let⟨j,e2⟩:=hρ i _ e;I.lA j e2
 out:=fun e he=>let⟨hk,L,o,es,n,a1,b,c,_,f,r⟩:=I.out e he;⟨hk,L,o,es,n,a1,b,c,fV (.tail _ he) a1,fun i z=>let⟨j,e2⟩:=hρ i _ z;f j e2,r⟩
theorem At.kept(I:At w C B oU env R st h){R1:Rn}{b:Addr}{o:Obj}(e:h.get? b=some o)(n1:∀i:Nat,R1.ρ[i]?≠some b)(n2:b≠env.locals)(n3:∀e∈oU,e.frame≠some b)(n4:∀q∈C.tq,q.1≠b):(held C R1 oU env h).get? b=some o:=
 mD e n1 (fun x hx z=>by
  rcases bN hx with rfl|hx
  ·obtain rfl:=aF z;exact n2 rfl
  ·exact n3 x hx z) n4
theorem At.low_sub(I:At w C B oU env R st h){R1:Rn}(hρ:∀(i:Nat) (a:Addr),R1.ρ[i]?=some a->∃j:Nat,R.ρ[j]?=some a):B.StaysIn (held C R1 oU env h):=fun b o e=>by
 have no:∀{c:Addr},B.get? c=none->c≠b:=fun e2 z=>by subst z;rw[e2] at e;exact nf e
 refine I.kept (I.inv.stays b o e) (fun i z=>?_) (fun z=>no I.lB z.symm) (fun x hx z=>?_) fun q hq=>no (I.inv.tab q hq).1
 ·refine oE (hρ i b z) fun j e2=>?_;exact no (I.inv.new j b e2).1 rfl
 ·refine f_ (I.out x hx) fun _ L _ _ _ a1 _ _ d _=>?_;rw[a1] at z;obtain rfl:=aF z;exact no d rfl
theorem At.loc_kept(I:At w C B oU env R st h){R1:Rn}{i:Nat}{a:Addr}(e:R.ρ[i]?=some a)(n1:∀i:Nat,R1.ρ[i]?≠some a):∃o,h.get? a=some o/\(held C R1 oU env h).get? a=some o:=by refine cZ (I.inv.new i a e) fun _ o ho _=>?_;refine⟨o,ho,I.kept ho n1 (fun z=>I.lA i (z▸e)) (fun x hx z=>?_) fun q hq z=>I.inv.tabA q hq i (z▸e)⟩;refine bR (I.out x hx) fun _ L _ _ _ a1 _ _ _ f _=>?_;rw[a1] at z;obtain rfl:=aF z;exact f i e
theorem At.ret{C1:Cst}{R1 R1' R':Rn}{st1' st':St}{h':Heap}{news:List Addr}{δ':List Ty}(I:At w C B oU env R st h)(ht:C1.tq=C.tq)(hρ:∀(i:Nat) (a:Addr),R1.ρ[i]?=some a->∃j:Nat,R.ρ[j]?=some a)
  (g:R1.le R1') (l:Le oU h h') (J:At w C1 (held C R1 oU env h) oU env R1' st1' h') (hR:R'=⟨R.ρ++news,R.δ++δ'⟩) (hnew:∀a∈news,∃i:Nat,R1.ρ.length<=i/\R1'.ρ[i]?=some a) (hnd:news.Nodup)
  (hlen:R'.ρ.length=C.p.N0+st'.n) (holen:st'.objs.length=st'.n) (hdl:R'.δ.length=st'.da.length) (hdD:∀ty∈δ',(iM ty<=30/\dM false ty=true)/\iM ty<=C.td) (hda:∀(k:Nat) (b:Bool),st'.da[k]?=some (some b)->dJ R' k=b)
  (hobj:R.le R'->Kp h h'->∀(i:Nat) (o:SO) (a:Addr),st'.get C.p i=some o->R'.ρ[i]?=some a->(st.get C.p i=some o/\R.ρ[i]?=some a/\∀j:Nat,R1.ρ[j]?≠some a)\/RO w C R' h' a o) (hfr:st'.fr=[]):R.le R'/\At w C B oU env R' st' h':=by
 have gl:R.le R':=by rw[hR];exact⟨⟨news,rfl⟩,δ',rfl⟩
 have old:∀(i:Nat) (a:Addr),R'.ρ[i]?=some a->R.ρ[i]?=some a\/(R.ρ.length<=i/\news[i-R.ρ.length]?=some a/\∃j:Nat,R1.ρ.length<=j/\R1'.ρ[j]?=some a):=fun i a e=>by
  rw[hR] at e;replace e:(R.ρ++news)[i]?=some a:=e;by_cases z:i<R.ρ.length
  ·exact .inl (by rw[<-e,List.getElem?_append_left z])
  ·rw[List.getElem?_append_right (Nat.le_of_not_lt z)] at e;exact .inr ⟨Nat.le_of_not_lt z,e,hnew a (List.mem_of_getElem? e)⟩
 have unx:∀(i:Nat) (a:Addr),R.ρ[i]?=some a->(∀j:Nat,R1.ρ[j]?≠some a)->∃o,h.get? a=some o/\h'.get? a=some o:=fun i a e n=>
  let⟨o,h1,h2⟩:=I.loc_kept e n
  ⟨o,h1,J.inv.stays a o h2⟩
 have apart:∀(i j:Nat) (a:Addr),R.ρ[i]?=some a->R1.ρ.length<=j->R1'.ρ[j]?=some a->False:=fun i j a e1 hj e2=>by
  by_cases z:∃j':Nat,R1.ρ[j']?=some a
  ·refine oE z fun j' e3=>?_;have:=J.inv.inj j j' a e2 (g.at e3);have lt:j'<R1.ρ.length:=(List.getElem?_eq_some_iff.mp e3).1
   (first|lia|omega)
  ·refine oEA (I.loc_kept e1 fun j' e3=>z ⟨j',e3⟩) fun o _ h2=>?_;rw[(J.inv.new j a e2).1] at h2;exact nf h2
 refine⟨gl,{
  inv:={
   stays:=fun b o e=>J.inv.stays b o (I.low_sub hρ b o e)
   len:=hlen
   olen:=holen
   dlen:=hdl
   dD:=fun ty hm=>by
    rw[hR] at hm;rcases List.mem_append.mp hm with hm|hm
    ·exact I.inv.dD ty hm
    ·exact hdD ty hm
   da:=hda
   inj:=fun i j a e1 e2=>by
    rcases old i a e1 with x|⟨x,x',k,hk,xk⟩<;>rcases old j a e2 with y|⟨y,y',k',hk',yk⟩
    ·exact I.inv.inj i j a x y
    ·exact(apart i k' a x hk' yk).elim
    ·exact(apart j k a y hk xk).elim
    ·have lt:i-R.ρ.length<news.length:=(List.getElem?_eq_some_iff.mp x').1;have:=(List.getElem?_inj lt hnd).mp (x'.trans y'.symm)
     (first|lia|omega)
   new:=fun i a e=>by
    rcases old i a e with x|⟨_,_,k,_,xk⟩
    ·refine⟨(I.inv.new i a x).1,?_⟩;by_cases z:∃j':Nat,R1.ρ[j']?=some a
     ·refine oE z fun j' e3=>?_;exact(J.inv.new j' a (g.at e3)).2
     ·refine cZ (I.inv.new i a x) fun _ o h1 m=>?_;refine oEA (unx i a x fun j' e3=>z ⟨j',e3⟩) fun o' h2 h3=>?_;rw[h1] at h2;obtain rfl:=aF h2;exact⟨o,h3,m⟩
    ·exact⟨b9 (I.low_sub hρ) (J.inv.new k a xk).1,(J.inv.new k a xk).2⟩
   obj:=fun i o a e q=>by
    rcases hobj gl l.kp i o a e q with⟨x,y,n⟩|r
    ·refine oEA (unx i a y n) fun o' h2 h3=>?_;exact(I.inv.obj i o a x y).mono gl l.kp (h3.trans h2.symm)
    ·exact r
   tab:=fun q hq=>⟨(I.inv.tab q hq).1,(J.inv.tab q (ht▸hq)).2⟩
   tabA:=fun q hq i e=>by
    rcases old i _ e with x|⟨_,_,k,_,xk⟩
    ·exact I.inv.tabA q hq i x
    ·exact J.inv.tabA q (ht▸hq) k xk}
  frm:=by refine oEA (J.frm) fun m a _=>?_;exact⟨m,a,fun n v e=>by rw[hfr] at e;exact nf e⟩
  lB:=I.lB
  lA:=fun i e=>by
   rcases old i _ e with x|⟨_,_,k,_,xk⟩
   ·exact I.lA i x
   ·exact J.lA k xk
  out:=fun e he=>by
   refine bR (J.out e he) fun hk L o es n a1 b c _ f r=>?_;refine bR (I.out e he) fun _ L' _ _ _ a1' _ _ d' f' _=>?_;rw[a1] at a1';obtain rfl:=aF a1';refine⟨hk,L,o,es,n,a1,b,c,d',fun i y=>?_,r⟩;rcases old i L y with x|⟨_,_,k,_,xk⟩
   ·exact f' i x
   ·exact f k xk}⟩
end
end
section
noncomputable def mI(δ:List Ty)(k:Nat):Ty:=(δ[k]?).getD (.n0 0)
def sub(δ:List Ty):Ty->Ty
|.v k=>mI δ k
|.n0 i=>.n0 i
|.n1 i t=>.n1 i (sub δ t)
|.n2 i t u=>.n2 i (sub δ t) (sub δ u)
mutual
noncomputable def mV(δ:List Ty):SV->SV
|.tup vs=>.tup (rK δ vs)
|.dw k=>Wr (mI δ k)
|.dt k=>Td (mI δ k)
|v=>v
noncomputable def rK(δ:List Ty):List SV->List SV
|[]=>[]
|v::r=>mV δ v::rK δ r
end
mutual
noncomputable def gH(n:Nat):SV->Bool
|.non=>true
|.bol _=>true
|.int _=>true
|.str _=>true
|.byt _=>true
|.tup vs=>iC n vs
|.dw k=>Nat.blt k n
|.dt k=>Nat.blt k n
|_=>false
noncomputable def iC(n:Nat):List SV->Bool
|[]=>true
|v::r=>gH n v&&iC n r
end
noncomputable def AM(n:Nat):Ty->Bool
|.v k=>Nat.blt k n
|.n0 _=>true
|.n1 _ t=>AM n t
|.n2 _ t u=>AM n t&&AM n u
def wY(v:SV):Bool:=gH 2 v
theorem Gy:T0.all (fun x=>wY x.1&&wY x.2)=true:=by decide +kernel
theorem Gz:T1.all (fun x=>wY x.1&&wY x.2)=true:=by decide +kernel
theorem GA:T2.all (fun x=>wY x.1&&wY x.2)=true:=by decide +kernel
section
variable{δ:List Ty}{n m:Nat}{f:Nat->SV}
theorem tI{t:SV}:gH m t=true->mV δ (fl f t)=fl (fun k=>mV δ (f k)) t:=by
 induction t using SV.ind (Q:=fun ts=>iC m ts=true->rK δ (Gi f ts)=Gi (fun k=>mV δ (f k)) ts) with
|tup vs ih=>exact fun h=>congrArg SV.tup (ih h)
|nil h=>rfl
|cons v r ih ihs h=>have h:=aG h;exact(congrArg (·::_) (ih h.1)).trans (congrArg (_::·) (ihs h.2))
|non=>exact fun _=>rfl
|bol _=>exact fun _=>rfl
|int _=>exact fun _=>rfl
|str _=>exact fun _=>rfl
|byt _=>exact fun _=>rfl
|dw _=>exact fun _=>rfl
|dt _=>exact fun _=>rfl
|_=>exact fun h=>ff h
theorem oY(hf:∀k,gH n (f k)=true){t:SV}:gH m t=true->gH n (fl f t)=true:=by
 induction t using SV.ind (Q:=fun ts=>iC m ts=true->iC n (Gi f ts)=true) with
|tup vs ih=>exact ih
|nil h=>rfl
|cons v r ih ihs h=>exact cO (ih (aG h).1) (ihs (aG h).2)
|dw k=>exact fun _=>hf k
|dt k=>exact fun _=>hf k
|_=>exact fun h=>h
theorem AA(b:Bool)(ty:Ty):mV δ (wt b ty)=wt b (sub δ ty):=by
 induction ty with
|v k=>cases b<;>rfl
|n0 i=>exact tI (fF (p:=wY) b Gy rfl i)
|n1 i t ih=>exact(tI (fF (p:=wY) b Gz rfl i)).trans (congrArg (fun v=>fl (fun _=>v) (wT T1 b i)) ih)
|n2 i t u ih ihu=>refine(tI (fF (p:=wY) b GA rfl i)).trans (congrArg (fun g=>fl g (wT T2 b i)) (funext fun k=>?_));exact k.casesOn ih fun _=>ihu
theorem vP(ty:Ty):mV δ (Wr ty)=Wr (sub δ ty):=AA false ty
theorem vO(ty:Ty):mV δ (Td ty)=Td (sub δ ty):=AA true ty
theorem uF(b:Bool)(ty:Ty):AM n ty=true->gH n (wt b ty)=true:=by
 induction ty with
|v k=>cases b<;>exact fun h=>h
|n0 i=>exact fun _=>oY (fun _=>rfl) (fF (p:=wY) b Gy rfl i)
|n1 i t ih=>exact fun h=>oY (fun _=>ih h) (fF (p:=wY) b Gz rfl i)
|n2 i t u ih ihu=>exact fun h=>oY (fun k=>k.casesOn (ih (aG h).1) fun _=>ihu (aG h).2) (fF (p:=wY) b GA rfl i)
theorem uE(ty:Ty):AM n ty=true->gH n (Wr ty)=true:=uF false ty
theorem uD(ty:Ty):AM n ty=true->gH n (Td ty)=true:=uF true ty
theorem f0(δ:List Ty)(n i:Nat):mV δ (cB i)=cB i/\gH n (cB i)=true:=by rcases i with _|_|_|_|_|_|_|_|_|_|_|_<;>exact⟨rfl,rfl⟩
end
section
variable{h:Heap}
theorem RV.data{n:Nat}{v:SV}:∀{x:Value},gH n v=true->RV C R h v x->RD h (mV R.δ v) x:=by
 induction v using SV.ind (Q:=fun vs=>∀xs,iC n vs=true->RVs C R h vs xs->RDs h (rK R.δ vs) xs) with
|tup vs ih=>exact fun d e=>aY e fun a xs e t r=>⟨a,xs,e,t,ih xs d r⟩
|nil xs _ e=>exact e
|cons v r ih ihs xs d e=>exact aY e fun y ys e a b=>⟨y,ys,e,ih (aG d).1 a,ihs ys (aG d).2 b⟩
|dw k=>exact fun _ e=>oEA e fun ty e r=>by show RD h (Wr (mI R.δ k)) _;unfold mI;rw[e];exact r
|dt k=>exact fun _ e=>oEA e fun ty e r=>by show RD h (Td (mI R.δ k)) _;unfold mI;rw[e];exact r
|non=>exact fun _ e=>e
|bol _=>exact fun _ e=>e
|int _=>exact fun _ e=>e
|str _=>exact fun _ e=>e
|byt _=>exact fun _ e=>e
|_=>exact fun d=>ff d
theorem rY{δ:List Ty}{k:Nat}(h:Nat.blt k δ.length=true):δ[k]?=some (mI δ k):=by have e:=List.getElem?_eq_getElem (l:=δ) (i:=k) (aP h);unfold mI;rw[e];rfl
theorem RD.rv{v:SV}:∀{x:Value},gH R.δ.length v=true->RD h (mV R.δ v) x->RV C R h v x:=by
 induction v using SV.ind (Q:=fun vs=>∀xs,iC R.δ.length vs=true->RDs h (rK R.δ vs) xs->RVs C R h vs xs) with
|tup vs ih=>exact fun d e=>aY e fun a xs e t r=>⟨a,xs,e,t,ih xs d r⟩
|nil xs _ e=>exact e
|cons v r ih ihs xs d e=>exact aY e fun y ys e a b=>⟨y,ys,e,ih (aG d).1 a,ihs ys (aG d).2 b⟩
|dw k=>exact fun d r=>⟨_,rY d,r⟩
|dt k=>exact fun d r=>⟨_,rY d,r⟩
|non=>exact fun _ e=>e
|bol _=>exact fun _ e=>e
|int _=>exact fun _ e=>e
|str _=>exact fun _ e=>e
|byt _=>exact fun _ e=>e
|_=>exact fun d=>ff d
end
theorem FC(a b x y:Bool):((a||x)||(b||y))=((a||b)||(x||y)):=by cases a<;>cases b<;>cases x<;>rfl
theorem tS{δ:List Ty}(ty:Ty):(hY (sub δ ty)).1=((hY ty).1||(hY ty).2.any fun k=>(hY (mI δ k)).1):=by
 induction ty with
|v k=>exact(Bool.or_false _).symm
|n0 i=>rfl
|n1 i t ih=>exact(congrArg (GJ i||·) ih).trans (Bool.or_assoc ..).symm
|n2 i t u ih ihu=>show((hY (sub δ t)).1||(hY (sub δ u)).1)=(((hY t).1||(hY u).1)||((hY t).2++(hY u).2).any _);rw[ih,ihu,List.any_append,FC]
section
variable{δ:List Ty}{n:Nat}
theorem CI{d:Nat}(hd:∀k,k<n->iM (mI δ k)<=d)(ty:Ty):AM n ty=true->iM (sub δ ty)<=iM ty+d:=by
 induction ty with
|v k=>exact fun h=>(Nat.zero_add d).symm▸hd k (aP h)
|n0 i=>exact fun _=>Nat.le_add_right 1 d
|n1 i t ih=>exact fun h=>(Nat.succ_add (iM t) d).symm▸Nat.succ_le_succ (ih h)
|n2 i t u ih ihu=>intro h;show max _ _+1<=max (iM t) (iM u)+1+d;rw[Nat.succ_add];exact Nat.succ_le_succ (Nat.max_le.mpr ⟨al__3 (ih (aG h).1) (cK (Nat.le_max_left _ _) d),al__3 (ihu (aG h).2) (cK (Nat.le_max_right _ _) d)⟩)
theorem wP(hd:∀k,dM false (mI δ k)=true)(ty:Ty):dM true ty=true->dM false (sub δ ty)=true:=by
 induction ty with
|v k=>exact fun _=>hd k
|n0 i=>exact fun h=>h
|n1 i t ih=>exact fun h=>cO (aG h).1 (ih (aG h).2)
|n2 i t u ih ihu=>exact fun h=>cO (aG h).1 (cO (ih (aG (aG h).2).1) (ihu (aG (aG h).2).2))
theorem CB{δ':List Ty}(h:∀k,k<n->mI δ k=mI δ' k)(ty:Ty):AM n ty=true->sub δ ty=sub δ' ty:=by
 induction ty with
|v k=>exact fun o=>h k (aP o)
|n0 i=>exact fun _=>rfl
|n1 i t ih=>exact fun o=>congrArg (Ty.n1 i) (ih o)
|n2 i t u ih ihu=>exact fun o=>(congrArg (Ty.n2 i · _) (ih (aG o).1)).trans (congrArg (Ty.n2 i _) (ihu (aG o).2))
end
end
variable{cx:Cx}
section
abbrev bH:=Nat->Cx->St->(Fl->St->Bool)->Ke->Option Bool
noncomputable def nob:bH:=fun _ _ _ _ _=>none
def fT(n0:Nat)(F:Tr SO)(bod:bH):P:={N0:=n0,F:=F,G:=gMain,funs:=fnMain,lams:=lamsMain,meth:=rB,fld:=fldMain,inits:=initMain,excs:=excMain,bod:=bod,bad:=bP,key:=HH}
theorem Cst.sub_p{C:Cst}{n0 n0':Nat}{F F':Tr SO}{bod bod':bH}{lb lu td:Nat}{fb:Bool}(h:C.p=fT n0 F bod):(C.sub n0' F' bod' lb lu td fb).p=fT n0' F' bod':=by unfold Cst.sub;rw[h];rfl
section
variable{h:Heap}{n0:Nat}{F:Tr SO}{bod:bH}{lb lu td:Nat}{fb:Bool}
theorem CxOk.sub(c:CxOk C oU env R cx A){R1:Rn}{cx1:Cx}(h1:cx.dp<=cx1.dp)(h2:cx1.dp<=300)(h3:cx.un<=cx1.un)(h4:cx1.un<=4010)(ht:cx1.tb=cx.tb\/C.tbs cx1.tb=none)
  (hcl:∀n i,look n cx1.cl=some i->∃(a:Addr) (j:Nat),R1.ρ[i]?=some a/\look n cx.cl=some j/\R.ρ[j]?=some a) (hk:∀n,(look n cx1.cl).isSome=(look n cx.cl).isSome):CxOk (C.sub n0 F bod lb lu td fb) oU env R1 cx1 A where
 kind:=c.kind
 gl:=c.gl
 bi:=c.bi
 stk:=c.stk
 dep:=al__3 c.dep (cK h1 400)
 un:=al__3 c.un h3
 hd:=c.hd
 tb:=fun cc P q e=>by
  rcases ht with e2|e2
  ·rw[e2] at e;exact c.tb cc P q e
  ·replace e:C.tbs cx1.tb=some (cc,P,q):=e;rw[e2] at e;exact nf e
 cl:=fun n i e=>by refine aY (hcl n i e) fun a j e1 e2 e3=>?_;refine oEA (c.cl n j e2) fun a' e4 e5=>?_;rw[e3] at e4;obtain rfl:=aF e4;exact⟨a,e1,e5⟩
 ck:=fun n=>by
  have q:=c.ck n;have:=hk n;rcases z1:look n cx1.cl with _|_
  ·rcases z2:look n cx.cl with _|_
   ·rw[z2] at q;exact q
   ·rw[z1,z2] at this;exact ff this
  ·rcases z2:look n cx.cl with _|_
   ·rw[z1,z2] at this;cases this
   ·rw[z2] at q;exact q
 ub:=h4
 fr:=c.fr
 db:=h2
theorem pJ(e:C.p.bod=nob):iO w C B:=fun _ _ _ _ _ _ _ _ _ _ _ _ _ _ _ _ _ _ h=>by rw[e] at h;exact nf h
theorem jH{n0:Nat}{F:Tr SO}{bod:bH}(S:Sta C B K mg mb)(hF:∀i o,F.look i=some o->still o=true)(hr:lb+4*lu<=8388608/\1<=lu)(oo:∀n B,Sta ((C.sub n0 F bod lb lu td fb).at n) B K mg mb->iO w ((C.sub n0 F bod lb lu td fb).at n) B)
  {R1:Rn} {st1:St} {cx1:Cx} {body:List Mine.S} {N:Nat} {k1:Fl->St->Bool} {ke1:Ke} {s:Shared} {Q:Flow->Shared->Prop} {E':Value->Shared->Prop}
  (low:B.StaysIn (held C R1 oU env s.heap)) (hf:env.frame=some env.locals) (ok:gN C.p.lams env.scope body=true) (c1:CxOk (C.sub n0 F bod lb lu td fb) oU env R1 cx1 A)
  (J:At w (C.sub n0 F bod lb lu td fb) (held C R1 oU env s.heap) oU env R1 st1 s.heap) (run:(ev (C.sub n0 F bod lb lu td fb).p N).sts cx1 body st1 k1 ke1=true)
  (P:PF w (C.sub n0 F bod lb lu td fb) (held C R1 oU env s.heap) oU env R1 s.heap s k1 Q) (PX:PE w (C.sub n0 F bod lb lu td fb) (held C R1 oU env s.heap) oU env R1 s.heap s ke1 E') :
  wpAny (model C.prog w) A (execs (fU (aN C.p.lams) body) env) Q E' s:=
 (fR oo N).sts C.ep _ ((S.up low).sub hF hr) cx1 body st1 k1 ke1 oU env R1 A s Q E' c1 hf ok J run P PX
theorem At.ret0{C1:Cst}{R1 R1':Rn}{st1':St}{h':Heap}(I:At w C B oU env R st h)(ht:C1.tq=C.tq)(hρ:∀(i:Nat) (a:Addr),R1.ρ[i]?=some a->∃j:Nat,R.ρ[j]?=some a)
  (g:R1.le R1') (l:Le oU h h') (J:At w C1 (held C R1 oU env h) oU env R1' st1' h')
  (hobj:Kp h h'->∀(i j:Nat) (o:SO) (a:Addr),st.get C.p i=some o->R.ρ[i]?=some a->R1.ρ[j]?=some a->RO w C R h' a o):At w C B oU env R {st with fr:=[]} h':=by
 refine(At.ret I ht hρ g l J (R':=R) (st':={st with fr:=[]}) (news:=[]) (δ':=[]) (by simp) (fun _ m=>nomatch m) .nil I.inv.len I.inv.olen I.inv.dlen (fun _ m=>nomatch m) I.inv.da (fun _ kp i o a e q=>?_) rfl).2;by_cases z:∃j:Nat,R1.ρ[j]?=some a
 ·refine oE z fun j z=>?_;exact .inr (hobj kp i j o a e q z)
 ·exact .inl ⟨e,q,fun j y=>z ⟨j,y⟩⟩
end
theorem tF{f:SV->SV->Bool}(hf:∀a b,f a b=true->a=b)(a:List SV):∀b,IN f a b=true->a=b:=by
 induction a with
|nil=>exact fun b h=>b.casesOn (motive:=fun b=>IN f [] b=true->[]=b) (fun _=>rfl) (fun _ _ h=>ff h) h
|cons a r ih=>
  intro b h;rcases b with _|⟨b,s⟩
  ·exact ff h
  ·rw[hf a b (aG h).1,ih s (aG h).2]
theorem Fi(a:List (Nat×Nat)):∀b,LL a b=true->a=b:=by
 induction a with
|nil=>exact fun b h=>b.casesOn (motive:=fun b=>LL [] b=true->[]=b) (fun _=>rfl) (fun _ _ h=>ff h) h
|cons a r ih=>
  intro b h;rcases b with _|⟨b,s⟩
  ·exact ff h
  ·refine mJ h fun h1 h2 h3=>?_;rw[ih s h3,show a=b from Prod.ext (aT h1) (aT h2)]
theorem hH(n:Nat):∀a b,sq n a b=true->a=b:=by
 induction n with
|zero=>exact fun _ _ h=>ff h
|succ n ih=>
  intro a b h;induction a using SV.casesOn with
 |non=>induction b using SV.casesOn with
  |non=>rfl
  |_=>exact ff h
 |bol a=>induction b using SV.casesOn with
  |bol b=>exact congrArg _ (eq_of_beq h)
  |_=>exact ff h
 |int a=>induction b using SV.casesOn with
  |int b=>exact congrArg _ (bD h)
  |_=>exact ff h
 |str a=>induction b using SV.casesOn with
  |str b=>exact congrArg _ ((eH _ _).mp h)
  |_=>exact ff h
 |glo a=>induction b using SV.casesOn with
  |glo b=>exact congrArg _ (aT h)
  |_=>exact ff h
 |loc a=>induction b using SV.casesOn with
  |loc b=>exact congrArg _ (aT h)
  |_=>exact ff h
 |tup a=>induction b using SV.casesOn with
  |tup b=>exact congrArg _ (tF ih _ _ h)
  |_=>exact ff h
 |lam k a=>induction b using SV.casesOn with
  |lam l b=>rw[aT (aG h).1,Fi _ _ (aG h).2]
  |_=>exact ff h
 |dw a=>induction b using SV.casesOn with
  |dw b=>exact congrArg _ (aT h)
  |_=>exact ff h
 |dt a=>induction b using SV.casesOn with
  |dt b=>exact congrArg _ (aT h)
  |_=>exact ff h
 |nn a=>induction b using SV.casesOn with
  |nn b=>exact congrArg _ (eq_of_beq h)
  |_=>exact ff h
 |_=>exact ff h
noncomputable def SV.bol?:SV->Option Bool
|.bol b=>some b
|_=>none
noncomputable def SV.loc?:SV->Option Nat
|.loc i=>some i
|_=>none
theorem bol?_is{v:SV}{b:Bool}(h:v.bol?=some b):v=.bol b:=by rcases v with _|_<;>first|exact nf h|exact congrArg _ (aF h)
theorem loc?_is{v:SV}{b:Nat}(h:v.loc?=some b):v=.loc b:=by rcases v with _|_<;>first|exact nf h|exact congrArg _ (aF h)
noncomputable def SV.int?:SV->Option Int
|.int i=>some i
|_=>none
theorem int?_is{a:SV}{x:Int}(h:a.int?=some x):a=.int x:=by rcases a with _|_<;>first|exact nf h|exact congrArg _ (aF h)
def SV.nat?(v:SV):Option Nat:=v.int?.bind fun i=>match i with
|.ofNat n=>some n
|.negSucc _=>none
theorem nat?_is{v:SV}{n:Nat}(h:v.nat?=some n):v=.int (.ofNat n):=bI h fun i e h=>by
 rw[int?_is e];rcases i with m|_
 ·exact congrArg (fun m=>SV.int (.ofNat m)) (aF h)
 ·exact nf h
noncomputable def Gj:Fl->Option SV
|.ret v=>some v
|_=>none
theorem lF{fl:Fl}{v:SV}(h:Gj fl=some v):fl=.ret v:=by rcases fl with _|_|_<;>first|exact nf h|exact congrArg _ (aF h)
theorem lst?_is{o:SO}{vs:List SV}(h:o.lst?=some vs):o=.lst vs:=by rcases o with _|_<;>first|exact nf h|exact congrArg _ (aF h)
noncomputable def wD(cx:Cx):Bool:=cx.cl.isEmpty
theorem pH{α:Type}{l:List α}(h:l.isEmpty=true):l=[]:=by rcases l with _|_;rfl;exact ff h
theorem iY{cx:Cx}(h:wD cx=true):cx.cl=[]:=pH h
theorem gT{n a b:Nat}{x y v:SV}(e:look n [(a,x),(b,y)]=some v):(n=a/\v=x)\/(n=b/\v=y):=by
 by_cases q:a=n
 ·rw[q,cL] at e;exact .inl ⟨q.symm,(aF e).symm⟩
 ·rw[cF q] at e;by_cases q:b=n
  ·rw[q,cL] at e;exact .inr ⟨q.symm,(aF e).symm⟩
  ·rw[cF q] at e;exact nf e
noncomputable def mU:SO:=.lst [.nn false,.nn true]
def j6(o:Option SO):Bool:=bO o fun o=>bO o.lst? fun vs=>IN (sq 2) vs [.nn false,.nn true]
theorem eT{o:Option SO}(h:j6 o=true):o=some mU:=dO h fun x e h=>dO h fun vs e2 h=>by rw[e,lst?_is e2,tF (hH 2) _ _ h];rfl
def nZ(p:P)(cx:Cx)(st:St)(k:Fl->St->Bool):Option Bool:=(look 151 st.fr).bind fun v=>v.loc?.bind fun s=>(look 217 st.fr).bind fun u=>u.nat?.bind fun top=>gd (j6 (st.get p s))
 (some (Nat.blt 0 top&&Nat.ble top 64&&Nat.ble cx.dp 199&&Nat.ble cx.un 3999&&wD cx&&(List.range top).all fun r=>st.wf [] fun st=>k (.ret (.int (.ofNat r))) st))
def AC(top:Nat):St:=⟨[(151,.loc 0),(217,.int (.ofNat top))],1,[mU],[],[]⟩
def DI(p:P)(top:Nat)(fl:Fl)(st:St):Bool:=bO ((Gj fl).bind SV.nat?) fun r=>Nat.blt r top&&j6 (st.get p 0)
def vQ(top:Nat):Bool:=(ev (fT 0 .lf nob) 100).sts ⟨[],199,3999,99⟩ f712.body (AC top) (DI (fT 0 .lf nob) top) dX
theorem AB:(List.range 64).all (fun t=>vQ (t+1))=true:=by decide +kernel
section
variable{n0:Nat}{F:Tr SO}{bod:bH}
theorem look712:fnMain.look 712=some f712:=by rfl
theorem kQ(S:Sta C B K mg mb)(hp:C.p=fT n0 F bod){g:Fun}(hg:C.p.funs.look 712=some g){cx:Cx}{st:St}{k:Fl->St->Bool}{oU:List Env}{env:Env}{R:Rn}{A:Around}{s:Shared}{Q:Flow->Shared->Prop}{E':Value->Shared->Prop}
  (c:CxOk C oU env R cx A) (hf:env.frame=some env.locals) (ok:gN C.p.lams env.scope g.body=true) (I:At w C B oU env R st s.heap) (h:nZ C.p cx st k=some true) (P:PF w C B oU env R s.heap s k Q) :
  wpAny (model C.prog w) A (execs (fU (aN C.p.lams) g.body) env) Q E' s:=by
 have eg:g=f712:=by rw[hp] at hg;exact(aF (look712.symm.trans hg)).symm
 subst eg;refine bI h fun v h1 h=>bI h fun sl e1 h=>bI h fun u h2 h=>bI h fun top e2 h=>dG h fun z h=>?_;rw[loc?_is e1] at h1;rw[nat?_is e2] at h2;refine GI (aF h) fun t0 t1 hd hu hc h=>?_;have t0:0<top:=aP t0;have t1:=aP t1;have hcl:=iY hc;refine oEA (I.inv.at (eT z)) fun a ha ro=>?_;refine oEA (I.frm) fun m hm hfr=>?_;have run:vQ top=true:=by have:=aZ AB (top-1) (List.mem_range.mpr (Nat.lt_of_lt_of_le (Nat.sub_lt t0 Nat.one_pos) t1));rwa [Nat.sub_add_cancel t0] at this
 have hρ:∀(i:Nat) (b:Addr),(⟨[a],[]⟩:Rn).ρ[i]?=some b->i=0/\b=a:=fun i b e=>by
  rcases i with _|i
  ·exact⟨rfl,(aF e).symm⟩
  ·exact nf e
 have hρ':∀(i:Nat) (b:Addr),(⟨[a],[]⟩:Rn).ρ[i]?=some b->∃j:Nat,R.ρ[j]?=some b:=fun i b e=>⟨sl,by rw[(hρ i b e).2];exact ha⟩;have sp:(C.sub 0 .lf nob 0 1 0 false).p=fT 0 .lf nob:=Cst.sub_p hp;refine jH (bod:=nob) (n0:=0) (F:=.lf) (lb:=0) (lu:=1) (td:=0) (fb:=false) (R1:=⟨[a],[]⟩) (st1:=AC top) (cx1:=⟨[],199,3999,99⟩) (N:=100) (k1:=DI (C.sub 0 .lf nob 0 1 0 false).p top) (ke1:=dX) S (fun i o e=>by exact nf e) (by decide) (fun n B _=>pJ rfl) (I.low_sub hρ') hf ok
  (c.sub (aP hd) (by decide) (aP hu) (by decide) (.inr S.tb9) (fun n i e=>by exact nf e) fun n=>by rw[hcl]) ?_ (by rw[sp];exact run) ?_ (PE.no s.heap)
 ·refine I.sub _ _ hρ' (fun i j b e1 e2=>by rw[(hρ i b e1).1,(hρ j b e2).1]) rfl rfl rfl (fun _ m=>nomatch m) (fun k b e=>by exact nf e) (fun i o b e q=>?_) ⟨m,hm,fun n v e=>?_⟩
  ·refine oA (hρ i b q) fun u2 u3=>?_;rw[u2] at e;rw[u3,<-aF e];exact ro
  ·rcases gT e with⟨rfl,rfl⟩|⟨rfl,rfl⟩
   ·refine fS (hfr 151 _ h1) fun x hx b hb X=>?_;rw[ha] at hb;obtain rfl:=aF hb;exact⟨x,hx,a,rfl,X⟩
   ·exact hfr 217 _ h2
 ·intro fl st1 R1 h1 tk g l J e;rw[sp] at e;refine dO e fun r er e=>bZ e fun e1 e2=>bI er fun v' f1 f2=>?_;have J0:=J.inv.obj 0 _ a (by rw[sp];exact eT e2) (g.at rfl);have I':=I.ret0 (C1:=C.sub 0 .lf nob 0 1 0 false) rfl hρ' g l J fun kp i j o b e q y=>by have u5:=(hρ j b y).2;rw[u5] at q ⊢;rw[I.inv.inj i sl a q ha,eT z] at e;rw[<-aF e];exact J0
  rw[lF f1,nat?_is f2];intro x X;exact P (.ret (.int (.ofNat r))) _ R h1 tk (.refl R) l I' (dN (aZ h r (List.mem_range.mpr (aP e1)))) x X
end
end
section
mutual
noncomputable def M7:SV->List Nat
|.tup vs=>GX vs
|.dw k=>[k]
|_=>[]
noncomputable def GX:List SV->List Nat
|[]=>[]
|v::r=>M7 v++GX r
end
def AE(T:List (SV×SV))(n:Nat)(w:SV)(f:Nat->SV):Option Nat:=(List.range n).find? fun i=>sq 20 w (fl f (wT T false i))
def El(w:SV):Option Ty:=match M7 w with
|[]=>(AE T0 19 w fun _=>.non).map .n0
|a::r=>match w with
 |.dw k=>some (.v k)
 |w=>match AE T1 36 w fun _=>.dw a with
  |some i=>some (.n1 i (.v a))
  |none=>match r with
   |b::_=>(AE T2 16 w (pk (.dw a) (.dw b))).map fun i=>.n2 i (.v a) (.v b)
   |[]=>none
def EF:List SV->Option Bool
|[]=>some false
|v::r=>v.bol?.bind fun b=>(EF r).map (!b||·)
def Dd(fl:Fl):Option Nat:=(Gj fl).bind SV.loc?
theorem yH{fl:Fl}{l:Nat}(h:Dd fl=some l):fl=.ret (.loc l):=bI h fun _ e h=>loc?_is h▸lF e
noncomputable def He(vs:List SV)(f:SV->SV->SV->SV->Bool):Bool:=match vs with
|[a,b,c,d]=>f a b c d
|_=>false
theorem Bq{vs:List SV}{f:SV->SV->SV->SV->Bool}{G:Prop}(h:He vs f=true)(k:∀a b c d,vs=[a,b,c,d]->f a b c d=true->G):G:=by
 rcases vs with _|⟨a,_|⟨b,_|⟨c,_|⟨d,_|_⟩⟩⟩⟩
 ·exact ff h
 ·exact ff h
 ·exact ff h
 ·exact ff h
 ·exact k a b c d rfl h
 ·exact ff h
def Dj(o:Option SO):Option (Nat×Bool×List Nat):=o.bind fun o=>match o with
|.kls n c ks=>some (n,c,ks)
|.lst vs=>(EF vs).map fun c=>(vs.length,c,[])
|_=>none
noncomputable def Np:SV->Bool
|.bol _=>true
|.ub=>true
|_=>false
noncomputable def c5(f d:Nat):Nat:=match Nat.beq f 780 with
|true=>2*d
|false=>match Nat.beq f 763 with
 |true=>2*d+1
 |false=>100
noncomputable def BQ(r:Nat):Nat:=120-8*r
noncomputable def BU(r:Nat):Nat:=2000-150*r
noncomputable def CZ(k:Bool->Bool):Bool:=k true&&k false
def EV(p:P)(o:SO)(b:Option Bool)(st:St)(k:Fl->St->Bool):Bool:=st.wf [] fun st=>st.new p o fun kl st=>st.new p (.lst [.dw st.da.length,.dt st.da.length,.ub,.loc kl]) fun l st=>match st with
|⟨fr,n,objs,da,ov⟩=>fc (da++[b]) fun da=>k (.ret (.loc l)) ⟨fr,n,objs,da,ov⟩
def gV(p:P)(lim:Nat)(en:Bool)(f:Nat)(cx:Cx)(st:St)(k:Fl->St->Bool):Option Bool:=(look 151 st.fr).bind fun v=>v.loc?.bind fun s=>(look 164 st.fr).bind fun u=>u.nat?.bind fun d=>gd (j6 (st.get p s)&&Nat.blt (c5 f d) lim)
 (some (wD cx&&Nat.ble cx.dp (BQ (c5 f d))&&Nat.ble cx.un (BU (c5 f d))&&match en with
 |true=>CZ fun bad=>EV p (.kls (2^lim) bad []) (some bad) st k
 |false=>EV p (.kls (2^lim) false [st.da.length]) none st k))
def k_(p:P)(lim:Nat):bH:=fun f cx st k _=>match Nat.beq f 712 with
|true=>nZ p cx st k
|false=>gV p lim false f cx st k
def uW(p:P)(r:Nat)(fl:Fl)(st:St):Bool:=bO (Dd fl) fun l=>gL p st l fun vs=>He vs fun w t b k=>bO k.loc? fun kl=>bO (Dj (st.get p kl)) fun x=>bO (El w) fun ty=>
 Nat.ble x.1 (2^(r+1))&&Np b&&sq 20 (Wr ty) w&&sq 20 (Td ty) t&&Ak (hY ty) x.2&&j6 (st.get p 0)&&Nat.ble 1 l&&Nat.ble 1 kl&&!Nat.beq l kl&&AM st.da.length ty&&Nat.ble (iM ty) 1&&dM true ty
def mR:P:=fT 0 .lf nob
def BR(d:Nat):St:=⟨[(151,.loc 0),(164,.int (.ofNat d))],1,[mU],[],[]⟩
def d0(f d:Nat)(body:List S):Bool:=(ev (fT 0 .lf (k_ mR (c5 f d))) 1000).sts ⟨[],BQ (c5 f d),BU (c5 f d),99⟩ body (BR d) (uW mR (c5 f d)) dX
theorem Oh:d0 780 0 f780.body=true:=by decide +kernel
theorem Oi:d0 763 0 f763.body=true:=by decide +kernel
theorem Oj:d0 780 1 f780.body=true:=by decide +kernel
theorem Ol:d0 763 1 f763.body=true:=by decide +kernel
theorem Om:d0 780 2 f780.body=true:=by decide +kernel
theorem On:d0 763 2 f763.body=true:=by decide +kernel
theorem Oo:d0 780 3 f780.body=true:=by decide +kernel
theorem Aw{a b:List Nat}(h:CA a b=true):∀x∈a,x∈b:=fun x hx=>by refine oEA (List.any_eq_true.mp (aZ h x hx)) fun y hy e=>?_;rw[aT e];exact hy
theorem tW{a b:List Nat}(h:CA a b=true)(f:Nat->Bool)(q:a.any f=true):b.any f=true:=by refine oEA (List.any_eq_true.mp q) fun x hx e=>?_;exact List.any_eq_true.mpr ⟨x,Aw h x hx,e⟩
theorem rJ{a b:Bool×List Nat}(h:Ak a b=true)(f:Nat->Bool):(a.1||a.2.any f)=(b.1||b.2.any f):=by
 refine mJ h fun h1 h2 h3=>?_;rw[eq_of_beq h1];congr 1;rcases q:a.2.any f with _|_
 ·rcases q2:b.2.any f with _|_
  ·rfl
  ·rw[tW h3 f q2] at q;cases q
 ·exact(tW h2 f q).symm
theorem kI(R:Rn)(k:Nat):dJ R k=(hY (mI R.δ k)).1:=by unfold dJ mI;cases R.δ[k]?<;>rfl
section
variable{h:Heap}
theorem EG{vs:List SV}:∀{xs:List Value} {c:Bool},RVs C R h vs xs->EF vs=some c->∃bs:List Bool,bs.length=vs.length/\xs=bs.map Value.bool/\bs.any (!·)=c:=by
 induction vs with
|nil=>exact fun e q=>⟨[],rfl,e,aF q⟩
|cons v r ih=>intro xs c e q;refine aY e fun y ys e Y rs=>?_;refine oEA (Option.bind_eq_some_iff.mp q) fun b hb q=>?_;refine oEA (Option.map_eq_some_iff.mp q) fun d hd u=>?_;refine oEAA (ih rs hd) fun bs h1 h2 h3=>?_;rw[bol?_is hb] at Y;exact⟨b::bs,congrArg (·+1) h1,by rw[e,show y=.bool b from Y,h2];rfl,by rw[List.any_cons,h3,u]⟩
theorem BG{o:Option SO}{a:Addr}{x:Nat×Bool×List Nat}{G:Prop}(H:∀x,o=some x->RO w C R h a x)(e:Dj o=some x)(k:∀(bs:List Bool) (m:Nat),bs.length<=x.1->h.get? a=some (listOf (bs.map Value.bool).toArray m)->bs.any (!·)=(x.2.1||x.2.2.any (dJ R))->G):G:=by
 refine oEA (Option.bind_eq_some_iff.mp e) fun o' ho e=>?_;have H:=H o' ho;induction o' using SO.casesOn with
|kls n c ks=>rw[<-aF e] at k;exact fN H fun bs m h1 h2 h3 _=>k bs m h1 h2 h3
|lst vs=>refine oEA (Option.map_eq_some_iff.mp e) fun c q u=>?_;rw[<-u] at k;refine cX H fun xs m ho rs=>?_;refine oEAA (EG rs q) fun bs h1 h2 h3=>?_;exact k bs m (Nat.le_of_eq h1) (by rw[<-h2];exact ho) (h3.trans (Bool.or_false _).symm)
|_=>exact nf e
end
end
section
theorem look780:fnMain.look 780=some f780:=by rfl
theorem look763:fnMain.look 763=some f763:=by rfl
def HY:Bool:=(List.range 4).all (fun d=>d0 780 d f780.body)&&(List.range 3).all fun d=>d0 763 d f763.body
theorem zF:HY=true:=by show((d0 780 0 f780.body&&(d0 780 1 f780.body&&(d0 780 2 f780.body&&(d0 780 3 f780.body&&true))))&&(d0 763 0 f763.body&&(d0 763 1 f763.body&&(d0 763 2 f763.body&&true))))=true;rw[Oh,Oi,Oj,Ol,Om,On,Oo];rfl
theorem Fm{f d:Nat}{g:Fun}(h:c5 f d<7)(hg:fnMain.look f=some g):d0 f d g.body=true:=by
 have all:=aG zF;delta c5 at h;rcases z:Nat.beq f 780 with _|_
 ·rw[z] at h;rcases y:Nat.beq f 763 with _|_
  ·rw[y] at h;exact absurd (show 100<7 from h) (by decide)
  ·rw[y] at h;have e:=aT y;rw[e] at hg ⊢;rw[<-aF (look763.symm.trans hg)];exact aZ all.2 d (List.mem_range.mpr (Nat.lt_of_mul_lt_mul_left (a:=2) (Nat.lt_of_succ_lt_succ h)))
 ·rw[z] at h;have e:=aT z;rw[e] at hg ⊢;rw[<-aF (look780.symm.trans hg)];exact aZ all.1 d (List.mem_range.mpr (Nat.lt_of_mul_lt_mul_left (a:=2) (Nat.lt_of_lt_of_le h (by decide:7<=2*4))))
section
variable{h:Heap}
theorem HD{v:SV}{x:Value}(X:RV C R h v x)(e:Np v=true):∃b,x=.bool b:=by
 induction v using SV.casesOn with
|bol b=>exact⟨b,X⟩
|ub=>exact X
|_=>exact ff e
theorem Fj{C1:Cst}{B1:Heap}{oU:List Env}{env:Env}{R1:Rn}{st1:St}{h:Heap}{fl:Fl}{r:Nat}{bod:bH}(hp:C1.p=fT 0 .lf bod)(htd:C1.td=r)(hr:r<=28)(J:At w C1 B1 oU env R1 st1 h)(e:uW mR r fl st1=true)
  {G:Prop} (k:∀(l kl:Nat) (al ak:Addr) (ty:Ty) (x0 x1:Value) (b:Bool) (bs:List Bool) (m m2:Nat),fl=.ret (.loc l)->R1.ρ[l]?=some al->R1.ρ[kl]?=some ak->1<=l->1<=kl->al≠ak->h.get? al=some (listOf #[x0,x1,.bool b,.ref ak] m)->
   RD h (Wr ty) x0->RD h (Td ty) x1->h.get? ak=some (listOf (bs.map Value.bool).toArray m2)->bs.length<=2^(r+1)->bs.any (!·)=(hY ty).1->iM ty<=r+1->iM ty<=30->dM false ty=true->j6 (st1.get mR 0)=true->G):G:=by
 have gp:∀i,st1.get C1.p i=st1.get mR i:=fun i=>by rw[hp];rfl
 refine dO e fun l e0 e=>dL e fun vs hl e=>Bq e fun w0 t0 b0 k0 ev e=>?_;rw[ev] at hl;refine dO e fun kl ek e=>dO e fun x h1 e=>dO e fun ty h2 e=>?_;refine JR e fun e1 e2 e3 e4 e5 e6 e7 e8 e9 e10 e11 e12=>?_;refine oEA (J.inv.at ((gp l).trans hl)) fun al hal ro=>?_;refine cX ro fun xs m ho rs=>?_;refine aY rs fun x0 _ u X0 rs=>?_;refine aY rs fun x1 _ u1 X1 rs=>?_;refine aY rs fun x2 _ u2 X2 rs=>?_;refine aY rs fun x3 _ u3 X3 rs=>?_;rw[loc?_is ek] at X3;refine oEA X3 fun ak hak u5=>?_;rw[u,u1,u2,u3,u5,show _=[] from rs] at ho;refine BG (fun x hx=>J.inv.obj kl x ak ((gp kl).trans hx) hak) h1 fun bs m2 k1 k2 k3=>?_;refine oE (HD X2 e2) fun b u6=>?_;rw[u6] at ho;rw[<-hH _ _ _ e3] at X0;rw[<-hH _ _ _ e4] at X1;rw[<-J.inv.dlen] at e10;have D0:=X0.data (uE (n:=R1.δ.length) ty e10);have D1:=X1.data (uD (n:=R1.δ.length) ty e10);rw[vP] at D0;rw[vO] at D1;have mem:∀k,k<R1.δ.length->mI R1.δ k∈R1.δ:=fun k hk=>List.mem_of_getElem? (rY (tZ hk));have d1:=CI (d:=r) (fun k hk=>by rw[<-htd];exact(J.inv.dD _ (mem k hk)).2) ty e10;have d2:iM (sub R1.δ ty)<=r+1:=al__3 d1 (Nat.add_comm 1 r▸cK (aP e11) r);refine k l kl al ak (sub R1.δ ty) x0 x1 b bs m m2 (yH e0) hal hak (aP e7) (aP e8) (fun z=>?_) ho D0 D1 k2 (al__3 k1 (aP e1)) ?_ d2 (al__3 d2 (al__3 (Nat.succ_le_succ hr) (by decide))) (wP (fun k=>?_) ty e12) e6
 ·rw[J.inv.inj l kl al hal (z▸hak),Nat.beq_refl] at e9;exact ff e9
 ·rw[k3,tS,<-rJ e5];exact congrArg (fun f=>((hY ty).1||(hY ty).2.any f)) (funext fun k=>kI R1 k)
 ·by_cases hk:k<R1.δ.length
  ·exact(J.inv.dD _ (mem k hk)).1.2
  ·unfold mI;rw[List.getElem?_eq_none (Nat.le_of_not_lt hk)];rfl
end
end
section
section
variable{k:Fl->St->Bool}{Q:Flow->Shared->Prop}{E':Value->Shared->Prop}
theorem yK{C1:Cst}{R1 R1':Rn}{st1':St}{h':Heap}{tk:Nat}{al ak:Addr}{li ki:Nat}{x0 x1:Value}{b:Bool}{m:Nat}{ty:Ty}{o:SO}{fb:Option Bool}(I:At w C B oU env R st s.heap)(ht:C1.tq=C.tq)(hρ:∀(i:Nat) (a:Addr),R1.ρ[i]?=some a->∃j:Nat,R.ρ[j]?=some a)
  (g:R1.le R1') (l:Le oU s.heap h') (J:At w C1 (held C R1 oU env s.heap) oU env R1' st1' h') (hal:R1'.ρ[li]?=some al) (hak:R1'.ρ[ki]?=some ak) (hli:R1.ρ.length<=li) (hki:R1.ρ.length<=ki) (ne:al≠ak)
  (ho:h'.get? al=some (listOf #[x0,x1,.bool b,.ref ak] m)) (D0:RD h' (Wr ty) x0) (D1:RD h' (Td ty) x1) (hty:(iM ty<=30/\dM false ty=true)/\iM ty<=C.td) (hfb:∀b,fb=some b->(hY ty).1=b)
  (hro:∀R':Rn,R'.δ=R.δ++[ty]->RO w C R' h' ak o) (hexp:Kp s.heap h'->∀(i j:Nat) (o:SO) (a:Addr),st.get C.p i=some o->R.ρ[i]?=some a->R1.ρ[j]?=some a->RO w C R h' a o)
  (e:EV C.p o fb st k=true) (P:PF w C B oU env R s.heap s k Q):Q (.ret (.ref al)) {s with heap:=h',toks:=tk}:=by
 obtain⟨fr,n,objs,da,ov⟩:=st;have len:=I.inv.len;have olen:=I.inv.olen;have dlen:=I.inv.dlen;simp only at len olen dlen;replace e:fc (da++[fb]) (fun da'=>k (.ret (.loc (C.p.N0+(n+1)))) ⟨[],n+1+1,.lst [.dw da.length,.dt da.length,.ub,.loc (C.p.N0+n)]::o::objs,da',ov⟩)=true:=e;rw[bJ] at e;have gt:∀i,St.get C.p ⟨[],n+1+1,.lst [.dw da.length,.dt da.length,.ub,.loc (C.p.N0+n)]::o::objs,da++[fb],ov⟩ i =
   if i=C.p.N0+(n+1) then some (.lst [.dw da.length,.dt da.length,.ub,.loc (C.p.N0+n)]) else if i=C.p.N0+n then some o else St.get C.p ⟨fr,n,objs,da,ov⟩ i:=fun i=>by
  rw[iS C.p [] [] (n+1) (o::objs) da,iS C.p fr [] n objs da]
 have rl:∀(i:Nat) (a:Addr),(R.ρ++[ak,al])[i]?=some a->(i<C.p.N0+n/\R.ρ[i]?=some a)\/(i=C.p.N0+n/\a=ak)\/(i=C.p.N0+(n+1)/\a=al):=fun i a q=>by
  rw[List.append_cons] at q;rcases iQ q with q|⟨e,u⟩
  ·rcases iQ q with q|⟨e,u⟩
   ·exact .inl ⟨len▸(List.getElem?_eq_some_iff.mp q).1,q⟩
   ·exact .inr (.inl ⟨e.trans len,u⟩)
  ·exact .inr (.inr ⟨e.trans (by rw[List.length_append,len];rfl),u⟩)
 have lk:(R.ρ++[ak,al])[C.p.N0+n]?=some ak:=by rw[<-len,List.getElem?_append_right (Nat.le_refl _),Nat.sub_self];rfl
 have ll:(R.ρ++[ak,al])[C.p.N0+(n+1)]?=some al:=by rw[show C.p.N0+(n+1)=R.ρ.length+1 from congrArg (·+1) len.symm,List.append_cons];exact(congrArg (fun x=>((R.ρ++[ak])++[al])[x]?) (List.length_append (bs:=[ak])).symm).trans List.getElem?_concat_length
 have ld:(R.δ++[ty])[da.length]?=some ty:=by rw[<-dlen];exact List.getElem?_concat_length
 refine oA (At.ret (news:=[ak,al]) (δ':=[ty]) (st':=⟨[],n+1+1,.lst [.dw da.length,.dt da.length,.ub,.loc (C.p.N0+n)]::o::objs,da++[fb],ov⟩) (R':=⟨R.ρ++[ak,al],R.δ++[ty]⟩) I ht hρ g l J rfl
  (fun a hm=>by
   rcases bN hm with rfl|hm
   ·exact⟨ki,hki,hak⟩
   ·rw[List.mem_singleton.mp hm];exact⟨li,hli,hal⟩)
  (List.nodup_cons.mpr ⟨fun m=>ne (List.mem_singleton.mp m).symm,List.nodup_cons.mpr ⟨nofun,.nil⟩⟩)
  (by rw[List.length_append,len];rfl) (congrArg (·+2) olen) (by rw[List.length_append,List.length_append,dlen];rfl)
  (fun t hm=>by rw[List.mem_singleton.mp hm];exact hty)
  (fun j b' q=>by
   rcases iQ (show(da++[fb])[j]?=_ from q) with q|⟨e,u⟩
   ·rw[tX (R:=R) ⟨⟨_,rfl⟩,_,rfl⟩ (dlen.symm▸(List.getElem?_eq_some_iff.mp q).1)];exact I.inv.da j b' q
   ·unfold dJ;rw[e,ld];exact hfb b' u.symm)
  (fun gl kp i o' a q r=>by
   rw[gt i] at q;rcases rl i a r with⟨hi,r⟩|⟨e,u⟩|⟨e,u⟩
   ·rw[if_neg (show i≠C.p.N0+(n+1) from Nat.ne_of_lt (Nat.lt_succ_of_lt hi)),if_neg (Nat.ne_of_lt hi)] at q;by_cases z:∃j:Nat,R1.ρ[j]?=some a
    ·refine oE z fun j z=>?_;exact .inr ((hexp kp i j o' a q r z).mono gl (.refl h') rfl)
    ·exact .inl ⟨q,r,fun j y=>z ⟨j,y⟩⟩
   ·rw[e,if_neg (show C.p.N0+n≠C.p.N0+(n+1) from Nat.ne_of_lt (Nat.lt_succ_self _)),if_pos rfl] at q;rw[u,<-aF q];exact .inr (hro _ rfl)
   ·rw[if_pos e] at q;rw[u,<-aF q];exact .inr ⟨[x0,x1,.bool b,.ref ak],m,ho,x0,_,rfl,⟨ty,ld,D0⟩,x1,_,rfl,⟨ty,ld,D1⟩,_,_,rfl,⟨b,rfl⟩,_,_,rfl,⟨ak,lk,rfl⟩,rfl⟩) rfl) fun gl I'=>?_
 exact P (.ret (.loc (C.p.N0+(n+1)))) _ _ h' tk gl l I' e _ ⟨al,ll,rfl⟩
end
end
section
def iN(w:World)(C:Cst)(B:Heap)(g:Fun)(f:Cx->St->(Fl->St->Bool)->Ke->Option Bool):Prop:=∀(cx:Cx) (st:St) (k:Fl->St->Bool) (ke:Ke) (oU:List Env) (env:Env) (R:Rn) (A:Around) (s:Shared) (Q:Flow->Shared->Prop) (E':Value->Shared->Prop),
 CxOk C oU env R cx A->env.frame=some env.locals->gN C.p.lams env.scope g.body=true->At w C B oU env R st s.heap->f cx st k ke=some true->PF w C B oU env R s.heap s k Q->PE w C B oU env R s.heap s ke E'->
 wpAny (model C.prog w) A (execs (fU (aN C.p.lams) g.body) env) Q E' s
theorem A4{k:Bool->Bool}(h:CZ k=true)(b:Bool):k b=true:=by
 refine bZ h fun h1 h2=>?_;rcases b with _|_
 ·exact h2
 ·exact h1
theorem BS{d n:Nat}{v:SV}(e:look n (BR d).fr=some v):(n=151/\v=.loc 0)\/(n=164/\v=.int (.ofNat d)):=gT e
section
theorem mk_step{lim:Nat}(hl:lim<=7)(ih:∀r,r<lim->∀{C:Cst} {B:Heap} {n0:Nat} {F:Tr SO} {bod:bH},Sta C B K mg mb->C.p=fT n0 F bod->r<=C.td->∀(f:Nat) (g:Fun),fnMain.look f=some g->iN w C B g fun cx st k _=>gV C.p r false f cx st k)
  {C:Cst} {B:Heap} {n0:Nat} {F:Tr SO} {bod:bH} (S:Sta C B K mg mb) (hp:C.p=fT n0 F bod) (htd:lim<=C.td) (en:Bool) (f:Nat) (g:Fun) (hg:fnMain.look f=some g):iN w C B g fun cx st k _=>gV C.p lim en f cx st k:=by
 intro cx st k ke oU env R A s Q E' c hf ok I h P PX;replace h:gV C.p lim en f cx st k=some true:=h;refine bI h fun v h1 h=>bI h fun sl e1 h=>bI h fun u h2 h=>bI h fun d e2 h=>dG h fun z h=>?_;rw[loc?_is e1] at h1;rw[nat?_is e2] at h2;refine AS (aF h) fun hc hd hu h=>bZ z fun z1 z2=>?_;have hr:c5 f d<lim:=aP z2;have run:=Fm (f:=f) (d:=d) (Nat.lt_of_lt_of_le hr hl) hg;replace run:(ev (fT 0 .lf (k_ mR (c5 f d))) 1000).sts ⟨[],BQ (c5 f d),BU (c5 f d),99⟩ g.body (BR d) (uW mR (c5 f d)) dX=true:=run;generalize c5 f d=r at hr hd hu run;refine oEA (I.inv.at (eT z1)) fun a ha ro=>?_;refine oEA (I.frm) fun m hm hfr=>?_;have hρ:∀(i:Nat) (b:Addr),(⟨[a],[]⟩:Rn).ρ[i]?=some b->i=0/\b=a:=fun i b e=>by
  rcases i with _|i
  ·exact⟨rfl,(aF e).symm⟩
  ·exact nf e
 have hρ':∀(i:Nat) (b:Addr),(⟨[a],[]⟩:Rn).ρ[i]?=some b->∃j:Nat,R.ρ[j]?=some b:=fun i b e=>⟨sl,by rw[(hρ i b e).2];exact ha⟩;have sp:(C.sub 0 .lf (k_ mR r) 0 1 r false).p=fT 0 .lf (k_ mR r):=Cst.sub_p hp;have r6:r<=6:=Nat.le_of_lt_succ (Nat.lt_of_lt_of_le hr hl);refine jH (bod:=k_ mR r) (n0:=0) (F:=.lf) (lb:=0) (lu:=1) (td:=r) (fb:=false) (R1:=⟨[a],[]⟩) (st1:=BR d) (cx1:=⟨[],BQ r,BU r,99⟩) (N:=1000) (k1:=uW mR r) (ke1:=dX) S (fun i o e=>by exact nf e) (by decide)
  (fun n B' S'=>fun a' g' hg' cx st k ke oU env R A s Q E' c hf ok I h P PX=>?_) (I.low_sub hρ') hf ok
  (c.sub (aP hd) (al__3 (Nat.sub_le _ _) (by decide)) (aP hu) (al__3 (Nat.sub_le _ _) (by decide)) (.inr S.tb9) (fun n i e=>by exact nf e) fun n=>by rw[iY hc]) ?_ (by rw[sp];exact run) ?_ (PE.no s.heap)
 ·replace hg':C.p.funs.look a'=some g':=hg';rw[hp] at hg';have pe:((C.sub 0 .lf (k_ mR r) 0 1 r false).at n).p=_:=sp;replace h:(match Nat.beq a' 712 with|true=>nZ mR cx st k|false=>gV mR r false a' cx st k)=some true:=h;rcases y:Nat.beq a' 712 with _|_
  ·rw[y] at h;exact ih r hr (C:=(C.sub 0 .lf (k_ mR r) 0 1 r false).at n) S' sp (Nat.le_refl r) a' g' hg' cx st k ke oU env R A s Q E' c hf ok I (by rw[pe];exact h) P PX
  ·rw[y] at h;rw[aT y] at hg';exact kQ (C:=(C.sub 0 .lf (k_ mR r) 0 1 r false).at n) S' sp (by rw[pe];exact hg') c hf ok I (by rw[pe];exact h) P
 ·refine I.sub _ _ hρ' (fun i j b e1 e2=>by rw[(hρ i b e1).1,(hρ j b e2).1]) rfl rfl rfl (fun _ m=>nomatch m) (fun k b e=>by exact nf e) (fun i o b e q=>?_) ⟨m,hm,fun n v e=>?_⟩
  ·refine oA (hρ i b q) fun u2 u3=>?_;rw[u2] at e;rw[u3,<-aF e];exact ro
  ·rcases BS e with⟨rfl,rfl⟩|⟨rfl,rfl⟩
   ·refine fS (hfr 151 _ h1) fun x hx b hb X=>?_;rw[ha] at hb;obtain rfl:=aF hb;exact⟨x,hx,a,rfl,X⟩
   ·exact hfr 164 _ h2
 ·intro fl st1 R1 hh tk gg l J e;refine Fj (r:=r) (C1:=C.sub 0 .lf (k_ mR r) 0 1 r false) sp rfl (al__3 r6 (by decide)) J e fun li ki al ak ty x0 x1 b bs m1 m2 u4 hal hak hli hki ne ho D0 D1 hk hlen hany t1 t2 t3 hsrc=>?_;have J0:=J.inv.obj 0 _ a (by rw[sp];exact eT hsrc) (gg.at rfl);have pw:2^(r+1)<=2^lim:=Nat.pow_le_pow_right (by decide) hr;have ex:Kp s.heap hh->∀(i j:Nat) (o:SO) (b:Addr),st.get C.p i=some o->R.ρ[i]?=some b->(⟨[a],[]⟩:Rn).ρ[j]?=some b->RO w C R hh b o:=fun kp i j o b e q y=>by have u6:=(hρ j b y).2;rw[u6] at q ⊢;rw[I.inv.inj i sl a q ha,eT z1] at e;rw[<-aF e];exact J0
  have t4:iM ty<=C.td:=al__3 t1 (al__3 hr htd);rw[u4];intro x X;refine oEA X fun al' hal' u7=>?_;rw[hal] at hal';rw[u7,<-aF hal'];rcases en with _|_
  ·refine yK (o:=.kls (2^lim) false [st.da.length]) (fb:=none) (C1:=C.sub 0 .lf (k_ mR r) 0 1 r false) I rfl hρ' gg l J hal hak hli hki ne ho D0 D1 ⟨⟨t2,t3⟩,t4⟩ (fun b q=>by exact nf q) (fun R' hR'=>⟨bs,m2,al__3 hlen pw,hk,?_,fun k hk=>?_⟩) ex h P
   ·rw[hany,List.any_cons,kI,hR',<-I.inv.dlen];unfold mI;rw[List.getElem?_append_right (Nat.le_refl _),Nat.sub_self];exact(Bool.or_false _).symm
   ·rw[List.mem_singleton.mp hk,hR',<-I.inv.dlen,List.length_append];exact Nat.lt_succ_self _
  ·exact yK (o:=.kls (2^lim) (hY ty).1 []) (fb:=some (hY ty).1) (C1:=C.sub 0 .lf (k_ mR r) 0 1 r false) I rfl hρ' gg l J hal hak hli hki ne ho D0 D1 ⟨⟨t2,t3⟩,t4⟩ (fun b q=>aF q) (fun R' hR'=>⟨bs,m2,al__3 hlen pw,hk,by rw[hany];exact(Bool.or_false _).symm,fun _ m=>nomatch m⟩) ex (A4 h (hY ty).1) P
theorem Fn(w:World)(K:Frag)(mg mb:Str->Option Value)(lim:Nat):lim<=7->∀{C:Cst} {B:Heap} {n0:Nat} {F:Tr SO} {bod:bH},Sta C B K mg mb->C.p=fT n0 F bod->lim<=C.td->∀(f:Nat) (g:Fun),fnMain.look f=some g->iN w C B g fun cx st k _=>gV C.p lim false f cx st k:=by
 induction lim using Nat.strongRecOn with
|ind lim ih=>exact fun hl _ _ _ _ _ S hp htd f g hg=>mk_step hl (fun r hr=>ih r hr (by(first|lia|omega))) S hp htd false f g hg
theorem HZ{C:Cst}{B:Heap}{n0:Nat}{F:Tr SO}{bod:bH}(S:Sta C B K mg mb)(hp:C.p=fT n0 F bod)(htd:7<=C.td)(en:Bool){f:Nat}{g:Fun}(hg:fnMain.look f=some g):iN w C B g fun cx st k _=>gV C.p 7 en f cx st k:=
 mk_step (Nat.le_refl 7) (fun r hr=>Fn w K mg mb r (by(first|lia|omega))) S hp htd en f g hg
end
end
section
def mT(f:Nat->Nat)(v:SV):SV:=@SV.rec (fun _=>SV) (fun _=>List SV) .non .bol .int .str .byt .glo .typ .bif (fun i=>.loc (f i)) (fun _ y=>.tup y) (fun k cs=>.lam k (cs.map fun c=>(c.1,f c.2))) .dw .dt .scr .ub .nn [] (fun _ _ x y=>x::y) v
def vL(f:Nat->Nat)(vs:List SV):List SV:=match mT f (.tup vs) with|.tup y=>y|_=>[]
def wJ(f:Nat->Nat):SO->SO
|.lst vs=>.lst (vL f vs)
|.dct es=>.dct (es.map fun e=>(e.1,mT f e.2))
|.adc es=>.adc (es.map fun e=>(e.1,mT f e.2))
|.ins c d=>.ins c (f d)
|.cel (some v)=>.cel (some (mT f v))
|o=>o
def JY(l:List (List Nat×SV)):List (List Nat×SV)->Bool:=lR (fun m=>match m with|[]=>true|_::_=>false) (fun a _ y m=>match m with|[]=>false|b::s=>jJ a.1 b.1&&sq 30 a.2 b.2&&y s) l
def JP(l:List (Nat×SV)):List (Nat×SV)->Bool:=lR (fun m=>match m with|[]=>true|_::_=>false) (fun a _ y m=>match m with|[]=>false|b::s=>Nat.beq a.1 b.1&&sq 30 a.2 b.2&&y s) l
def JE(a b:SO):Bool:=match a with
|.lst a=>match b with
 |.lst b=>IN (sq 30) a b
 |_=>false
|.dct a=>match b with
 |.dct b=>JY a b
 |_=>false
|.adc a=>match b with
 |.adc b=>JP a b
 |_=>false
|.ins c d=>match b with
 |.ins c' d'=>Nat.beq c c'&&Nat.beq d d'
 |_=>false
|.cel a=>match b with
 |.cel b=>match a with
  |none=>match b with
   |none=>true
   |some _=>false
  |some a=>match b with
   |none=>false
   |some b=>sq 30 a b
 |_=>false
|_=>false
noncomputable def sgK:List Nat:=[0,1,2,3,27,185]
def sg(r d c0 c1 l c2 i:Nat):Nat:=(look i (sgK.zip [r,d,c0,c1,l,c2])).getD i
def Ie:List (Nat×SO):=[(0,.ins 264 1),(1,.adc [(31,.loc 5),(32,.loc 150),(48,.lam 3 [(31,185),(32,3),(33,2)])]),(2,.cel (some (.str [109]))),(3,.cel (some (.loc 150))),(4,tP 27),(27,.lls 0 false []),(185,.cel (some (.loc 5)))]
noncomputable def Mt(fr:List (Nat×SV))(nv:Nat)(ov:List (Nat×SO)):St:=⟨fr,0,[],List.replicate nv none,ov⟩
def Ms(sh:Ty)(nv:Nat):St:=Mt [(47,.loc 0),(49,Wr sh)] nv Ie
def pF(n:Nat):P:=fT n frozen nob
def gO(ov:List (Nat×SO))(F:Tr SO)(i:Nat):Option SO:=match look i ov with
|some o=>some o
|none=>F.look i
noncomputable def kG(i:Nat):Bool:=Nat.blt i 4||Nat.ble 185 i||Nat.beq i 27
noncomputable def apart:List Nat->Bool
|[]=>true
|a::r=>r.all (fun b=>!Nat.beq a b)&&apart r
def A6(p:P)(st:St)(N:Nat)(sk:Nat->Bool)(ov:List (Nat×SO))(F:Tr SO)(σ:Nat->Nat):Bool:=(List.range N).all fun i=>sk i||bO (st.get p (σ i)) fun o=>bO (gO ov F i) fun o1=>JE o (wJ σ o1)
noncomputable def hW(i:Nat):Bool:=Nat.beq i 27
def Dy(p:P)(st:St)(r d c0 c1 l c2 N:Nat)(ov:List (Nat×SO)):Bool:=[r,d,c0,c1,l,c2].all kG&&apart [r,d,c0,c1,l,c2]&&A6 p st N hW ov frozen (sg r d c0 c1 l c2)
noncomputable def lls?:SO->Option (Nat×Bool×List Nat)
|.lls m c ks=>some (m,c,ks)
|_=>none
theorem lls?_is{o:SO}{x:Nat×Bool×List Nat}(h:lls? o=some x):o=.lls x.1 x.2.1 x.2.2:=by rcases o with _|_<;>first|exact nf h|(rw[<-aF h])
noncomputable def SV.dw?:SV->Option Nat
|.dw k=>some k
|_=>none
theorem dw?_is{v:SV}{b:Nat}(h:v.dw?=some b):v=.dw b:=by rcases v with _|_<;>first|exact nf h|exact congrArg _ (aF h)
noncomputable def SV.cls?:SV->Option (List (Nat×Nat))
|.lam _ cs=>some cs
|_=>none
def y4(p:P)(st:St):Option Nat:=(st.get p 4).bind fun o=>o.adc?.bind fun es=>(look 63 es).bind SV.loc?
def y5(top:Bool)(o:Option SO):Option (Nat×Bool×List Nat):=o.bind fun o=>match lls? o with
|some x=>some x
|none=>gd top (o.lst?.bind fun vs=>gd vs.isEmpty (some (0,false,[])))
noncomputable def Cc(t:Nat):Nat:=180-10*t
noncomputable def Ce(t:Nat):Nat:=3500-300*t
noncomputable def y6(m:Nat)(c:Bool)(ks:List Nat)(n:Nat)(b:Option Bool):SO:=match b with
|some b=>.lls (m+1) (c||b) ks
|none=>.lls (m+1) c (ks++[n])
def OI(p:P)(st:St)(r:Nat):Option (Nat×Nat×Nat×Nat×Nat):=(st.get p r).bind fun o=>o.ins?.bind fun x=>(st.get p x.2).bind fun o=>o.adc?.bind fun es=>(look 48 es).bind fun v=>v.cls?.bind fun cs=>(y4 p st).bind fun l=>
 some (x.2,((nth cs 2).getD (0,0)).2,((nth cs 1).getD (0,0)).2,l,((nth cs 0).getD (0,0)).2)
def zY(p:P)(t:Nat)(top:Bool)(cx:Cx)(st:St)(k:Fl->St->Bool):Option Bool:=(look 47 st.fr).bind fun v=>v.loc?.bind fun r=>(look 49 st.fr).bind fun u=>u.dw?.bind fun n=>(OI p st r).bind fun g=>(y5 top (st.get p g.2.2.2.1)).bind fun x=>(nth st.da n).bind fun b=>
 some (Dy p st r g.1 g.2.1 g.2.2.1 g.2.2.2.1 g.2.2.2.2 186 Ie&&wD cx&&Nat.ble cx.dp (Cc t)&&Nat.ble cx.un (Ce t)&&Nat.ble x.1 2&&st.wf [] fun st=>st.set p g.2.2.2.1 (y6 x.1 x.2.1 x.2.2 n b) fun st=>k (.ret (.dt n)) st)
def oM(t:Nat):bH:=fun f cx st k _=>gd (Nat.beq f 230) (zY (pF 186) t false cx st k)
def jV(sk:Nat->Bool)(ov0 ov:List (Nat×SO)):Bool:=ov.all (fun e=>bO (look e.1 ov0) fun o=>sk e.1||JE e.2 o)&&ov0.all fun e=>(look e.1 ov).isSome
def Mb(sh:Ty)(fl:Fl)(st:St):Bool:=bO (Gj fl) fun v=>sq 20 v (Td sh)&&jV hW Ie st.ov&&bO ((look 27 st.ov).bind lls?) fun x=>Nat.ble x.1 3&&Ak (hY sh) x.2
def DA(t:Nat)(sh:Ty)(nv:Nat):Bool:=(ev (fT 186 frozen (oM (t-1))) 1000).sts ⟨[],Cc t,Ce t,99⟩ f230.body (Ms sh nv) (Mb sh) dX
noncomputable def v0:Ty:=.v 0
noncomputable def v1:Ty:=.v 1
def shapes:List (Ty×Nat):=(List.range 19).map (fun i=>(.n0 i,0))++((List.range 36).map (fun i=>(.n1 i v0,1))++(List.range 16).map fun i=>(.n2 i v0 v1,2))
noncomputable def C4(t nv:Nat):Bool:=match nv with
|0=>Nat.beq t 1
|_+1=>Nat.ble 2 t
def g_(t:Nat):Bool:=shapes.all fun x=>match C4 t x.2 with
|true=>DA t x.1 x.2
|false=>true
theorem OB:g_ 1=true:=by decide +kernel
theorem OC:g_ 2=true:=by decide +kernel
theorem OD:g_ 3=true:=by decide +kernel
theorem OE:g_ 4=true:=by decide +kernel
theorem OF:g_ 5=true:=by decide +kernel
theorem OG:g_ 6=true:=by decide +kernel
theorem OH:g_ 7=true:=by decide +kernel
theorem Ij{t:Nat}{sh:Ty}{nv:Nat}(h1:1<=t)(h7:t<=7)(hm:(sh,nv)∈shapes)(h0:nv=0->t=1)(h2:nv≠0->2<=t):DA t sh nv=true:=by
 have all:g_ t=true:=by
  rcases t with _|_|_|_|_|_|_|_|t
  ·exact absurd h1 (by decide)
  ·exact OB
  ·exact OC
  ·exact OD
  ·exact OE
  ·exact OF
  ·exact OG
  ·exact OH
  ·exact absurd h7 (Nat.not_le_of_lt (Nat.le_add_left 8 t))
 have:=aZ all _ hm;rcases nv with _|n
 ·rw[h0 rfl] at this ⊢;exact this
 ·have d:C4 t (n+1)=true:=cA (h2 (Nat.succ_ne_zero n));simp only[d] at this;exact this
end
section
theorem Cu{ty:Ty}(hs:dM false ty=true){G:Prop}(k:∀(sh:Ty) (δ:List Ty),(sh,δ.length)∈shapes->sub δ sh=ty->(∀t∈δ,iM t<iM ty/\dM false t=true)->(δ=[]->iM ty=1)->G):G:=by
 have mem:∀{n i:Nat} (f:Nat->Ty×Nat),Nat.blt i n=true->f i∈(List.range n).map f:=fun f h=>List.mem_map.mpr ⟨_,List.mem_range.mpr (aP h),rfl⟩;rcases ty with _|i|⟨i,t⟩|⟨i,t,u⟩
 ·exact ff hs
 ·exact k (.n0 i) [] (List.mem_append_left _ (mem (fun i=>(.n0 i,0)) hs)) rfl (fun _ m=>nomatch m) fun _=>rfl
 ·refine k (.n1 i v0) [t] (List.mem_append_right _ (List.mem_append_left _ (mem (fun i=>(.n1 i v0,1)) (aG hs).1))) rfl (fun x m=>?_) fun h=>nomatch h;rw[List.mem_singleton.mp m];exact⟨Nat.lt_succ_self _,(aG hs).2⟩
 ·refine Js hs fun h1 h2 h3=>?_;refine k (.n2 i v0 v1) [t,u] (List.mem_append_right _ (List.mem_append_right _ (mem (fun i=>(.n2 i v0 v1,2)) h1))) rfl (fun x m=>?_) fun h=>nomatch h;rcases bN m with e|m
  ·rw[e];exact⟨Nat.lt_succ_of_le (Nat.le_max_left _ _),h2⟩
  ·rw[List.mem_singleton.mp m];exact⟨Nat.lt_succ_of_le (Nat.le_max_right _ _),h3⟩
theorem wO:shapes.all (fun x=>(hY x.1).2.all (fun k=>Nat.blt k x.2)&&AM x.2 x.1)=true:=by decide +kernel
end
section
theorem D3{R R':Rn}(g:R.le R'){k:Nat}(hk:k<R.δ.length):mI R'.δ k=mI R.δ k:=congrArg (·.getD (Ty.n0 0)) ((g.da (List.getElem?_eq_getElem hk)).trans (List.getElem?_eq_getElem hk).symm)
mutual
noncomputable def mK(m:Nat):SV->Bool
|.loc i=>Nat.blt i m
|.tup vs=>mZ m vs
|.lam _ cs=>cs.all fun c=>Nat.blt c.2 m
|.dw _=>false
|.dt _=>false
|_=>true
noncomputable def mZ(m:Nat):List SV->Bool
|[]=>true
|v::r=>mK m v&&mZ m r
end
def qL(m:Nat):SO->Bool
|.lst vs=>mZ m vs
|.dct es=>es.all fun e=>mK m e.2
|.adc es=>es.all fun e=>mK m e.2
|.ins _ d=>Nat.blt d m
|.cel none=>true
|.cel (some v)=>mK m v
|_=>false
section
variable{R R1:Rn}{h:Heap}{f:Nat->Nat}{m:Nat}{n0:Nat}{F:Tr SO}{bod:bH}{lb lu td:Nat}{fb:Bool}
theorem zZ(hr:∀i,i<m->R1.ρ[i]?=R.ρ[f i]?){cs:List (Nat×Nat)}:∀{cl:List (Str×Addr)},cs.all (fun c=>Nat.blt c.2 m)=true->(RCl R1 cs cl↔RCl R (cs.map fun c=>(c.1,f c.2)) cl):=by
 induction cs with
|nil=>exact fun _=>Iff.rfl
|cons c r ih=>intro cl o;refine bZ o fun o1 o2=>?_;have e:=hr c.2 (aP o1);exact⟨fun x=>aY x fun a cl' e1 e2 e3=>⟨a,cl',e1,e▸e2,(ih o2).mp e3⟩,fun x=>aY x fun a cl' e1 e2 e3=>⟨a,cl',e1,e.trans e2,(ih o2).mpr e3⟩⟩
theorem lW(hr:∀i,i<m->R1.ρ[i]?=R.ρ[f i]?){v:SV}:∀{x:Value},mK m v=true->(RV C R1 h v x↔RV C R h (mT f v) x):=by
 induction v using SV.ind (Q:=fun vs=>∀xs,mZ m vs=true->(RVs C R1 h vs xs↔RVs C R h (vL f vs) xs)) with
|loc i=>intro x o;show(∃a,R1.ρ[i]?=some a/\x=.ref a)↔∃a,R.ρ[f i]?=some a/\x=.ref a;rw[hr i (aP o)]
|tup vs ih=>exact fun o=>⟨fun x=>aY x fun a xs e t r=>⟨a,xs,e,t,(ih xs o).mp r⟩,fun x=>aY x fun a xs e t r=>⟨a,xs,e,t,(ih xs o).mpr r⟩⟩
|lam k cs=>exact fun o=>⟨fun x=>dZ x fun a l cl qual c' ctv e1 e2 e3 e4 e5=>⟨a,l,cl,qual,c',ctv,e1,e2,(zZ hr o).mp e3,e4,e5⟩,fun x=>dZ x fun a l cl qual c' ctv e1 e2 e3 e4 e5=>⟨a,l,cl,qual,c',ctv,e1,e2,(zZ hr o).mpr e3,e4,e5⟩⟩
|nil xs o=>exact Iff.rfl
|cons v r ih ihs xs o=>exact⟨fun x=>aY x fun y ys e a b=>⟨y,ys,e,(ih (aG o).1).mp a,(ihs ys (aG o).2).mp b⟩,fun x=>aY x fun y ys e a b=>⟨y,ys,e,(ih (aG o).1).mpr a,(ihs ys (aG o).2).mpr b⟩⟩
|dw _=>exact fun o=>ff o
|dt _=>exact fun o=>ff o
|_=>exact fun _=>Iff.rfl
theorem FL(hr:∀i,i<m->R1.ρ[i]?=R.ρ[f i]?){vs:List SV}:∀{xs:List Value},mZ m vs=true->(RVs C R1 h vs xs↔RVs C R h (vL f vs) xs):=by
 induction vs with
|nil=>exact fun _=>Iff.rfl
|cons v r ih=>exact fun o=>⟨fun x=>aY x fun y ys e a b=>⟨y,ys,e,(lW hr (aG o).1).mp a,(ih (aG o).2).mp b⟩,fun x=>aY x fun y ys e a b=>⟨y,ys,e,(lW hr (aG o).1).mpr a,(ih (aG o).2).mpr b⟩⟩
theorem Io(hr:∀i,i<m->R1.ρ[i]?=R.ρ[f i]?){es:List (List Nat×SV)}:∀{ds:List (Str×Value)},es.all (fun e=>mK m e.2)=true->(RK C R1 h es ds↔RK C R h (es.map fun e=>(e.1,mT f e.2)) ds):=by
 induction es with
|nil=>exact fun _=>Iff.rfl
|cons v r ih=>exact fun o=>⟨fun x=>cV x fun k y ys e a b=>⟨k,y,ys,e,(lW hr (aG o).1).mp a,(ih (aG o).2).mp b⟩,fun x=>cV x fun k y ys e a b=>⟨k,y,ys,e,(lW hr (aG o).1).mpr a,(ih (aG o).2).mpr b⟩⟩
theorem Im(P:Params)(hr:∀i,i<m->R1.ρ[i]?=R.ρ[f i]?){es:List (Nat×SV)}:∀{ds:List DictEntry},es.all (fun e=>mK m e.2)=true->(RE P C R1 h (es.map fun e=>(nm e.1,e.2)) ds↔RE P C R h ((es.map fun e=>(e.1,mT f e.2)).map fun e=>(nm e.1,e.2)) ds):=by
 induction es with
|nil=>exact fun _=>Iff.rfl
|cons v r ih=>exact fun o=>⟨fun x=>dT x fun t y ys e a b=>⟨t,y,ys,e,(lW hr (aG o).1).mp a,(ih (aG o).2).mp b⟩,fun x=>dT x fun t y ys e a b=>⟨t,y,ys,e,(lW hr (aG o).1).mpr a,(ih (aG o).2).mpr b⟩⟩
theorem Dz(hr:∀i,i<m->R1.ρ[i]?=R.ρ[f i]?){a:Addr}{o:SO}(ok:qL m o=true):RO w (C.sub n0 F bod lb lu td fb) R1 h a o↔RO w C R h a (wJ f o):=by
 induction o using SO.casesOn with
|lst vs=>show(∃xs n,h.get? a=some (listOf xs.toArray n)/\RVs (C.sub n0 F bod lb lu td fb) R1 h vs xs)↔∃xs n,h.get? a=some (listOf xs.toArray n)/\RVs C R h (vL f vs) xs;simp only[oL,FL (C:=C) (h:=h) hr (show mZ m vs=true from ok)]
|dct es=>show(∃kvs,h.DictOf (strKind C.prog w) a kvs/\RK (C.sub n0 F bod lb lu td fb) R1 h es kvs)↔∃kvs,h.DictOf (strKind C.prog w) a kvs/\RK C R h (es.map fun e=>(e.1,mT f e.2)) kvs;simp only[rW,Io (C:=C) (h:=h) hr (show es.all (fun e=>mK m e.2)=true from ok)]
|adc es=>show(∃ds n,h.get? a=some (dictOf ds n)/\RE w.params (C.sub n0 F bod lb lu td fb) R1 h (es.map fun e=>(nm e.1,e.2)) ds)↔∃ds n,h.get? a=some (dictOf ds n)/\RE w.params C R h ((es.map fun e=>(e.1,mT f e.2)).map fun e=>(nm e.1,e.2)) ds;simp only[w7,Im (C:=C) (h:=h) w.params hr (show es.all (fun e=>mK m e.2)=true from ok)]
|ins c d=>show(∃b,R1.ρ[d]?=some b/\_)↔∃b,R.ρ[f d]?=some b/\_;rw[hr d (aP ok)]
|cel v=>
  rcases v with _|v
  ·exact Iff.rfl
  ·show(∃x,h.IsCell a (some x)/\RV (C.sub n0 F bod lb lu td fb) R1 h v x)↔∃x,h.IsCell a (some x)/\RV C R h (mT f v) x;simp only[kT,lW (C:=C) (h:=h) hr (show mK m v=true from ok)]
|_=>exact ff ok
end
theorem En(a:List (List Nat×SV)):∀b,JY a b=true->a=b:=by
 induction a with
|nil=>exact fun b h=>b.casesOn (motive:=fun b=>JY [] b=true->[]=b) (fun _=>rfl) (fun _ _ h=>ff h) h
|cons a r ih=>
  intro b h;rcases b with _|⟨b,s⟩
  ·exact ff h
  ·refine mJ h fun h1 h2 h3=>?_;rw[ih s h3,show a=b from Prod.ext ((eH _ _).mp h1) (hH _ _ _ h2)]
theorem DZ(a:List (Nat×SV)):∀b,JP a b=true->a=b:=by
 induction a with
|nil=>exact fun b h=>b.casesOn (motive:=fun b=>JP [] b=true->[]=b) (fun _=>rfl) (fun _ _ h=>ff h) h
|cons a r ih=>
  intro b h;rcases b with _|⟨b,s⟩
  ·exact ff h
  ·refine mJ h fun h1 h2 h3=>?_;rw[ih s h3,show a=b from Prod.ext (aT h1) (hH _ _ _ h2)]
theorem tD{a b:SO}(h:JE a b=true):a=b:=by
 induction a using SO.casesOn with
|lst a=>induction b using SO.casesOn with
 |lst b=>rw[tF (hH 30) a b h]
 |_=>exact ff h
|dct a=>induction b using SO.casesOn with
 |dct b=>rw[En a b h]
 |_=>exact ff h
|adc a=>induction b using SO.casesOn with
 |adc b=>rw[DZ a b h]
 |_=>exact ff h
|ins c d=>induction b using SO.casesOn with
 |ins c' d'=>rw[aT (aG h).1,aT (aG h).2]
 |_=>exact ff h
|cel a=>induction b using SO.casesOn with
 |cel b=>
   rcases a with _|a
   ·rcases b with _|_
    ·rfl
    ·exact ff h
   ·rcases b with _|b
    ·exact ff h
    ·rw[hH 30 a b h]
 |_=>exact ff h
|_=>exact ff h
end
section
theorem Tr.all_look{β:Type}{f:Nat->β->Bool}{k:Nat}{v:β}{t:Tr β}:t.all f=true->t.look k=some v->f k v=true:=by
 induction t with
|lf=>exact fun _ e=>nf e
|nd l a b r ih ih'=>
  intro h e;refine mJ h fun h1 h2 h3=>?_;replace e:(match Nat.beq a k with|true=>some b|false=>match Nat.blt k a with|true=>l.look k|false=>r.look k)=some v:=e;rcases z:Nat.beq a k with _|_
  ·rw[z] at e;rcases y:Nat.blt k a with _|_
   ·rw[y] at e;exact ih' h3 e
   ·rw[y] at e;exact ih h2 e
  ·rw[z] at e;rw[<-aT z,<-aF e];exact h1
def p_(_:Nat)(o:SO):Bool:=still o
theorem sN:Tr.all p_ frozen=true:=by decide +kernel
theorem iR(i:Nat)(o:SO)(e:frozen.look i=some o):still o=true:=Tr.all_look (f:=p_) sN e
theorem j2{l:List Nat}:apart l=true->l.Nodup:=by
 induction l with
|nil=>exact fun _=>.nil
|cons a r ih=>refine fun h=>List.nodup_cons.mpr ⟨fun hm=>?_,ih (aG h).2⟩;have:=aZ (aG h).1 a hm;rw[Nat.beq_refl] at this;exact ff this
theorem CQ{ks:List Nat}{i j v:Nat}:∀{vs:List Nat},vs.Nodup->(i,v)∈ks.zip vs->(j,v)∈ks.zip vs->i=j:=by
 induction ks with
|nil=>exact fun _ m=>nomatch m
|cons k ks ih=>
  intro vs nd m m';rcases vs with _|⟨x,vs⟩
  ·exact nomatch m
  ·have nd:=List.nodup_cons.mp nd;rcases bN m with e|m<;>rcases bN m' with e'|m'
   ·exact(congrArg Prod.fst e).trans (congrArg Prod.fst e').symm
   ·exact absurd ((show v=x from congrArg Prod.snd e)▸(List.of_mem_zip m').2) nd.1
   ·exact absurd ((show v=x from congrArg Prod.snd e')▸(List.of_mem_zip m).2) nd.1
   ·exact ih nd.2 m m'
theorem Ct:(List.range 186).all (fun j=>!kG j||sgK.contains j)=true:=by decide +kernel
theorem DE(r d c0 c1 l c2 i:Nat):(i,sg r d c0 c1 l c2 i)∈sgK.zip [r,d,c0,c1,l,c2]\/(sgK.contains i=false/\sg r d c0 c1 l c2 i=i):=by
 unfold sg;rcases q:look i (sgK.zip [r,d,c0,c1,l,c2]) with _|v
 ·refine .inr ⟨?_,rfl⟩;rcases z:sgK.contains i with _|_
  ·rfl
  ·have no:∀{ks:List Nat} {vs:List Nat},ks.length<=vs.length->look i (ks.zip vs)=none->i∉ks:=by
    intro ks;induction ks with
   |nil=>exact fun _ _ m=>nomatch m
   |cons k ks ih=>
     intro vs hl q m;rcases vs with _|⟨x,vs⟩
     ·exact absurd hl (Nat.not_succ_le_zero _)
     ·by_cases y:k=i
      ·rw[y] at q;exact nf ((show look i ((i,x)::ks.zip vs)=_ from cL i x _).symm.trans q).symm
      ·exact ih (Nat.le_of_succ_le_succ hl) ((cF y x _).symm.trans q) ((bN m).resolve_left (Ne.symm y))
   exact absurd (List.contains_iff_mem.mp z) (no (vs:=[r,d,c0,c1,l,c2]) (Nat.le_refl 6) q)
 ·exact .inl (look_mem q)
theorem Am{r d c0 c1 l c2:Nat}(hs:[r,d,c0,c1,l,c2].all kG=true)(ha:apart [r,d,c0,c1,l,c2]=true){i j:Nat}(hi:i<186)(hj:j<186)(e:sg r d c0 c1 l c2 i=sg r d c0 c1 l c2 j):i=j:=by
 have no:∀{i j:Nat},j<186->(i,j)∈sgK.zip [r,d,c0,c1,l,c2]->sgK.contains j=false->False:=fun{i j} hj m q=>by have a:=aZ Ct j (List.mem_range.mpr hj);rw[aZ hs _ (List.of_mem_zip m).2,q] at a;exact ff a
 rcases DE r d c0 c1 l c2 i with m|⟨n,q⟩<;>rcases DE r d c0 c1 l c2 j with m'|⟨n',q'⟩
 ·exact CQ (j2 ha) m (e▸m')
 ·exact(no hj ((e.trans q')▸m) n').elim
 ·exact(no hi ((e.symm.trans q)▸m') n).elim
 ·exact(q.symm.trans e).trans q'
section
variable{h:Heap}
theorem BM{o:SO}{top:Bool}{x:Nat×Bool×List Nat}(h:gd top (o.lst?.bind fun vs=>gd vs.isEmpty (some (0,false,[])))=some x):top=true/\o=.lst []/\x=(0,false,[]):=
 dG h fun t h=>bI h fun vs e h=>dG h fun z h=>⟨t,by rw[lst?_is e,pH z],(aF h).symm⟩
theorem y7{top:Bool}{o:Option SO}{a:Addr}{x:Nat×Bool×List Nat}(e:y5 top o=some x)(H:∀x,o=some x->RO w C R h a x)(ht:top=true->C.fb=false){G:Prop}
  (k:∀(is:List Nat) (xs:List Value) (n:Nat),xs.length<=C.lb+x.1*C.lu->h.get? a=some (listOf xs.toArray n)->RDs h (is.map fun i=>.tup [cB i,.int 0]) xs->is.any bP=(C.fb||(x.2.1||x.2.2.any (dJ R)))->(∀k∈x.2.2,k<R.δ.length)->G):G:=by
 refine bI e fun o' ho e=>?_;have H:=H o' ho;rcases q:lls? o' with _|y
 ·simp only[q] at e;refine s8 (BM e) fun t u u2=>?_;rw[u] at H;rw[u2] at k;refine cX H fun xs n ho rs=>?_;rw[show xs=[] from rs] at ho;exact k [] [] n (Nat.zero_le _) ho rfl (by rw[ht t];rfl) fun _ m=>nomatch m
 ·simp only[q] at e;rw[lls?_is q] at H;rw[<-aF e] at k;exact eV H k
end
theorem look230:fnMain.look 230=some f230:=by rfl
theorem kK{p:P}{st:St}{N:Nat}{sk:Nat->Bool}{ov:List (Nat×SO)}{F:Tr SO}{σ:Nat->Nat}(hc:(List.range N).all (fun i=>sk i||bO (gO ov F i) (qL N))=true)(h:A6 p st N sk ov F σ=true){i:Nat}(hi:i<N)(hs:sk i=false) :
  ∃o,gO ov F i=some o/\qL N o=true/\st.get p (σ i)=some (wJ σ o):=by
 have a:=aZ h i (List.mem_range.mpr hi);have b:=aZ hc i (List.mem_range.mpr hi);rw[hs] at a b;refine dO a fun o e1 a=>dO a fun o1 e2 a=>dO b fun o2 e3 b=>?_;rw[e2] at e3;exact⟨o1,e2,aF e3▸b,by rw[e1,tD a]⟩
theorem tA{sk:Nat->Bool}{ov0 ov:List (Nat×SO)}{F:Tr SO}(h:jV sk ov0 ov=true){i:Nat}(hs:sk i=false){o:SO}(e:gO ov0 F i=some o):gO ov F i=some o:=by
 refine bZ h fun k1 k2=>?_;delta gO at e ⊢;rcases q:look i ov with _|o'
 ·rcases q2:look i ov0 with _|o2
  ·rw[q2] at e;exact e
  ·have:=aZ k2 _ (look_mem q2);rw[q] at this;exact ff this
 ·refine dO (aZ k1 _ (look_mem q)) fun o2 q2 y=>?_;rw[hs] at y;rw[q2] at e;exact(congrArg some (tD y)).trans e
theorem pS(R:Rn)(δ:List Ty){N:Nat}{σ:Nat->Nat}(adr:∀i,i<N->∃a,R.ρ[σ i]?=some a){G:Prop}(k:∀R1:Rn,R1.ρ.length=N->R1.δ=δ->(∀i,i<N->R1.ρ[i]?=R.ρ[σ i]?)->G):G:=
 k ⟨(List.range N).map fun i=>(R.ρ[σ i]?).getD 0,δ⟩ (by rw[List.length_map,List.length_range]) rfl fun i hi=>by refine oE (adr i hi) fun a ha=>?_;show((List.range N).map fun i=>(R.ρ[σ i]?).getD 0)[i]?=_;rw[List.getElem?_map,List.getElem?_range hi,ha];exact congrArg (fun o:Option Addr=>some (o.getD 0)) ha
structure Sw(C:Cst) (R R1:Rn) (st:St) (N:Nat) (σ:Nat->Nat) (sk:Nat->Bool) (O:Nat->Option SO):Prop where
 len:R1.ρ.length=N
 on:∀i,i<N->R1.ρ[i]?=R.ρ[σ i]?
 inj:∀i j,i<N->j<N->σ i=σ j->i=j
 fk:∀i,i<N->sk i=false->∃o,O i=some o/\qL N o=true/\st.get C.p (σ i)=some (wJ σ o)
section
variable{R R1:Rn}{h:Heap}{N:Nat}{σ:Nat->Nat}{sk:Nat->Bool}{O:Nat->Option SO}{n0:Nat}{F:Tr SO}{bod:bH}{lb lu td:Nat}{fb:Bool}{i j:Nat}{a:Addr}{o:SO}
theorem Sw.lt(W:Sw C R R1 st N σ sk O)(e:R1.ρ[i]?=some a):i<N:=W.len▸(List.getElem?_eq_some_iff.mp e).1
theorem Sw.to(W:Sw C R R1 st N σ sk O)(e:R1.ρ[i]?=some a):R.ρ[σ i]?=some a:=(W.on i (W.lt e)).symm.trans e
theorem Sw.old(W:Sw C R R1 st N σ sk O)(i:Nat)(a:Addr)(e:R1.ρ[i]?=some a):∃j:Nat,R.ρ[j]?=some a:=⟨σ i,W.to e⟩
theorem Sw.one(W:Sw C R R1 st N σ sk O)(I:At w C B oU env R st h)(i j:Nat)(a:Addr)(e1:R1.ρ[i]?=some a)(e2:R1.ρ[j]?=some a):i=j:=W.inj i j (W.lt e1) (W.lt e2) (I.inv.inj _ _ a (W.to e1) (W.to e2))
theorem Sw.obj(W:Sw C R R1 st N σ sk O)(I:At w C B oU env R st h)(hs:sk i=false)(q:O i=some o)(e:R1.ρ[i]?=some a):RO w (C.sub n0 F bod lb lu td fb) R1 h a o:=
 oEAA (W.fk i (W.lt e) hs) fun o1 h1 h2 h3=>by rw[h1] at q;rw[<-aF q];exact(Dz W.on h2).mpr (I.inv.obj _ _ a h3 (W.to e))
theorem Sw.on'(W:Sw C R R1 st N σ sk O){R1':Rn}(g:R1.le R1')(i:Nat)(hi:i<N):R1'.ρ[i]?=R.ρ[σ i]?:=by have e:=List.getElem?_eq_getElem (l:=R1.ρ) (i:=i) (W.len.symm▸hi);rw[<-W.on i hi,e];exact g.at e
theorem Sw.back(W:Sw C R R1 st N σ sk O)(I:At w C B oU env R st h){R1':Rn}{st1:St}{hh B1:Heap}(g:R1.le R1')(J:At w (C.sub n0 F bod lb lu td fb) B1 oU env R1' st1 hh)(keep:∀o,O j=some o->st1.get (C.sub n0 F bod lb lu td fb).p j=some o)
  (e:st.get C.p i=some o) (q:R.ρ[i]?=some a) (x:R1.ρ[j]?=some a) (hs:sk j=false):RO w C R hh a o:=
 oEAA (W.fk j (W.lt x) hs) fun o1 h1 h2 h3=>by rw[I.inv.inj i (σ j) a q (W.to x),h3] at e;rw[<-aF e];exact(Dz (W.on' g) h2).mp (J.inv.obj j o1 a (keep o1 h1) (g.at x))
end
end
section
def DR(w:World)(K:Frag)(mg mb:Str->Option Value)(t:Nat):Prop:=∀{C:Cst} {B:Heap} {n0:Nat} {F:Tr SO} {bod:bH},Sta C B K mg mb->C.p=fT n0 F bod->C.td<=t->3^C.td<=C.lu->∀top:Bool,(top=true->C.fb=false)->∀g,fnMain.look 230=some g->
 iN w C B g fun cx st k _=>zY C.p t top cx st k
theorem D5{nv:Nat}{sh:Ty}(hm:(sh,nv)∈shapes):(∀k∈(hY sh).2,k<nv)/\AM nv sh=true:=by refine oA (aG (aZ wO _ hm)) fun h1 h2=>?_;exact⟨fun k hk=>aP (aZ h1 k hk),h2⟩
theorem rO{ty:Ty}(h:dM false ty=true):∃u,iM ty=u+1:=by
 rcases ty with _|_|_|_
 ·exact ff h
 ·exact⟨0,rfl⟩
 ·exact⟨_,rfl⟩
 ·exact⟨_,rfl⟩
theorem Il:(List.range 186).all (fun i=>hW i||bO (gO Ie frozen i) (qL 186))=true:=by decide +kernel
theorem Ir{lb lu m a:Nat}(h:lb+4*lu<=8388608)(hm:m<=2)(ha:3*a<=lu):lb+m*lu+4*a<=8388608:=
 al__3 (Nat.add_le_add (Nat.add_le_add_left (Nat.mul_le_mul_right lu hm) lb) (al__3 (Nat.mul_assoc 2 3 a▸Nat.mul_le_mul_right a (by decide:4<=2*3)) (Nat.mul_le_mul_left 2 ha))) (by rw[Nat.add_assoc,<-Nat.add_mul];exact h)
theorem hV{i:Nat}(h:hW i=true):i=27:=aT h
theorem HN{lb lu m n a x:Nat}(h:x<=lb+m*lu+n*a)(hn:n<=3)(ha:3*a<=lu):x<=lb+(m+1)*lu:=
 al__3 h (by rw[Nat.succ_mul,<-Nat.add_assoc];exact Nat.add_le_add_left (al__3 (Nat.mul_le_mul_right a hn) ha) _)
section
theorem Cf{t:Nat}(ht:t<=7)(ih:∀r,r<t->DR w K mg mb r):DR w K mg mb t:=by
 intro C B n0 F bod S hp htd hlu top htop g hg cx st k ke oU env R A s Q E' c hf ok I h P PX;rw[<-aF (look230.symm.trans hg)] at ok ⊢;refine bI h fun v h47 h=>bI h fun r e1 h=>bI h fun u h49 h=>bI h fun n e2 h=>bI h fun g _ h=>bI h fun x hl h=>bI h fun b hb h=>?_;rw[loc?_is e1] at h47;rw[dw?_is e2] at h49;refine GI (aF h) fun hchk hnc hdp hun hm2 hk=>mJ hchk fun hsp hap hall=>?_;have σ27:sg r g.1 g.2.1 g.2.2.1 g.2.2.2.1 g.2.2.2.2 27=g.2.2.2.1:=rfl;have σ0:sg r g.1 g.2.1 g.2.2.1 g.2.2.2.1 g.2.2.2.2 0=r:=rfl;have inj:=fun(i j:Nat) (hi:i<186) (hj:j<186)=>Am hsp hap hi hj;generalize sg r g.1 g.2.1 g.2.2.1 g.2.2.2.1 g.2.2.2.2=σ at hall σ27 σ0 inj;generalize g.2.2.2.1=l at hl hk σ27;refine bI (id hl) fun ol hol _=>oEA (I.inv.at hol) fun a27 ha27 rol=>?_;refine y7 hl (fun y hy=>aF (hol.symm.trans hy)▸rol) htop fun is ks1 nn hlen hget hrds hbad hkb=>?_;have fk:=fun(i:Nat) (hi:i<186) (h27:hW i=false)=>kK Il hall hi h27;have adr:∀i,i<186->∃a,R.ρ[σ i]?=some a:=fun i hi=>by
  rcases z:hW i with _|_
  ·exact oEAA (fk i hi z) fun o _ _ e=>oEA (I.inv.at e) fun a ha _=>⟨a,ha⟩
  ·rw[hV z,σ27];exact⟨a27,ha27⟩
 have hnd:st.da[n]?=some b:=(bS _ _).symm.trans hb;have hnl:n<R.δ.length:=by rw[I.inv.dlen];exact(List.getElem?_eq_some_iff.mp hnd).1
 have hty:=List.getElem?_eq_getElem hnl;generalize R.δ[n]=ty at hty;refine oA (I.inv.dD ty (List.mem_of_getElem? hty)) fun u3 ty3=>?_;have ty2:=u3.2;refine Cu ty2 fun sh δ hsh hS hδ hd0=>?_;have hvok:=(D5 hsh).2;refine oE (rO ty2) fun u hu=>?_;rw[hu] at ty3 hd0;have ut:u<t:=al__3 ty3 htd;have run:(ev (fT 186 frozen (oM u)) 1000).sts ⟨[],Cc (u+1),Ce (u+1),99⟩ f230.body (Ms sh δ.length) (Mb sh) dX=true:=Ij (t:=u+1) (Nat.succ_pos u) (al__3 ut ht) hsh (fun z=>hd0 (List.length_eq_zero_iff.mp z)) fun z=>by
  rcases δ with _|⟨t1,_⟩
  ·exact absurd rfl z
  ·refine oE (rO (hδ t1 (.head _)).2) fun v hv=>?_;have:=(hδ t1 (.head _)).1;rw[hv,hu] at this;exact al__3 (Nat.succ_le_succ (Nat.succ_le_succ (Nat.zero_le v))) this
 refine pS R δ adr fun R1 l1 d1 hr=>?_;have W:Sw C R R1 st 186 σ hW (gO Ie frozen):=⟨l1,hr,inj,fk⟩;refine oEA (I.frm) fun mf hmf hfr=>?_;have p3:3*3^u<=C.lu:=Nat.mul_comm 3 _▸al__3 (Nat.pow_le_pow_right (Nat.succ_pos 2) ty3) hlu;have p1:1<=3^u:=Nat.pow_pos (Nat.succ_pos 2);have hm2:=aP hm2;have r1:=Ir S.room.lb hm2 p3;generalize hlb:C.lb+x.1*C.lu=lb1 at hlen r1;generalize hfb:(C.fb||(x.2.1||x.2.2.any (dJ R)))=fb1 at hbad;have sp:(C.sub 186 frozen (oM u) lb1 (3^u) u fb1).p=fT 186 frozen (oM u):=Cst.sub_p hp;have gp:∀(st:St) i,i<186->st.get (C.sub 186 frozen (oM u) lb1 (3^u) u fb1).p i=gO st.ov frozen i:=fun st i hi=>by rw[sp];exact fK hi
 refine jH (bod:=oM u) (n0:=186) (F:=frozen) (lb:=lb1) (lu:=3^u) (td:=u) (fb:=fb1) (R1:=R1) (st1:=Ms sh δ.length) (cx1:=⟨[],Cc (u+1),Ce (u+1),99⟩) (N:=1000) (k1:=Mb sh) (ke1:=dX) S iR ⟨r1,p1⟩
  (fun nn' B' S'=>fun a' g' hg' cx st k ke oU env R A s Q E' c hf ok I h P PX=>dG h fun y h=>?_) (I.low_sub W.old) hf ok
  (c.sub (al__3 (aP hdp) (Nat.sub_le_sub_left (Nat.mul_le_mul_left 10 ut) 180)) (al__3 (Nat.sub_le _ _) (by decide)) (al__3 (aP hun) (Nat.sub_le_sub_left (Nat.mul_le_mul_left 300 ut) 3500)) (al__3 (Nat.sub_le _ _) (by decide)) (.inr S.tb9) (fun n i e=>by exact nf e) fun n=>by rw[iY hnc])
  ?_ (by rw[sp];exact run) ?_ (PE.no s.heap)
 ·have pe:((C.sub 186 frozen (oM u) lb1 (3^u) u fb1).at nn').p=_:=sp;replace hg':C.p.funs.look a'=some g':=hg';rw[hp,aT y] at hg';exact ih u ut (C:=(C.sub 186 frozen (oM u) lb1 (3^u) u fb1).at nn') S' sp (Nat.le_refl u) (Nat.le_refl _) false (fun z=>ff z) g' hg' cx st k ke oU env R A s Q E' c hf ok I (by rw[pe];exact h) P PX
 ·refine I.sub R1 _ W.old (W.one I) l1 rfl (by rw[d1];exact List.length_replicate.symm) (fun t hm=>?_) (fun k b e=>?_) (fun i o a q e=>?_) ⟨mf,hmf,fun n v e=>?_⟩
  ·rw[d1] at hm;have h1:=hδ t hm;rw[hu] at h1;exact⟨⟨al__3 (Nat.le_of_lt_succ h1.1) (Nat.le_of_succ_le (al__3 (hu▸u3.1) (by decide))),h1.2⟩,Nat.le_of_lt_succ h1.1⟩
  ·exact nf (List.eq_of_mem_replicate (List.mem_of_getElem? e)).symm
  ·have hi:=W.lt e;rw[gp _ i hi] at q;rcases z:hW i with _|_
   ·exact W.obj I z q e
   ·have e:=W.to e;rw[hV z] at q e;rw[σ27,ha27] at e;rw[<-aF (show some (SO.lls 0 false [])=some o from q),<-aF e];exact⟨is,ks1,nn,by rw[Nat.zero_mul];exact hlen,hget,hrds,by rw[hbad];exact(Bool.or_false fb1).symm,fun _ m=>nomatch m⟩
  ·rcases gT e with⟨rfl,rfl⟩|⟨rfl,rfl⟩
   ·refine fS (hfr 47 _ h47) fun x hx a ha X=>?_;exact⟨x,hx,a,by rw[hr 0 (by decide),σ0];exact ha,X⟩
   ·refine fS (hfr 49 _ h49) fun x hx ty' hty' X=>?_;refine⟨x,hx,RD.rv (by rw[d1];exact uE sh hvok) ?_⟩;rw[d1,vP,hS,aF (hty.symm.trans hty')];exact X
 ·intro fl st1 R1' hh tk gg ll J e;refine dO e fun v ev e=>mJ e fun q1 q2' e=>dO e fun y ey e=>bZ e fun q4 q5=>bI ey fun o27 h27 ey=>?_;rw[lF ev,hH _ _ _ q1];have hr':=W.on' gg;have hsub:sub R1'.δ sh=ty:=(CB (fun k hk=>by rw[<-d1];exact D3 gg (by rw[d1];exact hk)) sh hvok).trans hS;refine eV (J.inv.obj 27 (.lls y.1 y.2.1 y.2.2) a27 (by rw[gp _ 27 (by decide)];delta gO;rw[h27,lls?_is ey]) (by rw[hr' 27 (by decide),σ27];exact ha27)) fun is' xs' nn' hlen' hget' hrds' hbad'=>fun _=>?_;have hbn:dJ R n=(hY ty).1:=by rw[kI,show mI R.δ n=ty from congrArg (·.getD (Ty.n0 0)) hty]
  have hbad':is'.any bP=(fb1||dJ R n):=by rw[show is'.any bP=(fb1||(y.2.1||y.2.2.any (dJ R1'))) from hbad',<-rJ q5 (dJ R1'),hbn,<-hsub,tS];exact congrArg (fun f=>(fb1||((hY sh).1||(hY sh).2.any f))) (funext fun k=>kI R1' k)
  have l5:xs'.length<=C.lb+(x.1+1)*C.lu:=HN (hlb▸hlen') (aP q4) p3;have up:RO w C R hh a27 (y6 x.1 x.2.1 x.2.2 n b):=by
   rcases b with _|b
   ·refine⟨is',xs',nn',l5,hget',hrds',?_,fun k hk=>?_⟩
    ·rw[hbad',<-hfb,List.any_append,Bool.or_assoc,Bool.or_assoc];exact congrArg (fun z=>C.fb||(x.2.1||(x.2.2.any (dJ R)||z))) (Bool.or_false _).symm
    ·rcases List.mem_append.mp hk with hk|hk
     ·exact hkb k hk
     ·rw[List.mem_singleton.mp hk];exact hnl
   ·refine⟨is',xs',nn',l5,hget',hrds',?_,hkb⟩;rw[hbad',I.inv.da n b hnd,<-hfb,Bool.or_assoc,Bool.or_assoc,Bool.or_assoc];exact congrArg (fun z=>C.fb||(x.2.1||z)) (Bool.or_comm _ _)
  refine dF (p:=C.p) (st:={st with fr:=[]}) I.inv.olen (dN hk) fun st' q1 q2 q3 q4 q5 q6=>?_;have I':=(At.ret (news:=[]) (δ':=[]) (R':=R) (st':=st') (C1:=C.sub 186 frozen (oM u) lb1 (3^u) u fb1) I rfl W.old gg ll J (by rw[List.append_nil,List.append_nil]) (fun _ m=>nomatch m) .nil (by rw[q3];exact I.inv.len) q4 (by rw[q5];exact I.inv.dlen) (fun _ m=>nomatch m)
   (fun k b e=>I.inv.da k b (by rw[q5] at e;exact e)) (fun _ kp i o a q y=>by
    rw[q6] at q;by_cases z:i=l
    ·rw[if_pos z] at q;rw[z] at y;rw[<-aF q,<-aF (ha27.symm.trans y)];exact .inr up
    ·rw[if_neg z] at q;by_cases x:∃j:Nat,R1.ρ[j]?=some a
     ·refine oE x fun j x=>?_;have j27:hW j=false:=Bool.eq_false_iff.mpr fun w=>z (by rw[I.inv.inj i (σ j) a y (W.to x),hV w,σ27]);exact .inr (W.back I gg J (fun o1 h1=>by rw[gp _ j (W.lt x)];exact tA q2' j27 h1) q y x j27)
     ·exact .inl ⟨q,y,fun j w=>x ⟨j,w⟩⟩) q2).2
  intro x X;rw[kT] at X;have D:=X.data (n:=δ.length) (uD sh hvok);rw[vO,hsub] at D;exact P (.ret (.dt n)) st' R hh tk (.refl R) ll I' q1 x ⟨ty,hty,D⟩
theorem FJ(w:World)(K:Frag)(mg mb:Str->Option Value)(t:Nat):t<=7->DR w K mg mb t:=by
 induction t using Nat.strongRecOn with
|ind t ih=>exact fun ht=>Cf ht fun r hr=>ih r hr (al__3 (Nat.le_of_lt hr) ht)
end
end
section
def Ic:List (Nat×SO):=[(0,mU),(1,.cel (some (.loc 5))),(2,.cel (some (.loc 150))),(3,.cel none),(4,tP 27),(27,.lls 0 false [])]
def Mq:St:=Mt [(151,.loc 0)] 0 Ic
noncomputable def Lw(x:Nat×Bool×List Nat):Bool:=Nat.beq x.1 0&&(!x.2.1&&x.2.2.isEmpty)
theorem yT{x:Nat×Bool×List Nat}(h:Lw x=true):x=(0,false,[]):=by
 refine Js h fun h1 h2 h3=>?_;rcases x with⟨n,b,ks⟩;rw[show n=0 from aT h1,show ks=[] from pH h3];rcases b with _|_
 ·rfl
 ·exact ff h2
noncomputable def JX(k1 k2 k3:Nat)(cl:List (Nat×Nat)):Option (Nat×Nat×Nat):=match cl with
|[]=>none
|x::r=>match r with
 |[]=>none
 |y::r=>match r with
  |[]=>none
  |z::r=>gd (r.isEmpty&&Nat.beq x.1 k1&&Nat.beq y.1 k2&&Nat.beq z.1 k3) (some (z.2,y.2,x.2))
theorem xQ{k1 k2 k3:Nat}{cl:List (Nat×Nat)}{c:Nat×Nat×Nat}(h:JX k1 k2 k3 cl=some c):cl=[(k1,c.2.2),(k2,c.2.1),(k3,c.1)]:=by
 rcases cl with _|⟨x,_|⟨y,_|⟨z,r⟩⟩⟩
 ·exact nf h
 ·exact nf h
 ·exact nf h
 ·refine dG h fun q h=>AS q fun q1 q2 q3 q4=>?_;rw[<-aF h,pH q1,<-aT q2,<-aT q3,<-aT q4]
noncomputable def NB(i:Nat):Bool:=Nat.beq i 27||Nat.beq i 3
def GK(p:P)(cx:Cx)(st:St)(k:Fl->St->Bool):Option Bool:=(look 151 st.fr).bind fun v=>v.loc?.bind fun s=>(JX 166 32 31 cx.cl).bind fun c=>(y4 p st).bind fun l=>(y5 true (st.get p l)).bind fun x=>gd (Lw x)
 (some (Dy p st s c.1 c.2.1 c.2.2 l 185 185 Ic&&Nat.ble cx.dp 150&&Nat.ble cx.un 2500&&Nat.beq cx.tb 5&&st.wf [] fun st=>st.set p c.2.2 .src fun st=>st.set p l (.lls 0 false []) fun st=>k (.ret (.bol true)) st))
def oO:bH:=fun f cx st k _=>gd (Nat.beq f 712) (nZ (pF 185) cx st k)
def JS(fl:Fl)(st:St):Bool:=bO (Gj fl) fun v=>sq 2 v (.bol true)&&jV NB Ic st.ov&&bO ((look 27 st.ov).bind lls?) Lw
def FN:Bool:=(ev (fT 185 frozen oO) 1000).sts ⟨[(166,3),(32,2),(31,1)],150,2500,5⟩ f794.body Mq JS dX
theorem AZ:FN=true:=by decide +kernel
theorem GN:(List.range 185).all (fun i=>hW i||bO (gO Ic frozen i) (qL 185))=true:=by decide +kernel
theorem look794:fnMain.look 794=some f794:=by rfl
theorem iG{β:Type}{n a b d:Nat}{x y z v:β}(e:look n [(a,x),(b,y),(d,z)]=some v):(n=a/\v=x)\/(n=b/\v=y)\/(n=d/\v=z):=by
 rcases bN (look_mem e) with q|m
 ·exact .inl ⟨congrArg Prod.fst q,congrArg Prod.snd q⟩
 ·rcases bN m with q|m
  ·exact .inr (.inl ⟨congrArg Prod.fst q,congrArg Prod.snd q⟩)
  ·have q:=List.mem_singleton.mp m;exact .inr (.inr ⟨congrArg Prod.fst q,congrArg Prod.snd q⟩)
theorem uT{n a b d x y z x' y' z':Nat}:(look n [(a,x),(b,y),(d,z)]).isSome=(look n [(a,x'),(b,y'),(d,z')]).isSome:=by
 by_cases q:a=n
 ·rw[q,cL,cL];rfl
 ·rw[cF q,cF q];by_cases q:b=n
  ·rw[q,cL,cL];rfl
  ·rw[cF q,cF q];by_cases q:d=n
   ·rw[q,cL,cL];rfl
   ·rw[cF q,cF q]
section
theorem D6{C:Cst}{B:Heap}{n0:Nat}{F:Tr SO}{bod:bH}(S:Sta C B K mg mb)(hp:C.p=fT n0 F bod)(htop:C.fb=false){g:Fun}(hg:fnMain.look 794=some g):iN w C B g fun cx st k _=>GK C.p cx st k:=by
 intro cx st k ke oU env R A s Q E' c hf ok I h P PX;rw[<-aF (look794.symm.trans hg)] at ok ⊢;refine bI h fun v h151 h=>bI h fun sl e1 h=>bI h fun c3 e2 h=>bI h fun l _ h=>bI h fun x hl h=>dG h fun he h=>?_;rw[loc?_is e1] at h151;rw[yT he] at hl;have hcl:=xQ e2;refine M0 (aF h) fun hchk hdp hun htb hk=>mJ hchk fun hsp hap hall=>?_;have htb:=aT htb;have σ27:sg sl c3.1 c3.2.1 c3.2.2 l 185 27=l:=rfl;have σ0:sg sl c3.1 c3.2.1 c3.2.2 l 185 0=sl:=rfl;have σ1:sg sl c3.1 c3.2.1 c3.2.2 l 185 1=c3.1:=rfl;have σ2:sg sl c3.1 c3.2.1 c3.2.2 l 185 2=c3.2.1:=rfl;have σ3:sg sl c3.1 c3.2.1 c3.2.2 l 185 3=c3.2.2:=rfl;have inj:=fun(i j:Nat) (hi:i<185) (hj:j<185)=>Am hsp hap (Nat.lt_succ_of_lt hi) (Nat.lt_succ_of_lt hj);generalize sg sl c3.1 c3.2.1 c3.2.2 l 185=σ at hall σ27 σ0 σ1 σ2 σ3 inj;refine bI (id hl) fun ol hol _=>oEA (I.inv.at hol) fun a27 ha27 rol=>?_;refine y7 hl (fun y hy=>aF (hol.symm.trans hy)▸rol) (fun _=>htop) fun is ks1 nn hlen hget hrds hbad _=>?_;have fk:=fun(i:Nat) (hi:i<185) (h27:hW i=false)=>kK GN hall hi h27;have adr:∀i,i<185->∃a,R.ρ[σ i]?=some a:=fun i hi=>by
  rcases z:hW i with _|_
  ·exact oEAA (fk i hi z) fun o _ _ e=>oEA (I.inv.at e) fun a ha _=>⟨a,ha⟩
  ·rw[hV z,σ27];exact⟨a27,ha27⟩
 have run:(ev (fT 185 frozen oO) 1000).sts ⟨[(166,3),(32,2),(31,1)],150,2500,5⟩ f794.body Mq JS dX=true:=AZ;refine pS R [] adr fun R1 l1 d1 hr=>?_;have W:Sw C R R1 st 185 σ hW (gO Ic frozen):=⟨l1,hr,inj,fk⟩;refine oEA (I.frm) fun mf hmf hfr=>?_;have sp:(C.sub 185 frozen oO C.lb C.lu 0 C.fb).p=fT 185 frozen oO:=Cst.sub_p hp;have gp:∀(st:St) i,i<185->st.get (C.sub 185 frozen oO C.lb C.lu 0 C.fb).p i=gO st.ov frozen i:=fun st i hi=>by rw[sp];exact fK hi
 refine jH (bod:=oO) (n0:=185) (F:=frozen) (lb:=C.lb) (lu:=C.lu) (td:=0) (fb:=C.fb) (R1:=R1) (st1:=Mq) (cx1:=⟨[(166,3),(32,2),(31,1)],150,2500,5⟩) (N:=1000) (k1:=JS) (ke1:=dX) S iR ⟨S.room.lb,S.room.lu⟩
  (fun nn' B' S'=>fun a' g' hg' cx st k ke oU env R A s Q E' c hf ok I h P PX=>dG h fun y h=>?_) (I.low_sub W.old) hf ok
  (c.sub (aP hdp) (by decide) (aP hun) (by decide) (.inl htb.symm) (fun n i e=>?_) fun n=>?_)
  ?_ (by rw[sp];exact run) ?_ (PE.no s.heap)
 ·have pe:((C.sub 185 frozen oO C.lb C.lu 0 C.fb).at nn').p=_:=sp;replace hg':C.p.funs.look a'=some g':=hg';rw[hp,aT y] at hg';exact kQ (C:=(C.sub 185 frozen oO C.lb C.lu 0 C.fb).at nn') S' sp (by rw[pe];exact hg') c hf ok I (by rw[pe];exact h) P
 ·rcases iG e with⟨rfl,rfl⟩|⟨rfl,rfl⟩|⟨rfl,rfl⟩
  ·refine oE (adr 3 (by decide)) fun a ha=>?_;exact⟨a,c3.2.2,by rw[hr 3 (by decide)];exact ha,by rw[hcl];rfl,by rw[<-σ3];exact ha⟩
  ·refine oE (adr 2 (by decide)) fun a ha=>?_;exact⟨a,c3.2.1,by rw[hr 2 (by decide)];exact ha,by rw[hcl];rfl,by rw[<-σ2];exact ha⟩
  ·refine oE (adr 1 (by decide)) fun a ha=>?_;exact⟨a,c3.1,by rw[hr 1 (by decide)];exact ha,by rw[hcl];rfl,by rw[<-σ1];exact ha⟩
 ·rw[hcl];exact uT
 ·refine I.sub R1 _ W.old (W.one I) l1 rfl (by rw[d1];rfl) (fun t hm=>by rw[d1] at hm;exact nomatch hm) (fun k b e=>nf e) (fun i o a q e=>?_) ⟨mf,hmf,fun n v e=>?_⟩
  ·have hi:=W.lt e;rw[gp _ i hi] at q;rcases z:hW i with _|_
   ·exact W.obj I z q e
   ·have e:=W.to e;rw[hV z] at q e;rw[σ27,ha27] at e;rw[<-aF (show some (SO.lls 0 false [])=some o from q),<-aF e];exact⟨is,ks1,nn,hlen,hget,hrds,hbad,fun _ m=>nomatch m⟩
  ·have q:=List.mem_singleton.mp (look_mem (l:=[(151,SV.loc 0)]) e);rw[show n=151 from congrArg Prod.fst q,show v=.loc 0 from congrArg Prod.snd q];refine fS (hfr 151 _ h151) fun x hx a ha X=>?_;exact⟨x,hx,a,by rw[hr 0 (by decide),σ0];exact ha,X⟩
 ·intro fl st1 R1' hh tk gg ll J e;refine dO e fun v ev e=>mJ e fun q1 q2' e=>dO e fun y ey e=>bI ey fun o27 h27 ey=>?_;rw[lF ev,hH _ _ _ q1];have hr':=W.on' gg;have up:RO w C R hh a27 (.lls 0 false []):=eV (J.inv.obj 27 (.lls 0 false []) a27 (by rw[gp _ 27 (by decide)];delta gO;rw[h27,lls?_is ey,yT e]) (by rw[hr' 27 (by decide),σ27];exact ha27)) fun is' xs' nn' hlen' hget' hrds' hbad'=>fun _=>⟨is',xs',nn',hlen',hget',hrds',hbad',fun _ m=>nomatch m⟩;refine dF (p:=C.p) (st:={st with fr:=[]}) I.inv.olen (dN hk) fun st2 p1 p2 p3 p4 p5 p6=>?_;refine dF (p:=C.p) p4 p1 fun st' q1 q2 q3 q4 q5 q6=>?_;have I':=(At.ret (news:=[]) (δ':=[]) (R':=R) (st':=st') (C1:=C.sub 185 frozen oO C.lb C.lu 0 C.fb) I rfl W.old gg ll J (by rw[List.append_nil,List.append_nil]) (fun _ m=>nomatch m) .nil (by rw[q3,p3];exact I.inv.len) q4 (by rw[q5,p5];exact I.inv.dlen) (fun _ m=>nomatch m)
   (fun k b e=>I.inv.da k b (by rw[q5,p5] at e;exact e)) (fun _ kp i o a q y=>by
    rw[q6] at q;by_cases z:i=l
    ·rw[if_pos z] at q;rw[z] at y;rw[<-aF q,<-aF (ha27.symm.trans y)];exact .inr up
    ·rw[if_neg z,p6] at q;by_cases z3:i=c3.2.2
     ·rw[if_pos z3] at q;rw[<-aF q];exact .inr (J.inv.new 3 a (by rw[hr' 3 (by decide),σ3,<-z3];exact y)).2
     ·rw[if_neg z3] at q;by_cases x:∃j:Nat,R1.ρ[j]?=some a
      ·refine oE x fun j x=>?_;have ij:=I.inv.inj i (σ j) a y (W.to x);have j27:hW j=false:=Bool.eq_false_iff.mpr fun w=>z (by rw[ij,hV w,σ27]);have j3:NB j=false:=by show(hW j||Nat.beq j 3)=false;rw[j27];exact xE fun w=>z3 (by rw[ij,w,σ3])
       exact .inr (W.back I gg J (fun o1 h1=>by rw[gp _ j (W.lt x)];exact tA q2' j3 h1) q y x j27)
      ·exact .inl ⟨q,y,fun j w=>x ⟨j,w⟩⟩) (by rw[q2,p2])).2
  intro x X;exact P (.ret (.bol true)) st' R hh tk (.refl R) ll I' q1 x X
end
end
section
section
variable{h:Heap}{bod:bH}
abbrev Cst.swap(C:Cst)(bod:bH):Cst:=C.sub C.p.N0 C.p.F bod C.lb C.lu C.td C.fb
theorem tU(a:Addr)(o:SO):RO w (C.swap bod) R h a o=RO w C R h a o:=by
 induction o using SO.casesOn with
|cel v=>rcases v with _|_<;>simp only[RO,kT]
|lst vs=>simp only[RO,oL]
|dct vs=>simp only[RO,rW];rfl
|dcf vs=>simp only[RO,rW];rfl
|adc vs=>simp only[RO,w7]
|_=>rfl
theorem At.to(I:At w C B oU env R st h):At w (C.swap bod) B oU env R st h:=
 ⟨⟨I.inv.stays,I.inv.len,I.inv.olen,I.inv.dlen,I.inv.dD,I.inv.da,I.inv.inj,I.inv.new,fun i o a e q=>tU (C:=C) (bod:=bod) a o▸I.inv.obj i o a e q,I.inv.tab,I.inv.tabA⟩,kS▸I.frm,I.lB,I.lA,I.out⟩
theorem At.from(I:At w (C.swap bod) B oU env R st h):At w C B oU env R st h:=
 ⟨⟨I.inv.stays,I.inv.len,I.inv.olen,I.inv.dlen,I.inv.dD,I.inv.da,I.inv.inj,I.inv.new,fun i o a e q=>tU (C:=C) (bod:=bod) a o▸I.inv.obj i o a e q,I.inv.tab,I.inv.tabA⟩,kS (C:=C) (n0:=C.p.N0) (F:=C.p.F) (bod:=bod) (lb:=C.lb) (lu:=C.lu) (td:=C.td) (fb:=C.fb)▸I.frm,I.lB,I.lA,I.out⟩
theorem CxOk.to(c:CxOk C oU env R cx A):CxOk (C.swap bod) oU env R cx A:=⟨c.kind,c.gl,c.bi,c.stk,c.dep,c.un,c.hd,c.tb,c.cl,c.ck,c.ub,c.fr,c.db⟩
theorem At.refr(I:At w C B oU env R st h){fr:List (Nat×SV)}(f:FrOk C R h env.locals fr):At w C B oU env R {st with fr:=fr} h:=⟨I.inv.wf fr,f,I.lB,I.lA,I.out⟩
end
end
section
def T4:Tr SO->Tr SO
|.lf=>.lf
|.nd l a b r=>match Nat.blt a 4 with
 |true=>T4 r
 |false=>.nd (T4 l) (a-4) (wJ (fun i=>i-4) b) (T4 r)
def frozen4:Tr SO:=T4 frozen
theorem qV:Tr.all p_ frozen4=true:=by decide +kernel
theorem mM(i:Nat)(o:SO)(e:frozen4.look i=some o):still o=true:=Tr.all_look (f:=p_) qV e
def Gf:SO:=wJ (fun i=>i-4) (tP 27)
def FE:List (Nat×SO):=[(0,Gf),(23,.lst [])]
def IR(i:Nat):St:=Mt [(31,.loc 1),(61,cB i),(35,.int 0)] 0 FE
def FF:P:=fT 181 frozen4 nob
noncomputable def An(_:Nat):Bool:=false
noncomputable def uS:Fl->Bool
|.nxt=>true
|_=>false
theorem lJ{f:Fl}(h:uS f=true):f=.nxt:=by rcases f with _|_|_<;>first|rfl|exact ff h
def LJ(fl:Fl)(st:St):Bool:=uS fl&&jV An FE st.ov&&bO ((look 31 st.fr).bind SV.loc?) (Nat.beq 1)
def LI(c:Nat)(st:St):Bool:=Nat.beq c 64&&jV An FE st.ov
def c7:List S:=match f440.body with
|[_,_,.fo _ _ b _]=>b
|_=>[]
def Iu(i:Nat):Bool:=match bP i with
|true=>(ev FF 1000).sts ⟨[],150,2500,99⟩ c7 (IR i) (fun _ _=>false) LI
|false=>(ev FF 1000).sts ⟨[],150,2500,99⟩ c7 (IR i) LJ dX
theorem Iv:(List.range 12).all Iu=true:=by decide +kernel
theorem HQ:(List.range 181).all (fun i=>An i||bO (gO FE frozen4 i) (qL 181))=true:=by decide +kernel
end
section
section
variable{C C1:Cst}{R R1 R1':Rn}{st st1':St}{h h1:Heap}{fs:List Env}
theorem Kept.ret{base:Heap}(I:At w C B oU env R st h)(ht:C1.tq=C.tq)(hρ:∀(i:Nat) (a:Addr),R1.ρ[i]?=some a->∃j:Nat,R.ρ[j]?=some a)(g:R1.le R1')(J:At w C1 (held C R1 oU env h) oU env R1' st1' h1)
  (x:Kept C1 (held C R1 oU env h) R1' h1 base):Kept C B R h1 base where
 sub:=x.sub
 low:=fun b o e=>x.low b o (I.low_sub hρ b o e)
 loc:=fun i a e=>by
  by_cases z:∃j:Nat,R1.ρ[j]?=some a
  ·refine oE z fun j z=>?_;exact x.loc j a (g.at z)
  ·refine oEA (I.loc_kept e fun j y=>z ⟨j,y⟩) fun o _ h2=>?_;rw[x.low a o h2,J.inv.stays a o h2]
 imm:=x.imm
 tab:=fun q hq=>x.tab q (ht▸hq)
theorem Exc.ret{c:Nat}{e:Addr}{h':Heap}(I:At w C B oU env R st h)(ht:C1.tq=C.tq)(hρ:∀(i:Nat) (a:Addr),R1.ρ[i]?=some a->∃j:Nat,R.ρ[j]?=some a)(g:R1.le R1')(J:At w C1 (held C R1 oU env h) oU env R1' st1' h1)
  (x:Exc C1 (held C R1 oU env h) fs R1' c e h1 h'):Exc C B fs R c e h1 h':=by
 rcases x with x|⟨base,a0,x,y⟩|⟨base,a0,env',oU',L,x0,x,y⟩
 ·exact .inl x
 ·exact .inr (.inl ⟨base,a0,x.ret I ht hρ g J,y⟩)
 ·exact .inr (.inr ⟨base,a0,env',oU',L,x0,x.ret I ht hρ g J,y⟩)
end
noncomputable def sl(l i:Nat):Nat:=match Nat.beq i 23 with
|true=>l
|false=>i+4
theorem Ao{l k:Nat}(hs:kG l=true)(hk:k<181)(z:Nat.beq k 23=false)(q:l=k+4):False:=by have:=aZ (show(List.range 181).all (fun k=>Nat.beq k 23||!kG (k+4))=true by decide +kernel) k (List.mem_range.mpr hk);rw[z,<-q,hs] at this;exact ff this
theorem FV{l i j:Nat}(hs:kG l=true)(hi:i<181)(hj:j<181)(e:sl l i=sl l j):i=j:=by
 delta sl at e;rcases h1:Nat.beq i 23 with _|_<;>rcases h2:Nat.beq j 23 with _|_<;>rw[h1,h2] at e
 ·exact Nat.add_right_cancel e
 ·exact(Ao hs hi h1 e.symm).elim
 ·exact(Ao hs hj h2 e).elim
 ·rw[aT h1,aT h2]
def nI(p:P)(st:St)(l:Nat):Bool:=A6 p st 181 An FE frozen4 (sl l)
section
variable{Q:Flow->Shared->Prop}{E':Value->Shared->Prop}{n0:Nat}{F:Tr SO}{bod:bH}
theorem Je(S:Sta C B K mg mb)(hp:C.p=fT n0 F bod)(c:CxOk C oU env R cx A)(hf:env.frame=some env.locals)(ok:gN C.p.lams env.scope c7=true)(I:At w C B oU env R st s.heap){k l:Nat}(h31:look 31 st.fr=some (.loc 5))(h61:look 61 st.fr=some (cB k))(h35:look 35 st.fr=some (.int 0))
  (hk:k<12) (hsp:kG l=true) (hchk:nI C.p st l=true) (hdp:cx.dp<=150) (hun:cx.un<=2500) (hcl:cx.cl=[])
  (go:bP k=false->∀h' tk',Le oU s.heap h'->At w C B oU env R {st with fr:=[(31,.loc 5)]} h'->Q .next {s with heap:=h',toks:=tk'})
  (stop:bP k=true->∀h₁ h' tk' e,Le oU s.heap h₁->At w C B oU env R {st with fr:=[]} h₁->Exc C B (cI env oU) R 64 e h₁ h'->E' (.ref e) {s with heap:=h',toks:=tk'}) :
  wpAny (model C.prog w) A (execs (fU (aN C.p.lams) c7) env) Q E' s:=by
 have fk:=fun(i:Nat) (hi:i<181) (h0:An i=false)=>kK HQ hchk hi h0;have inj:=fun(i j:Nat) (hi:i<181) (hj:j<181)=>FV hsp hi hj;have σ1:sl l 1=5:=rfl;generalize sl l=σ at fk inj σ1;have adr:∀i,i<181->∃a,R.ρ[σ i]?=some a:=fun i hi=>oEAA (fk i hi rfl) fun o _ _ e=>oEA (I.inv.at e) fun a ha _=>⟨a,ha⟩;refine pS R [] adr fun R1 l1 d1 hr=>?_;have W:Sw C R R1 st 181 σ An (gO FE frozen4):=⟨l1,hr,inj,fk⟩;refine oEA (I.frm) fun mf hmf hfr=>?_;have sp:(C.sub 181 frozen4 nob C.lb C.lu 0 C.fb).p=FF:=Cst.sub_p hp;have gp:∀(st:St) i,i<181->st.get (C.sub 181 frozen4 nob C.lb C.lu 0 C.fb).p i=gO st.ov frozen4 i:=fun st i hi=>by rw[sp];exact fK hi
 have back:∀{st1:St} {R1':Rn} {h':Heap},jV An FE st1.ov=true->R1.le R1'->Le oU s.heap h'->At w (C.sub 181 frozen4 nob C.lb C.lu 0 C.fb) (held C R1 oU env s.heap) oU env R1' st1 h'->At w C B oU env R {st with fr:=[]} h':=fun{st1 R1' h'} ov gg ll J=>
  I.ret0 (C1:=C.sub 181 frozen4 nob C.lb C.lu 0 C.fb) rfl W.old gg ll J fun kp i j o a q y z=>W.back I gg J (fun o1 h1=>by rw[gp _ j (W.lt z)];exact tA ov rfl h1) q y z rfl
 have J0:At w (C.sub 181 frozen4 nob C.lb C.lu 0 C.fb) (held C R1 oU env s.heap) oU env R1 (IR k) s.heap:=by
  refine I.sub R1 _ W.old (W.one I) l1 rfl (by rw[d1];rfl) (fun t hm=>by rw[d1] at hm;exact nomatch hm) (fun k b e=>nf e) (fun i o a q e=>W.obj I rfl (by rw[gp _ i (W.lt e)] at q;exact q) e) ⟨mf,hmf,fun n v e=>?_⟩;rcases iG e with⟨rfl,rfl⟩|⟨rfl,rfl⟩|⟨rfl,rfl⟩
  ·refine fS (hfr 31 _ h31) fun x hx a ha X=>?_;exact⟨x,hx,a,by rw[hr 1 (by decide),σ1];exact ha,X⟩
  ·refine oEA (hfr 61 _ h61) fun x hx X=>?_;have D:=X.data (n:=0) (f0 [] 0 k).2;rw[(f0 R.δ 0 k).1] at D;exact⟨x,hx,RD.rv (by rw[d1];exact(f0 [] 0 k).2) (by rw[(f0 R1.δ 0 k).1];exact D)⟩
  ·exact hfr 35 _ h35
 have lams:(C.sub 181 frozen4 nob C.lb C.lu 0 C.fb).p.lams=C.p.lams:=rfl;have prog:(C.sub 181 frozen4 nob C.lb C.lu 0 C.fb).prog=C.prog:=rfl;have W31:∀{st1:St} {R1':Rn} {h':Heap},look 31 st1.fr=some (.loc 1)->R1.le R1'->At w (C.sub 181 frozen4 nob C.lb C.lu 0 C.fb) (held C R1 oU env s.heap) oU env R1' st1 h'->FrOk C R h' env.locals [(31,.loc 5)]:=fun{st1 R1' h'} h31' gg J=>by refine oEA (J.frm) fun mf' hmf' hfr'=>?_;refine fS (hfr' 31 _ h31') fun x hx a ha X=>?_;refine⟨mf',hmf',fun n v e=>?_⟩;have q:=List.mem_singleton.mp (look_mem e);rw[show n=31 from congrArg Prod.fst q,show v=.loc 5 from congrArg Prod.snd q];rw[W.on' gg 1 (by decide),σ1] at ha;exact⟨x,hx,a,ha,X⟩
 have old:=W.old;clear W;generalize hC1:C.sub 181 frozen4 nob C.lb C.lu 0 C.fb=C1 at sp back J0 lams prog W31;have htq:C1.tq=C.tq:=by rw[<-hC1];rfl
 have run:bP k=false/\(ev C1.p 1000).sts ⟨[],150,2500,99⟩ c7 (IR k) LJ dX=true\/bP k=true/\(ev C1.p 1000).sts ⟨[],150,2500,99⟩ c7 (IR k) (fun _ _=>false) LI=true:=by
  have:=aZ Iv k (List.mem_range.mpr hk);unfold Iu at this;rw[sp];rcases z:bP k with _|_
  ·rw[z] at this;exact .inl ⟨rfl,this⟩
  ·rw[z] at this;exact .inr ⟨rfl,this⟩
 have c1:CxOk C1 oU env R1 ⟨[],150,2500,99⟩ A:=by rw[<-hC1];exact c.sub hdp (by decide) hun (by decide) (.inr S.tb9) (fun n i e=>by exact nf e) fun n=>by rw[hcl]
 have oo:∀n B',Sta (C1.at n) B' K mg mb->iO w (C1.at n) B':=fun n B' _=>pJ (by show C1.p.bod=nob;rw[sp];rfl);have S1:Sta C1 (held C R1 oU env s.heap) K mg mb:=by rw[<-hC1];exact(S.up (I.low_sub old)).sub mM ⟨S.room.lb,S.room.lu⟩
 rw[<-prog,<-lams];rw[<-lams] at ok;rcases run with⟨hb,run⟩|⟨hb,run⟩
 ·refine(fR oo 1000).sts C1.ep _ S1 _ c7 _ LJ dX oU env R1 A s Q E' c1 hf ok J0 run (fun fl st1 R1' h' tk gg ll J e=>?_) (PE.no s.heap);refine mJ e fun e1 e2 e3=>dO e3 fun y ey e3=>bI ey fun v hv ev=>?_;rw[loc?_is ev,<-aT e3] at hv;rw[lJ e1];exact go hb h' tk ll ((back e2 gg ll J).refr (W31 hv gg J))
 ·refine(fR oo 1000).sts C1.ep _ S1 _ c7 _ (fun _ _=>false) LI oU env R1 A s Q E' c1 hf ok J0 run (fun fl st1 R1' h' tk gg ll J e=>by exact ff e) (fun cc st1 R1' h₁ h' tk e gg ll J X z=>?_);refine bZ z fun z1 z2=>?_;rw[aT z1] at X;exact stop hb h₁ h' tk e ll (back z2 gg ll J) (X.ret I htq old gg J)
end
end
variable{ke:Ke}
section
def q_(i:Nat):SV:=.tup [cB i,.int 0]
noncomputable def tL(q1 q2 q:Pos):T:=.tp [(61,q1),(35,q2)] q
theorem D2{p:P}{q1 q2 q:Pos}{x:SV}{st:St}{k:St->Bool}(hT:st.fr=[(31,.loc 5)]):eP p [] (tL q1 q2 q) (.tup [x,.int 0]) st k=k {st with fr:=[(31,.loc 5),(61,x),(35,.int 0)]}:=by obtain⟨fr,n,objs,da,ov⟩:=st;subst hT;rfl
theorem v_(i:Nat):∃j,j<12/\cB j=cB i/\bP j=bP i:=by
 by_cases h:i<12
 ·exact⟨i,h,rfl,rfl⟩
 ·have e:=Nat.sub_add_cancel (Nat.le_of_not_lt h);rw[<-e];exact⟨11,by decide,rfl,rfl⟩
section
variable{Q:Flow->Shared->Prop}{E':Value->Shared->Prop}{n0:Nat}{F:Tr SO}{bod:bH}{k:Fl->St->Bool}
open Classical in
theorem HS(S:Sta C B K mg mb)(hp:C.p=fT n0 F bod)(c:CxOk C oU env R cx A)(hf:env.frame=some env.locals){q1 q2 q:Pos}(ot:Fd env.scope (tL q1 q2 q)=true)(ok:gN C.p.lams env.scope c7=true)(I:At w C B oU env R st s.heap)
  (hT:st.fr=[(31,.loc 5)]) {l0 l:Nat} {is:List Nat} (hget:st.get C.p l0=some (.lst (is.map q_))) (hsp:kG l=true) (hchk:nI C.p st l=true) (hdp:cx.dp<=150) (hun:cx.un<=2500) (hcl:cx.cl=[]) {a:Addr}
  (X:ItOk C R s.heap (.lst l0) 0 a a) (Fa:Fresh C B oU env R s.heap a) (P:PF w C B oU env R s.heap s k Q) (PX:PE w C B oU env R s.heap s ke E') (hk:is.any bP=false->k .nxt st=true) (hke:is.any bP=true->ke 64 {st with fr:=[]}=true) :
  codeAny (model C.prog w) A (.forLoop (n9 (tL q1 q2 q)) (.ref a) (fU (aN C.p.lams) c7) [] env) (fun r s'=>match r with|.ok f=>Q f s'|.error e=>cameBackBy (model C.prog w) A env E' e s') s:=by
 refine codeAny_forLoop_any (I:=fun m s'=>∃i R' h' tk',s'={s with heap:=h',toks:=tk'}/\i+m=is.length+1/\(∀j x,j<i->is[j]?=some x->bP x=false)/\R.le R'/\Le oU s.heap h'/\At w C B oU env R' st h'/\ItOk C R' h' (.lst l0) i a a/\Fresh C B oU env R' h' a)
  (fun m s' hI=>?_) (is.length+1) ⟨0,R,s.heap,s.toks,rfl,by(first|lia|omega),(fun j x hj=>by(first|lia|omega)),.refl R,.refl _ _,I,X,Fa⟩
 refine pP hI fun i R' h' tk' u1 him hgood g l' I' X' F'=>?_;subst u1;refine Aj (s:={s with heap:=h',toks:=tk'}) (kn:=decide (is[i]?=none)) (kk:=fun v st3=>decide (∃x,is[i]?=some x/\v=q_ x/\st3={st with fr:=[(31,.loc 5),(61,cB x),(35,.int 0)]})) S (c.le g) ot rfl I' X' F' F' ?_ (fun z h2 l2 I2=>?_) fun B' v st3 R3 h3 tk3 low g3 l3 I3 z3 nx=>?_
 ·show gL C.p st l0 _=true;unfold gL;rw[hget];show(match nth (is.map q_) i with|none=>_|some v=>_)=true;rw[bS,List.getElem?_map];rcases z:is[i]? with _|x
  ·exact decide_eq_true rfl
  ·show eP C.p cx.cl (tL q1 q2 q) (q_ x) st _=true;rw[hcl];unfold q_;rw[D2 hT];exact decide_eq_true ⟨x,rfl,rfl,rfl⟩
 ·have z:=bD z;refine wpAny_execs_nil (P .nxt st R' h2 tk' g (l'.trans l2) I2 (hk ?_));rcases y:is.any bP with _|_
  ·rfl
  ·refine oEA (List.any_eq_true.mp y) fun x hx hb=>?_;refine oE (List.getElem?_of_mem hx) fun j hj=>?_;have lj:=(List.getElem?_eq_some_iff.mp hj).1;have li:=List.getElem?_eq_none_iff.mp z;rw[hgood j x (by(first|lia|omega)) hj] at hb;exact ff hb
 ·refine oEAA (bD z3) fun x hx u2 u3=>?_;subst u2;subst u3;refine oEAA (v_ x) fun y hy e2 e3=>?_;refine Je (k:=y) (l:=l) (s:={s with heap:=h3,toks:=tk3}) (S.up low) hp (c.le (g.trans g3)) hf ok I3 rfl (by show some (cB x)=_;rw[e2]) rfl hy hsp hchk hdp hun hcl (fun hb h4 tk4 l4 I4=>?_) fun hb h₁ h4 tk4 e l4 I4 X4=>?_
  ·have I4:At w C B' oU env R3 st h4:=by
    have:({st with fr:=[(31,.loc 5)]}:St)=st:=by obtain⟨fr,n,objs,da,ov⟩:=st;subst hT;rfl
    exact this▸I4
   refine s8 (nx R3 st h4 (.refl R3) l4 I4) fun X5 F5 _=>?_;have li:=(List.getElem?_eq_some_iff.mp hx).1;exact⟨m-1,by(first|lia|omega),i+1,R3,h4,tk4,rfl,by(first|lia|omega),fun j z hj hz=>by
    by_cases w:j=i
    ·subst w;rw[hx] at hz;obtain rfl:=aF hz;rw[<-e3];exact hb
    ·exact hgood j z (by(first|lia|omega)) hz,g.trans g3,l'.trans (l3.trans l4),I4.lower low,X5,F5⟩
  ·refine(((PX.mono (tk:=tk3) (g.trans g3) (l'.trans l3)).lower low).noted (c.le (g.trans g3)) hf) 64 _ R3 h₁ h4 tk4 e (.refl R3) l4 I4 X4 (hke ?_);exact List.any_eq_true.mpr ⟨x,List.mem_of_getElem? hx,by rw[<-e3];exact hb⟩
end
end
section
theorem Cq{p:P}{st:St}{i:Nat}{o o':SO}{k:St->Bool}(e:st.set p i o k=true):st.set p i o' (fun _=>true)=true:=by
 obtain⟨fr,n,objs,da,ov⟩:=st;unfold St.set at e ⊢;split at e
 ·split at e
  ·rename_i q
   simp only[bJ]
  ·exact ff e
 ·split at e
  ·simp only[bJ]
  ·exact ff e
section
variable{h:Heap}{Q:Flow->Shared->Prop}{E':Value->Shared->Prop}{k:Fl->St->Bool}{bod:bH}
theorem Kept.from{h1 base:Heap}(x:Kept (C.swap bod) B R h1 base):Kept C B R h1 base:=⟨x.sub,x.low,x.loc,x.imm,x.tab⟩
theorem Exc.from{fs:List Env}{c:Nat}{e:Addr}{h1 h':Heap}(x:Exc (C.swap bod) B fs R c e h1 h'):Exc C B fs R c e h1 h':=by
 rcases x with x|⟨base,a0,x,y⟩|⟨base,a0,env',oU',L,x0,x,y⟩
 ·exact .inl x
 ·exact .inr (.inl ⟨base,a0,x.from,y⟩)
 ·exact .inr (.inr ⟨base,a0,env',oU',L,x0,x.from,y⟩)
theorem PF.to(P:PF w C B oU env R h s k Q):PF w (C.swap bod) B oU env R h s k Q:=fun f st' R' h' tk' g l I q=>by
 have:=P f st' R' h' tk' g l I.from q;induction f using Fl.casesOn with
|ret v=>exact fun x X=>this x (by rw[kT] at X;exact X)
|_=>exact this
theorem PE.to(P:PE w C B oU env R h s ke E'):PE w (C.swap bod) B oU env R h s ke E':=fun c st' R' h₁ h' tk' e g l I X q=>P c st' R' h₁ h' tk' e g l I.from X.from q
end
end
section
def z_:S:=match f440.body with
|[a,_,_]=>a
|_=>.ret0 ⟨0,0,0,0⟩
def Aa:S:=match f440.body with
|[_,b,_]=>b
|_=>.ret0 ⟨0,0,0,0⟩
def LK(o:Option SO):Option Bool:=o.bind fun o=>match lls? o with
|some x=>gd x.2.2.isEmpty (some x.2.1)
|none=>o.lst?.bind fun vs=>gd vs.isEmpty (some false)
noncomputable def Et(b:Bool)(k:Fl->St->Bool)(ke:Ke)(st:St):Bool:=match b with
|true=>ke 64 st
|false=>k .nxt st
def JV(p:P)(cx:Cx)(st:St)(k:Fl->St->Bool)(ke:Ke):Bool:=bO ((look 64 st.fr).bind SV.loc?) fun l0=>bO (y4 p st) fun l=>bO (LK (st.get p l0)) fun c=>
 kG l&&nI p st l&&bO ((look 31 st.fr).bind SV.loc?) (Nat.beq 5)&&Nat.ble cx.dp 150&&Nat.ble cx.un 2500&&wD cx&&!Nat.beq l0 l&&kG l0&&st.set p l0 .src fun st=>st.wf [] fun st=>Et c k ke st
def P.nob(p:P):P:={p with bod:=Mine.nob}
def oV(p:P)(cx:Cx)(st:St)(k:Fl->St->Bool)(ke:Ke):Bool:=
 cT p.nob (ev p.nob 20) cx z_ st (fun fl st=>uS fl&&cT p.nob (ev p.nob 20) cx Aa st (fun fl st=>uS fl&&JV p cx st k ke) dX) dX
theorem r9:∃q1 q2 q q3 q4,f440.body=[z_,Aa,.fo (tL q1 q2 q) (.lo 64 q3) c7 q4]:=⟨_,_,_,_,_,rfl⟩
theorem look440:fnMain.look 440=some f440:=by rfl
theorem IL{l l0 i:Nat}(hs:kG l0=true)(ne:l0≠l)(hi:i<181):sl l i≠l0:=by
 delta sl;rcases z:Nat.beq i 23 with _|_
 ·exact fun e=>Ao hs hi z e.symm
 ·exact fun e=>ne e.symm
theorem wA{p:P}{st st':St}{l l0:Nat}{o:SO}(hs:kG l0=true)(ne:l0≠l)(g:∀j,st'.get p j=if j=l0 then some o else st.get p j)(h:nI p st l=true):nI p st' l=true:=
 List.all_eq_true.mpr fun i hi=>by rw[g,if_neg (IL hs ne (List.mem_range.mp hi))];exact aZ h i hi
theorem BF{C:Cst}{R:Rn}{h:Heap}{is:List Nat}:∀{xs:List Value},RDs h (is.map fun i=>.tup [cB i,.int 0]) xs->RVs C R h (is.map q_) xs:=by
 induction is with
|nil=>exact fun e=>e
|cons i r ih=>exact fun e=>aY e fun y ys e a b=>⟨y,ys,e,a.rv0,ih b⟩
section
variable{n0:Nat}{F:Tr SO}{bod:bH}
open Classical in
theorem xN(S:Sta C B K mg mb)(hp:C.p=fT n0 F bod)(htop:C.fb=false){g:Fun}(hg:fnMain.look 440=some g):iN w C B g fun cx st k ke=>some (oV C.p cx st k ke):=by
 intro cx st k ke oU env R A s Q E' c hf ok I h P PX;obtain rfl:=aF (look440.symm.trans hg);replace h:oV C.p cx st k ke=true:=aF h;refine Fw r9 fun q1 q2 q q3 q4 eb=>?_;rw[eb] at ok ⊢;refine kX ok fun oa ob ot oi obd oe _=>?_;have S':Sta (C.swap nob) B K mg mb:=S.sub S.stl ⟨S.room.lb,S.room.lu⟩;have oo:∀n B,Sta ((C.swap nob).at n) B K mg mb->iO w ((C.swap nob).at n) B:=fun n B _=>pJ rfl;have one:=Jo (N:=20) S' ((fR oo 20).ex C.ep B S') ((fR oo 20).exs C.ep B S') ((fR oo 20).ts C.ep B S') ((fR oo 20).sts C.ep B S') ((fR oo 20).lp C.ep B S') ((fR oo 20).wh C.ep B S') fun m _=>⟨(fR oo m).ex C.ep B S',(fR oo m).co C.ep⟩;unfold oV at h;rw[show C.p.nob=(C.swap nob).p from rfl] at h;generalize z_=sa at h oa ⊢;generalize Aa=sb at h ob ⊢;refine wpAny_execs_cons (one sa cx st _ dX oU env R A s _ E' (c.to) hf oa (I.to) h (fun f st1 R1 h1 tk1 g1 l1 I1 z=>?_) (PE.no _));refine bZ z fun z0 z1=>?_;obtain rfl:=lJ z0;refine wpAny_execs_cons (one sb cx st1 _ dX oU env R1 A _ _ E' (c.le g1).to hf ob I1 z1 (fun f st2 R2 h2 tk2 g2 l2 I2 z=>?_) (PE.no _));refine bZ z fun z2 z3=>?_;obtain rfl:=lJ z2;replace z:=z3;replace I2:At w C B oU env R2 st2 h2:=I2.from
 have g2:=g1.trans g2;have l2:=l1.trans l2;refine dO z fun l0 h64 z=>?_;refine dO z fun l hl z=>?_;refine dO z fun b hb z=>?_;refine GI z fun z hun hcl hne hs0 hk=>?_;refine oA ((⟨eO (aG z).1,(aG z).2⟩:((_/\_)/\_)/\_)) fun u2 hdp=>?_;refine oA u2 fun u3 h31=>?_;refine oA u3 fun hsp hchk=>?_;have ne:l0≠l:=fun e=>by rw[e,Nat.beq_refl] at hne;exact ff hne
 replace h64:look 64 st2.fr=some (.loc l0):=bI h64 fun v hv h=>loc?_is h▸hv;replace h31:look 31 st2.fr=some (.loc 5):=dO h31 fun y ey h=>bI ey fun v hv e=>(aT h).symm▸loc?_is e▸hv;have hcl:=iY hcl;have z:st2.set C.p l0 .src (fun st=>st.wf [] fun st=>Et b k ke st)=true:=hk;obtain⟨a0,ha0,is,xs,nn,hget,hrds,hbad,hmut⟩:∃a0,R2.ρ[l0]?=some a0/\∃(is:List Nat) (xs:List Value) (n:Nat),h2.get? a0=some (listOf xs.toArray n)/\RDs h2 (is.map fun i=>.tup [cB i,.int 0]) xs/\is.any bP=b/\∃o,h2.get? a0=some o/\¬iP o:=by
  refine bI hb fun o q hb=>?_;rcases y:lls? o with _|x
  ·simp only[y] at hb;refine bI hb fun vs ev hb=>dG hb fun e hb=>?_;rw[lst?_is ev,pH e] at q;refine fM (I2.inv.at q) fun a0 ha0 xs nn hget X=>?_;rw[show xs=[] from X] at hget;exact⟨a0,ha0,[],[],nn,hget,rfl,aF hb,(I2.inv.new _ _ ha0).2⟩
  ·simp only[y] at hb;refine dG hb fun e hb=>?_;rw[lls?_is y,pH e] at q;refine lS (I2.inv.at q) fun a0 ha0 is xs nn _ hget hrds hbad _=>?_;rw[htop,aF hb] at hbad;exact⟨a0,ha0,is,xs,nn,hget,hrds,hbad.trans (Bool.or_false b),(I2.inv.new _ _ ha0).2⟩
 have e1:=Cq (o':=.lst (is.map q_)) z;refine dF I2.inv.olen e1 fun st3 _ f3 n3 o3 d3 g3=>?_;have I3:At w C B oU env R2 st3 h2:=(I2.updW (o:=.lst (is.map q_)) ha0 (fun _ _ _ _ e=>e) (fun _ m=>m) (fun _=>⟨xs,nn,hget,BF hrds⟩) ⟨n3,o3,d3,g3⟩ f3).1;have fr3:look 31 st3.fr=some (.loc 5):=by rw[f3];exact h31
 have fr4:look 64 st3.fr=some (.loc l0):=by rw[f3];exact h64
 have fin:∀R' h',At w C B oU env R' {st3 with fr:=[]} h'->∃st5,At w C B oU env R' st5 h'/\Et b k ke st5=true:=fun R' h' J=>by
  refine dF I2.inv.olen z fun st4 p1 p2 p3 p4 p5 p6=>?_;have g6:∀j,St.get C.p {st4 with fr:=[]} j=if j=l0 then some .src else St.get C.p {st3 with fr:=[]} j:=fun j=>by
   show St.get C.p st4 j=if j=l0 then some .src else St.get C.p st3 j
   rw[p6,g3];split<;>rfl
  have jl:R'.ρ.length=C.p.N0+st3.n:=J.inv.len;have jd:R'.δ.length=st3.da.length:=J.inv.dlen;refine⟨{st4 with fr:=[]},⟨⟨J.inv.stays,by rw[jl,n3];exact congrArg _ p3.symm,p4,by rw[jd,d3,<-p5],J.inv.dD,fun m b e=>J.inv.da m b (show st3.da[m]?=_ by rw[d3,<-p5];exact e),J.inv.inj,J.inv.new,fun i o a e q=>?_,J.inv.tab,J.inv.tabA⟩,J.frm,J.lB,J.lA,J.out⟩,dN p1⟩;rw[g6] at e;by_cases y:i=l0
  ·rw[if_pos y] at e;obtain rfl:=aF e;exact(J.inv.new i a q).2
  ·rw[if_neg y] at e;exact J.inv.obj i o a e q
 refine wpAny_execs_cons (wpAny_For (NA (k:=fun v st=>match v with|.loc j=>decide (j=l0/\st=st3)|_=>false) S (c.le g2) oi I3 (by unfold Ey;rw[fr4];exact decide_eq_true ⟨rfl,rfl⟩) fun v st6 R6 h6 tk6 x g6 l6 I6 X e6=>?_) fun x=>i_ (bY oi) env x);have X0:v=.loc l0/\st6=st3:=by
  cases v with
 |loc j=>refine oA (bD e6) fun y1 y2=>?_;exact⟨by rw[y1],y2⟩
 |_=>exact ff e6
 refine oA X0 fun u4 es0=>?_;subst u4;rw[es0] at I6;have ch:nI C.p st3 l=true:=wA hs0 ne g3 hchk;refine Ad (s:={s with heap:=h6,toks:=tk6}) I6 X (f:=fun it=>match it with|.lst j=>decide (j=l0)|_=>false) (by show gL C.p st3 l0 _=true;unfold gL;rw[g3,if_pos rfl];exact decide_eq_true rfl) fun src h7 a e7 k7 hn X7 _=>?_;have sl:src=.lst l0:=by
  induction src using It.casesOn with
 |lst j=>rw[bD e7]
 |_=>exact ff e7
 subst sl;have I7:=(I6.keep k7).refr (fr:=[(31,.loc 5)]) (by
  refine oEA ((I6.keep k7).frm) fun mf hmf hfr=>?_;refine⟨mf,hmf,fun n v e=>?_⟩;replace e:(match Nat.beq 31 n with|true=>some (SV.loc 5)|false=>none)=some v:=e;split at e
  ·rename_i q
   obtain rfl:=aT q;obtain rfl:=aF e;exact hfr 31 _ fr3
  ·exact nf e)
 have gR:=g2.trans g6;have lR:=l2.trans (l6.trans (.of_keep k7));refine HS (s:={s with heap:=h7,toks:=tk6}) (st:={st3 with fr:=[(31,.loc 5)]}) (k:=fun fl st=>match fl with|.nxt=>decide (b=false/\st={st3 with fr:=[(31,.loc 5)]})|_=>false) (ke:=fun cc st=>decide (b=true/\cc=64/\st={st3 with fr:=[]})) S hp (c.le gR) hf ot obd I7 rfl (is:=is) (l0:=l0) (l:=l)
  (by show St.get C.p st3 l0=_;rw[g3,if_pos rfl]) hsp ch (aP hdp) (aP hun) hcl X7 (dW (s:={s with heap:=h6}) I6 hn X7.obj.1) ?_ ?_ (fun y=>decide_eq_true ⟨by rw[<-hbad];exact y,rfl⟩) (fun y=>decide_eq_true ⟨by rw[<-hbad];exact y,rfl,rfl⟩)
 ·intro f st8 R8 h8 tk8 g8 l8 I8 e8;cases f with
 |nxt=>refine oA (bD e8) fun u5 u6=>?_;subst u5;subst u6;obtain⟨st5,J5,z5⟩:=fin R8 h8 (I8.refr (fr:=[]) (by refine oEA (I8.frm) fun mf hmf _=>?_;exact⟨mf,hmf,fun n v e=>by exact nf e⟩));exact wpAny_execs_nil (P .nxt st5 R8 h8 tk8 (gR.trans g8) (lR.trans l8) J5 z5)
 |_=>exact ff e8
 ·intro cc st8 R8 h₁ h8 tk8 e g8 l8 I8 X8 e8;refine s8 (bD e8) fun u7 u8 u9=>?_;subst u7;subst u8;subst u9;refine oEA (fin R8 h₁ I8) fun st5 J5 z5=>?_;exact PX 64 st5 R8 h₁ h8 tk8 e (gR.trans g8) (lR.trans l8) J5 X8 z5
end
end
end Mine
end
section
open PySem
namespace Mine
variable{cx:Cx}{st:St}{ke:Ke}
section
section
variable{p:P}{n:Nat}{q q' q'':Pos}
theorem fZ{k:Kv}{m:Nat}{v:SV}(h:look m st.fr=some v)(g:k v st=true):(ev p (n+1)).ex cx (.lo m q) st k ke=true:=by show bO (look m st.fr) _=true;rw[h];exact g
theorem Lm{k:Kv}{m:Nat}{v:SV}(h:p.G.look m=some v)(g:k v st=true):(ev p (n+1)).ex cx (.gl m q) st k ke=true:=by show bO (p.G.look m) _=true;rw[h];exact g
theorem E4{k:Kv}{m l:Nat}{v:SV}(h:look m cx.cl=some l)(h2:st.get p l=some (.cel (some v)))(g:k v st=true):(ev p (n+1)).ex cx (.ce m q) st k ke=true:=by show bO (look m cx.cl) _=true;rw[h];show bO (st.get p l) _=true;rw[h2];exact g
theorem qY{l:Nat}{vs:List SV}{f:List SV->Bool}(h:st.get p l=some (.lst vs))(g:f vs=true):gL p st l f=true:=by unfold gL;rw[h];exact g
theorem Ll{l:Nat}{vs:List (List Nat×SV)}{f:List (List Nat×SV)->Bool}(h:st.get p l=some (.dct vs))(g:f vs=true):gD p st l f=true:=by unfold gD;rw[h];exact g
theorem qX{f:SV->Bool}{l c d m:Nat}{es:List (Nat×SV)}{v:SV}{fs:List Nat}(h1:st.get p l=some (.ins c d))(h2:look c p.fld=some fs)(h3:fs.any (Nat.beq m)=true)(h4:st.get p d=some (.adc es))(h5:look m es=some v)(h6:rC v=true)(g:f v=true):vX p (.loc l) m st f=true:=by show bO (st.get p l) _=true;rw[h1];show bO (look c p.fld) _=true;rw[h2];show(fs.any (Nat.beq m)&&bO (st.get p d) _)=true;rw[h3,h4];show bO (look m es) _=true;rw[h5];show(rC v&&f v)=true;rw[h6];exact g
theorem uO{k:Kv}{l:Nat}{s:List Nat}{es:List (List Nat×SV)}{v:SV}(h:st.get p l=some (.dct es))(h2:cS s es=some v)(g:k v st=true):tH p (.loc l) (.str s) st k=true:=by show bO (st.get p l) _=true;rw[h];show bO (cS s es) _=true;rw[h2];exact g
theorem E6{a:SV}{l:Nat}{vs:List SV}{f:Bool->Bool}{b:Bool}(h:st.get p l=some (.lst vs))(h1:fH 30 a=true)(h2:vs.all (fH 30)=true)(h3:AT a vs=some b)(g:f b=true):yU p a (.loc l) st f=true:=by show bO (st.get p l) _=true;rw[h];show(fH 30 a&&vs.all (fH 30)&&bO (AT a vs) f)=true;rw[h1,h2,h3];exact g
theorem Lp{s:List Nat}{l:Nat}{es:List (List Nat×SV)}{f:Bool->Bool}{b:Bool}(h:st.get p l=some (.dct es))(h3:(cS s es).isSome=b)(g:f b=true):yU p (.str s) (.loc l) st f=true:=by show bO (st.get p l) _=true;rw[h];show f (cS s es).isSome=true;rw[h3];exact g
theorem yO{c:Bool}{x:E}{r:List E}{k:Bool->St->Bool}(h:(ev p n).ts cx x st (fun b st=>match c with
  |true=>match b with
   |true=>(ev p n).ts cx (.bop c r q) st k ke
   |false=>k false st
  |false=>match b with
   |false=>(ev p n).ts cx (.bop c r q) st k ke
   |true=>k true st) ke=true):(ev p (n+1)).ts cx (.bop c (x::r) q) st k ke=true:=h
theorem pB{c:Bool}{k:Bool->St->Bool}(h:k c st=true):(ev p (n+1)).ts cx (.bop c [] q) st k ke=true:=h
theorem hTsCmp{a b:E}{o:Cm}{k:Bool->St->Bool}(h:(ev p n).ex cx a st (fun v st=>(ev p n).ex cx b st (fun w st=>qM p o v w st fun r=>k r st) ke) ke=true):(ev p (n+1)).ts cx (.cmp a [o] [b] q) st k ke=true:=h
theorem E5{a b:E}{o:Cm}{k:Kv}(h:(ev p n).ex cx a st (fun v st=>(ev p n).ex cx b st (fun w st=>qM p o v w st fun r=>k (.bol r) st) ke) ke=true):(ev p (n+1)).ex cx (.cmp a [o] [b] q) st k ke=true:=h
theorem Nn{e:E}{k:Bool->St->Bool}(h:(ev p n).ts cx e st (fun b st=>k (!b) st) ke=true):(ev p (n+1)).ts cx (.nt e q) st k ke=true:=h
theorem mN{e:E}{m:Nat}{k:Kv}(h:(ev p n).ex cx e st (fun v st=>vX p v m st fun x=>k x st) ke=true):(ev p (n+1)).ex cx (.att e m q) st k ke=true:=h
theorem sQ{a i:E}{k:Kv}(h:(ev p n).ex cx a st (fun v st=>(ev p n).ex cx i st (fun w st=>tH p v w st k) ke) ke=true):(ev p (n+1)).ex cx (.sub a i q) st k ke=true:=h
theorem EY{o:Bo}{a b:E}{k:Kv}(h:(ev p n).ex cx a st (fun v st=>(ev p n).ex cx b st (fun w st=>A1 p o v w st k) ke) ke=true):(ev p (n+1)).ex cx (.bin o a b q) st k ke=true:=h
theorem Bs{f:E}{as:List E}{k:Kv}(h:(ev p n).ex cx f st (fun g st=>(ev p n).exs cx as st (fun vs st=>(ev p n).call cx.dp cx.un g vs st k ke) ke) ke=true):(ev p (n+1)).ex cx (.cal f as q) st k ke=true:=h
theorem d_{k:List SV->St->Bool}(h:k [] st=true):(ev p (n+1)).exs cx [] st k ke=true:=h
theorem kF{e:E}{r:List E}{k:List SV->St->Bool}(h:(ev p n).ex cx e st (fun v st=>(ev p n).exs cx r st (fun vs st=>k (v::vs) st) ke) ke=true):(ev p (n+1)).exs cx (e::r) st k ke=true:=h
theorem qZ{o:E}{m:Nat}{as:List E}{k:Kv}(h:(ev p n).ex cx o st (fun v st=>BO p (ev p n) cx m as v st k ke) ke=true):(ev p (n+1)).ex cx (.mca o m as q q') st k ke=true:=h
theorem Ln{t a b:E}{k:Kv}(h:(ev p n).ts cx t st (fun r st=>match r with
 |true=>(ev p n).ex cx a st k ke
 |false=>(ev p n).ex cx b st k ke) ke=true):(ev p (n+1)).ex cx (.ife t a b q) st k ke=true:=h
theorem yN{s:List Nat}{l:String}{k:Kv}(h:k (.str s) st=true):(ev p (n+1)).ex cx (.str s l q) st k ke=true:=h
theorem Bt{i:Int}{k:Kv}(h:k (.int i) st=true):(ev p (n+1)).ex cx (.int i q) st k ke=true:=h
theorem Lr{k:Kv}(h:k .non st=true):(ev p (n+1)).ex cx (.non q) st k ke=true:=h
theorem Li{b:Bool}{k:Kv}(h:k (.bol b) st=true):(ev p (n+1)).ex cx (.bol b q) st k ke=true:=h
theorem Hr{F:Ev}{o i e:E}{k:Fl->St->Bool}(h:F.ex cx e st (fun v st=>F.ex cx o st (fun w st=>F.ex cx i st (fun j st=>l_ p w j v st k) ke) ke) ke=true):cT p F cx (.ass o i e q q') st k ke=true:=h
theorem Lh{F:Ev}{t:T}{e:E}{k:Fl->St->Bool}(h:F.ex cx e st (fun v st=>eP p cx.cl t v st fun st=>k .nxt st) ke=true):cT p F cx (.asg t e q) st k ke=true:=h
theorem Nm{elt it:E}{its:List E}{ts:List T}{cs:List (List E)}{frees:List Nat}{sc:Scope}{cl:List (Nat×Nat)}{k:Kv}(hfr:c8 cx.cl frees=some cl)(hp:jD it=.plain it)
  (h:(ev p n).ex cx it st (fun v st=>BB p v st fun src=>st.new p (.lst []) fun l st1=>st1.wf [] fun st=>(ev p n).comp {cx with cl} elt ts (it::its) cs src 0 l st (fun st2=>st2.wf st1.fr fun st=>k (.loc l) st)) ke=true):(ev p (n+1)).ex cx (.lc elt ts (it::its) cs frees sc q) st k ke=true:=by
 show bO (c8 cx.cl frees) _=true;rw[hfr];show nF p (ev p n) cx it st _ ke=true;unfold nF;rw[hp];exact h
theorem e_{i:Nat}(h0:p.N0=0)(h:st.n<=i):st.get p i=none:=by unfold St.get;rw[h0,show Nat.blt i 0=false by cases z:Nat.blt i 0;rfl;exact absurd (aP z) (by(first|lia|omega)),show Nat.blt (i-0) st.n=false by cases z:Nat.blt (i-0) st.n;rfl;exact absurd (aP z) (by(first|lia|omega))]
theorem Ht{es:List E}{k:Kv}(h:(ev p n).exs cx es st (fun vs st=>st.new p (.lst vs) fun l st=>k (.loc l) st) ke=true):(ev p (n+1)).ex cx (.lst es q) st k ke=true:=h
theorem sO{F:Ev}{e:E}{k:Fl->St->Bool}(h:F.ex cx e st (fun v st=>G9 v (k .nxt st)) ke=true):cT p F cx (.exp e q) st k ke=true:=h
theorem lH{F:Ev}{t:E}{a b:List S}{k:Fl->St->Bool}(h:F.ts cx t st (fun r st=>match r with
 |true=>F.sts cx a st k ke
 |false=>F.sts cx b st k ke) ke=true):cT p F cx (.ife t a b q) st k ke=true:=h
theorem Lv{es:List E}{k:Kv}(h:(ev p n).exs cx es st (fun vs st=>k (.tup vs) st) ke=true):(ev p (n+1)).ex cx (.tup es q) st k ke=true:=h
theorem nA{ih:Ev}{m l c d f:Nat}{es:List (Nat×SV)}{as:List E}{k:Kv}(h1:st.get p l=some (.ins c d))(h2:p.meth.look (c*1024+m)=some f)(h3:st.get p d=some (.adc es))(h4:look m es=none)(h:ih.exs cx as st (fun vs st=>ih.call cx.dp cx.un (.glo f) (.loc l::vs) st k ke) ke=true):BO p ih cx m as (.loc l) st k ke=true:=by show bO (st.get p l) _=true;rw[h1];show(match p.meth.look (c*1024+m) with|some f=>_|none=>_)=true;rw[h2];show(bO (st.get p d) _&&_)=true;rw[h3];show((match look m es with|none=>true|some _=>false)&&_)=true;rw[h4];exact h
theorem Dg{ih:Ev}{m l:Nat}{vs:List SV}{as:List E}{k:Kv}(h1:st.get p l=some (.lst vs))(h2:xL (.lst vs) m=true)(h:ih.exs cx as st (fun ws st=>Gh p l m ws st k) ke=true):BO p ih cx m as (.loc l) st k ke=true:=by show bO (st.get p l) _=true;rw[h1];show(xL (.lst vs) m&&_)=true;rw[h2];exact h
theorem hCallG{a dp un:Nat}{g:Fun}{as:List SV}{fr:List (Nat×SV)}{k:Kv}(hd:dp<200)(hu:un<4000)(hf:p.funs.look a=some g)(hc:g.cells=[])(hb:gG g.params as g.dflts []=some fr)(hbod:∀cx st k ke,p.bod a cx st k ke=none)
  (h:(ev p n).sts ⟨[],dp+1,un+3,g.tb⟩ g.body {st with fr:=fr} (fun fl st2=>k (Cg fl) {st2 with fr:=st.fr}) (fun c st2=>ke c {st2 with fr:=st.fr})=true):(ev p (n+1)).call dp un (.glo a) as st k ke=true:=by
 show(Nat.blt dp 200&&Nat.blt un 4000&&oQ p (ev p n) dp un a as st k ke)=true;rw[show Nat.blt dp 200=true from cA hd,show Nat.blt un 4000=true from cA hu];show(match p.funs.look a with|some g=>_|none=>_)=true;rw[hf];show bO (gG g.params as g.dflts []) _=true;rw[hb];show fc (fr.filter fun b=>!(g.cells.any (Nat.beq b.1))) _=true;rw[hc,bJ];rw[show(fr.filter fun b=>!(([]:List Nat).any (Nat.beq b.1)))=fr from List.filter_eq_self.mpr fun _ _=>rfl];show(match p.bod a ⟨[],dp+1,un+3,g.tb⟩ {st with fr:=fr} _ _ with|some b=>b|none=>_)=true;rw[hbod];exact h
theorem Lk{a b:List Nat}{f:Bool->Bool}{x:Bool}(h:jJ a b=x)(g:f x=true):qM p .eq (.str a) (.str b) st f=true:=by show(fH 30 (.str a)&&fH 30 (.str b)&&f (jJ a b))=true;rw[h];exact g
theorem uP{vs:List SV}{i:Nat}{v:SV}{k:Kv}(h:nth vs i=some v)(hl:Nat.ble vs.length 10000=true)(g:k v st=true):tH p (.tup vs) (.int (.ofNat i)) st k=true:=by show bO (nth vs i) _=true;rw[h];show(Nat.ble vs.length 10000&&k v st)=true;rw[hl];exact g
def yW(k:Fl->St->Bool)(f:St->Bool)(fl:Fl)(st:St):Bool:=match fl with
|.ret x=>k (.ret x) st
|_=>f st
def yX(k:Fl->St->Bool)(f:St->Bool)(fl:Fl)(st:St):Bool:=match fl with
|.nxt=>f st
|fl=>k fl st
theorem jG{k:Fl->St->Bool}{s:S}{r:List S}:(ev p (n+1)).sts cx (s::r) st k ke=cT p (ev p n) cx s st (yX k fun st=>(ev p n).sts cx r st k ke) ke:=rfl
theorem JF{k:Fl->St->Bool}:(ev p (n+1)).sts cx [] st k ke=k .nxt st:=rfl
theorem Lu{F:Ev}{m c:Nat}{as:List E}{k:Fl->St->Bool}(h1:nE p m c=true)(h2:(look c p.excs).isSome=true)(h:F.exs cx as st (fun vs st=>vJ vs&&ke c st) ke=true):cT p F cx (.rai m c as q q' q'') st k ke=true:=by show(nE p m c&&(look c p.excs).isSome&&F.exs cx as st _ ke)=true;rw[h1,h2];exact h
theorem Df{a b:List Nat}{k:Kv}(h:a.length+b.length<=10000)(g:k (.str (a++b)) st=true):A1 p .add (.str a) (.str b) st k=true:=by show(Nat.ble (a.length+b.length) 10000&&k (.str (a++b)) st)=true;rw[show Nat.ble (a.length+b.length) 10000=true from cA h];exact g
theorem Lg{l:Nat}{vs:List SV}{v:SV}{k:Kv}(h:st.get p l=some (.lst vs))(hl:vs.length<=10000)(g:(st.set p l (.lst (vs++[v])) fun st=>k .non st)=true):Gh p l 2 [v] st k=true:=by show bO (st.get p l) _=true;rw[h];show(Nat.ble vs.length 10000&&fc (vs++[v]) _)=true;rw[show Nat.ble vs.length 10000=true from cA hl,bJ];exact g
theorem Ls{l:Nat}{vs:List SV}{v:SV}{k:Kv}(h:st.get p l=some (.lst (vs++[v])))(hl:vs.length+1<=10000)(g:(st.set p l (.lst vs) fun st=>k v st)=true):Gh p l 3 [] st k=true:=by show bO (st.get p l) _=true;rw[h];show(Nat.ble (vs++[v]).length 10000&&(Nat.beq 3 3&&bO (vs++[v]).getLast? _))=true;rw[show Nat.ble (vs++[v]).length 10000=true from cA (by simpa using hl),List.getLast?_append];show fc (vs++[v]).dropLast _=true;rw[bJ,List.dropLast_concat];exact g
theorem Hy{l:Nat}{s:List Nat}{v:SV}{es:List (List Nat×SV)}{k:Fl->St->Bool}(h:st.get p l=some (.dct es))(hl:es.length<=900)(g:(st.set p l (.dct (i9 s v es)) fun st=>k .nxt st)=true):l_ p (.loc l) (.str s) v st k=true:=by refine Ll h ?_;show(Nat.ble es.length 900&&fc (i9 s v es) _)=true;rw[show Nat.ble es.length 900=true from cA hl,bJ];exact g
theorem Hw{F:Ev}{k:Fl->St->Bool}(h:k (.ret .non) st=true):cT p F cx (.ret0 q) st k ke=true:=h
theorem Hv{F:Ev}{e:E}{k:Fl->St->Bool}(h:F.ex cx e st (fun v st=>k (.ret v) st) ke=true):cT p F cx (.ret e q) st k ke=true:=h
theorem EX{F:Ev}{o e:E}{m:Nat}{k:Fl->St->Bool}(h:F.ex cx e st (fun v st=>F.ex cx o st (fun w st=>Cp p w m v st fun st=>k .nxt st) ke) ke=true):cT p F cx (.asa o m e q q') st k ke=true:=h
theorem yM{l c d m:Nat}{v:SV}{es:List (Nat×SV)}{fs:List Nat}{k:St->Bool}(h1:st.get p l=some (.ins c d))(h2:look c p.fld=some fs)(h3:fs.any (Nat.beq m)=true)(h4:st.get p d=some (.adc es))(h5:es.length<=900)(g:st.set p d (.adc (put m v es)) k=true):Cp p (.loc l) m v st k=true:=by show bO (st.get p l) _=true;rw[h1];show bO (look c p.fld) _=true;rw[h2];show(fs.any (Nat.beq m)&&bO (st.get p d) _)=true;rw[h3,h4];show(Nat.ble es.length 900&&fc (put m v es) _)=true;rw[show Nat.ble es.length 900=true from cA h5,bJ];exact g
theorem E1{a fi dp un:Nat}{as:List SV}{k:Kv}(hd:dp<200)(hu:un<4000)(hf:p.funs.look a=none)(hi:look a p.inits=some fi)(h:oR p (ev p n) dp un a fi as st k=true):(ev p (n+1)).call dp un (.glo a) as st k ke=true:=by show(Nat.blt dp 200&&Nat.blt un 4000&&oQ p (ev p n) dp un a as st k ke)=true;rw[show Nat.blt dp 200=true from cA hd,show Nat.blt un 4000=true from cA hu];show(match p.funs.look a with|some g=>_|none=>_)=true;rw[hf];show bO (look a p.inits) _=true;rw[hi];exact h
theorem E0{dp un:Nat}{g:Fun}{as:List SV}{fr:List (Nat×SV)}{k:Kv}{ih:Ev}(hc:g.cells=[])(hb:gG g.params as g.dflts []=some fr)(h:ih.sts ⟨[],dp+1,un+3,g.tb⟩ g.body {st with fr:=fr} (fun fl st2=>k (Cg fl) {st2 with fr:=st.fr}) (fun c st2=>ke c {st2 with fr:=st.fr})=true):fG p ih dp un g as st k ke=true:=by show bO (gG g.params as g.dflts []) _=true;rw[hb];show fc (fr.filter fun b=>!(g.cells.any (Nat.beq b.1))) _=true;rw[hc,bJ];rw[show(fr.filter fun b=>!(([]:List Nat).any (Nat.beq b.1)))=fr from List.filter_eq_self.mpr fun _ _=>rfl];exact h
theorem EZ{dp un b:Nat}{as:List SV}{k:Kv}(hd:dp<200)(hu:un<4000)(h:A0 p b as st k=true):(ev p (n+1)).call dp un (.bif b) as st k ke=true:=by show(Nat.blt dp 200&&Nat.blt un 4000&&A0 p b as st k)=true;rw[show Nat.blt dp 200=true from cA hd,show Nat.blt un 4000=true from cA hu];exact h
theorem E2{dp un j:Nat}{cs:List (Nat×Nat)}{k:Kv}{l:Lam}(hd:dp<200)(hu:un<4000)(hl:nth p.lams j=some l)(hc:cs.all (fun c=>l.frees.any (Nat.beq c.1))=true)(hp:l.params=[])(h:(ev p n).ex ⟨cs,dp+1,un+3,99⟩ l.body {st with fr:=[]} (fun v st2=>k v {st2 with fr:=st.fr}) (fun c st2=>ke c {st2 with fr:=st.fr})=true) :
  (ev p (n+1)).call dp un (.lam j cs) [] st k ke=true:=by
 show(Nat.blt dp 200&&Nat.blt un 4000&&oS p (ev p n) dp un j cs [] st k ke)=true;rw[show Nat.blt dp 200=true from cA hd,show Nat.blt un 4000=true from cA hu];show bO (nth p.lams j) _=true;rw[hl];show(cs.all (fun c=>l.frees.any (Nat.beq c.1))&&bO (gG l.params [] [] []) _)=true;rw[hc,hp];exact h
theorem Od{F:Ev}{b:List S}{hs:List H}{k:Fl->St->Bool}(h:F.sts cx b st k (fun c st=>jR p c hs st k)=true):cT p F cx (.tr b hs q) st k ke=true:=h
theorem Hs{k:Kv}(h:(st.new p (.dct []) fun l st=>k (.loc l) st)=true):(ev p (n+1)).ex cx (.dct [] [] q) st k ke=true:=h
theorem cY{k:Fl->St->Bool}{s:S}{r:List S}(h:cT p (ev p n) cx s st (yX k fun st=>(ev p n).sts cx r st k ke) ke=true):(ev p (n+1)).sts cx (s::r) st k ke=true:=h
theorem c6{k:Fl->St->Bool}(h:k .nxt st=true):(ev p (n+1)).sts cx [] st k ke=true:=h
theorem eK{i:Nat}{o o0:SO}(h0:st.get p i=some o0)(hi:p.N0<=i)(hl:st.objs.length=st.n):∃st':St,(∀k:St->Bool,st.set p i o k=k st')/\st'.fr=st.fr/\st'.n=st.n/\st'.objs.length=st'.n/\∀j,st'.get p j=if j=i then some o else st.get p j:=by
 have h1:∀k:St->Bool,st.set p i o k=k {st with objs:=setN st.objs (st.n-1-(i-p.N0)) o}:=fun k=>by
  obtain⟨fr,m,objs,da,ov⟩:=st;unfold St.get at h0;unfold St.set;have b0:Nat.blt i p.N0=false:=by cases z:Nat.blt i p.N0;rfl;exact absurd (aP z) (by(first|lia|omega))
  rw[b0] at h0 ⊢;simp only at h0 ⊢;rcases b1:Nat.blt (i-p.N0) m with _|_
  ·rw[b1] at h0;exact nf h0
  ·simp only[bJ]
 generalize {st with objs:=setN st.objs (st.n-1-(i-p.N0)) o}=st' at h1
 classical
 refine dF (k:=fun s=>decide (s=st')) hl (by rw[h1];exact decide_eq_true rfl) fun st2 e f1 f2 f3 _ f5=>?_;obtain rfl:=bD e;exact⟨_,h1,f1,f2,f3,f5⟩
theorem eI{o:SO}(hl:st.objs.length=st.n):∃st':St,(∀k:Nat->St->Bool,st.new p o k=k (p.N0+st.n) st')/\st'.fr=st.fr/\st'.n=st.n+1/\st'.objs.length=st'.n/\∀j,st'.get p j=if j=p.N0+st.n then some o else st.get p j:=by refine kM (p:=p) (st:=st) (o:=o) (k:=fun _ s=>true) (by obtain⟨fr,m,objs,da,ov⟩:=st;rfl) fun st2 e f1 f2 f3 _ f5=>?_;refine⟨⟨st.fr,st.n+1,o::st.objs,st.da,st.ov⟩,fun k=>by obtain⟨fr,m,objs,da,ov⟩:=st;rfl,rfl,rfl,by simp[hl],fun j=>?_⟩;obtain⟨fr,m,objs,da,ov⟩:=st;exact iS p fr fr m objs da da ov o j
end
end
section
noncomputable def sA:List Nat:=[109,46,65]
noncomputable def sB:List Nat:=[109,46,66]
noncomputable def sC:List Nat:=[109,46,67]
noncomputable def bT:Nat->List Nat
|0=>[109,46,65]
|1=>[109,46,66]
|_=>[109,46,67]
def aU(i:Nat):SV:=.str (bT i)
def rZ:bH:=fun f cx st k _=>gd (Nat.beq f 712) (nZ mR cx st k)
def P1:P:=fT 0 .lf rZ
noncomputable def rR:List (Nat×Nat):=[(31,3),(34,2),(190,1)]
def cxH:Cx:=⟨rR,120,2500,6⟩
def stH0:St:=⟨[(151,.loc 0)],4,[.cel none,.cel none,.cel none,mU],[],[]⟩
noncomputable def Ia:List SO:=[.lst [.str [109,46,65],.str [109,46,66],.str [109,46,67]],.dct [],.lst [],.lst [],.lst [],.dct [],.dct [],.dct [],.dct [],.dct [],.dct [],.dct [([101,114,114,111,114],.loc 11),([114,117,110,116,105,109,101,46,69,114,114,111,114],.loc 13),([115,121,110,99,46,77,117,116,101,120],.loc 15),([115,121,110,99,46,87,97,105,116,71,114,111,117,112],.loc 17)],.ins 644 16,.adc [(42,.str [115,121,110,99,46,87,97,105,116,71,114,111,117,112]),(33,.str [115,121,110,99]),(104,.tup [.str [115,116,114,117,99,116],.tup [.tup [.str [115,116,97,116,101],.tup [.str [105,110,116],.str [105,110,116]],.bol false]]]),(129,.loc 8)],.ins 644 14,.adc [(42,.str [115,121,110,99,46,77,117,116,101,120]),(33,.str [115,121,110,99]),(104,.tup [.str [115,116,114,117,99,116],.tup [.tup [.str [115,116,97,116,101],.tup [.str [105,110,116],.str [105,110,116]],.bol false]]]),(129,.loc 7)],.ins 644 12,.adc [(42,.str [114,117,110,116,105,109,101,46,69,114,114,111,114]),(33,.str [114,117,110,116,105,109,101]),(104,.tup [.str [115,116,114,105,110,103]]),(129,.loc 6)],.ins 644 10,.adc [(42,.str [101,114,114,111,114]),(33,.str []),(104,.tup [.str [105,110,116,101,114,102,97,99,101],.tup [.tup [.str [69,114,114,111,114],.tup [.str [102,117,110,99],.tup [],.tup [.tup [.str [115,116,114,105,110,103]]],.bol false]]]]),(129,.loc 9)],.dct [],.dct [([65,100,100],.tup [.bol true,.tup [.str [102,117,110,99],.tup [.tup [.str [105,110,116],.str [105,110,116]]],.tup [],.bol false],.str [115,121,110,99,46,87,97,105,116,71,114,111,117,112,46,65,100,100]]),([68,111,110,101],.tup [.bol true,.tup [.str [102,117,110,99],.tup [],.tup [],.bol false],.str [115,121,110,99,46,87,97,105,116,71,114,111,117,112,46,68,111,110,101]]),([87,97,105,116],.tup [.bol true,.tup [.str [102,117,110,99],.tup [],.tup [],.bol false],.str [115,121,110,99,46,87,97,105,116,71,114,111,117,112,46,87,97,105,116]])],.dct [([76,111,99,107],.tup [.bol true,.tup [.str [102,117,110,99],.tup [],.tup [],.bol false],.str [115,121,110,99,46,77,117,116,101,120,46,76,111,99,107]]),([85,110,108,111,99,107],.tup [.bol true,.tup [.str [102,117,110,99],.tup [],.tup [],.bol false],.str [115,121,110,99,46,77,117,116,101,120,46,85,110,108,111,99,107]])],.dct [([69,114,114,111,114],.tup [.bol false,.tup [.str [102,117,110,99],.tup [],.tup [.tup [.str [115,116,114,105,110,103]]],.bol false],.str [114,117,110,116,105,109,101,46,69,114,114,111,114,46,69,114,114,111,114]])],.ins 694 4,.adc [(44,.non),(76,.loc 18),(143,.loc 19),(144,.loc 20),(145,.loc 21),(146,.loc 22),(111,.loc 23),(46,.loc 24),(147,.loc 25),(148,.loc 26),(149,.non),(63,.loc 27),(150,.bol true)],.cel (some (.loc 5)),.cel none,.cel (some (.loc 28)),.lst [.nn false,.nn true]]
def d5:St:=⟨[(151,.loc 0),(65,.loc 29)],30,Ia,[],[]⟩
def n_(o:Nat):Nat->SV
|0=>.tup [cW,aU o]
|1=>.tup [mF,.int 2,.tup [cW,aU o]]
|2=>.tup [AO,.tup [cW,aU o]]
|3=>.tup [jZ,.tup [cW,aU o]]
|_=>.tup [cM,.tup [.tup [.str [120],.tup [cW,aU o],.bol false]]]
noncomputable def yR(w:Nat):Bool:=Nat.beq w 0||Nat.beq w 1||Nat.beq w 4
noncomputable abbrev Dr:=List (Nat×Nat)
def lX:Nat->Dr->List SV
|_,[]=>[]
|t,x::r=>.tup [.str [48+t],n_ x.1 x.2,.bol false]::lX (t+1) r
noncomputable def xY(o:Option SO)(k:List Nat)(v:SV):SO:=match o with
|some (.dct es)=>.dct (es++[(k,v)])
|_=>.src
noncomputable def zB(o:Option SO)(l:List SV):SO:=match o with
|some (.lst vs)=>.lst (vs++l)
|_=>.src
def fQ(x:Nat×Nat):List Nat:=match yR x.2 with
|true=>[x.1]
|false=>[]
def eY(i:Nat)(st:St):St:=match st with
|⟨fr,n,objs,da,ov⟩=>⟨put 64 (.loc n) fr,n+2,.lst []::.lst []::setN (setN objs (n-1-2) (.cel (some (aU i)))) (n-1-28) (xY (nth objs (n-1-28)) (bT i) (.loc (n+1))),da,ov⟩
def eW(b t:Nat)(x:Nat×Nat)(e:List Nat)(st:St):St:=match st with
|⟨fr,n,objs,da,ov⟩=>⟨put 158 (.loc n) (put 178 (.int (.ofNat x.2)) (put 61 (.tup [cW,aU x.1]) (put 191 (aU x.1) (put 169 (.int (.ofNat t)) fr)))),n+2,
  .lst [.int 0,.int 1,.int 4]::.lst ((List.range 5).map (n_ x.1))::setN (setN objs (n-1-b) (zB (nth objs (n-1-b)) [.tup [.str [48+t],n_ x.1 x.2,.bol false]])) (n-1-(b+1)) (zB (nth objs (n-1-(b+1))) (e.map aU)),da,ov⟩
def Bb(i b:Nat)(st:St):St:=match st with
|⟨fr,n,objs,da,ov⟩=>match nth objs (n-1-b) with
 |some (.lst rs)=>⟨fr,n+3,.ins 644 (n+1)::.adc [(42,aU i),(33,.str [109]),(104,.tup [cM,.tup rs]),(129,.loc n)]::.dct []::setN objs (n-1-18) (xY (nth objs (n-1-18)) (bT i) (.loc (n+2))),da,ov⟩
 |_=>st
def AI(b:Nat):Nat->Dr->St->St
|_,[],st=>st
|t,x::r,st=>AI b (t+1) r (eW b t x (fQ x) st)
def iA(i:Nat)(D:Dr)(st:St):St:=Bb i st.n (AI st.n 0 D (eY i st))
def fW:List S:=match f799.body with
|[_,_,.fo _ _ b _,_,_,_]=>b
|_=>[]
def Ny:S:=match fW with
|[a,_,_]=>a
|_=>.ret0 ⟨0,0,0,0⟩
def FQ:S:=match fW with
|[_,b,_]=>b
|_=>.ret0 ⟨0,0,0,0⟩
def Gl:S:=match fW with
|[_,_,c]=>c
|_=>.ret0 ⟨0,0,0,0⟩
def F3:T:=match FQ with
|.fo t _ _ _=>t
|_=>.tp [] ⟨0,0,0,0⟩
def D4:List S:=match FQ with
|.fo _ _ b _=>b
|_=>[]
def Iy:List S:=f799.body.take 2
def Gn:T:=match f799.body with
|[_,_,.fo t _ _ _,_,_,_]=>t
|_=>.tp [] ⟨0,0,0,0⟩
theorem LY(n:Nat)(rest:List S)(K:Fl->St->Bool)(ke:Ke):(ev P1 (n+202)).sts cxH (Iy++rest) stH0 K ke=(ev P1 (n+200)).sts cxH rest d5 K ke:=by kernel_rfl
end
section
def Sh:Nat->St->Prop
|0,st=>st=d5
|i+1,st=>∃st0 D,Sh i st0/\D.length<=2/\st=iA i D st0
noncomputable abbrev jI:=Fl->St->Bool
def D7(n i:Nat)(st:St)(K:jI)(ke:Ke):Bool:=eP P1 rR Gn (aU i) st fun st=>cT P1 (ev P1 (n+60)) cxH Ny st K ke
def Hd(n:Nat)(L:Cx->T->List S->It->Nat->St->jI->Ke->Bool)(st:St)(K:jI)(ke:Ke):Bool:=cT P1 {ev P1 (n+60) with loop:=L} cxH FQ st K ke
def K6(L:Cx->T->List S->It->Nat->St->jI->Ke->Bool)(st:St)(K:jI)(ke:Ke):Bool:=(List.range 3).all fun c=>L cxH F3 D4 (.rng c) 0 st K ke
def oB(n t:Nat)(st:St)(K:jI)(ke:Ke):Bool:=eP P1 rR F3 (.int (.ofNat t)) st fun st=>(ev P1 (n+60)).sts cxH D4 st K ke
def oH(b t:Nat)(st:St)(K:jI):Bool:=(List.range 3).all fun o=>(List.range 5).all fun w=>K .nxt (eW b t (o,w) (fQ (o,w)) st)
def Ba(n:Nat)(st:St)(K:jI)(ke:Ke):Bool:=cT P1 (ev P1 (n+60)) cxH Gl st K ke
theorem gS{α:Type}{l:List α}(h:l.length<=2):l=[]\/(∃a,l=[a])\/∃a b,l=[a,b]:=by
 match l,h with
|[],_=>exact .inl rfl
|[a],_=>exact .inr (.inl ⟨a,rfl⟩)
|[a,b],_=>exact .inr (.inr ⟨a,b,rfl⟩)
theorem eN{P:Nat->St->Prop}(h0:P 0 d5)(h10:P 1 (iA 0 [] d5))(h11:∀a,P 1 (iA 0 [a] d5))(h12:∀a b,P 1 (iA 0 [a,b] d5))
  (h200:P 2 (iA 1 [] (iA 0 [] d5))) (h201:∀c,P 2 (iA 1 [c] (iA 0 [] d5))) (h202:∀c d,P 2 (iA 1 [c,d] (iA 0 [] d5)))
  (h210:∀a,P 2 (iA 1 [] (iA 0 [a] d5))) (h211:∀a c,P 2 (iA 1 [c] (iA 0 [a] d5))) (h212:∀a c d,P 2 (iA 1 [c,d] (iA 0 [a] d5)))
  (h220:∀a b,P 2 (iA 1 [] (iA 0 [a,b] d5))) (h221:∀a b c,P 2 (iA 1 [c] (iA 0 [a,b] d5))) (h222:∀a b c d,P 2 (iA 1 [c,d] (iA 0 [a,b] d5))) :
  ∀i st,i<3->Sh i st->P i st:=by
 intro i st hi h
 match i,hi,h with
|0,_,h=>subst h;exact h0
|1,_,⟨_,D,h,hD,e⟩=>
  subst h;subst e;rcases gS hD with rfl|⟨a,rfl⟩|⟨a,b,rfl⟩
  ·exact h10
  ·exact h11 a
  ·exact h12 a b
|2,_,⟨_,D,⟨_,D0,h,hD0,e0⟩,hD,e⟩=>
  subst h;subst e0;subst e;rcases gS hD0 with rfl|⟨a,rfl⟩|⟨a,b,rfl⟩<;>rcases gS hD with rfl|⟨c,rfl⟩|⟨c,d,rfl⟩
  ·exact h200
  ·exact h201 c
  ·exact h202 c d
  ·exact h210 a
  ·exact h211 a c
  ·exact h212 a c d
  ·exact h220 a b
  ·exact h221 a b c
  ·exact h222 a b c d
abbrev bg(i:Nat)(st:St):St:=eY i st
section
variable (n:Nat)(K:jI)(ke:Ke)(L:Cx->T->List S->It->Nat->St->jI->Ke->Bool)
theorem JT:∀i st,i<3->Sh i st->D7 n i st K ke=K .nxt (eY i st):=by refine eN ?_ ?_ ?_ ?_ ?_ ?_ ?_ ?_ ?_ ?_ ?_ ?_ ?_<;>intros<;>kernel_rfl
theorem K5:∀i st,i<3->Sh i st->Hd n L (eY i st) K ke=K6 L (eY i st) K ke:=by refine eN ?_ ?_ ?_ ?_ ?_ ?_ ?_ ?_ ?_ ?_ ?_ ?_ ?_<;>intros<;>kernel_rfl
theorem AF:∀i st,i<3->Sh i st->oB n 0 (eY i st) K ke=oH st.n 0 (eY i st) K:=by refine eN ?_ ?_ ?_ ?_ ?_ ?_ ?_ ?_ ?_ ?_ ?_ ?_ ?_<;>intros<;>kernel_rfl
theorem Jc(x:Nat×Nat):∀i st,i<3->Sh i st->oB n 1 (eW st.n 0 x [] (eY i st)) K ke=oH st.n 1 (eW st.n 0 x [] (eY i st)) K:=by refine eN ?_ ?_ ?_ ?_ ?_ ?_ ?_ ?_ ?_ ?_ ?_ ?_ ?_<;>intros<;>kernel_rfl
theorem Jd(x:Nat×Nat)(y:Nat):∀i st,i<3->Sh i st->oB n 1 (eW st.n 0 x [y] (eY i st)) K ke=oH st.n 1 (eW st.n 0 x [y] (eY i st)) K:=by refine eN ?_ ?_ ?_ ?_ ?_ ?_ ?_ ?_ ?_ ?_ ?_ ?_ ?_<;>intros<;>kernel_rfl
theorem GZ:∀i st,i<3->Sh i st->Ba n (eY i st) K ke=K .nxt (Bb i st.n (eY i st)):=by refine eN ?_ ?_ ?_ ?_ ?_ ?_ ?_ ?_ ?_ ?_ ?_ ?_ ?_<;>intros<;>kernel_rfl
theorem G0(x:Nat×Nat)(e:List Nat):∀i st,i<3->Sh i st->Ba n (eW st.n 0 x e (eY i st)) K ke=K .nxt (Bb i st.n (eW st.n 0 x e (eY i st))):=by refine eN ?_ ?_ ?_ ?_ ?_ ?_ ?_ ?_ ?_ ?_ ?_ ?_ ?_<;>intros<;>kernel_rfl
theorem G4(x y:Nat×Nat)(e e':List Nat):∀i st,i<3->Sh i st->Ba n (eW st.n 1 y e' (eW st.n 0 x e (eY i st))) K ke=K .nxt (Bb i st.n (eW st.n 1 y e' (eW st.n 0 x e (eY i st)))):=by refine eN ?_ ?_ ?_ ?_ ?_ ?_ ?_ ?_ ?_ ?_ ?_ ?_ ?_<;>intros<;>kernel_rfl
end
end
section
noncomputable def gM(D:Dr):Bool:=Nat.ble D.length 2&&D.all fun x=>Nat.blt x.1 3&&Nat.blt x.2 5
theorem A8(x:Nat×Nat):fQ x=[]\/∃y,fQ x=[y]:=by
 unfold fQ;cases yR x.2
 ·exact .inl rfl
 ·exact .inr ⟨_,rfl⟩
theorem jW{n:Nat}{f:Nat->Bool}(h:∀i,i<n->f i=true):(List.range n).all f=true:=List.all_eq_true.mpr fun i hi=>h i (List.mem_range.mp hi)
section
variable{p:P}{n:Nat}{t:T}{body:List S}{c i:Nat}{k:Fl->St->Bool}
theorem f9(h:Nat.blt i c=true):(ev p (n+1)).loop cx t body (.rng c) i st k ke=eP p cx.cl t (.int (.ofNat i)) st fun st=>(ev p n).sts cx body st (yW k fun st=>(ev p n).loop cx t body (.rng c) (i+1) st k ke) ke:=by show(match Nat.blt i c with|true=>_|false=>_)=_;rw[h];rfl
theorem f8(h:Nat.blt i c=false):(ev p (n+1)).loop cx t body (.rng c) i st k ke=k .nxt st:=by show(match Nat.blt i c with|true=>_|false=>_)=_;rw[h]
end
theorem xC{t:T}{v:SV}{st:St}{f g:St->Bool}(h:∀st,f st=g st):eP P1 rR t v st f=eP P1 rR t v st g:=by rw[show f=g from funext h]
def LQ(n i:Nat)(st:St)(K:jI)(ke:Ke):Bool:=eP P1 rR Gn (aU i) st fun st=>(ev P1 (n+70)).sts cxH fW st K ke
section
variable (n:Nat)(K:jI)(ke:Ke)
theorem tK{b t:Nat}{st:St}(h:∀o w,o<3->w<5->K .nxt (eW b t (o,w) (fQ (o,w)) st)=true):oH b t st K=true:=
 jW fun o ho=>jW fun w hw=>h o w ho hw
def kB:jI:=yX K fun st=>(ev P1 (n+68)).sts cxH [Gl] st K ke
theorem NX{i:Nat}{st:St}:LQ n i st K ke=D7 (n+9) i st (yX K fun st=>(ev P1 (n+69)).sts cxH [FQ,Gl] st K ke) ke:=by unfold LQ D7;rw[show fW=[Ny,FQ,Gl] by kernel_rfl];exact xC fun st=>jG
theorem NY{st:St}:(ev P1 (n+69)).sts cxH [FQ,Gl] st K ke=Hd (n+8) (ev P1 (n+68)).loop st (kB n K ke) ke:=by kernel_rfl
theorem JZ{st:St}:kB n K ke .nxt st=Ba (n+7) st (yX K fun st=>(ev P1 (n+67)).sts cxH [] st K ke) ke:=by kernel_rfl
theorem zA{c t m:Nat}{st:St}(h:Nat.blt t c=true):(ev P1 (m+61)).loop cxH F3 D4 (.rng c) t st K ke=oB m t st (yW K fun st=>(ev P1 (m+60)).loop cxH F3 D4 (.rng c) (t+1) st K ke) ke:=f9 h
theorem Ot{o w:Nat}(ho:o<3)(hw:w<5):gM [(o,w)]=true:=by show(true&&((Nat.blt o 3&&Nat.blt w 5)&&true))=true;rw[show Nat.blt o 3=true from cA ho,show Nat.blt w 5=true from cA hw];rfl
theorem Ou{o w o' w':Nat}(ho:o<3)(hw:w<5)(ho':o'<3)(hw':w'<5):gM [(o,w),(o',w')]=true:=by show(true&&((Nat.blt o 3&&Nat.blt w 5)&&((Nat.blt o' 3&&Nat.blt w' 5)&&true)))=true;rw[show Nat.blt o 3=true from cA ho,show Nat.blt w 5=true from cA hw,show Nat.blt o' 3=true from cA ho',show Nat.blt w' 5=true from cA hw'];rfl
theorem LR{i:Nat}{st:St}(hi:i<3)(hs:Sh i st)(h:∀D,gM D=true->K .nxt (iA i D st)=true):LQ n i st K ke=true:=by
 have b1:∀K,oH st.n 0 (eY i st) K=oB (n+7) 0 (eY i st) K ke:=fun K=>(AF (n+7) K ke i st hi hs).symm;rw[NX,JT (n+9) _ ke i st hi hs];show(ev P1 (n+69)).sts cxH [FQ,Gl] (eY i st) K ke=true;rw[NY,K5 (n+8) _ ke _ i st hi hs];refine jW fun c hc=>?_
 match c,hc with
|0,_=>rw[f8 rfl,JZ,GZ (n+7) _ ke i st hi hs];exact h [] rfl
|1,_=>rw[zA _ _ rfl,AF (n+7) _ ke i st hi hs];refine tK _ fun o w ho hw=>?_;show(ev P1 (n+67)).loop cxH F3 D4 (.rng 1) 1 _ _ ke=true;rw[f8 rfl,JZ,G0 (n+7) _ ke (o,w) _ i st hi hs];exact h [(o,w)] (Ot ho hw)
|2,_=>
  rw[zA _ _ rfl,AF (n+7) _ ke i st hi hs];refine tK _ fun o w ho hw=>?_;show(ev P1 (n+67)).loop cxH F3 D4 (.rng 2) 1 _ _ ke=true;rw[zA (m:=n+6) _ _ rfl];have e3:∀K,oB (n+6) 1 (eW st.n 0 (o,w) (fQ (o,w)) (eY i st)) K ke=oH st.n 1 (eW st.n 0 (o,w) (fQ (o,w)) (eY i st)) K:=fun K=>by
   rcases A8 (o,w) with e|⟨y,e⟩
   ·rw[e];exact Jc (n+6) K ke (o,w) i st hi hs
   ·rw[e];exact Jd (n+6) K ke (o,w) y i st hi hs
  rw[e3];refine tK _ fun o' w' ho' hw'=>?_;show(ev P1 (n+66)).loop cxH F3 D4 (.rng 2) 2 _ _ ke=true;rw[f8 rfl,JZ,G4 (n+7) _ ke (o,w) (o',w') _ _ i st hi hs];exact h [(o,w),(o',w')] (Ou ho hw ho' hw')
end
end
section
def nV:Dr->List SV
|[]=>[]
|x::r=>match r with
 |[]=>[]++(fQ x).map aU
 |y::_=>([]++(fQ x).map aU)++(fQ y).map aU
def cP(D:Dr):List Nat:=D.flatMap fQ
theorem l9{D:Dr}(h:D.length<=2):nV D=(cP D).map aU:=by
 rcases gS h with rfl|⟨a,rfl⟩|⟨a,b,rfl⟩
 ·rfl
 ·simp[nV,cP]
 ·simp[nV,cP]
def FM(i:Nat)(D:Dr)(l:Nat):SO:=.adc [(42,aU i),(33,.str [109]),(104,.tup [cM,.tup (lX 0 D)]),(129,.loc l)]
noncomputable def Ac:List Nat:=[101,114,114,111,114]
noncomputable def Ah:List Nat:=[114,117,110,116,105,109,101,46,69,114,114,111,114]
noncomputable def Af:List Nat:=[115,121,110,99,46,77,117,116,101,120]
noncomputable def IK:List Nat:=[115,121,110,99,46,87,97,105,116,71,114,111,117,112]
def GE(i:Nat):SO:=match nth Ia (29-i) with
|some o=>o
|none=>.src
def nQ(A B C:Dr):List (Nat×SO):=
 let n1:=35+2*A.length;let n2:=n1+5+2*B.length;let n3:=n2+5+2*C.length
 [(0,mU),(1,.cel (some (.loc 28))),(2,.cel (some (aU 2))),(3,.cel (some (.loc 5))),(4,GE 4),(5,.ins 694 4),(18,.dct [(Ac,.loc 11),(Ah,.loc 13),(Af,.loc 15),(IK,.loc 17),(bT 0,.loc (n1-1)),(bT 1,.loc (n2-1)),(bT 2,.loc (n3-1))]),
  (28,.dct [(bT 0,.loc 31),(bT 1,.loc (n1+1)),(bT 2,.loc (n2+1))]),(29,.lst [aU 0,aU 1,aU 2]),(31,.lst (nV A)),(n1+1,.lst (nV B)),(n2+1,.lst (nV C)),
  (10,GE 10),(11,.ins 644 10),(12,GE 12),(13,.ins 644 12),(14,GE 14),(15,.ins 644 14),(16,GE 16),(17,.ins 644 16),
  (n1-2,FM 0 A (n1-3)),(n1-1,.ins 644 (n1-2)),(n2-2,FM 1 B (n2-3)),(n2-1,.ins 644 (n2-2)),(n3-2,FM 2 C (n3-3)),(n3-1,.ins 644 (n3-2))]
def gE(A B C:Dr):St:=iA 2 C (iA 1 B (iA 0 A d5))
theorem FG{A B C:Dr}(ha:A.length<=2)(hb:B.length<=2)(hc:C.length<=2):(nQ A B C).map (fun x=>St.get P1 (gE A B C) x.1)=(nQ A B C).map fun x=>some x.2:=by rcases gS ha with rfl|⟨a,rfl⟩|⟨a,a',rfl⟩<;>rcases gS hb with rfl|⟨b,rfl⟩|⟨b,b',rfl⟩<;>rcases gS hc with rfl|⟨c,rfl⟩|⟨c,c',rfl⟩<;>kernel_rfl
theorem HO{A B C:Dr}(ha:A.length<=2)(hb:B.length<=2)(hc:C.length<=2):(gE A B C).objs.length=(gE A B C).n:=by rcases gS ha with rfl|⟨a,rfl⟩|⟨a,a',rfl⟩<;>rcases gS hb with rfl|⟨b,rfl⟩|⟨b,b',rfl⟩<;>rcases gS hc with rfl|⟨c,rfl⟩|⟨c,c',rfl⟩<;>kernel_rfl
theorem Oq{A B C:Dr}(ha:A.length<=2)(hb:B.length<=2)(hc:C.length<=2):(gE A B C).n=35+2*A.length+5+2*B.length+5+2*C.length:=by rcases gS ha with rfl|⟨a,rfl⟩|⟨a,a',rfl⟩<;>rcases gS hb with rfl|⟨b,rfl⟩|⟨b,b',rfl⟩<;>rcases gS hc with rfl|⟨c,rfl⟩|⟨c,c',rfl⟩<;>kernel_rfl
theorem K7{A B C:Dr}(ha:A.length<=2)(hb:B.length<=2)(hc:C.length<=2):look 65 (gE A B C).fr=some (.loc 29):=by rcases gS ha with rfl|⟨a,rfl⟩|⟨a,a',rfl⟩<;>rcases gS hb with rfl|⟨b,rfl⟩|⟨b,b',rfl⟩<;>rcases gS hc with rfl|⟨c,rfl⟩|⟨c,c',rfl⟩<;>kernel_rfl
theorem sV:∀i st,i<3->Sh i st->St.get P1 st 29=some (.lst [aU 0,aU 1,aU 2]):=by refine eN ?_ ?_ ?_ ?_ ?_ ?_ ?_ ?_ ?_ ?_ ?_ ?_ ?_<;>intros<;>kernel_rfl
end
section
theorem ES{A B C:Dr}(ha:A.length<=2)(hb:B.length<=2)(hc:C.length<=2){i:Nat}{o:SO}(h:(i,o)∈nQ A B C):St.get P1 (gE A B C) i=some o:=List.map_inj_left.mp (FG ha hb hc) _ h
theorem cG{D:Dr}(h:gM D=true):D.length<=2:=aP (aG h).1
def Iz:S:=match f799.body with
|[_,_,s,_,_,_]=>s
|_=>.ret0 ⟨0,0,0,0⟩
section
variable{p:P}{n:Nat}{t:T}{body:List S}{c i l:Nat}{k:Fl->St->Bool}{vs:List SV}{v:SV}
theorem dQ(h:st.get p l=some (.lst vs))(h2:nth vs i=some v):(ev p (n+1)).loop cx t body (.lst l) i st k ke=eP p cx.cl t v st fun st=>(ev p n).sts cx body st (yW k fun st=>(ev p n).loop cx t body (.lst l) (i+1) st k ke) ke:=by show gL p st l _=_;unfold gL;rw[h];show(match nth vs i with|none=>_|some v=>_)=_;rw[h2];rfl
theorem lO(h:st.get p l=some (.lst vs))(h2:nth vs i=none):(ev p (n+1)).loop cx t body (.lst l) i st k ke=k .nxt st:=by show gL p st l _=_;unfold gL;rw[h];show(match nth vs i with|none=>_|some v=>_)=_;rw[h2]
end
theorem yI(n:Nat)(L:Cx->T->List S->It->Nat->St->jI->Ke->Bool)(K:jI)(ke:Ke):cT P1 {ev P1 (n+100) with loop:=L} cxH Iz d5 K ke=L cxH Gn fW (.lst 29) 0 d5 K ke:=by kernel_rfl
theorem OJ(n:Nat)(K:jI)(ke:Ke)(h:∀A B C,gM A=true->gM B=true->gM C=true->K .nxt (gE A B C)=true):cT P1 (ev P1 (n+100)) cxH Iz d5 K ke=true:=by rw[show cT P1 (ev P1 (n+100)) cxH Iz d5 K ke=cT P1 {ev P1 (n+100) with loop:=(ev P1 (n+100)).loop} cxH Iz d5 K ke by kernel_rfl,yI];have sh0:Sh 0 d5:=rfl;rw[dQ (sV 0 _ (by decide) sh0) (v:=aU 0) rfl];refine LR (n+29) _ ke (by decide) sh0 fun A hA=>?_;have sh1:Sh 1 (iA 0 A d5):=⟨_,A,sh0,cG hA,rfl⟩;show(ev P1 (n+99)).loop cxH Gn fW (.lst 29) 1 (iA 0 A d5) K ke=true;rw[dQ (sV 1 _ (by decide) sh1) (v:=aU 1) rfl];refine LR (n+28) _ ke (by decide) sh1 fun B hB=>?_;have sh2:Sh 2 (iA 1 B (iA 0 A d5)):=⟨_,B,sh1,cG hB,rfl⟩;show(ev P1 (n+98)).loop cxH Gn fW (.lst 29) 2 (iA 1 B (iA 0 A d5)) K ke=true;rw[dQ (sV 2 _ (by decide) sh2) (v:=aU 2) rfl];refine LR (n+27) _ ke (by decide) sh2 fun C hC=>?_;show(ev P1 (n+97)).loop cxH Gn fW (.lst 29) 3 (gE A B C) K ke=true;rw[lO (ES (cG hA) (cG hB) (cG hC) (o:=.lst [aU 0,aU 1,aU 2]) (by unfold nQ;simp only[List.mem_cons,true_or,or_true])) rfl];exact h A B C hA hB hC
end
section
noncomputable abbrev T3:=List Nat×List Nat×List Nat
noncomputable def T3.at(t:T3)(i:Nat):List Nat:=match i with
|0=>t.1
|1=>t.2.1
|_=>t.2.2
noncomputable def T3.put(t:T3)(i:Nat)(x:List Nat):T3:=match i with
|0=>(x,t.2.1,t.2.2)
|1=>(t.1,x,t.2.2)
|_=>(t.1,t.2.1,x)
def bV(x:Nat)(l:List Nat):Bool:=lR false (fun z _ y=>Nat.beq z x||y) l
def jO(t:T3)(i:Nat):List Nat:=(t.at i).flatMap fun one=>(t.at one).filter fun x=>!bV x (t.at i)
def T3.cl(t:T3)(i:Nat):T3:=t.put i (t.at i++jO t i)
def T3.ok(t:T3):Prop:=∀i,i<3->(t.at i).length<=60/\∀x∈t.at i,x<3
theorem T3.at_put{t:T3}{i j:Nat}{x:List Nat}(hi:i<3)(hj:j<3):(t.put i x).at j=if j=i then x else t.at j:=by
 match i,hi,j,hj with
|0,_,0,_|0,_,1,_|0,_,2,_|1,_,0,_|1,_,1,_|1,_,2,_|2,_,0,_|2,_,1,_|2,_,2,_=>rfl
theorem Au{a b:Nat}(ha:a<3)(hb:b<3):jJ (bT a) (bT b)=Nat.beq a b:=by
 match a,ha,b,hb with
|0,_,0,_|0,_,1,_|0,_,2,_|1,_,0,_|1,_,1,_|1,_,2,_|2,_,0,_|2,_,1,_|2,_,2,_=>rfl
theorem pC{x:Nat}(hx:x<3):∀{l:List Nat},(∀y∈l,y<3)->AT (aU x) (l.map aU)=some (bV x l)
|[],_=>rfl
|y::r,h=>by
  have e:wV 20 (aU y) (aU x)=some (Nat.beq y x):=by show some (jJ (bT y) (bT x))=_;rw[Au (h y (.head _)) hx]
  show(match wV 20 (aU y) (aU x) with|none=>none|some b=>match b with|true=>some true|false=>AT (aU x) (r.map aU))=some (Nat.beq y x||bV x r);rw[e];rcases Nat.beq y x with _|_
  ·exact pC hx fun z hz=>h z (.tail _ hz)
  ·rfl
theorem oW:∀{l:List Nat},(l.map aU).all (fH 30)=true
|[]=>rfl
|_::r=>by show(true&&(r.map aU).all (fH 30))=true;exact oW
theorem qB{st:St}{fr:List (Nat×SV)}{k:St->Bool}:st.wf fr k=k {st with fr:=fr}:=rfl
section
variable{n:Nat}{g:Nat->Option SO}{lo:Nat}{o:SO}
theorem gx(hg:∀j,st.get P1 j=if j=lo then some o else g j)(hn:g lo=none){x:Nat}{o':SO}(h:g x=some o'):st.get P1 x=some o':=by rw[hg,if_neg fun e=>by rw[e,hn] at h;exact nf h];exact h
structure GF(g:Nat->Option SO) (i:Nat) (pl:Nat->Nat) (t:T3):Prop where
 c1:g 1=some (.cel (some (.loc 28)))
 c2:g 2=some (.cel (some (aU i)))
 d:g 28=some (.dct [(bT 0,.loc (pl 0)),(bT 1,.loc (pl 1)),(bT 2,.loc (pl 2))])
 l:∀j,j<3->g (pl j)=some (.lst ((t.at j).map aU))
theorem lN{i:Nat}(hi:i<3)(pl:Nat->Nat):cS (bT i) [(bT 0,.loc (pl 0)),(bT 1,.loc (pl 1)),(bT 2,.loc (pl 2))]=some (SV.loc (pl i)):=by
 match i,hi with
|0,_|1,_|2,_=>rfl
def p9(q1 q2 q3:Pos):E:=.sub (.ce 190 q1) (.ce 34 q2) q3
theorem jX{i:Nat}{pl:Nat->Nat}{t:T3}(hi:i<3)(G:GF (St.get P1 st) i pl t)(h1:look 190 cx.cl=some 1)(h2:look 34 cx.cl=some 2){q1 q2 q3:Pos}{k:Kv}(hk:k (.loc (pl i)) st=true):(ev P1 (n+2)).ex cx (p9 q1 q2 q3) st k ke=true:=
 show(ev P1 (n+1)).ex cx (.ce 190 q1) st (fun v st=>(ev P1 (n+1)).ex cx (.ce 34 q2) st (fun w st=>tH P1 v w st k) ke) ke=true from E4 h1 G.c1 (E4 h2 G.c2 (uO G.d (lN hi pl) hk))
theorem GF.over{i:Nat}{pl:Nat->Nat}{t:T3}(G:GF g i pl t)(hg:∀j,st.get P1 j=if j=lo then some o else g j)(hn:g lo=none):GF (St.get P1 st) i pl t:=
 ⟨gx hg hn G.c1,gx hg hn G.c2,gx hg hn G.d,fun j hj=>gx hg hn (G.l j hj)⟩
theorem uG{l:List Nat}{i d:Nat}(h:i+(d+1)=l.length):∃x,l[i]?=some x/\l.drop i=x::l.drop (i+1)/\x∈l:=by
 have lt:i<l.length:=by(first|lia|omega)
 exact⟨l[i],List.getElem?_eq_getElem lt,List.drop_eq_getElem_cons lt,List.getElem_mem lt⟩
def vB(q0 q1 q2 q3 q4:Pos):E:=.cmp (.lo 192 q0) [.nin] [p9 q1 q2 q3] q4
theorem Fb{i m:Nat}{pl:Nat->Nat}{t:T3}(T:t.ok)(G:GF g i pl t)(hi:i<3)(hm:m<3)(hn:g lo=none)(h1:look 190 cx.cl=some 1)(h2:look 34 cx.cl=some 2){it:E}{q qt q0 q1 q2 q3 q4:Pos}{k:St->Bool}:∀(d idx:Nat) (out:List Nat) (st:St),
  idx+d=(t.at m).length->out.length+d<=10000->st.objs.length=st.n->(∀j,st.get P1 j=if j=lo then some (.lst (out.map aU)) else g j)->
  (∀st':St,st'.n=st.n->st'.objs.length=st'.n->(∀j,st'.get P1 j=if j=lo then some (.lst ((out++((t.at m).drop idx).filter fun x=>!bV x (t.at i)).map aU)) else g j)->k st'=true)->
  (ev P1 (n+d+9)).comp cx (.lo 192 q) [.nm 192 qt] [it] [[vB q0 q1 q2 q3 q4]] (.lst (pl m)) idx lo st k=true:=by
 intro d;induction d with
|zero=>intro idx out st hd hb hl hg hk;refine qY (gx hg hn (G.l m hm)) ?_;rw[bS,List.getElem?_map,List.getElem?_eq_none (by(first|lia|omega))];refine hk st rfl hl fun j=>?_;rw[List.drop_eq_nil_of_le (by(first|lia|omega)),List.filter_nil,List.append_nil];exact hg j
|succ d ih=>
  intro idx out st hd hb hl hg hk;refine oEAA (uG hd) fun x hx hdr hmem=>?_;have x3:=(T m hm).2 x hmem;refine qY (gx hg hn (G.l m hm)) ?_;rw[bS,List.getElem?_map,hx];show fc (put 192 (aU x) st.fr) _=true;rw[bJ];have hg1:∀j,St.get P1 {st with fr:=put 192 (aU x) st.fr} j=if j=lo then some (.lst (out.map aU)) else g j:=hg
  refine yO (hTsCmp (fZ (st:={st with fr:=put 192 (aU x) st.fr}) (by rw[bM,if_pos rfl]) ?_));refine jX hi (G.over hg1 hn) h1 h2 ?_;refine E6 (gx hg1 hn (G.l i hi)) rfl oW (pC x3 (T i hi).2) ?_;have e:((t.at m).drop idx).filter (fun x=>!bV x (t.at i))=(match bV x (t.at i) with|true=>[]|false=>[x])++((t.at m).drop (idx+1)).filter fun x=>!bV x (t.at i):=by rw[hdr,List.filter_cons];cases bV x (t.at i)<;>rfl
  rw[e] at hk;rcases z:bV x (t.at i) with _|_
  ·rw[z] at hk;refine pB (fZ (n:=n+(d+1)+7) (st:={st with fr:=put 192 (aU x) st.fr}) (by rw[bM,if_pos rfl]) ?_);refine qY (by rw[hg1,if_pos rfl]) ?_;show(Nat.ble (out.map aU).length 10000&&fc (out.map aU++[aU x]) _)=true;rw[show Nat.ble (out.map aU).length 10000=true from cA (by rw[List.length_map];(first|lia|omega)),bJ,<-List.map_singleton,<-List.map_append];refine cJ (eK (o:=.lst ((out++[x]).map aU)) (show St.get P1 {st with fr:=put 192 (aU x) st.fr} lo=some (.lst (out.map aU)) by rw[hg1,if_pos rfl]) (Nat.zero_le _) hl) fun st' hs f1 f2 f3 f4=>?_;rw[Bool.true_and,hs];refine ih (idx+1) (out++[x]) st' (by(first|lia|omega)) (by rw[List.length_append,List.length_singleton];(first|lia|omega)) f3 (fun j=>?_) fun st2 g1 g2 g3=>hk st2 (by rw[g1,f2]) g2 fun j=>?_
   ·rw[f4,hg1];by_cases y:j=lo
    ·rw[if_pos y,if_pos y]
    ·rw[if_neg y,if_neg y,if_neg y]
   ·rw[g3,List.append_assoc]
  ·rw[z] at hk;exact ih (idx+1) out {st with fr:=put 192 (aU x) st.fr} (by(first|lia|omega)) (by(first|lia|omega)) hl hg1 hk
end
end
section
section
variable{n:Nat}{g:Nat->Option SO}{lo:Nat}{o:SO}
def pZ(r1 r2 r3:Pos):E:=.sub (.ce 190 r1) (.lo 59 r2) r3
theorem FD{i:Nat}{pl:Nat->Nat}{t:T3}(T:t.ok)(G:GF g i pl t)(hi:i<3)(hn:g lo=none)(h1:look 190 cx.cl=some 1)(h2:look 34 cx.cl=some 2){it1:E}{q qa qt r1 r2 r3 q0 q1 q2 q3 q4:Pos}{k:St->Bool}:∀(d idx:Nat) (out:List Nat) (st:St),
  idx+d=(t.at i).length->out.length+60*d<=10000->st.objs.length=st.n->(∀j,st.get P1 j=if j=lo then some (.lst (out.map aU)) else g j)->
  (∀st':St,st'.n=st.n->st'.objs.length=st'.n->(∀j,st'.get P1 j=if j=lo then some (.lst ((out++((t.at i).drop idx).flatMap fun one=>(t.at one).filter fun x=>!bV x (t.at i)).map aU)) else g j)->k st'=true)->
  (ev P1 (n+d+130)).comp cx (.lo 192 q) [.nm 59 qa,.nm 192 qt] [it1,pZ r1 r2 r3] [[],[vB q0 q1 q2 q3 q4]] (.lst (pl i)) idx lo st k=true:=by
 intro d;induction d with
|zero=>intro idx out st hd hb hl hg hk;refine qY (gx hg hn (G.l i hi)) ?_;rw[bS,List.getElem?_map,List.getElem?_eq_none (by(first|lia|omega))];refine hk st rfl hl fun j=>?_;rw[List.drop_eq_nil_of_le (by(first|lia|omega)),List.flatMap_nil,List.append_nil];exact hg j
|succ d ih=>
  intro idx out st hd hb hl hg hk;refine oEAA (uG hd) fun x hx hdr hmem=>?_;have x3:=(T i hi).2 x hmem;refine qY (gx hg hn (G.l i hi)) ?_;rw[bS,List.getElem?_map,hx];show fc (put 59 (aU x) st.fr) _=true;rw[bJ];have hg1:∀j,St.get P1 {st with fr:=put 59 (aU x) st.fr} j=if j=lo then some (.lst (out.map aU)) else g j:=hg
  have G1:=G.over hg1 hn;refine pB (sQ (n:=n+(d+1)+128) (E4 (st:={st with fr:=put 59 (aU x) st.fr}) h1 G1.c1 (fZ (n:=n+(d+1)+127) (v:=aU x) (by rw[bM,if_pos rfl]) (uO G1.d (lN x3 pl) ?_))));show bO (St.get P1 {st with fr:=put 59 (aU x) st.fr} (pl x)) _=true;rw[G1.l x x3];obtain⟨z,hz⟩:∃z,n+(d+1)+129=z+(t.at x).length+9:=⟨n+(d+1)+120-(t.at x).length,by have:=(T x x3).1;(first|lia|omega)⟩;show(ev P1 (n+(d+1)+129)).comp cx (.lo 192 q) [.nm 192 qt] [pZ r1 r2 r3] [[vB q0 q1 q2 q3 q4]] (.lst (pl x)) 0 lo {st with fr:=put 59 (aU x) st.fr} _=true;rw[hz];have lx:=(T x x3).1;refine Fb (n:=z) T G hi x3 hn h1 h2 (t.at x).length 0 out _ (Nat.zero_add _) (by(first|lia|omega)) hl hg1 fun st2 g1 g2 g3=>?_;rw[List.drop_zero] at g3;rw[<-hz];refine ih (idx+1) _ st2 (by(first|lia|omega)) ?_ g2 g3 fun st3 f1 f2 f3=>hk st3 (by rw[f1,g1]) f2 fun j=>?_
  ·have:=List.length_filter_le (fun y=>!bV y (t.at i)) (t.at x);rw[List.length_append];(first|lia|omega)
  ·rw[f3,hdr,List.flatMap_cons,List.append_assoc]
end
end
section
def Ar(sc:Scope)(q qa qt r1 r2 r3 q0 q1 q2 q3 q4 a1 a2 b1 b2 b3 c1 c2 c3 d1 d2 d3 d4:Pos):S:=
 .ass (.ce 190 a1) (.ce 34 a2) (.bin .add (p9 b1 b2 b3) (.lc (.lo 192 q) [.nm 59 qa,.nm 192 qt] [p9 c1 c2 c3,pZ r1 r2 r3] [[],[vB q0 q1 q2 q3 q4]] [190,34] sc d1) d2) d3 d4
section
variable{n:Nat}
theorem Ii(pl:Nat->Nat)(a:Nat){i:Nat}(hi:i<3):i9 (bT i) (SV.loc a) [(bT 0,.loc (pl 0)),(bT 1,.loc (pl 1)),(bT 2,.loc (pl 2))] =
  [(bT 0,.loc (if 0=i then a else pl 0)),(bT 1,.loc (if 1=i then a else pl 1)),(bT 2,.loc (if 2=i then a else pl 2))]:=by
 match i,hi with
|0,_|1,_|2,_=>rfl
theorem IU{i:Nat}{pl:Nat->Nat}{t:T3}(T:t.ok)(T':(t.at i++jO t i).length<=60)(G:GF (St.get P1 st) i pl t)(hi:i<3)(hl:st.objs.length=st.n){sc:Scope}{q qa qt r1 r2 r3 q0 q1 q2 q3 q4 a1 a2 b1 b2 b3 c1 c2 c3 d1 d2 d3 d4:Pos}{K:jI}
  (hk:∀(st':St) (pl':Nat->Nat),st'.fr=st.fr->st'.objs.length=st'.n->st.n<=st'.n->(∀j,j<st.n->j≠28->st'.get P1 j=st.get P1 j)->GF (St.get P1 st') i pl' (t.cl i)->K .nxt st'=true) :
  cT P1 (ev P1 (n+200)) cxH (Ar sc q qa qt r1 r2 r3 q0 q1 q2 q3 q4 a1 a2 b1 b2 b3 c1 c2 c3 d1 d2 d3 d4) st K ke=true:=by
 refine Hr (EY (jX (n:=n+197) hi G rfl rfl (Nm (n:=n+198) (cl:=[(190,1),(34,2)]) rfl rfl (jX (n:=n+196) hi G rfl rfl (qY (G.l i hi) ?_)))));refine cJ (eI (p:=P1) (st:=st) (o:=.lst []) hl) fun st1 h1 f1 n1 l1 g1=>?_;dsimp only;rw[h1,qB];have h0:P1.N0+st.n=st.n:=Nat.zero_add _;rw[h0] at g1 ⊢;have hn:St.get P1 st st.n=none:=e_ rfl (Nat.le_refl _);obtain⟨z,hz⟩:∃z,n+198=z+(t.at i).length+130:=⟨n+68-(t.at i).length,by have:=(T i hi).1;(first|lia|omega)⟩;rw[hz];have li:=(T i hi).1;refine FD (n:=z) T G hi hn rfl rfl (t.at i).length 0 [] _ (Nat.zero_add _) (by show 0+_<=_;(first|lia|omega)) l1 g1 fun st2 n2 l2 g2=>?_;rw[qB];have g2:∀j,St.get P1 {st2 with fr:=st1.fr} j=if j=st.n then some (.lst ((jO t i).map aU)) else St.get P1 st j:=g2
 have G2:=G.over g2 hn;show bO (St.get P1 {st2 with fr:=st1.fr} (pl i)) _=true;rw[G2.l i hi];refine qY (by rw[g2,if_pos rfl]) ?_;rw[List.length_append] at T';rw[show Nat.ble (((t.at i).map aU).length+((jO t i).map aU).length) 1000=true from cA (by rw[List.length_map,List.length_map];(first|lia|omega)),Bool.true_and,bJ,<-List.map_append];have l2':({st2 with fr:=st1.fr}:St).objs.length=({st2 with fr:=st1.fr}:St).n:=l2;refine cJ (eI (p:=P1) (o:=.lst ((t.at i++jO t i).map aU)) l2') fun st3 h3 f3 n3 l3 g3=>?_;rw[h3];have e2:P1.N0+({st2 with fr:=st1.fr}:St).n=st.n+1:=by show 0+st2.n=_;rw[n2];show 0+st1.n=_;rw[n1];(first|lia|omega)
 rw[e2] at g3 ⊢;have hn2:St.get P1 {st2 with fr:=st1.fr} (st.n+1)=none:=e_ rfl (by show st2.n<=_;rw[n2];show st1.n<=_;(first|lia|omega));have G3:=G2.over g3 hn2;refine E4 (l:=1) rfl G3.c1 (E4 (l:=2) rfl G3.c2 (Ll G3.d ?_));show(true&&fc _ _)=true;rw[Bool.true_and,bJ];generalize hd:SO.dct (i9 (bT i) (.loc (st.n+1)) [(bT 0,.loc (pl 0)),(bT 1,.loc (pl 1)),(bT 2,.loc (pl 2))])=od;refine cJ (eK (o:=od) G3.d (Nat.zero_le _) l3) fun st4 h4 f4 n4 l4 g4=>?_;rw[h4];have lt28:∀{x:Nat} {s:St} {o:SO},St.get P1 s x=some o->x<s.n:=fun{x s o} e=>Nat.lt_of_not_le fun y=>by rw[e_ rfl y] at e;exact nf e
 refine hk st4 (fun j=>if j=i then st.n+1 else pl j) (by rw[f4,f3];exact f1) l4 (by rw[n4,n3];show st.n<=st2.n+1;rw[n2];show st.n<=st1.n+1;(first|lia|omega)) (fun j hj hj28=>?_) ⟨?_,?_,?_,fun j hj=>?_⟩
 ·rw[g4,if_neg hj28,g3,if_neg (by(first|lia|omega)),g2,if_neg (by(first|lia|omega))]
 ·rw[g4,if_neg (by decide)];exact G3.c1
 ·rw[g4,if_neg (by decide)];exact G3.c2
 ·rw[g4,if_pos rfl,<-hd];exact congrArg (fun l=>some (SO.dct l)) (Ii pl _ hi)
 ·have hx:∀x,x≠28->st4.get P1 x=st3.get P1 x:=fun x hx=>by rw[g4,if_neg hx]
  rw[show(t.cl i).at j=if j=i then t.at i++jO t i else t.at j from T3.at_put hi hj];have n28:st.n+1≠28:=by have:=lt28 G.d;(first|lia|omega)
  by_cases y:j=i
  ·rw[if_pos y,if_pos y,hx _ n28,g3,if_pos rfl]
  ·rw[if_neg y,if_neg y,hx _ fun e=>?_]
   ·exact G3.l j hj
   ·have:=G.l j hj;rw[e,G.d] at this;cases this
end
end
section
structure CS(s0 st:St) (t:T3):Prop where
 hl:st.objs.length=st.n
 ge:s0.n<=st.n
 f65:look 65 st.fr=some (.loc 29)
 keep:∀j,j<s0.n->j≠2->j≠28->st.get P1 j=s0.get P1 j
 c1:st.get P1 1=some (.cel (some (.loc 28)))
 c2:∃v,st.get P1 2=some (.cel v)
 d:∃pl:Nat->Nat,st.get P1 28=some (.dct [(bT 0,.loc (pl 0)),(bT 1,.loc (pl 1)),(bT 2,.loc (pl 2))])/\∀j,j<3->st.get P1 (pl j)=some (.lst ((t.at j).map aU))
 nms:st.get P1 29=some (.lst [aU 0,aU 1,aU 2])
 T:t.ok
theorem GD{v:SV}{st:St}{q:Pos}{f:St->Bool}{o:Option SV}(h:st.get P1 2=some (.cel o)):eP P1 rR (.nm 34 q) v st f=st.set P1 2 (.cel (some v)) f:=by show bO (st.get P1 2) _=_;rw[h];rfl
theorem xB{m:Nat}{v:SV}{st:St}{q:Pos}{f:St->Bool}(h:look m rR=none):eP P1 rR (.nm m q) v st f=f {st with fr:=put m v st.fr}:=by show(match look m rR with|some l=>_|none=>fc (put m v st.fr) fun fr=>st.wf fr f)=_;rw[h,bJ];rfl
section
variable{n:Nat}{st s0:St}{t:T3}
theorem jS{i:Nat}(H:CS s0 st t)(hi:i<3)(T':(t.cl i).ok){sc:Scope}{p5 q qa qt r1 r2 r3 q0 q1 q2 q3 q4 a1 a2 b1 b2 b3 c1 c2 c3 d1 d2 d3 d4:Pos}{K:jI}(hk:∀st':St,CS s0 st' (t.cl i)->K .nxt st'=true) :
  eP P1 rR (.nm 34 p5) (aU i) st (fun st=>(ev P1 (n+201)).sts cxH [Ar sc q qa qt r1 r2 r3 q0 q1 q2 q3 q4 a1 a2 b1 b2 b3 c1 c2 c3 d1 d2 d3 d4] st K ke)=true:=by
 refine oE (H.c2) fun v hv=>?_;rw[GD hv];refine cJ (eK (o:=.cel (some (aU i))) hv (Nat.zero_le _) H.hl) fun st1 h1 f1 n1 l1 g1=>?_;rw[h1,jG];refine oEA (H.d) fun pl hd hp=>?_;have gt:∀{x o},(∀v,o≠.cel v)->st.get P1 x=some o->st1.get P1 x=some o:=fun{x o} ho e=>by
  rw[g1];by_cases y:x=2
  ·rw[y,hv] at e;obtain rfl:=aF e;exact absurd rfl (ho v)
  ·rw[if_neg y];exact e
 have G:GF (St.get P1 st1) i pl t:=⟨by rw[g1,if_neg (by decide)];exact H.c1,by rw[g1,if_pos rfl],gt (fun _ e=>by cases e) hd,fun j hj=>gt (fun _ e=>by cases e) (hp j hj)⟩;have ti:(t.at i++jO t i).length<=60:=by have:=(T' i hi).1;rw[show(t.cl i).at i=if i=i then t.at i++jO t i else t.at i from T3.at_put hi hi,if_pos rfl] at this;exact this
 refine IU H.T ti G hi l1 fun st2 pl' f2 l2 n2 k2 G2=>?_;show K .nxt st2=true;have lt:∀{x:Nat} {s:St} {o:SO},St.get P1 s x=some o->x<s.n:=fun{x s o} e=>Nat.lt_of_not_le fun y=>by rw[e_ rfl y] at e;exact nf e
 refine hk st2 ⟨l2,by have:=H.ge;(first|lia|omega),by rw[f2,f1];exact H.f65,fun j hj h2 h28=>?_,G2.c1,⟨_,G2.c2⟩,⟨pl',G2.d,G2.l⟩,?_,T'⟩
 ·rw[k2 j (by have:=H.ge;(first|lia|omega)) h28,g1,if_neg h2];exact H.keep j hj h2 h28
 ·rw[k2 29 (by have:=lt H.nms;(first|lia|omega)) (by decide),g1,if_neg (by decide)];exact H.nms
def T3.round(t:T3):T3:=((t.cl 0).cl 1).cl 2
def T3.okR(t:T3):Prop:=(t.cl 0).ok/\((t.cl 0).cl 1).ok/\t.round.ok
theorem tC(H:CS s0 st t)(R:t.okR){sc:Scope}{p5 p6 p7 q qa qt r1 r2 r3 q0 q1 q2 q3 q4 a1 a2 b1 b2 b3 c1 c2 c3 d1 d2 d3 d4:Pos}{K:jI}(hk:∀st':St,CS s0 st' t.round->K .nxt st'=true) :
  (ev P1 (n+210)).sts cxH [.fo (.nm 34 p5) (.lo 65 p6) [Ar sc q qa qt r1 r2 r3 q0 q1 q2 q3 q4 a1 a2 b1 b2 b3 c1 c2 c3 d1 d2 d3 d4] p7] st K ke=true:=by
 rw[jG];show(ev P1 (n+209)).ex cxH (.lo 65 p6) st _ ke=true;refine fZ H.f65 (qY H.nms ?_);show(ev P1 (n+209)).loop cxH _ _ (.lst 29) 0 st _ ke=true;rw[dQ H.nms (v:=aU 0) rfl];refine jS (n:=n+7) H (by decide) R.1 fun st1 H1=>?_;show(ev P1 (n+208)).loop cxH _ _ (.lst 29) 1 st1 _ ke=true;rw[dQ H1.nms (v:=aU 1) rfl];refine jS (n:=n+6) H1 (by decide) R.2.1 fun st2 H2=>?_;show(ev P1 (n+207)).loop cxH _ _ (.lst 29) 2 st2 _ ke=true;rw[dQ H2.nms (v:=aU 2) rfl];refine jS (n:=n+5) H2 (by decide) R.2.2 fun st3 H3=>?_;show(ev P1 (n+206)).loop cxH _ _ (.lst 29) 3 st3 _ ke=true;rw[lO H3.nms rfl];exact hk st3 H3
theorem CS.frame{m:Nat}{v:SV}(H:CS s0 st t)(hm:m≠65):CS s0 {st with fr:=put m v st.fr} t:=
 ⟨H.hl,H.ge,by rw[bM,if_neg fun e=>hm e.symm];exact H.f65,H.keep,H.c1,H.c2,H.d,H.nms,H.T⟩
def Mf:S:=match f799.body with
|[_,_,_,s,_,_]=>s
|_=>.ret0 ⟨0,0,0,0⟩
theorem EI(n:Nat)(L:Cx->T->List S->It->Nat->St->jI->Ke->Bool)(tt:T)(body:List S)(p2 p3 p4 p8:Pos)(st:St)(K:jI)(ke:Ke):cT P1 {ev P1 (n+100) with loop:=L} cxH (.fo tt (.cal (.gl 0 p2) [.int 3 p3] p4) body p8) st K ke=L cxH tt body (.rng 3) 0 st K ke:=by kernel_rfl
theorem Bp(n:Nat)(tt:T)(body:List S)(p2 p3 p4 p8:Pos)(st:St)(K:jI)(ke:Ke):cT P1 (ev P1 (n+100)) cxH (.fo tt (.cal (.gl 0 p2) [.int 3 p3] p4) body p8) st K ke=(ev P1 (n+100)).loop cxH tt body (.rng 3) 0 st K ke:=EI n (ev P1 (n+100)).loop tt body p2 p3 p4 p8 st K ke
theorem OK(H:CS s0 st t)(R1:t.okR)(R2:t.round.okR)(R3:t.round.round.okR){K:jI}(hk:∀st':St,CS s0 st' t.round.round.round->K .nxt st'=true):cT P1 (ev P1 (n+220)) cxH Mf st K ke=true:=by refine(Bp (n+120) _ _ _ _ _ _ _ _ _).trans ?_;rw[f9 rfl,show cxH.cl=rR from rfl,xB rfl];refine tC (n:=n+9) (H.frame (by decide)) R1 fun st1 H1=>?_;show(ev P1 (n+219)).loop cxH _ _ (.rng 3) 1 st1 K ke=true;rw[f9 rfl,show cxH.cl=rR from rfl,xB rfl];refine tC (n:=n+8) (H1.frame (by decide)) R2 fun st2 H2=>?_;show(ev P1 (n+218)).loop cxH _ _ (.rng 3) 2 st2 K ke=true;rw[f9 rfl,show cxH.cl=rR from rfl,xB rfl];refine tC (n:=n+7) (H2.frame (by decide)) R3 fun st3 H3=>?_;show(ev P1 (n+217)).loop cxH _ _ (.rng 3) 3 st3 K ke=true;rw[f8 rfl];exact hk st3 H3
end
end
section
def JD:S:=match f799.body with
|[_,_,_,_,s,_]=>s
|_=>.ret0 ⟨0,0,0,0⟩
def HC(q1 q2 q3 q4 q5:Pos):E:=.cmp (.lo 34 q1) [.inn] [.sub (.ce 190 q2) (.lo 34 q3) q4] q5
def jP(t:T3):Nat->List Nat
|0=>[]
|i+1=>jP t i++(match bV i (t.at i) with|true=>[i]|false=>[])
def Ej(t:T3):Bool:=bV 0 (t.at 0)||bV 1 (t.at 1)||bV 2 (t.at 2)
def iD(t:T3):SV:=match Ej t with
|true=>.str [116,121,112,101]
|false=>.non
section
variable{n:Nat}{st s0:St}{t:T3}{g:Nat->Option SO}{lo:Nat}
theorem LT{i:Nat}(hi:i<3):nth [aU 0,aU 1,aU 2] i=some (aU i):=by
 match i,hi with
|0,_|1,_|2,_=>rfl
theorem LF{t:T3}{i:Nat}(hi:i<3):((jP t i).map aU).length<=10000:=by
 rw[List.length_map]
 match i,hi with
|0,_=>exact Nat.zero_le _
|1,_=>show([]++_:List Nat).length<=_;cases bV 0 (t.at 0)<;>decide
|2,_=>show(([]++_)++_:List Nat).length<=_;cases bV 0 (t.at 0)<;>cases bV 1 (t.at 1)<;>decide
theorem Eo{i:Nat}(hi:i<3){pl:Nat->Nat}(T:t.ok)(hn:g lo=none)(g1:g 1=some (.cel (some (.loc 28))))(gd:g 28=some (.dct [(bT 0,.loc (pl 0)),(bT 1,.loc (pl 1)),(bT 2,.loc (pl 2))]))(gl:∀j,j<3->g (pl j)=some (.lst ((t.at j).map aU)))
  (g29:g 29=some (.lst [aU 0,aU 1,aU 2])) {cx:Cx} (h1:look 190 cx.cl=some 1) {it:E} {p2 p3 q1 q2 q3 q4 q5:Pos} {k:St->Bool} (hl:st.objs.length=st.n) (hg:∀j,st.get P1 j=if j=lo then some (.lst ((jP t i).map aU)) else g j)
  (hk:∀st':St,st'.n=st.n->st'.objs.length=st'.n->(∀j,st'.get P1 j=if j=lo then some (.lst ((jP t (i+1)).map aU)) else g j)->(ev P1 (n+9)).comp cx (.lo 34 p2) [.nm 34 p3] [it] [[HC q1 q2 q3 q4 q5]] (.lst 29) (i+1) lo st' k=true) :
  (ev P1 (n+10)).comp cx (.lo 34 p2) [.nm 34 p3] [it] [[HC q1 q2 q3 q4 q5]] (.lst 29) i lo st k=true:=by
 refine qY (gx hg hn g29) ?_;rw[LT hi];show fc (put 34 (aU i) st.fr) _=true;rw[bJ];have hg1:∀j,St.get P1 {st with fr:=put 34 (aU i) st.fr} j=if j=lo then some (.lst ((jP t i).map aU)) else g j:=hg
 have l34:look 34 ({st with fr:=put 34 (aU i) st.fr}:St).fr=some (aU i):=by rw[bM,if_pos rfl]
 refine yO (hTsCmp (fZ (st:={st with fr:=put 34 (aU i) st.fr}) l34 (sQ (n:=n+6) (E4 (n:=n+5) h1 (gx hg1 hn g1) (fZ (n:=n+5) l34 (uO (gx hg1 hn gd) (lN hi pl) (E6 (gx hg1 hn (gl i hi)) rfl oW (pC hi (T i hi).2) ?_)))))));have e:jP t (i+1)=jP t i++(match bV i (t.at i) with|true=>[i]|false=>[]):=rfl;rw[e] at hk;rcases z:bV i (t.at i) with _|_
 ·rw[z] at hk;refine hk _ rfl hl fun j=>?_;rw[List.append_nil];exact hg1 j
 ·rw[z] at hk;refine pB (fZ (n:=n+8) (st:={st with fr:=put 34 (aU i) st.fr}) l34 ?_);refine qY (by rw[hg1,if_pos rfl]) ?_;have len:=LF (t:=t) hi;rw[show Nat.ble ((jP t i).map aU).length 10000=true from cA len,Bool.true_and,bJ,<-List.map_singleton,<-List.map_append];refine cJ (eK (o:=.lst ((jP t i++[i]).map aU)) (show St.get P1 {st with fr:=put 34 (aU i) st.fr} lo=some (.lst ((jP t i).map aU)) by rw[hg1,if_pos rfl]) (Nat.zero_le _) hl) fun st' hs f1 f2 f3 f4=>?_;rw[hs];refine hk st' f2 f3 fun j=>?_;rw[f4,hg1];by_cases y:j=lo
  ·rw[if_pos y,if_pos y]
  ·rw[if_neg y,if_neg y,if_neg y]
theorem OL(H:CS s0 st t){K:jI}(hk:∀st':St,st'.objs.length=st'.n->s0.n<=st'.n->(∀j,j<s0.n->j≠2->j≠28->st'.get P1 j=s0.get P1 j)->look 193 st'.fr=some (iD t)->K .nxt st'=true):cT P1 (ev P1 (n+220)) cxH JD st K ke=true:=by
 refine oEA (H.d) fun pl hd hp=>?_;refine Lh (Ln (hTsCmp (Nm (n:=n+217) (cl:=[(190,1)]) rfl rfl (fZ (n:=n+216) H.f65 (qY H.nms ?_)))));refine cJ (eI (p:=P1) (st:=st) (o:=.lst []) H.hl) fun st1 h1 f1 n1 l1 g1=>?_;dsimp only;rw[h1,qB];have h0:P1.N0+st.n=st.n:=Nat.zero_add _;rw[h0] at g1 ⊢;have hn:St.get P1 st st.n=none:=e_ rfl (Nat.le_refl _);refine Eo (n:=n+207) (i:=0) (g:=St.get P1 st) (by decide) H.T hn H.c1 hd hp H.nms rfl l1 g1 fun st2 n2 l2 g2=>?_;refine Eo (n:=n+206) (i:=1) (g:=St.get P1 st) (by decide) H.T hn H.c1 hd hp H.nms rfl l2 g2 fun st3 n3 l3 g3=>?_;refine Eo (n:=n+205) (i:=2) (g:=St.get P1 st) (by decide) H.T hn H.c1 hd hp H.nms rfl l3 g3 fun st4 n4 l4 g4=>?_;refine qY (gx g4 hn H.nms) ?_;show st4.wf st1.fr _=true;rw[qB];have l4':({st4 with fr:=st1.fr}:St).objs.length=({st4 with fr:=st1.fr}:St).n:=l4;refine cJ (eI (p:=P1) (o:=.lst []) l4') fun st5 h5 f5 n5 l5 g5=>?_;refine Ht (n:=n+217) (d_ (n:=n+216) ((h5 _).trans ?_));have m4:({st4 with fr:=st1.fr}:St).n=st.n+1:=by show st4.n=_;rw[n4,n3,n2];exact n1
 have e2:P1.N0+({st4 with fr:=st1.fr}:St).n=st.n+1:=by rw[m4];exact Nat.zero_add _
 rw[e2] at g5 ⊢;have g45:∀j,st5.get P1 j=if j=st.n+1 then some (.lst []) else if j=st.n then some (.lst ((jP t 3).map aU)) else St.get P1 st j:=fun j=>by rw[g5];exact congrArg _ (g4 j)
 refine qY (vs:=(jP t 3).map aU) (by rw[g45,if_neg (by(first|lia|omega)),if_pos rfl]) (qY (vs:=[]) (by rw[g45,if_pos rfl]) ?_);have fin:∀v,v=iD t->K .nxt {st5 with fr:=put 193 v st5.fr}=true:=fun v hv=>by
  refine hk _ l5 ?_ (fun j hj h2 h28=>?_) (by show look 193 (put 193 v st5.fr)=_;rw[bM,if_pos rfl,hv])
  ·show s0.n<=st5.n;rw[n5,m4];have:=H.ge;(first|lia|omega)
  ·show st5.get P1 j=_;have:=H.ge;rw[g45,if_neg (by(first|lia|omega)),if_neg (by(first|lia|omega))];exact H.keep j hj h2 h28
 have yes:∀p q,iD t=.str [116,121,112,101]->(ev P1 (n+219)).ex cxH (.str [116,121,112,101] "type" p) st5 (fun v st=>eP P1 rR (.nm 193 q) v st fun st=>K .nxt st) ke=true:=fun _ _ hv=>yN (by rw[xB rfl];exact fin _ hv.symm);have no:∀p q,iD t=.non->(ev P1 (n+219)).ex cxH (.non p) st5 (fun v st=>eP P1 rR (.nm 193 q) v st fun st=>K .nxt st) ke=true:=fun _ _ hv=>Lr (by rw[xB rfl];exact fin _ hv.symm);have dv:jP t 3=([]++(match bV 0 (t.at 0) with|true=>[0]|false=>[]))++(match bV 1 (t.at 1) with|true=>[1]|false=>[])++(match bV 2 (t.at 2) with|true=>[2]|false=>[]):=rfl;have dd:iD t=match bV 0 (t.at 0)||bV 1 (t.at 1)||bV 2 (t.at 2) with|true=>.str [116,121,112,101]|false=>.non:=rfl
 rw[dv];cases z0:bV 0 (t.at 0)<;>cases z1:bV 1 (t.at 1)<;>cases z2:bV 2 (t.at 2)<;>rw[z0,z1,z2] at dd<;>first|exact no _ _ dd|exact yes _ _ dd
end
end
section
def kN:Nat->List Nat
|0=>[109,46,65]
|1=>[109,46,66]
|2=>[109,46,67]
|3=>Ac
|4=>Ah
|5=>Af
|_=>IK
def bX(i:Nat):SV:=.str (kN i)
def mL(i:Nat):List Nat×SV:=(kN i,.bol true)
theorem Fp{i:Nat}(h:i<3):bT i=kN i:=by
 match i,h with
|0,_|1,_|2,_=>rfl
def qE(i:Nat)(d:List Nat):List Nat:=match bV i d with
|true=>d
|false=>d++[i]
inductive Rs where
|fuel
|err
|ok (d:List Nat)
noncomputable def eD(F:Nat->List Nat->List Nat->Rs):List Nat->List Nat->List Nat->Rs
|[],_,d=>.ok d
|x::r,o,d=>match F x o d with
 |.ok d'=>eD F r o d'
 |.err=>.err
 |.fuel=>.fuel
def dK(E:Nat->List Nat):Nat->Nat->List Nat->List Nat->Rs
|0,_,_,_=>.fuel
|f+1,i,o,d=>match bV i d with
 |true=>.ok d
 |false=>match bV i o with
  |true=>.err
  |false=>match eD (dK E f) (E i) (o++[i]) d with
   |.ok d'=>.ok (qE i d')
   |.err=>.err
   |.fuel=>.fuel
def CJ(E:Nat->Dr):Nat->SV
|0=>.tup [cM,.tup (lX 0 (E 0))]
|1=>.tup [cM,.tup (lX 0 (E 1))]
|2=>.tup [cM,.tup (lX 0 (E 2))]
|3=>.tup [gF,.tup [.tup [.str [69,114,114,111,114],.tup [kC,.tup [],.tup [.tup [kR]],.bol false]]]]
|4=>.tup [kR]
|_=>.tup [cM,.tup [.tup [.str [115,116,97,116,101],.tup [kH,kH],.bol false]]]
def iL(E:Nat->Dr):Nat->List Nat
|0=>cP (E 0)
|1=>cP (E 1)
|2=>cP (E 2)
|_=>[]
theorem BZ:∀a b:Fin 7,jJ (kN a.val) (kN b.val)=Nat.beq a.val b.val:=by decide +kernel
theorem pI{a b:Nat}(ha:a<7)(hb:b<7):jJ (kN a) (kN b)=Nat.beq a b:=BZ ⟨a,ha⟩ ⟨b,hb⟩
theorem Di{x:Nat}(hx:x<7):∀{l:List Nat},(∀y∈l,y<7)->AT (bX x) (l.map bX)=some (bV x l)
|[],_=>rfl
|y::r,h=>by
  have e:wV 20 (bX y) (bX x)=some (Nat.beq y x):=by show some (jJ (kN y) (kN x))=_;rw[pI (h y (.head _)) hx]
  show(match wV 20 (bX y) (bX x) with|none=>none|some b=>match b with|true=>some true|false=>AT (bX x) (r.map bX))=some (Nat.beq y x||bV x r);rw[e];rcases Nat.beq y x with _|_
  ·exact Di hx fun z hz=>h z (.tail _ hz)
  ·rfl
theorem C2:∀{l:List Nat},(l.map bX).all (fH 30)=true
|[]=>rfl
|_::r=>by show(true&&(r.map bX).all (fH 30))=true;exact C2
theorem uV{x:Nat}(hx:x<7):∀{l:List Nat},(∀y∈l,y<7)->(cS (kN x) (l.map mL)).isSome=bV x l
|[],_=>rfl
|y::r,h=>by
  show(match jJ (kN y) (kN x) with|true=>some (SV.bol true)|false=>cS (kN x) (r.map mL)).isSome=(Nat.beq y x||bV x r);rw[pI (h y (.head _)) hx];rcases Nat.beq y x with _|_
  ·exact uV hx fun z hz=>h z (.tail _ hz)
  ·rfl
theorem zT{x:Nat}(hx:x<7):∀{l:List Nat},(∀y∈l,y<7)->i9 (kN x) (.bol true) (l.map mL)=(qE x l).map mL
|[],_=>rfl
|y::r,h=>by
  have ih:=zT hx (l:=r) fun z hz=>h z (.tail _ hz);show(match jJ (kN y) (kN x) with|true=>(kN y,SV.bol true)::r.map mL|false=>(kN y,SV.bol true)::i9 (kN x) (.bol true) (r.map mL))=_;rw[pI (h y (.head _)) hx,ih];unfold qE;rw[show bV x (y::r)=(Nat.beq y x||bV x r) from rfl];rcases Nat.beq y x with _|_
  ·cases bV x r<;>rfl
  ·rfl
theorem uX:∀(n:Nat) (l:List Nat),l.Nodup->(∀y∈l,y<n)->l.length<=n
|0,[],_,_=>Nat.le_refl _
|0,y::_,_,h=>absurd (h y (.head _)) (Nat.not_lt_zero _)
|n+1,l,hn,h=>by
  by_cases m:n∈l
  ·have:=uX n (l.erase n) (hn.erase n) fun y hy=>by have h1:=(hn.mem_erase_iff).mp hy;have:=h y h1.2;have:=h1.1;omega
   rw[List.length_erase_of_mem m] at this;omega
  ·exact Nat.le_succ_of_le (uX n l hn fun y hy=>by have:=h y hy;have:y≠n:=fun e=>m (e▸hy);omega)
theorem memN_iff{x:Nat}{l:List Nat}:bV x l=true↔x∈l:=by
 induction l with
|nil=>exact⟨ff,nofun⟩
|cons y r ih=>exact⟨fun h=>(Bool.or_eq_true_iff.mp h).elim (fun e=>by rw[aT e];exact .head _) fun e=>.tail _ (ih.mp e),fun h=>Bool.or_eq_true_iff.mpr ((bN h).imp (fun e=>by rw[e];exact Nat.beq_refl y) ih.mpr)⟩
theorem zI{x:Nat}{l:List Nat}(h:bV x l=false):x∉l:=fun m=>by rw[memN_iff.mpr m] at h;cases h
theorem lQ{x:Nat}{l:List Nat}(hn:l.Nodup)(h:bV x l=false):(l++[x]).Nodup:=
 List.nodup_append.mpr ⟨hn,List.nodup_cons.mpr ⟨nofun,.nil⟩,fun a ha b hb e=>zI h (by rw[List.mem_singleton] at hb;rw[<-hb,<-e];exact ha)⟩
theorem rX{x:Nat}{l:List Nat}(hn:l.Nodup):(qE x l).Nodup:=by
 unfold qE;rcases z:bV x l with _|_
 ·exact lQ hn z
 ·exact hn
theorem AY{x:Nat}{l:List Nat}(hx:x<7)(h:∀y∈l,y<7):∀y∈qE x l,y<7:=by
 unfold qE;rcases bV x l with _|_
 ·intro y hy;rcases List.mem_append.mp hy with m|m
  ·exact h y m
  ·rw[List.mem_singleton.mp m];exact hx
 ·exact h
structure DF(g:Nat->Option SO) (E:Nat->Dr) (se sd lo ld:Nat):Prop where
 s:g se=some (.ins 429 sd)
 d:g sd=some (.adc [(31,.loc 5),(100,.loc lo),(101,.loc ld)])
 w5:g 5=some (.ins 694 4)
 w4:∃es,g 4=some (.adc es)/\look 76 es=some (.loc 18)
 nd:∃es,g 18=some (.dct es)/\∀i,i<7->∃r rd rs,cS (kN i) es=some (.loc r)/\g r=some (.ins 644 rd)/\g rd=some (.adc rs)/\look 104 rs=some (CJ E i)
 nlo:g lo=none
 nld:g ld=none
 ne:lo≠ld
 ed:∀i,i<3->(E i).length<=2/\∀x∈E i,x.1<3/\x.2<5
structure DG(g:Nat->Option SO) (lo ld:Nat) (st:St) (o d:List Nat):Prop where
 hl:st.objs.length=st.n
 gt:∀j,st.get P1 j=if j=lo then some (.lst (o.map bX)) else if j=ld then some (.dct (d.map mL)) else g j
 o7:∀y∈o,y<7
 d7:∀y∈d,y<7
 on:o.Nodup
 dn:d.Nodup
section
variable{g:Nat->Option SO}{E:Nat->Dr}{se sd lo ld:Nat}{o d:List Nat}
theorem DG.at(H:DG g lo ld st o d)(F:DF g E se sd lo ld){x:Nat}{v:SO}(h:g x=some v):st.get P1 x=some v:=by rw[H.gt,if_neg (fun e=>by rw[e,F.nlo] at h;exact nf h),if_neg (fun e=>by rw[e,F.nld] at h;exact nf h)];exact h
theorem DG.fr(H:DG g lo ld st o d)(fr:List (Nat×SV)):DG g lo ld {st with fr:=fr} o d:=⟨H.hl,H.gt,H.o7,H.d7,H.on,H.dn⟩
theorem DG.gl(H:DG g lo ld st o d):st.get P1 lo=some (.lst (o.map bX)):=by rw[H.gt,if_pos rfl]
theorem DG.gd(H:DG g lo ld st o d)(F:DF g E se sd lo ld):st.get P1 ld=some (.dct (d.map mL)):=by rw[H.gt,if_neg (Ne.symm F.ne),if_pos rfl]
def Out(g:Nat->Option SO)(lo ld:Nat)(r:Rs)(o:List Nat)(st:St)(k:Kv)(ke:Ke):Prop:=match r with
|.fuel=>False
|.err=>∀(st':St) (o' d':List Nat),DG g lo ld st' o' d'->st'.fr=st.fr->ke 64 st'=true
|.ok d'=>∀st':St,DG g lo ld st' o d'->st'.fr=st.fr->k .non st'=true
end
end
variable{k:Kv}
section
section
variable{g:Nat->Option SO}{E:Nat->Dr}{se sd lo ld:Nat}
theorem Out.conv{r:Rs}{o:List Nat}{st st1:St}{k k1:Kv}{ke ke1:Ke}(O:Out g lo ld r o st k ke)(hk:∀st':St,k .non {st' with fr:=st.fr}=true->st'.fr=st1.fr->k1 .non st'=true)(hke:∀st':St,ke 64 {st' with fr:=st.fr}=true->ke1 64 st'=true):Out g lo ld r o st1 k1 ke1:=by
 cases r with
|fuel=>exact O
|err=>exact fun st' o' d' H _=>hke st' (O _ o' d' (H.fr _) rfl)
|ok d'=>exact fun st' H e=>hk st' (O _ (H.fr _) rfl) e
def Bd(f c dp un:Nat):Prop:=dp+10*f+c<=190/\un+40*f+3*c<=3900
theorem Bd.step{f c dp un:Nat}(h:Bd f (c+1) dp un):Bd f c (dp+1) (un+3):=
 ⟨by rw[Nat.succ_add,Nat.succ_add];exact h.1,by rw[Nat.add_right_comm un 3,Nat.add_assoc _ 3,Nat.add_comm 3];exact h.2⟩
theorem Bd.le{f c c' dp un dp' un':Nat}(h:Bd f c dp un)(l:c'<=c)(d:dp'<=dp)(u:un'<=un):Bd f c' dp' un':=
 ⟨al__3 (Nat.add_le_add (cK d _) l) h.1,al__3 (Nat.add_le_add (cK u _) (Nat.mul_le_mul_left 3 l)) h.2⟩
theorem Bd.to{f c dp un c':Nat}(h:Bd f c dp un)(l:c'<=c):Bd f c' dp un:=h.le l (Nat.le_refl _) (Nat.le_refl _)
theorem Bd.dn{f c dp un:Nat}(h:Bd (f+1) c dp un):Bd f (c+10) dp un:=
 ⟨by rw[<-Nat.add_assoc,Nat.add_right_comm];exact h.1,al__3 (by rw[Nat.mul_add 40,<-Nat.add_assoc un,Nat.mul_add 3,<-Nat.add_assoc,Nat.add_right_comm _ (3*c)];exact cK (Nat.add_le_add_left (by decide) _) _) h.2⟩
theorem Bd.d{f c dp un:Nat}(h:Bd f c dp un):dp<=190:=al__3 (Nat.le_add_right_of_le (Nat.le_add_right _ _)) h.1
theorem Bd.u{f c dp un:Nat}(h:Bd f c dp un):un<=3900:=al__3 (Nat.le_add_right_of_le (Nat.le_add_right _ _)) h.2
theorem fu{a k N:Nat}(h:a+k<=N){G:Prop}(kk:∀n,a<=n->N=n+k->G):G:=kk (N-k) (Nat.le_sub_of_add_le h) (Nat.sub_add_cancel (al__3 (Nat.le_add_left k a) h)).symm
variable (g E se lo ld) in
def DQ(f:Nat):Prop:=∀(i:Nat),i<7->∀(o d:List Nat) (N dp un:Nat) (st:St) (k:Kv) (ke:Ke),DG g lo ld st o d->120*f<=N->Bd f 0 dp un->Out g lo ld (dK (iL E) f i o d) o st k ke->
 (ev P1 N).call dp un (.glo 426) [.loc se,bX i] st k ke=true
def A7(s:List Nat)(l:String)(q1 q2 q3 q4 q5:Pos):Mine.E:=.cmp (.sub (.lo 61 q1) (.int 0 q2) q3) [.eq] [.str s l q4] q5
section
variable{n dp un:Nat}{o d:List Nat}
theorem kJ{u:SV}(hd:dp<=190)(hu:un<=3900)(h:(ev P1 n).sts ⟨[],dp+1,un+3,99⟩ f419.body {st with fr:=[(47,.loc se),(61,u)]} (fun fl st2=>k (Cg fl) {st2 with fr:=st.fr}) (fun c st2=>ke c {st2 with fr:=st.fr})=true):(ev P1 (n+1)).call dp un (.glo 419) [.loc se,u] st k ke=true:=
 hCallG (g:=f419) (fr:=[(47,.loc se),(61,u)]) (Nat.lt_of_le_of_lt hd (by decide)) (Nat.lt_of_le_of_lt hu (by decide)) rfl rfl rfl (fun _ _ _ _=>rfl) h
theorem fX{cx:Cx}{s w:List Nat}{l:String}{q1 q2 q3 q4 q5:Pos}{vs:List SV}{x:Bool}{kb:Bool->St->Bool}(hl:look 61 st.fr=some (.tup (.str w::vs)))(hn:Nat.ble (SV.str w::vs).length 10000=true)(hx:jJ w s=x)(g:kb x st=true):(ev P1 (n+3)).ts cx (A7 s l q1 q2 q3 q4 q5) st kb ke=true:=
 hTsCmp (sQ (fZ hl (Bt (uP (i:=0) rfl hn (yN (Lk hx g))))))
theorem Gr{w:List Nat}{vs:List SV}(hd:dp<=190)(hu:un<=3900)(hn:Nat.ble (SV.str w::vs).length 10000=true)(h1:jJ w [110,97,109,101,100]=false)(h2:jJ w [97,114,114,97,121]=false)(h3:jJ w [115,116,114,117,99,116]=false)(hk:k .non st=true) :
  (ev P1 (n+20)).call dp un (.glo 419) [.loc se,.tup (.str w::vs)] st k ke=true:=by
 refine kJ hd hu ?_;refine cY (n:=n+18) (lH (fX (n:=n+15) rfl hn h1 (cY (n:=n+17) (lH (fX (n:=n+14) rfl hn h2 (cY (n:=n+16) (lH (fX (n:=n+13) rfl hn h3 (c6 (n:=n+15) (c6 (n:=n+15) (c6 (n:=n+16) (c6 (n:=n+17) ?_))))))))))));exact hk
end
end
end
section
section
variable{g:Nat->Option SO}{E:Nat->Dr}{se sd lo ld f:Nat}
variable{N dp un:Nat}{o d:List Nat}
theorem Jq(F:DF g E se sd lo ld)(A:DQ g E se lo ld f){i:Nat}(hi:i<7)(H:DG g lo ld st o d)(hN:120*f+15<=N)(hb:Bd f 1 dp un)(O:Out g lo ld (dK (iL E) f i o d) o st k ke) :
  (ev P1 N).call dp un (.glo 419) [.loc se,.tup [cW,bX i]] st k ke=true:=by
 refine fu hN fun n hn en=>?_;rw[en];refine kJ (n:=n+14) hb.d hb.u ?_;have H1:=H.fr [(47,.loc se),(61,.tup [cW,bX i])];refine cY (n:=n+13) (lH (fX (n:=n+10) rfl rfl rfl (cY (n:=n+12) (sO (qZ (n:=n+11) (fZ (n:=n+10) rfl (nA (c:=429) (H1.at F F.s) rfl (H1.at F F.d) rfl (kF (n:=n+10) (sQ (n:=n+9) (fZ (n:=n+8) rfl (Bt (n:=n+8) (uP (i:=1) (v:=bX i) rfl rfl (d_ (n:=n+9) ?_)))))))))))));refine A i hi o d (n+11) (dp+1) (un+3) _ _ _ H1 (Nat.le_add_right_of_le hn) hb.step (O.conv (fun st' h _=>?_) fun st' h=>h);exact c6 (n:=n+11) (c6 (n:=n+12) h)
noncomputable abbrev DS:=List Nat×SV×Bool×(List Nat->List Nat->Rs)
noncomputable def jB(r:DS):SV:=.tup [.str r.1,r.2.1,.bol r.2.2.1]
noncomputable def rI:List DS->List Nat->List Nat->Rs
|[],_,d=>.ok d
|r::L,o,d=>match r.2.2.2 o d with
 |.ok d'=>rI L o d'
 |.err=>.err
 |.fuel=>.fuel
variable (g se lo ld) in
def MZ(M D U:Nat)(r:DS):Prop:=∀(o d:List Nat) (N dp un:Nat) (st:St) (k:Kv) (ke:Ke),DG g lo ld st o d->M<=N->dp<=D->un<=U->Out g lo ld (r.2.2.2 o d) o st k ke->(ev P1 N).call dp un (.glo 419) [.loc se,r.2.1] st k ke=true
variable (g se lo ld) in
def AV(r:Rs)(o:List Nat)(k:jI)(ke:Ke):Prop:=match r with
|.fuel=>False
|.err=>∀(st':St) (o' d':List Nat),DG g lo ld st' o' d'->ke 64 st'=true
|.ok d'=>∀st':St,DG g lo ld st' o d'->look 47 st'.fr=some (.loc se)->k .nxt st'=true
theorem JQ{a b c:SV}{t3 t4 t5 s6:Pos}{st:St}{f:St->Bool}:eP P1 [] (.tp [(34,t3),(66,t4),(67,t5)] s6) (.tup [a,b,c]) st f=f {st with fr:=put 67 c (put 66 b (put 34 a st.fr))}:=by show fc (put 34 a st.fr) _=_;rw[bJ];show fc (put 66 b (put 34 a st.fr)) _=_;rw[bJ];show fc (put 67 c (put 66 b (put 34 a st.fr))) _=_;rw[bJ];rfl
theorem HT{M:Nat}(F:DF g E se sd lo ld){t3 t4 t5 t6 t7 t8 t9 s6 u1:Pos}{K:jI}{kx:Ke}{vs:List SV}(L:List DS):∀(pre:List SV) (st:St) (o d:List Nat) (N:Nat),vs=pre++L.map jB->(∀r∈L,MZ g se lo ld M dp un r)->DG g lo ld st o d->look 47 st.fr=some (.loc se)->M+L.length+10<=N->AV g se lo ld (rI L o d) o K kx->
  (ev P1 N).loop ⟨[],dp,un,99⟩ (.tp [(34,t3),(66,t4),(67,t5)] s6) [.exp (.mca (.lo 47 t6) 102 [.lo 66 t7] t8 t9) u1] (.fix vs) pre.length st K kx=true:=by
 induction L with
|nil=>intro pre st o d N ev _ H h47 hN O;refine fu hN fun n _ en=>?_;rw[en];show(match nth vs pre.length with|none=>_|some v=>_)=true;rw[bS,ev,List.map_nil,List.append_nil,List.getElem?_eq_none (Nat.le_refl _)];exact O st H h47
|cons r L ih=>
  intro pre st o d N ev hr H h47 hN O;refine fu hN fun n hn en=>?_;rw[en];have e1:vs=(pre++[jB r])++L.map jB:=ev.trans (List.append_cons ..);show(match nth vs pre.length with|none=>_|some v=>_)=true;rw[show nth vs pre.length=some (jB r) by rw[bS,ev,List.getElem?_append_right (Nat.le_refl _),Nat.sub_self];rfl];show eP P1 [] _ (.tup [.str r.1,r.2.1,.bol r.2.2.1]) st _=true;rw[JQ];have H1:=H.fr (put 67 (.bol r.2.2.1) (put 66 r.2.1 (put 34 (.str r.1) st.fr)));have l47:look 47 (put 67 (.bol r.2.2.1) (put 66 r.2.1 (put 34 (.str r.1) st.fr)))=some (.loc se):=by rw[bM,if_neg (by decide),bM,if_neg (by decide),bM,if_neg (by decide)];exact h47
  have l66:look 66 (put 67 (.bol r.2.2.1) (put 66 r.2.1 (put 34 (.str r.1) st.fr)))=some r.2.1:=by rw[bM,if_neg (by decide),bM,if_pos rfl]
  generalize put 67 (.bol r.2.2.1) (put 66 r.2.1 (put 34 (.str r.1) st.fr))=fr at H1 l47 l66 ⊢;have hn:M+L.length+1<=n:=hn;refine cY (n:=n+8) (sO (qZ (n:=n+7) (fZ (n:=n+6) (st:={st with fr:=fr}) l47 (nA (c:=429) (H1.at F F.s) rfl (H1.at F F.d) rfl (kF (n:=n+6) (fZ (n:=n+5) l66 (d_ (n:=n+5) ?_)))))));refine hr r (.head _) o d (n+7) dp un _ _ _ H1 (al__3 (Nat.le_add_right_of_le (Nat.le_add_right _ _)) (al__3 hn (Nat.le_add_right _ _))) (Nat.le_refl _) (Nat.le_refl _) ?_;replace O:AV g se lo ld (match r.2.2.2 o d with|.ok d'=>rI L o d'|.err=>.err|.fuel=>.fuel) o K kx:=O;cases q:r.2.2.2 o d with
 |fuel=>rw[q] at O;exact O
 |err=>rw[q] at O;exact fun st' o' d' H' _=>O st' o' d' H'
 |ok d'=>rw[q] at O;refine fun st' H' f'=>c6 (n:=n+7) ?_;have:=ih (pre++[jB r]) st' o d' (n+9) e1 (fun r hm=>hr r (.tail _ hm)) H' (by rw[f'];exact l47) (cK hn 9) O;rw[List.length_append] at this;exact this
theorem JH{M:Nat}(F:DF g E se sd lo ld){L:List DS}(hL:∀r∈L,MZ g se lo ld M (dp+1) (un+3) r)(hlen:L.length<=5)(H:DG g lo ld st o d)(hN:M+40<=N)(hb:Bd f 1 dp un)(O:Out g lo ld (rI L o d) o st k ke) :
  (ev P1 N).call dp un (.glo 419) [.loc se,.tup [cM,.tup (L.map jB)]] st k ke=true:=by
 refine fu (a:=M+20) (k:=20) hN fun n hn en=>?_;rw[en];refine kJ (n:=n+19) hb.d hb.u ?_;have H1:=H.fr [(47,.loc se),(61,.tup [cM,.tup (L.map jB)])];refine cY (n:=n+18) (lH (fX (n:=n+15) rfl rfl (x:=false) rfl (cY (n:=n+17) (lH (fX (n:=n+14) rfl rfl (x:=false) rfl (cY (n:=n+16) (lH (fX (n:=n+13) rfl rfl (x:=true) rfl (cY (n:=n+15) ?_)))))))));show(ev P1 (n+15)).ex _ (.sub (.lo 61 _) (.int 1 _) _) _ _ _=true;refine sQ (n:=n+14) (fZ (n:=n+13) rfl (Bt (n:=n+13) (uP (i:=1) (v:=.tup (L.map jB)) rfl rfl ?_)));refine HT (M:=M) F L [] _ o d (n+15) rfl hL H1 rfl (Nat.add_le_add (al__3 (Nat.add_le_add_left (al__3 hlen (by decide)) M) hn) (by decide)) ?_;cases q:rI L o d with
|fuel=>rw[q] at O;exact O
|err=>rw[q] at O;exact fun st' o' d' H'=>O _ o' d' (H'.fr _) rfl
|ok d'=>rw[q] at O;exact fun st' H' _=>c6 (n:=n+14) (c6 (n:=n+15) (c6 (n:=n+16) (c6 (n:=n+17) (O _ (H'.fr _) rfl))))
theorem tG{x:Nat}(hx:x<3):aU x=bX x:=congrArg SV.str (Fp hx)
def x_(E:Nat->Dr)(f:Nat)(x:Nat×Nat)(o d:List Nat):Rs:=match yR x.2 with
|true=>dK (iL E) f x.1 o d
|false=>.ok d
theorem NO(F:DF g E se sd lo ld)(A:DQ g E se lo ld f){x w:Nat}(hx:x<3)(hw:w<5)(H:DG g lo ld st o d)(hN:120*f+60<=N)(hb:Bd f 2 dp un)(O:Out g lo ld (x_ E f (x,w) o d) o st k ke) :
  (ev P1 N).call dp un (.glo 419) [.loc se,n_ x w] st k ke=true:=by
 have x7:x<7:=Nat.lt_of_lt_of_le hx (by decide);rcases w with _|_|_|_|_|w
 ·show(ev P1 N).call dp un (.glo 419) [.loc se,.tup [cW,aU x]] st k ke=true;rw[tG hx];exact Jq F A x7 H (al__3 (Nat.add_le_add_left (by decide) _) hN) (hb.to (by decide)) O
 ·show(ev P1 N).call dp un (.glo 419) [.loc se,.tup [mF,.int 2,.tup [cW,aU x]]] st k ke=true;refine fu (a:=120*f+40) (k:=20) hN fun n hn en=>?_;rw[tG hx,en];refine kJ (n:=n+19) hb.d hb.u ?_;have H1:=H.fr [(47,.loc se),(61,.tup [mF,.int 2,.tup [cW,bX x]])];refine cY (n:=n+18) (lH (fX (n:=n+15) rfl rfl (x:=false) rfl (cY (n:=n+17) (lH (fX (n:=n+14) rfl rfl (x:=true) rfl (cY (n:=n+16) (sO (qZ (n:=n+15) (fZ (n:=n+14) rfl (nA (c:=429) (H1.at F F.s) rfl (H1.at F F.d) rfl (kF (n:=n+14) (sQ (n:=n+13) (fZ (n:=n+12) rfl (Bt (n:=n+12) (uP (i:=2) (v:=.tup [cW,bX x]) rfl rfl (d_ (n:=n+13) ?_))))))))))))))));refine Jq F A x7 H1 (al__3 (Nat.add_le_add_left (by decide) _) (Nat.le_add_right_of_le hn)) hb.step (Out.conv O (fun st' h _=>?_) fun st' h=>h);exact c6 (n:=n+15) (c6 (n:=n+16) (c6 (n:=n+17) h))
 ·exact fu (a:=120*f+40) (k:=20) hN fun n _ en=>en▸Gr hb.d hb.u rfl rfl rfl rfl (O st H rfl)
 ·exact fu (a:=120*f+40) (k:=20) hN fun n _ en=>en▸Gr hb.d hb.u rfl rfl rfl rfl (O st H rfl)
 ·show(ev P1 N).call dp un (.glo 419) [.loc se,.tup [cM,.tup [.tup [.str [120],.tup [cW,aU x],.bol false]]]] st k ke=true;rw[tG hx];have e:∀o d,rI [([120],.tup [cW,bX x],false,fun o d=>dK (iL E) f x o d)] o d=dK (iL E) f x o d:=fun o d=>by show(match dK (iL E) f x o d with|.ok d'=>Rs.ok d'|.err=>.err|.fuel=>.fuel)=_;cases dK (iL E) f x o d<;>rfl
  refine JH (M:=120*f+15) F (L:=[([120],.tup [cW,bX x],false,fun o d=>dK (iL E) f x o d)]) (fun r hr=>?_) (by show 1<=5;decide) H (show 120*f+55<=N from al__3 (Nat.add_le_add_left (by decide:55<=60) (120*f)) hN) (hb.to (by decide)) (by rw[e];exact O);rw[List.mem_singleton.mp hr];exact fun o d N dp' un' st k ke H hN hd' hu' O=>Jq F A x7 H hN (hb.step.le (Nat.le_refl _) hd' hu') O
 ·exact absurd hw (Nat.not_lt.mpr (Nat.le_add_left 5 w))
def nS(E:Nat->Dr)(f:Nat):Nat->Dr->List DS
|_,[]=>[]
|t,x::r=>([48+t],n_ x.1 x.2,false,x_ E f x)::nS E f (t+1) r
theorem z9(D:Dr):∀t:Nat,(nS E f t D).map jB=lX t D:=by
 induction D with
|nil=>exact fun _=>rfl
|cons x r ih=>exact fun t=>congrArg (_::·) (ih (t+1))
theorem Cj(D:Dr)(o:List Nat):∀(t:Nat) (d:List Nat),rI (nS E f t D) o d=eD (dK (iL E) f) (cP D) o d:=by
 induction D with
|nil=>exact fun _ _=>rfl
|cons x r ih=>
  intro t d;rw[show cP (x::r)=fQ x++cP r from rfl];show(match x_ E f x o d with|.ok d'=>rI (nS E f (t+1) r) o d'|.err=>.err|.fuel=>.fuel)=_;delta x_ fQ;rcases yR x.2 with _|_
  ·exact ih (t+1) d
  ·show _=(match dK (iL E) f x.1 o d with|.ok d'=>eD (dK (iL E) f) (cP r) o d'|.err=>.err|.fuel=>.fuel);rcases dK (iL E) f x.1 o d with _|_|d'
   ·rfl
   ·rfl
   ·exact ih (t+1) d'
theorem wM{r:DS}(D:Dr):∀t:Nat,r∈nS E f t D->∃x∈D,r.2.1=n_ x.1 x.2/\r.2.2.2=x_ E f x:=by
 induction D with
|nil=>exact fun _ h=>nomatch h
|cons x D ih=>
  intro t h;rcases bN h with e|h
  ·exact⟨x,.head _,congrArg (·.2.1) e,congrArg (·.2.2.2) e⟩
  ·exact oEA (ih (t+1) h) fun y hy e=>⟨y,.tail _ hy,e⟩
theorem wL(D:Dr):∀t:Nat,(nS E f t D).length=D.length:=by
 induction D with
|nil=>exact fun _=>rfl
|cons x r ih=>exact fun t=>congrArg (·+1) (ih (t+1))
theorem JG(F:DF g E se sd lo ld)(A:DQ g E se lo ld f){D:Dr}(hD:D.length<=2/\∀x∈D,x.1<3/\x.2<5)(H:DG g lo ld st o d)(hN:120*f+100<=N)(hb:Bd f 3 dp un)(O:Out g lo ld (eD (dK (iL E) f) (cP D) o d) o st k ke) :
  (ev P1 N).call dp un (.glo 419) [.loc se,.tup [cM,.tup (lX 0 D)]] st k ke=true:=by
 rw[<-z9 (E:=E) (f:=f)];refine JH (M:=120*f+60) F (fun r hr=>?_) (by rw[wL];exact al__3 hD.1 (by decide)) H hN (hb.to (by decide)) (by rw[Cj];exact O);refine oEAA (wM D 0 hr) fun x hx e1 e2=>?_;have:=hD.2 x hx;intro o d N dp' un' st k ke H hN hd' hu' O;rw[e1];rw[e2] at O;exact NO F A this.1 this.2 H hN (hb.step.le (Nat.le_refl _) hd' hu') O
theorem NP(F:DF g E se sd lo ld)(A:DQ g E se lo ld f){i:Nat}(H:DG g lo ld st o d)(hN:120*f+100<=N)(hb:Bd f 3 dp un)(O:Out g lo ld (eD (dK (iL E) f) (iL E i) o d) o st k ke) :
  (ev P1 N).call dp un (.glo 419) [.loc se,CJ E i] st k ke=true:=by
 have n20:∃n,N=n+20:=fu (a:=120*f+80) (k:=20) hN fun n _ en=>⟨n,en⟩;have low:Out g lo ld (.ok d) o st k ke->(ev P1 N).call dp un (.glo 419) [.loc se,.tup [cM,.tup [.tup [.str [115,116,97,116,101],.tup [kH,kH],.bol false]]]] st k ke=true:=fun O=>by refine JH (M:=20) F (L:=[([115,116,97,116,101],.tup [kH,kH],false,fun _ d=>.ok d)]) (fun r hr=>?_) (by show 1<=5;decide) H (al__3 (al__3 (by decide) (Nat.le_add_left 100 _)) hN) (hb.to (by decide)) O;rw[List.mem_singleton.mp hr];intro o d N dp' un' st k ke H hN hd' hu' O;have b:=hb.step.le (Nat.le_refl _) hd' hu';exact fu (a:=0) (k:=20) (show 0+20<=N from hN) fun n _ en=>en▸Gr b.d b.u rfl rfl rfl rfl (O st H rfl)
 rcases i with _|_|_|_|_|i
 ·exact JG F A (F.ed 0 (by decide)) H hN hb O
 ·exact JG F A (F.ed 1 (by decide)) H hN hb O
 ·exact JG F A (F.ed 2 (by decide)) H hN hb O
 ·exact oE n20 fun n en=>en▸Gr hb.d hb.u rfl rfl rfl rfl (O st H rfl)
 ·exact oE n20 fun n en=>en▸Gr hb.d hb.u rfl rfl rfl rfl (O st H rfl)
 ·exact low O
end
end
section
theorem B0{i:Nat}:(kN i).length<=20:=by rcases i with _|_|_|_|_|_|_<;>exact aP rfl
section
variable{g:Nat->Option SO}{E:Nat->Dr}{se sd lo ld f:Nat}
theorem DG.setO{st:St}{o d o':List Nat}(H:DG g lo ld st o d)(h7:∀y∈o',y<7)(hn:o'.Nodup){k:St->Bool}(hk:∀st':St,DG g lo ld st' o' d->st'.fr=st.fr->k st'=true):st.set P1 lo (.lst (o'.map bX)) k=true:=by
 refine cJ (eK (o:=.lst (o'.map bX)) H.gl (Nat.zero_le _) H.hl) fun st' h f1 f2 f3 f4=>?_;rw[h];refine hk st' ⟨f3,fun j=>?_,h7,H.d7,hn,H.dn⟩ f1;rw[f4,H.gt];by_cases y:j=lo
 ·rw[if_pos y,if_pos y]
 ·rw[if_neg y,if_neg y,if_neg y]
theorem DG.setD{st:St}{o d d':List Nat}(H:DG g lo ld st o d)(F:DF g E se sd lo ld)(h7:∀y∈d',y<7)(hn:d'.Nodup){k:St->Bool}(hk:∀st':St,DG g lo ld st' o d'->st'.fr=st.fr->k st'=true):st.set P1 ld (.dct (d'.map mL)) k=true:=by
 refine cJ (eK (o:=.dct (d'.map mL)) (H.gd F) (Nat.zero_le _) H.hl) fun st' h f1 f2 f3 f4=>?_;rw[h];refine hk st' ⟨f3,fun j=>?_,H.o7,h7,H.on,hn⟩ f1;rw[f4,H.gt];by_cases y:j=ld
 ·rw[if_pos y,if_neg (fun e=>F.ne (e.symm.trans y)),if_pos y]
 ·rw[if_neg y,if_neg y,if_neg y]
theorem Fc:nE P1 209 64=true:=by kernel_rfl
theorem Gc(E:Nat->Dr){i:Nat}:rC (CJ E i)=true:=by rcases i with _|_|_|_|_|_<;>rfl
theorem Gq(F:DF g E se sd lo ld)(A:DQ g E se lo ld f):DQ g E se lo ld (f+1):=by
 intro i hi o d N dp un st k ke H hN hb O;refine fu (a:=120*f+90) (k:=30) hN fun n nn en=>?_;rw[en];have e:dK (iL E) (f+1) i o d=match bV i d with
  |true=>Rs.ok d
  |false=>match bV i o with
   |true=>.err
   |false=>match eD (dK (iL E) f) (iL E i) (o++[i]) d with
    |.ok d'=>.ok (qE i d')
    |.err=>.err
    |.fuel=>.fuel:=rfl
 rw[e] at O;refine hCallG (n:=n+29) (g:=Ha) (fr:=[(47,.loc se),(42,bX i)]) (Nat.lt_of_le_of_lt hb.d (by decide)) (Nat.lt_of_le_of_lt hb.u (by decide)) rfl rfl rfl (fun _ _ _ _=>rfl) ?_;have H1:=H.fr [(47,.loc se),(42,bX i)];have slf:∀{st:St} {o d:List Nat} {m:Nat} {v:SV} {fk:SV->Bool},DG g lo ld st o d->[31,100,101].any (Nat.beq m)=true->look m [(31,SV.loc 5),(100,.loc lo),(101,.loc ld)]=some v->rC v=true->fk v=true->vX P1 (.loc se) m st fk=true:=fun H a b c=>qX (H.at F F.s) rfl a (H.at F F.d) b c;refine cY (n:=n+28) (lH (hTsCmp (n:=n+27) (fZ (n:=n+26) rfl (mN (n:=n+26) (fZ (n:=n+25) rfl (slf H1 rfl rfl rfl (Lp (H1.gd F) (uV hi H.d7) ?_)))))));rcases z1:bV i d with _|_
 ·rw[z1] at O;refine c6 (n:=n+27) (cY (n:=n+27) (lH (hTsCmp (n:=n+26) (fZ (n:=n+25) rfl (mN (n:=n+25) (fZ (n:=n+24) rfl (slf H1 rfl rfl rfl (E6 H1.gl rfl C2 (Di hi H.o7) ?_))))))));rcases z2:bV i o with _|_
  ·rw[z2] at O;have l7:o.length<=9999:=al__3 (uX 7 o H.on H.o7) (by decide);have o7:∀y∈o++[i],y<7:=fun y hy=>by
    rcases List.mem_append.mp hy with m|m
    ·exact H.o7 y m
    ·rw[List.mem_singleton.mp m];exact hi
   refine c6 (n:=n+26) (cY (n:=n+26) (sO (qZ (n:=n+25) (mN (n:=n+24) (fZ (n:=n+23) rfl (slf H1 rfl rfl rfl (Dg H1.gl rfl (kF (n:=n+24) (fZ (n:=n+23) rfl (d_ (n:=n+23) (Lg H1.gl (by rw[List.length_map];exact Nat.le_succ_of_le l7) ?_)))))))))));rw[show o.map bX++[bX i]=(o++[i]).map bX by rw[List.map_append];rfl];refine H1.setO o7 (lQ H.on z2) fun st2 H2 f2=>?_;have l47:look 47 st2.fr=some (.loc se):=by rw[f2];rfl
   have l42:look 42 st2.fr=some (bX i):=by rw[f2];rfl
   refine oEA (F.w4) fun es4 w4 lw4=>?_;refine oEA (F.nd) fun es hn hrow=>?_;refine fD (hrow i hi) fun r rd rs hr1 hr2 hr3 hr4=>?_;have und:=Gc E (i:=i);refine cY (n:=n+25) (sO (qZ (n:=n+24) (fZ (n:=n+23) l47 (nA (c:=429) (H2.at F F.s) rfl (H2.at F F.d) rfl (kF (n:=n+23) (mN (n:=n+22) (sQ (n:=n+21) (mN (n:=n+20) (mN (n:=n+19) (fZ (n:=n+18) l47 (slf H2 rfl rfl rfl (qX (c:=694) (H2.at F F.w5) rfl rfl (H2.at F w4) lw4 rfl (fZ (n:=n+20) l42 (uO (H2.at F hn) hr1 (qX (c:=644) (H2.at F hr2) rfl rfl (H2.at F hr3) hr4 und (d_ (n:=n+22) ?_))))))))))))))));refine NP F A H2 (al__3 (cK nn 10) (Nat.add_le_add_left (by decide) n)) (Bd.step (hb.dn.to (by decide:4<=0+10))) ?_;cases q:eD (dK (iL E) f) (iL E i) (o++[i]) d with
  |fuel=>rw[q] at O;exact O
  |err=>rw[q] at O;exact fun st' o' d' H' _=>O _ o' d' (H'.fr _) rfl
  |ok d'=>
    rw[q] at O;intro st3 H3 f3;have k47:look 47 st3.fr=some (.loc se):=by rw[f3];exact l47
    have k42:look 42 st3.fr=some (bX i):=by rw[f3];exact l42
    refine cY (n:=n+24) (sO (qZ (n:=n+23) (mN (n:=n+22) (fZ (n:=n+21) k47 (slf H3 rfl rfl rfl (Dg H3.gl rfl (d_ (n:=n+22) (Ls (vs:=o.map bX) (v:=bX i) (by rw[H3.gl,List.map_append];rfl) (by rw[List.length_map];exact Nat.succ_le_succ l7) ?_))))))));refine H3.setO H.o7 H.on fun st4 H4 f4=>?_;have m47:look 47 st4.fr=some (.loc se):=by rw[f4];exact k47
    have m42:look 42 st4.fr=some (bX i):=by rw[f4];exact k42
    have l8:=uX 7 d' H4.dn H4.d7;refine cY (n:=n+23) (Hr (Li (n:=n+22) (mN (n:=n+22) (fZ (n:=n+21) m47 (slf H4 rfl rfl rfl (fZ (n:=n+22) m42 (Hy (H4.gd F) (by rw[List.length_map];exact al__3 l8 (by decide)) ?_)))))));rw[zT hi H4.d7];refine H4.setD F (AY hi H4.d7) (rX H4.dn) fun st5 H5 f5=>?_;exact c6 (n:=n+22) (O _ (H5.fr _) rfl)
  ·rw[z2] at O;have l7:=B0 (i:=i);have la:([116,104,101,32,116,121,112,101,32]:List Nat).length+(kN i).length<=10000:=al__3 (Nat.add_le_add_left l7 9) (by decide);have lb:([116,104,101,32,116,121,112,101,32]++kN i).length+([32,104,111,108,100,115,32,105,116,115,101,108,102]:List Nat).length<=10000:=by rw[List.length_append];exact al__3 (cK (Nat.add_le_add_left l7 9) 13) (by decide)
   refine cY (n:=n+26) (Lu Fc rfl (kF (n:=n+25) (EY (n:=n+24) (EY (n:=n+23) (yN (n:=n+22) (fZ (n:=n+22) rfl (Df la (yN (n:=n+23) (Df lb (d_ (n:=n+24) ?_))))))))));exact O _ o d H rfl
 ·rw[z1] at O;exact cY (n:=n+27) (Hw (O _ H rfl))
theorem AU(F:DF g E se sd lo ld)(f:Nat):DQ g E se lo ld f:=by
 induction f with
|zero=>exact fun _ _ _ _ _ _ _ _ _ _ _ _ _ O=>O.elim
|succ f ih=>exact Gq F ih
end
end
section
noncomputable def ordN:List Nat:=[3,0,1,2,4,5,6]
section
variable{g:Nat->Option SO}{E:Nat->Dr}{se sd lo ld f:Nat}
theorem HR(F:DF g E se sd lo ld){ls:Nat}{all:List Nat}(hs:g ls=some (.lst (all.map bX))){dp un:Nat}(hb:Bd f 1 dp un){q1 r1 r2 r3 r4 r5 r6 r7:Pos}{K:jI}{kx:Ke}(L:List Nat):∀(pre:List Nat) (st:St) (d:List Nat) (N:Nat),all=pre++L->(∀y∈L,y<7)->DG g lo ld st [] d->look 47 st.fr=some (.loc se)->120*f+15+L.length+10<=N->AV g se lo ld (eD (dK (iL E) f) L [] d) [] K kx->
  (ev P1 N).loop ⟨[],dp,un,99⟩ (.nm 42 q1) [.exp (.mca (.lo 47 r1) 102 [.tup [.str [110,97,109,101,100] "named" r2,.lo 42 r3] r4] r5 r6) r7] (.lst ls) pre.length st K kx=true:=by
 induction L with
|nil=>intro pre st d N ev _ H h47 hN O;refine fu hN fun n _ en=>?_;rw[en];refine qY (H.at F hs) ?_;rw[bS,List.getElem?_map,ev,List.append_nil,List.getElem?_eq_none (Nat.le_refl _)];exact O st H h47
|cons i L ih=>
  intro pre st d N ev h7 H h47 hN O;refine fu hN fun n hn en=>?_;rw[en];have hn:120*f+15+L.length+1<=n:=hn;have e1:all=(pre++[i])++L:=ev.trans (List.append_cons ..);refine qY (H.at F hs) ?_;rw[show nth (all.map bX) pre.length=some (bX i) by rw[bS,List.getElem?_map,ev,List.getElem?_append_right (Nat.le_refl _),Nat.sub_self];rfl];show fc (put 42 (bX i) st.fr) _=true;rw[bJ];have H1:=H.fr (put 42 (bX i) st.fr);have l47:look 47 (put 42 (bX i) st.fr)=some (.loc se):=by rw[bM,if_neg (by decide)];exact h47
  have l42:look 42 (put 42 (bX i) st.fr)=some (bX i):=by rw[bM,if_pos rfl]
  generalize put 42 (bX i) st.fr=fr at H1 l47 l42 ⊢;refine cY (n:=n+8) (sO (qZ (n:=n+7) (fZ (n:=n+6) (st:={st with fr:=fr}) l47 (nA (c:=429) (H1.at F F.s) rfl (H1.at F F.d) rfl (kF (n:=n+6) (Lv (n:=n+5) (kF (n:=n+4) (yN (n:=n+3) (kF (n:=n+3) (fZ (n:=n+2) l42 (d_ (n:=n+2) (d_ (n:=n+5) ?_))))))))))));refine Jq F (AU F f) (h7 i (.head _)) H1 (al__3 (Nat.le_add_right_of_le (Nat.le_add_right _ _)) (al__3 hn (Nat.le_add_right _ _))) hb ?_;replace O:AV g se lo ld (match dK (iL E) f i [] d with|.ok d'=>eD (dK (iL E) f) L [] d'|.err=>.err|.fuel=>.fuel) [] K kx:=O;cases q:dK (iL E) f i [] d with
 |fuel=>rw[q] at O;exact O
 |err=>rw[q] at O;exact fun st' o' d' H' _=>O st' o' d' H'
 |ok d'=>rw[q] at O;refine fun st' H' f'=>c6 (n:=n+7) ?_;have:=ih (pre++[i]) st' d' (n+9) e1 (fun y hy=>h7 y (.tail _ hy)) H' (by rw[f'];exact l47) (cK hn 9) O;rw[List.length_append] at this;exact this
end
end
section
section
variable{n dp un:Nat}
theorem HV(hd:dp<=150)(hu:un<=3500)(hl:st.objs.length=st.n)
  (hk:∀st':St,st'.objs.length=st'.n->st'.n=st.n+4->st'.fr=st.fr->(∀j,st'.get P1 j=if j=st.n then some (.adc [(31,.loc 5),(100,.loc (st.n+2)),(101,.loc (st.n+3))]) else if j=st.n+1 then some (.ins 429 st.n) else if j=st.n+2 then some (.lst []) else if j=st.n+3 then some (.dct []) else st.get P1 j)->k (.loc (st.n+1)) st'=true) :
  (ev P1 (n+20)).call dp un (.glo 429) [.loc 5] st k ke=true:=by
 refine E1 (n:=n+19) (fi:=405) (by(first|lia|omega)) (by(first|lia|omega)) rfl rfl ?_;have z:∀x:Nat,P1.N0+x=x:=Nat.zero_add;refine cJ (eI (p:=P1) (st:=st) (o:=.adc []) hl) fun s1 h1 f1 n1 l1 g1=>?_;refine(h1 _).trans ?_;refine cJ (eI (p:=P1) (st:=s1) (o:=.ins 429 (P1.N0+st.n)) l1) fun s2 h2 f2 n2 l2 g2=>?_;refine(h2 _).trans ?_;rw[z] at g1 ⊢;rw[z st.n,z s1.n] at g2;rw[n1] at g2 ⊢;have hf:P1.funs.look 405=some EC:=by kernel_rfl
 rw[hf,show Nat.blt dp 199=true from cA (by(first|lia|omega)),Bool.true_and];dsimp only[bO];refine E0 (g:=EC) (as:=[.loc (st.n+1),.loc 5]) (fr:=[(47,.loc (st.n+1)),(31,.loc 5)]) rfl rfl ?_;have a2:St.get P1 {s2 with fr:=[(47,.loc (st.n+1)),(31,.loc 5)]} (st.n+1)=some (.ins 429 st.n):=by show s2.get P1 _=_;rw[g2,if_pos rfl]
 have b2:St.get P1 {s2 with fr:=[(47,.loc (st.n+1)),(31,.loc 5)]} st.n=some (.adc []):=by show s2.get P1 _=_;rw[g2,if_neg (by(first|lia|omega)),g1,if_pos rfl]
 refine cY (n:=n+18) (EX (fZ (n:=n+17) rfl (fZ (n:=n+17) rfl (yM a2 rfl rfl b2 (Nat.zero_le _) ?_))));refine cJ (eK (p:=P1) (o:=.adc (put 31 (.loc 5) [])) b2 (Nat.zero_le _) l2) fun s3 h3 f3 n3 l3 g3=>?_;rw[h3];refine cJ (eI (p:=P1) (st:=s3) (o:=.lst []) l3) fun s4 h4 f4 n4 l4 g4=>?_;refine cY (n:=n+17) (EX (Ht (n:=n+16) (d_ (n:=n+15) ((h4 _).trans ?_))));have m3:s3.n=st.n+2:=by rw[n3];show s2.n=_;rw[n2,n1]
 rw[z,m3] at g4 ⊢;have p47:look 47 s4.fr=some (.loc (st.n+1)):=by rw[f4,f3];rfl
 have a4:s4.get P1 (st.n+1)=some (.ins 429 st.n):=by rw[g4,if_neg (by(first|lia|omega)),g3,if_neg (by(first|lia|omega))];exact a2
 have b4:s4.get P1 st.n=some (.adc [(31,.loc 5)]):=by rw[g4,if_neg (by(first|lia|omega)),g3,if_pos rfl];rfl
 refine fZ (n:=n+16) p47 (yM a4 rfl rfl b4 (aP rfl) ?_);refine cJ (eK (p:=P1) (o:=.adc (put 100 (.loc (st.n+2)) [(31,.loc 5)])) b4 (Nat.zero_le _) l4) fun s5 h5 f5 n5 l5 g5=>?_;rw[h5];refine cJ (eI (p:=P1) (st:=s5) (o:=.dct []) l5) fun s6 h6 f6 n6 l6 g6=>?_;refine cY (n:=n+16) (EX (Hs (n:=n+15) ((h6 _).trans ?_)));have m5:s5.n=st.n+3:=by rw[n5,n4,m3]
 rw[z,m5] at g6 ⊢;have p47:look 47 s6.fr=some (.loc (st.n+1)):=by rw[f6,f5];exact p47
 have a6:s6.get P1 (st.n+1)=some (.ins 429 st.n):=by rw[g6,if_neg (by(first|lia|omega)),g5,if_neg (by(first|lia|omega))];exact a4
 have b6:s6.get P1 st.n=some (.adc [(31,.loc 5),(100,.loc (st.n+2))]):=by rw[g6,if_neg (by(first|lia|omega)),g5,if_pos rfl];rfl
 refine fZ (n:=n+15) p47 (yM a6 rfl rfl b6 (aP rfl) ?_);refine cJ (eK (p:=P1) (o:=.adc (put 101 (.loc (st.n+3)) [(31,.loc 5),(100,.loc (st.n+2))])) b6 (Nat.zero_le _) l6) fun s7 h7 f7 n7 l7 g7=>?_;rw[h7];refine c6 (n:=n+15) ?_;refine hk _ l7 (by show s7.n=_;rw[n7,n6,m5]) (by show s2.fr=_;rw[f2,f1]) fun j=>?_;show s7.get P1 j=_;rw[g7];by_cases y:j=st.n
 ·rw[if_pos y,if_pos y];rfl
 ·rw[if_neg y,if_neg y,g6];by_cases y1:j=st.n+1
  ·rw[if_pos y1,y1,if_neg (by(first|lia|omega)),g5,if_neg (by(first|lia|omega))];exact a4
  ·rw[if_neg y1];by_cases y3:j=st.n+3
   ·rw[if_pos y3,if_neg (by(first|lia|omega)),if_pos y3]
   ·rw[if_neg y3,if_neg y3,g5,if_neg y,g4];by_cases y2:j=st.n+2
    ·rw[if_pos y2,if_pos y2]
    ·rw[if_neg y2,if_neg y2,g3,if_neg y];show s2.get P1 j=_;rw[g2,if_neg y1,g1,if_neg y]
end
end
section
structure HW(g:Nat->Option SO) (E:Nat->Dr):Prop where
 w5:g 5=some (.ins 694 4)
 w4:∃es,g 4=some (.adc es)/\look 76 es=some (.loc 18)
 nd:∃es,g 18=some (.dct es)/\es.map (·.1)=[Ac,Ah,Af,IK,bT 0,bT 1,bT 2]/\∀i,i<7->∃r rd rs,cS (kN i) es=some (.loc r)/\g r=some (.ins 644 rd)/\g rd=some (.adc rs)/\look 104 rs=some (CJ E i)
 ed:∀i,i<3->(E i).length<=2/\∀x∈E i,x.1<3/\x.2<5
theorem jT{a i j:Nat}(h:i≠j):a+i≠a+j:=fun e=>h (Nat.add_left_cancel e)
theorem H6{a i:Nat}(h:0<i):a+i≠a:=Nat.ne_of_gt (Nat.lt_add_of_pos_right h)
theorem Cw:(hG [Ac,Ah,Af,IK,bT 0,bT 1,bT 2]).map SV.str=ordN.map bX:=by kernel_rfl
theorem Iq:wK (hG [Ac,Ah,Af,IK,bT 0,bT 1,bT 2])=true:=by kernel_rfl
theorem Lf:P1.G.look 71=some (.bif 2):=by kernel_rfl
theorem Hn:P1.G.look 188=some (.glo 787):=by kernel_rfl
theorem Hp:P1.G.look 194=some (.glo 429):=by kernel_rfl
def JJ(r:Rs)(f:St->Prop)(k:Kv)(ke:Ke):Prop:=match r with
|.fuel=>False
|.err=>∀st':St,f st'->ke 64 st'=true
|.ok _=>∀st':St,f st'->k .non st'=true
section
variable{E:Nat->Dr}{dp un:Nat}
theorem JN{gl:Nat->Option SO}(W:HW gl E)(hl:st.objs.length=st.n){a:Nat}(hgl:∀(x:Nat) (o:SO),gl x=some o->x<a/\st.get P1 x=some o)(h1:st.get P1 (a+1)=some (.ins 429 a))(h0:st.get P1 a=some (.adc [(31,.loc 5),(100,.loc (a+2)),(101,.loc (a+3))]))(h2:st.get P1 (a+2)=some (.lst []))(h3:st.get P1 (a+3)=some (.dct []))
  {N:Nat} (hN:700<=N) (hd:dp<=130) (hu:un<=3500) (O:JJ (eD (dK (iL E) 5) ordN [] []) (fun st'=>st'.fr=st.fr/\∀j,j<a->st'.get P1 j=st.get P1 j) k ke):(ev P1 N).call dp un (.glo 412) [.loc (a+1)] st k ke=true:=by
 refine fu (a:=680) (k:=20) hN fun n nn en=>?_;rw[en];have hf:P1.funs.look 412=some ED:=by kernel_rfl
 refine hCallG (n:=n+19) (g:=ED) (fr:=[(47,.loc (a+1))]) (Nat.lt_of_le_of_lt hd (by decide)) (Nat.lt_of_le_of_lt hu (by decide)) hf rfl rfl (fun _ _ _ _=>rfl) ?_;refine oEA (W.w4) fun es4 w4 lw4=>?_;refine oEAA (W.nd) fun es hn hkeys hrow=>?_;refine cY (n:=n+18) ?_;show(ev P1 (n+18)).ex _ (.cal (.gl 71 _) [.att (.att (.lo 47 _) 31 _) 76 _] _) {st with fr:=[(47,.loc (a+1))]} _ _=true;have W5:St.get P1 {st with fr:=[(47,.loc (a+1))]} 5=some (.ins 694 4):=(hgl _ _ W.w5).2;refine Bs (n:=n+17) (Lm (n:=n+16) Lf (kF (n:=n+16) (mN (n:=n+15) (mN (n:=n+14) (fZ (n:=n+13) rfl (qX (st:={st with fr:=[(47,.loc (a+1))]}) h1 rfl (m:=31) rfl h0 rfl rfl (qX (m:=76) W5 rfl rfl (hgl _ _ w4).2 lw4 rfl (d_ (n:=n+15) (EZ (n:=n+16) (Nat.lt_of_le_of_lt (Nat.succ_le_succ hd) (by decide)) (Nat.lt_of_le_of_lt (cK hu 3) (by decide)) (Ll (hgl _ _ hn).2 ?_))))))))));rw[hkeys,Iq,Cw,show Nat.ble es.length 50=true from cA (by have:=congrArg List.length hkeys;rw[List.length_map] at this;rw[this];decide),Bool.true_and,Bool.true_and];refine cJ (eI (p:=P1) (st:={st with fr:=[(47,.loc (a+1))]}) (o:=.lst (ordN.map bX)) hl) fun s1 p1 f1 n1 l1 g1=>?_;refine(p1 _).trans ?_;rw[show P1.N0+({st with fr:=[(47,.loc (a+1))]}:St).n=st.n from Nat.zero_add _] at g1 ⊢;have g1:∀j,s1.get P1 j=if j=st.n then some (.lst (ordN.map bX)) else st.get P1 j:=g1
 have lt:∀{x:Nat} {o:SO},st.get P1 x=some o->x<st.n:=fun{x o} e=>Nat.lt_of_not_le fun y=>by rw[e_ rfl y] at e;exact nf e
 refine qY (by rw[g1,if_pos rfl]) ?_;generalize hg:(fun j=>if j=a+2\/j=a+3 then none else s1.get P1 j)=g;have gv0:∀{x:Nat} {o:SO},x≠a+2/\x≠a+3->st.get P1 x=some o->g x=some o:=fun{x o} nx e=>by rw[<-hg];show(if x=a+2\/x=a+3 then none else s1.get P1 x)=_;rw[if_neg (fun z=>z.elim nx.1 nx.2),g1,if_neg (Nat.ne_of_lt (lt e))];exact e
 have gv:∀{x:Nat} {o:SO},gl x=some o->g x=some o:=fun{x o} e=>gv0 ⟨Nat.ne_of_lt (Nat.lt_add_right 2 (hgl x o e).1),Nat.ne_of_lt (Nat.lt_add_right 3 (hgl x o e).1)⟩ (hgl x o e).2;have F:DF g E (a+1) a (a+2) (a+3):={
  s:=gv0 ⟨jT (by decide),jT (by decide)⟩ h1
  d:=gv0 ⟨(H6 (by decide)).symm,(H6 (by decide)).symm⟩ h0
  w5:=gv W.w5
  w4:=⟨es4,gv w4,lw4⟩
  nd:=⟨es,gv hn,fun i hi=>by refine fD (hrow i hi) fun r rd rs a1 a2 a3 a4=>?_;exact⟨r,rd,rs,a1,gv a2,gv a3,a4⟩⟩
  nlo:=by rw[<-hg];exact if_pos (.inl rfl)
  nld:=by rw[<-hg];exact if_pos (.inr rfl)
  ne:=jT (by decide)
  ed:=W.ed}
 have H:DG g (a+2) (a+3) s1 [] []:=⟨l1,fun j=>by
  by_cases y:j=a+2
  ·rw[if_pos y,y,g1,if_neg (Nat.ne_of_lt (lt h2))];exact h2
  ·rw[if_neg y];by_cases y3:j=a+3
   ·rw[if_pos y3,y3,g1,if_neg (Nat.ne_of_lt (lt h3))];exact h3
   ·rw[if_neg y3,<-hg];exact(if_neg fun z=>z.elim y y3).symm,nofun,nofun,.nil,.nil⟩
 have hs:g st.n=some (.lst (ordN.map bX)):=by rw[<-hg];show(if st.n=a+2\/st.n=a+3 then none else s1.get P1 st.n)=_;rw[if_neg fun z=>z.elim (Nat.ne_of_gt (lt h2)) (Nat.ne_of_gt (lt h3)),g1,if_pos rfl]
 have keep:∀{st':St} {o d:List Nat},DG g (a+2) (a+3) st' o d->∀j,j<a->st'.get P1 j=st.get P1 j:=fun{st' o d} J j hj=>by have n2:=Nat.ne_of_lt (Nat.lt_add_right 2 hj);have n3:=Nat.ne_of_lt (Nat.lt_add_right 3 hj);rw[J.gt,if_neg n2,if_neg n3,<-hg];show(if j=a+2\/j=a+3 then none else s1.get P1 j)=_;rw[if_neg fun z=>z.elim n2 n3,g1,if_neg (Nat.ne_of_lt (Nat.lt_trans hj (lt h0)))]
 refine HR (f:=5) F hs (dp:=dp+1) (un:=un+3) ⟨al__3 (cK (cK (Nat.succ_le_succ hd) _) _) (by decide),al__3 (cK (cK (cK hu 3) _) _) (by decide)⟩ ordN [] s1 [] (n+18) rfl (by decide) H (by rw[f1];rfl) (al__3 (al__3 (by decide) nn) (Nat.le_add_right n 18)) ?_;cases q:eD (dK (iL E) 5) ordN [] [] with
|fuel=>rw[q] at O;exact O
|err=>rw[q] at O;exact fun st' o' d' J=>O _ ⟨rfl,keep (J.fr _)⟩
|ok d'=>rw[q] at O;exact fun st' J _=>c6 (n:=n+17) (O _ ⟨rfl,keep (J.fr _)⟩)
end
def IA:S:=match f799.body with
|[_,_,_,_,_,s]=>s
|_=>.ret0 ⟨0,0,0,0⟩
def HJ:Lam:=match nth lamsMain 5 with
|some l=>l
|none=>⟨[],.non ⟨0,0,0,0⟩,[],99,f799.sc⟩
theorem r_:∃(q1 q2 q3 q4:Pos) (hs:List H),f787.body=[.tr [.ret (.cal (.lo 91 q1) [] q2) q3] hs q4]/\∀st k,jR P1 64 hs st k=k (.ret (.str [116,121,112,101])) st:=⟨_,_,_,_,_,rfl,fun st k=>by kernel_rfl⟩
theorem HK(st:St)(k:Kv):uL P1 cxH 5 st k=k (.lam 5 [(31,3)]) st:=by kernel_rfl
section
variable{E:Nat->Dr}{n:Nat}
theorem Lq{p:P}{cx:Cx}{j:Nat}{q:Pos}{k:Kv}(h:uL p cx j st k=true):(ev p (n+1)).ex cx (.lam j q) st k ke=true:=h
theorem OM(W:HW (St.get P1 st) E)(hl:st.objs.length=st.n)(h3:st.get P1 3=some (.cel (some (.loc 5)))){t:T3}(h193:look 193 st.fr=some (iD t))(hR:match eD (dK (iL E) 5) ordN [] [] with|.ok _=>Ej t=false|.err=>Ej t=true|.fuel=>False){K:jI}(hk:∀st':St,(∀j,j<st.n->st'.get P1 j=st.get P1 j)->K (.ret (.bol true)) st'=true) :
  cT P1 (ev P1 (n+800)) cxH IA st K ke=true:=by
 refine Hv (E5 (n:=n+799) (Bs (n:=n+798) (Lm (n:=n+797) Hn (kF (n:=n+797) (Lq (n:=n+796) ?_)))));rw[HK];refine d_ (n:=n+796) ?_;have hf:P1.funs.look 787=some f787:=by kernel_rfl
 refine hCallG (n:=n+797) (g:=f787) (fr:=[(91,.lam 5 [(31,3)])]) (by decide) (by decide) hf rfl rfl (fun _ _ _ _=>rfl) ?_;refine B6 r_ fun r1 r2 r3 r4 hs eb hh=>?_;rw[eb];have hlam:nth P1.lams 5=some HJ:=by kernel_rfl
 refine cY (n:=n+796) (Od (cY (n:=n+795) (Hv (Bs (n:=n+794) (fZ (n:=n+793) rfl (d_ (n:=n+793) (E2 (n:=n+793) (l:=HJ) (by decide) (by decide) hlam rfl rfl ?_)))))));refine qZ (n:=n+792) (Bs (n:=n+791) (Lm (n:=n+790) Hp (kF (n:=n+790) (E4 (n:=n+789) (l:=3) rfl (st:={st with fr:=[]}) h3 (d_ (n:=n+789) (HV (n:=n+771) (by decide) (by decide) hl ?_))))));intro s1 l1 n1 f1 g1;have g1:∀j,s1.get P1 j=if j=st.n then some (.adc [(31,.loc 5),(100,.loc (st.n+2)),(101,.loc (st.n+3))]) else if j=st.n+1 then some (.ins 429 st.n) else if j=st.n+2 then some (.lst []) else if j=st.n+3 then some (.dct []) else st.get P1 j:=g1
 have lt:∀{x:Nat} {o:SO},st.get P1 x=some o->x<st.n:=fun{x o} e=>Nat.lt_of_not_le fun y=>by rw[e_ rfl y] at e;exact nf e
 have old:∀{x:Nat},x<st.n->s1.get P1 x=st.get P1 x:=fun{x} hx=>by rw[g1,if_neg (Nat.ne_of_lt hx),if_neg (Nat.ne_of_lt (Nat.lt_add_right 1 hx)),if_neg (Nat.ne_of_lt (Nat.lt_add_right 2 hx)),if_neg (Nat.ne_of_lt (Nat.lt_add_right 3 hx))]
 have k1:∀{x:Nat} {o:SO},st.get P1 x=some o->s1.get P1 x=some o:=fun{x o} e=>by rw[old (lt e)];exact e
 have i1:s1.get P1 (st.n+1)=some (.ins 429 st.n):=by rw[g1,if_neg (H6 (by decide)),if_pos rfl]
 have i0:s1.get P1 st.n=some (.adc [(31,.loc 5),(100,.loc (st.n+2)),(101,.loc (st.n+3))]):=by rw[g1,if_pos rfl]
 have i2:s1.get P1 (st.n+2)=some (.lst []):=by rw[g1,if_neg (H6 (by decide)),if_neg (jT (by decide)),if_pos rfl]
 have i3:s1.get P1 (st.n+3)=some (.dct []):=by rw[g1,if_neg (H6 (by decide)),if_neg (jT (by decide)),if_neg (jT (by decide)),if_pos rfl]
 refine nA (c:=429) (f:=412) i1 (by kernel_rfl) i0 rfl (d_ (n:=n+791) ?_);have fin:∀st':St,(∀j,j<st.n->st'.get P1 j=st.get P1 j)->∀v:SV,(fH 30 v=true/\wV 20 v (iD t)=some true)->qM P1 .eq v (iD t) st' (fun r=>K (.ret (.bol r)) st')=true:=fun st' hg v hv=>by
  have d2:fH 30 (iD t)=true:=by unfold iD;cases Ej t<;>rfl
  have e2:qM P1 .eq v (iD t) st' (fun r=>K (.ret (.bol r)) st')=(fH 30 v&&fH 30 (iD t)&&bO (wV 20 v (iD t)) fun r=>K (.ret (.bol r)) st'):=by rcases v with _|_<;>first|rfl|exact ff (hv.1)
  rw[e2,hv.1,d2,hv.2];exact hk st' hg
 have look193:∀{st':St},st'.fr=st.fr->look 193 st'.fr=some (iD t):=fun e=>by rw[e];exact h193
 have dd:iD t=match Ej t with|true=>.str [116,121,112,101]|false=>.non:=rfl
 refine JN W l1 (a:=st.n) (fun x o e=>⟨lt e,k1 e⟩) i1 i0 i2 i3 (N:=n+792) (al__3 (by decide) (Nat.le_add_left 792 n)) (by decide) (by decide) ?_;cases q:eD (dK (iL E) 5) ordN [] [] with
|fuel=>rw[q] at hR;exact hR
|err=>rw[q] at hR;intro st' ⟨f',hg⟩;show jR P1 64 hs _ _=true;rw[hh];refine fZ (n:=n+798) (st:={st' with fr:=st.fr}) h193 (fin {st' with fr:=st.fr} (fun j hj=>(hg j hj).trans (old hj)) (.str [116,121,112,101]) ⟨rfl,?_⟩);rw[dd,hR];rfl
|ok d'=>rw[q] at hR;intro st' ⟨f',hg⟩;refine fZ (n:=n+798) (st:={st' with fr:=st.fr}) h193 (fin {st' with fr:=st.fr} (fun j hj=>(hg j hj).trans (old hj)) .non ⟨rfl,?_⟩);rw[dd,hR];rfl
end
end
section
noncomputable def e3(a b c:List Nat):Nat->List Nat
|0=>a
|1=>b
|2=>c
|_=>[]
noncomputable def vE(l:List Nat):Bool:=Nat.ble l.length 60&&l.all fun x=>Nat.blt x 3
def O5(t:T3):Bool:=vE t.1&&vE t.2.1&&vE t.2.2
def GT(t:T3)(i:Nat)(k:T3->Bool):Bool:=fc (t.at i++jO t i) fun l=>vE l&&k (t.put i l)
def Ci(t:T3)(k:T3->Bool):Bool:=match t with|(a,b,c)=>fc (a++jO (a,b,c) 0) fun a=>vE a&&fc (b++jO (a,b,c) 1) fun b=>vE b&&fc (c++jO (a,b,c) 2) fun c=>vE c&&k (a,b,c)
noncomputable def CW(r:Rs)(b:Bool):Bool:=match r with
|.fuel=>false
|.err=>b
|.ok _=>!b
def JW(a b c:List Nat):Bool:=vE a&&vE b&&vE c&&Ci (a,b,c) fun t=>Ci t fun t=>Ci t fun t=>CW (eD (dK (e3 a b c) 5) ordN [] []) (Ej t)
noncomputable def optsG:List (List Nat):=[]::((List.range 3).map fun x=>[x])++(List.range 3).flatMap fun x=>(List.range 3).map fun y=>[x,y]
theorem Ec:optsG.all (fun a=>optsG.all fun b=>optsG.all fun c=>JW a b c)=true:=by decide +kernel
def AgreeP(r:Rs)(b:Bool):Prop:=match r with|.ok _=>b=false|.err=>b=true|.fuel=>False
theorem w9{r:Rs}{b:Bool}(h:CW r b=true):AgreeP r b:=by
 cases r with
|fuel=>exact ff h
|err=>exact h
|ok d=>rcases b with _|_;rfl;exact ff h
theorem pQ{l:List Nat}(h:vE l=true):l.length<=60/\∀x∈l,x<3:=⟨aP (aG h).1,fun x hx=>aP (aZ (aG h).2 x hx)⟩
theorem Fx{t:T3}(h0:vE t.1=true)(h1:vE t.2.1=true)(h2:vE t.2.2=true):t.ok:=fun i hi=>by
 match i,hi with
|0,_=>exact pQ h0
|1,_=>exact pQ h1
|2,_=>exact pQ h2
theorem sD{t:T3}{i:Nat}{k:T3->Bool}(T:t.ok)(hi:i<3)(h:GT t i k=true):(t.cl i).ok/\k (t.cl i)=true:=by
 unfold GT at h;rw[bJ] at h;refine bZ h fun h1 h2=>?_;refine⟨fun j hj=>?_,h2⟩;rw[show(t.cl i).at j=if j=i then t.at i++jO t i else t.at j from T3.at_put hi hj];by_cases y:j=i
 ·rw[if_pos y];exact pQ h1
 ·rw[if_neg y];exact T j hj
theorem pW{t:T3}{k:T3->Bool}(T:t.ok)(h:Ci t k=true):t.okR/\k t.round=true:=by obtain⟨a,b,c⟩:=t;replace h:GT (a,b,c) 0 (fun t=>GT t 1 fun t=>GT t 2 k)=true:=h;refine oA (sD T (by decide) h) fun a1 h=>?_;refine oA (sD a1 (by decide) h) fun a2 h=>?_;refine oA (sD a2 (by decide) h) fun a3 h=>?_;exact⟨⟨a1,a2,a3⟩,h⟩
theorem pR{D:Dr}(h:gM D=true):cP D∈optsG:=by
 refine bZ h fun hl ha=>?_;have hx:∀x∈D,x.1<3:=fun x hx=>aP (aG (aZ ha x hx)).1;have m0:[]∈optsG:=.head _;have m1:∀x,x<3->[x]∈optsG:=fun x h=>List.mem_append_left _ (.tail _ (List.mem_map.mpr ⟨x,List.mem_range.mpr h,rfl⟩));have m2:∀x y,x<3->y<3->[x,y]∈optsG:=fun x y h h'=>List.mem_append_right _ (List.mem_flatMap.mpr ⟨x,List.mem_range.mpr h,List.mem_map.mpr ⟨y,List.mem_range.mpr h',rfl⟩⟩);have e1:∀x:Nat×Nat,x.1<3->fQ x=[]\/fQ x=[x.1]:=fun x _=>by
  unfold fQ;cases yR x.2
  ·exact .inl rfl
  ·exact .inr rfl
 rcases gS (aP hl) with rfl|⟨a,rfl⟩|⟨a,b,rfl⟩
 ·exact m0
 ·have ha:=hx a (.head _);rw[show cP [a]=fQ a++[] from rfl];rcases e1 a ha with e|e<;>rw[e]
  ·exact m0
  ·exact m1 _ ha
 ·have ha:=hx a (.head _);have hb:=hx b (.tail _ (.head _));rw[show cP [a,b]=fQ a++(fQ b++[]) from rfl];rcases e1 a ha with e|e<;>rcases e1 b hb with e'|e'<;>rw[e,e']
  ·exact m0
  ·exact m1 _ hb
  ·exact m1 _ ha
  ·exact m2 _ _ ha hb
noncomputable def EE(A B C:Dr):Nat->Dr
|0=>A
|1=>B
|_=>C
theorem Ep{A B C:Dr}:iL (EE A B C)=e3 (cP A) (cP B) (cP C):=funext fun i=>by
 match i with
|0|1|2=>rfl
|_+3=>rfl
theorem EW{A B C:Dr}(hA:gM A=true)(hB:gM B=true)(hC:gM C=true):∃t:T3,t=(cP A,cP B,cP C)/\t.ok/\t.okR/\t.round.okR/\t.round.round.okR/\
  AgreeP (eD (dK (iL (EE A B C)) 5) ordN [] []) (Ej t.round.round.round):=by
 have h:=aZ (aZ (aZ Ec _ (pR hA)) _ (pR hB)) _ (pR hC);refine AS h fun o1 o2 o3 h=>?_;have T:T3.ok (cP A,cP B,cP C):=Fx o1 o2 o3;refine oA (pW T h) fun R1 h=>?_;refine oA (pW R1.2.2 h) fun R2 h=>?_;refine oA (pW R2.2.2 h) fun R3 h=>?_;rw[Ep];exact⟨_,rfl,T,R1,R2,R3,w9 h⟩
end
section
def HA(fl:Fl)(st:St):Bool:=bO (Gj fl) fun v=>sq 2 v (.bol true)&&j6 (st.get mR 0)
theorem A3:f799.body=Iy++[Iz,Mf,JD,IA]:=by kernel_rfl
theorem zE{α:Type}{l:List α}{x:α}(i:Nat)(h:l[i]?=some x):x∈l:=List.mem_of_getElem? h
section
variable{A B C:Dr}
theorem GY(hA:gM A=true)(hB:gM B=true)(hC:gM C=true):∀i,i<3->(EE A B C i).length<=2/\∀x∈EE A B C i,x.1<3/\x.2<5:=by
 have h:∀{D},gM D=true->D.length<=2/\∀x∈D,x.1<3/\x.2<5:=fun{D} h=>⟨cG h,fun x hx=>
  let⟨h1,h2⟩:=aG (aZ (aG h).2 x hx)
  ⟨aP h1,aP h2⟩⟩
 intro i hi
 match i,hi with
|0,_=>exact h hA
|1,_=>exact h hB
|2,_=>exact h hC
theorem NM(hA:gM A=true)(hB:gM B=true)(hC:gM C=true):HW (St.get P1 (gE A B C)) (EE A B C):=by
 have gt:∀{x:Nat} {o:SO} (i:Nat),(nQ A B C)[i]?=some (x,o)->St.get P1 (gE A B C) x=some o:=fun{x o} i h=>ES (cG hA) (cG hB) (cG hC) (zE i h);refine⟨gt 5 rfl,⟨_,gt 4 rfl,rfl⟩,⟨_,gt 6 rfl,rfl,fun i hi=>?_⟩,GY hA hB hC⟩
 match i,hi with
|0,_=>exact⟨_,_,_,rfl,gt 21 rfl,gt 20 rfl,rfl⟩
|1,_=>exact⟨_,_,_,rfl,gt 23 rfl,gt 22 rfl,rfl⟩
|2,_=>exact⟨_,_,_,rfl,gt 25 rfl,gt 24 rfl,rfl⟩
|3,_=>exact⟨_,_,_,rfl,gt 13 rfl,gt 12 rfl,rfl⟩
|4,_=>exact⟨_,_,_,rfl,gt 15 rfl,gt 14 rfl,rfl⟩
|5,_=>exact⟨_,_,_,rfl,gt 17 rfl,gt 16 rfl,rfl⟩
|6,_=>exact⟨_,_,_,rfl,gt 19 rfl,gt 18 rfl,rfl⟩
theorem Bu(ke:Ke):(ev P1 1000).sts cxH f799.body stH0 HA ke=true:=by
 rw[A3,show(1000:Nat)=798+202 from rfl,LY 798,jG];refine OJ 897 _ ke fun A B C hA hB hC=>?_;have la:=cG hA;have lb:=cG hB;have lc:=cG hC;have gt:∀{x:Nat} {o:SO} (i:Nat),(nQ A B C)[i]?=some (x,o)->St.get P1 (gE A B C) x=some o:=fun{x o} i h=>ES la lb lc (zE i h);refine B5 (EW hA hB hC) fun t et T R1 R2 R3 ag=>?_;have n3:=Oq la lb lc;have cs:CS (gE A B C) (gE A B C) t:={
  hl:=HO la lb lc
  ge:=Nat.le_refl _
  f65:=K7 la lb lc
  keep:=fun _ _ _ _=>rfl
  c1:=gt 1 rfl
  c2:=⟨_,gt 2 rfl⟩
  d:=⟨fun i=>match i with
  |0=>31
  |1=>35+2*A.length+1
  |_=>35+2*A.length+5+2*B.length+1,gt 7 rfl,fun j hj=>by
    rw[et]
    match j,hj with
   |0,_=>rw[show T3.at (cP A,cP B,cP C) 0=cP A from rfl,<-l9 la];exact gt 9 rfl
   |1,_=>rw[show T3.at (cP A,cP B,cP C) 1=cP B from rfl,<-l9 lb];exact gt 10 rfl
   |2,_=>rw[show T3.at (cP A,cP B,cP C) 2=cP C from rfl,<-l9 lc];exact gt 11 rfl⟩
  nms:=gt 8 rfl
  T:=T}
 show(ev P1 997).sts cxH [Mf,JD,IA] (gE A B C) HA ke=true;refine cY (n:=996) (OK (n:=776) cs R1 R2 R3 fun st4 H4=>?_);show(ev P1 996).sts cxH [JD,IA] st4 HA ke=true;refine cY (n:=995) (OL (n:=775) H4 fun st5 l5 ge5 keep5 f5=>?_);show(ev P1 995).sts cxH [IA] st5 HA ke=true;have lt:∀{x:Nat} {o:SO},St.get P1 (gE A B C) x=some o->x<(gE A B C).n:=fun{x o} e=>Nat.lt_of_not_le fun y=>by rw[e_ rfl y] at e;exact nf e
 have kp:∀{x:Nat} {o:SO},x≠2->x≠28->St.get P1 (gE A B C) x=some o->St.get P1 st5 x=some o:=fun{x o} h2 h28 e=>by rw[keep5 x (lt e) h2 h28];exact e
 have W0:=NM hA hB hC;have W5:HW (St.get P1 st5) (EE A B C):=by refine oEA (W0.w4) fun es4 w4 lw4=>?_;refine oEAA (W0.nd) fun es hn hkeys hrow=>?_;refine⟨kp (by decide) (by decide) W0.w5,⟨es4,kp (by decide) (by decide) w4,lw4⟩,⟨es,kp (by decide) (by decide) hn,hkeys,fun i hi=>?_⟩,W0.ed⟩;refine fD (hrow i hi) fun r rd rs a1 a2 a3 a4=>?_;have c2:St.get P1 (gE A B C) 2=some (.cel (some (aU 2))):=gt 2 rfl;have c28:St.get P1 (gE A B C) 28=some (.dct [(bT 0,.loc 31),(bT 1,.loc (35+2*A.length+1)),(bT 2,.loc (35+2*A.length+5+2*B.length+1))]):=gt 7 rfl;exact⟨r,rd,rs,a1,kp (fun e=>by rw[e,c2] at a2;cases a2) (fun e=>by rw[e,c28] at a2;cases a2) a2,kp (fun e=>by rw[e,c2] at a3;cases a3) (fun e=>by rw[e,c28] at a3;cases a3) a3,a4⟩
 refine cY (n:=994) (OM (n:=194) (t:=t.round.round.round) W5 l5 (kp (by decide) (by decide) (gt 3 rfl)) f5 ag fun st6 g6=>?_);show j6 (st6.get P1 0)=true;rw[g6 0 (by have:=lt (gt (x:=0) 0 rfl);(first|lia|omega)),kp (by decide) (by decide) (gt (x:=0) 0 rfl)];rfl
end
end
end Mine
end
section
open PySem PySem.W PyProof.Rows PySem.Calls
namespace Mine
variable{w:World}{K:Frag}{mg mb:Str->Option Value}
section
def JB:List (Nat×SO):=[(0,mU),(1,.cel none),(2,.cel none),(3,.cel none)]
def Cr(s c1 c2 c3 i:Nat):Nat:=(nth [s,c1,c2,c3] i).getD 0
theorem Cs{s c1 c2 c3 i j:Nat}(nd:([s,c1,c2,c3]:List Nat).Nodup)(hi:i<4)(hj:j<4)(e:Cr s c1 c2 c3 i=Cr s c1 c2 c3 j):i=j:=by refine(List.getElem?_inj (l:=[s,c1,c2,c3]) hi nd).mp ?_;delta Cr at e;rw[bS,bS,List.getElem?_eq_getElem (l:=[s,c1,c2,c3]) hi,List.getElem?_eq_getElem (l:=[s,c1,c2,c3]) hj] at e;rw[List.getElem?_eq_getElem (l:=[s,c1,c2,c3]) hi,List.getElem?_eq_getElem (l:=[s,c1,c2,c3]) hj];exact congrArg some e
def Dh(p:P)(cx:Cx)(st:St)(k:Fl->St->Bool):Option Bool:=(look 151 st.fr).bind fun v=>v.loc?.bind fun s=>(JX 31 34 190 cx.cl).bind fun c=>some (apart [s,c.1,c.2.1,c.2.2]&&A6 p st 4 An JB .lf (Cr s c.1 c.2.1 c.2.2)&&Nat.ble cx.dp 120&&Nat.ble cx.un 2500&&Nat.beq cx.tb 6&&st.wf [] fun st=>st.set p c.1 .src fun st=>st.set p c.2.1 .src fun st=>st.set p c.2.2 .src fun st=>k (.ret (.bol true)) st)
theorem HB:(List.range 4).all (fun i=>An i||bO (gO JB .lf i) (qL 4))=true:=by decide +kernel
theorem Hm:(List.range 4).all (fun i=>bO (gO JB .lf i) fun o=>bO (stH0.get P1 i) (JE o))=true:=by decide +kernel
theorem look799:fnMain.look 799=some f799:=by rfl
section
theorem Bv{C:Cst}{B:Heap}{n0:Nat}{F:Tr SO}{bod:bH}(S:Sta C B K mg mb)(hp:C.p=fT n0 F bod){g:Fun}(hg:fnMain.look 799=some g):iN w C B g fun cx st k _=>Dh C.p cx st k:=by
 intro cx st k ke oU env R A s Q E' c hf ok I h P PX;rw[<-aF (look799.symm.trans hg)] at ok ⊢;refine bI h fun v h151 h=>bI h fun sl e1 h=>bI h fun c3 e2 h=>?_;rw[loc?_is e1] at h151;have hcl:=xQ e2;refine GI (aF h) fun hap hall hdp hun htb hk=>?_;have htb:=aT htb;have inj:=fun(i j:Nat) (hi:i<4) (hj:j<4)=>Cs (j2 hap) hi hj;have σ0:Cr sl c3.1 c3.2.1 c3.2.2 0=sl:=rfl;have σ1:Cr sl c3.1 c3.2.1 c3.2.2 1=c3.1:=rfl;have σ2:Cr sl c3.1 c3.2.1 c3.2.2 2=c3.2.1:=rfl;have σ3:Cr sl c3.1 c3.2.1 c3.2.2 3=c3.2.2:=rfl;generalize Cr sl c3.1 c3.2.1 c3.2.2=σ at hall inj σ0 σ1 σ2 σ3;have fk:=fun(i:Nat) (hi:i<4) (h0:An i=false)=>kK HB hall hi h0;have adr:∀i,i<4->∃a,R.ρ[σ i]?=some a:=fun i hi=>oEAA (fk i hi rfl) fun o _ _ e=>oEA (I.inv.at e) fun a ha _=>⟨a,ha⟩;refine pS R [] adr fun R1 l1 d1 hr=>?_;have W:Sw C R R1 st 4 σ An (gO JB .lf):=⟨l1,hr,inj,fk⟩;refine oEA (I.frm) fun mf hmf hfr=>?_;have sp:(C.sub 0 .lf rZ 0 1 0 false).p=P1:=Cst.sub_p hp;have gp:∀(st:St) i,st.get (C.sub 0 .lf rZ 0 1 0 false).p i=st.get P1 i:=fun st i=>by rw[sp]
 refine jH (bod:=rZ) (n0:=0) (F:=.lf) (lb:=0) (lu:=1) (td:=0) (fb:=false) (R1:=R1) (st1:=stH0) (cx1:=cxH) (N:=1000) (k1:=HA) (ke1:=dX) S (fun i o e=>by exact nf e) (by decide)
  (fun nn' B' S'=>fun a' g' hg' cx st k ke oU env R A s Q E' c hf ok I h P PX=>dG h fun y h=>?_) (I.low_sub W.old) hf ok
  (c.sub (aP hdp) (by decide) (aP hun) (by decide) (.inl htb.symm) (fun n i e=>?_) fun n=>?_) ?_ (by rw[sp];exact Bu dX) ?_ (PE.no s.heap)
 ·have pe:((C.sub 0 .lf rZ 0 1 0 false).at nn').p=_:=sp;replace hg':C.p.funs.look a'=some g':=hg';rw[hp,aT y] at hg';exact kQ (C:=(C.sub 0 .lf rZ 0 1 0 false).at nn') S' sp (by rw[pe];exact hg') c hf ok I (by rw[pe];exact h) P
 ·rcases iG e with⟨rfl,rfl⟩|⟨rfl,rfl⟩|⟨rfl,rfl⟩
  ·refine oE (adr 3 (by decide)) fun a ha=>?_;exact⟨a,c3.2.2,by rw[hr 3 (by decide)];exact ha,by rw[hcl];rfl,by rw[<-σ3];exact ha⟩
  ·refine oE (adr 2 (by decide)) fun a ha=>?_;exact⟨a,c3.2.1,by rw[hr 2 (by decide)];exact ha,by rw[hcl];rfl,by rw[<-σ2];exact ha⟩
  ·refine oE (adr 1 (by decide)) fun a ha=>?_;exact⟨a,c3.1,by rw[hr 1 (by decide)];exact ha,by rw[hcl];rfl,by rw[<-σ1];exact ha⟩
 ·rw[hcl];exact uT
 ·refine I.sub R1 _ W.old (W.one I) l1 rfl (by rw[d1];rfl) (fun t hm=>by rw[d1] at hm;exact nomatch hm) (fun k b e=>nf e) (fun i o a q e=>W.obj I rfl ?_ e) ⟨mf,hmf,fun n v e=>?_⟩
  ·rw[gp] at q;refine dO (aZ Hm i (List.mem_range.mpr (W.lt e))) fun o1 q1 z=>dO z fun o2 q2 z=>?_;rw[q1,tD z,<-q2,q]
  ·have q:=List.mem_singleton.mp (look_mem (l:=[(151,SV.loc 0)]) e);rw[show n=151 from congrArg Prod.fst q,show v=.loc 0 from congrArg Prod.snd q];refine fS (hfr 151 _ h151) fun x hx a ha X=>?_;exact⟨x,hx,a,by rw[hr 0 (by decide),σ0];exact ha,X⟩
 ·intro fl st1 R1' hh tk gg ll J e;refine dO e fun v ev e=>bZ e fun q1 e=>?_;rw[lF ev,hH _ _ _ q1];have hr':=W.on' gg;refine dF (p:=C.p) (st:={st with fr:=[]}) I.inv.olen (dN hk) fun s1 p1 f1 n1 o1 d1 g1=>?_;refine dF (p:=C.p) o1 p1 fun s2 p2 f2 n2 o2 d2 g2=>?_;refine dF (p:=C.p) o2 p2 fun s3 p3 f3 n3 o3 d3 g3=>?_;have I':=(At.ret (news:=[]) (δ':=[]) (R':=R) (st':=s3) (C1:=C.sub 0 .lf rZ 0 1 0 false) I rfl W.old gg ll J (by rw[List.append_nil,List.append_nil]) (fun _ m=>nomatch m) .nil (by rw[n3,n2,n1];exact I.inv.len) o3 (by rw[d3,d2,d1];exact I.inv.dlen) (fun _ m=>nomatch m)
   (fun k b e=>I.inv.da k b (by rw[d3,d2,d1] at e;exact e)) (fun _ kp i o a q y=>by
    have src:∀j,j<4->i=σ j->some SO.src=some o->RO w C R hh a o:=fun j hj e q=>by rw[<-aF q];exact(J.inv.new j a (by rw[hr' j hj,<-e];exact y)).2
    rw[g3] at q;by_cases z3:i=c3.2.2
    ·rw[if_pos z3] at q;exact .inr (src 3 (by decide) (z3.trans σ3.symm) q)
    ·rw[if_neg z3,g2] at q;by_cases z2:i=c3.2.1
     ·rw[if_pos z2] at q;exact .inr (src 2 (by decide) (z2.trans σ2.symm) q)
     ·rw[if_neg z2,g1] at q;by_cases z1:i=c3.1
      ·rw[if_pos z1] at q;exact .inr (src 1 (by decide) (z1.trans σ1.symm) q)
      ·rw[if_neg z1] at q;by_cases x:∃j:Nat,R1.ρ[j]?=some a
       ·refine oE x fun j x=>?_;have ij:=I.inv.inj i (σ j) a y (W.to x);have lj:=W.lt x;rcases j with _|_|_|_|j
        ·exact .inr (W.back I gg J (fun o1 h1=>by rw[gp,<-show some mU=some o1 from h1];exact eT e) q y x rfl)
        ·exact absurd (ij.trans σ1) z1
        ·exact absurd (ij.trans σ2) z2
        ·exact absurd (ij.trans σ3) z3
        ·exact absurd lj (Nat.not_lt.mpr (Nat.le_add_left 4 j))
       ·exact .inl ⟨q,y,fun j w=>x ⟨j,w⟩⟩) (by rw[f3,f2,f1])).2
  intro x X;exact P (.ret (.bol true)) s3 R hh tk (.refl R) ll I' p3 x X
end
end
variable{C:Cst}{B:Heap}{ih:Ev}
section
open Classical in
noncomputable def BA(e:PySem.Expr):Bool:=decide (∃q q',e=.UnaryOp .USub (.Constant (.int 1) 0 q) q')
open Classical in
theorem isM1_is{e:PySem.Expr}:BA e=true↔∃q q',e=.UnaryOp .USub (.Constant (.int 1) 0 q) q':=decide_eq_true_iff
noncomputable def q9:SV->Bool
|.scr=>true
|_=>false
theorem lK{a:SV}(h:q9 a=true):a=.scr:=by rcases a with _|_<;>first|exact ff h|rfl
def F0(scl:List Int)(p:P)(v w:SV)(st:St)(k:Kv):Bool:=match q9 v with
|true=>wC w fun j=>bO (nth scl j) fun i=>k (.int i) st
|false=>tH p v w st k
def M9(scl:List Int)(p:P)(ih:Ev)(cx:Cx)(e:E)(st:St)(k:Kv)(ke:Ke):Bool:=match e with
|.any e=>BA e&&k (.int (-1)) st
|.sub a i _=>ih.ex cx a st (fun v st=>ih.ex cx i st (fun w st=>F0 scl p v w st k) ke) ke
|e=>Ez p ih cx e st k ke
def C0(scl:List Int)(f:SV)(as:List SV)(st:St)(k:Kv):Bool:=match f with
|.bif b=>match as with
 |[]=>false
 |a::r=>match r with
  |[]=>q9 a&&(Nat.beq b 0&&k (.int (.ofNat scl.length)) st)
  |c::r=>r.isEmpty&&bO a.int? fun x=>bO c.int? fun y=>Nat.beq b 3&&k (.int (if y>x then y else x)) st
|.typ n=>Nat.beq n 0&&match as with
 |[]=>false
 |a::r=>r.isEmpty&&bO a.int? fun x=>k (.int x) st
|_=>false
def IV(p:P)(ih:Ev)(cx:Cx)(ss:List S)(st:St)(k:Fl->St->Bool)(ke:Ke):Bool:=match ss with
|[]=>k .nxt st
|s::r=>match s with
 |.asg t e q'=>match t with
  |.nm n q=>match e with
   |.sub a i q2=>r.isEmpty&&cT p ih cx (.asg (.nm n q) (.sub a i q2) q') st k ke
   |_=>false
  |.tp _ _=>false
 |_=>false
def Cy(scl:List Int)(p:P)(ih:Ev):Ev:={pK with ex:=M9 scl p ih,exs:=yF ih,ts:=F9 p ih,sts:=IV p ih,call:=fun _ _ f as st k _=>C0 scl f as st k}
def uJ(scl:List Int)(p:P):Nat->Ev
|0=>pK
|n+1=>Cy scl p (uJ scl p n)
theorem InS.nth{l:List Int}{i:Int}:∀{xs:List Value} {j:Nat},InS l xs->Mine.nth l j=some i->∃t,xs[j]?=some (.int i t):=by
 induction l with
|nil=>exact fun _ e=>nf e
|cons a r ih=>
  intro xs j h e;refine cX h fun t ys u h2=>?_;subst u;induction j using Nat.casesOn with
 |zero=>exact⟨t,congrArg (fun a=>some (Value.int a t)) (aF e)⟩
 |succ j=>exact ih (j:=j) h2 e
theorem InS.len{l:List Int}:∀{xs:List Value},InS l xs->xs.length=l.length:=by
 induction l with
|nil=>exact fun e=>congrArg _ e
|cons a r ih=>intro xs h;refine cX h fun t ys u h=>?_;exact(congrArg _ u).trans (congrArg (·+1) (ih h))
section
theorem A5(S:Sta C B K mg mb):j1 w C B (Cy C.scl C.p ih):=by
 intro dp un f as st k ke oU env R A s Q E' x xs c I F X e P PX;replace e:C0 C.scl f as st k=true:=e;induction f using SV.casesOn with
|«bif» b=>
  subst F;refine⟨fA _ _ _,?_⟩;rcases as with _|⟨a,_|⟨c',r⟩⟩
  ·exact ff e
  ·refine Js e fun e0 e1 e=>?_;rw[aT e1];refine aY X fun y _ u1 u2 e2=>?_;rw[lK e0] at u2;rw[u1,e2,show y=C.scr from u2];refine fN (S.sc) fun la ys h1 u3 h3 h4=>?_;refine oEA u3 fun ol h2 h2'=>?_;rw[h1];have hl:s.heap.IsList la ys.toArray:=⟨ol,I.inv.stays _ _ h2,h2'⟩;have ln:=h4.len;exact call_len_list hl (by rw[List.size_toArray,ln];exact Int.lt_of_le_of_lt (Int.ofNat_le.mpr h3) (by decide)) (P.tok I (v:=.int (.ofNat C.scl.length)) _ ⟨_,by rw[List.size_toArray,ln];rfl⟩ e)
  ·refine bZ e fun e0 e=>?_;obtain rfl:=pH e0;refine dO e fun x' e1 e=>?_;refine dO e fun y' e2 e=>?_;refine bZ e fun e3 e=>?_;obtain rfl:=aT e3;refine hU X fun y _ u4 u5 z _ u6 u7 e0=>?_;rw[int?_is e1] at u5;rw[int?_is e2] at u7;refine oE u5 fun t u8=>?_;refine oE u7 fun u u9=>?_;rw[u4,u6,e0,u8,u9];refine max_two_ints c.hd fun h' tk hk=>?_;refine oA (I.keepL hk) fun I2 l2=>?_;by_cases q:y'>x'
   ·rw[if_pos q] at e ⊢;exact P (.int _) st R h' tk _ (.refl R) l2 I2 ⟨_,rfl⟩ e
   ·rw[if_neg q] at e ⊢;exact P (.int _) st R h' tk _ (.refl R) l2 I2 ⟨_,rfl⟩ e
|typ n=>
  subst F;refine⟨lL _ _ _,?_⟩;refine bZ e fun e0 e=>?_;obtain rfl:=aT e0;rcases as with _|⟨a,r⟩
  ·exact ff e
  ·refine bZ e fun e0 e=>?_;obtain rfl:=pH e0;refine dO e fun x' e1 e=>?_;refine aY X fun y _ u10 u11 e0=>?_;rw[int?_is e1] at u11;refine oE u11 fun t u12=>?_;rw[u10,e0,u12];exact PySem.call_int_int (P.same I (v:=.int _) ⟨t,rfl⟩ e)
|_=>exact ff e
theorem F1(S:Sta C B K mg mb){A:Around}{s:Shared}{oU:List Env}{env:Env}{R:Rn}{st:St}{E':Value->Shared->Prop}{k:Kv}{Q:Value->Shared->Prop}(I:At w C B oU env R st s.heap){a i:SV}{x y:Value}{value slice:PySem.Expr}(X:RV C R s.heap a x)(Y:RV C R s.heap i y)(e:F0 C.scl C.p a i st k=true)(P:PV w C B oU env R s.heap s k Q)
  (hs:subscripted slice false x y=operate [x,y] (getItem x y)):wpAny (model C.prog w) A (subscriptTail value slice x y) Q E' s:=by
 unfold F0 at e;rcases z:q9 a with _|_
 ·rw[z] at e;exact IH I X Y e P hs
 ·rw[z] at e;obtain rfl:=lK z;refine aY (sW Y e) fun j u e0 u13 e=>?_;subst u13;refine dO e fun v hv e=>?_;refine fN (S.sc) fun la ys h1 u14 h3 h4=>?_;refine oEA u14 fun ol h2 h2'=>?_;subst X;rw[h1] at hs ⊢;refine oE (h4.nth hv) fun t ht=>?_;have hL:s.heap.IsList la ys.toArray:=⟨ol,I.inv.stays _ _ h2,h2'⟩;have lt:=pL hv;have b:=iT (m:=C.scl.length) lt (al__3 h3 (by decide));exact tail_any hL.typeIs slot_list_getitem.lookup (wpAny_getItem_list hL b.2.2 b.2.1 (by simpa using ht) (P.same I (v:=.int v) ⟨t,rfl⟩ e)) hs
end
end
section
section
structure OkX(w:World) (C:Cst) (K:Frag) (mg mb:Str->Option Value) (F:Ev):Prop where
 ex:∀n B,Sta (C.at n) B K mg mb->eE w (C.at n) B F
 exs:∀n B,Sta (C.at n) B K mg mb->kD w (C.at n) B F
 ts:∀n B,Sta (C.at n) B K mg mb->wW w (C.at n) B F
 sts:∀n B,Sta (C.at n) B K mg mb->SSts w (C.at n) B F
 call:∀n B,Sta (C.at n) B K mg mb->j1 w (C.at n) B F
 co:∀n B,Sta (C.at n) B K mg mb->vU w (C.at n) B F
theorem G8{C:Cst}{B:Heap}{ih:Ev}(S:Sta C B K mg mb)(hx:eE w C B ih)(g:eE w C B (step C.p ih)):eE w C B (Cy C.scl C.p ih):=by
 intro cx e st k ke oU env R A s Q E' c o I h P PX;replace h:M9 C.scl C.p ih cx e st k ke=true:=h;induction e using E.casesOn with
|any e=>refine bZ h fun h1 h=>?_;refine H9 (isM1_is.mp h1) fun q q' u1=>?_;show wpAny _ _ (eval e env) _ _ _;rw[u1];refine wpAny_UnaryOp (wpAny_Constant_int ?_);exact PySem.P.neg_int (P.tok I (v:=.int (-1)) _ ⟨_,rfl⟩ h)
|sub a i q=>replace o:=aG o;refine Subscript_ (hx cx a st _ ke oU env R A s _ E' c o.1 I h (fun v st1 R1 h1 tk1 x g l I1 X z=>?_) PX);refine hx cx i st1 _ ke oU env R1 A _ _ E' (c.le g) o.2 I1 z (fun v2 st2 R2 h2 tk2 y g2 l2 I2 Y z2=>?_) (PX.mono g l);exact F1 S I2 (X.mono g2 l2.kp) Y z2 (P.mono (g.trans g2) (l.trans l2)) (zV (bY o.2) _ _)
|_=>exact g cx _ st k ke oU env R A s Q E' c o I h P PX
theorem FZ{C:Cst}{B:Heap}{ih:Ev}(S:Sta C B K mg mb)(hx:eE w C B ih):SSts w C B (Cy C.scl C.p ih):=by
 intro cx ss st k ke oU env R A s Q E' c hf o I h P PX;replace h:IV C.p ih cx ss st k ke=true:=h;rcases ss with _|⟨s0,r⟩
 ·exact wpAny_execs_nil (P .nxt st R s.heap s.toks (.refl _) (.refl _ _) I h)
 ·induction s0 using Mine.S.casesOn with
 |asg t e q'=>
   rcases t with⟨n,q⟩|_
   ·induction e using E.casesOn with
   |sub a i q2=>
     refine bZ h fun h0 h=>?_;obtain rfl:=pH h0;refine wpAny_execs_cons (vT S hx rfl cx st k ke oU env R A s _ E' c hf (aG o).1 I h (fun f st1 R1 h1 tk g l I1 z=>?_) PX);rcases f with _|_|v
     ·exact wpAny_execs_nil (P .nxt st1 R1 h1 tk g l I1 z)
     ·exact P .cnt st1 R1 h1 tk g l I1 z
     ·exact P (.ret v) st1 R1 h1 tk g l I1 z
   |_=>exact ff h
   ·exact ff h
 |_=>exact ff h
theorem Ew(N:Nat):OkX w C K mg mb (uJ C.scl C.p N):=by
 have noco:∀(F:Ev) (hF:∀cx elt ts its cs src i l st k,F.comp cx elt ts its cs src i l st k=false) n B,vU w (C.at n) B F:=fun F hF n B=>by intro cx elt ts its cs src i l st k oU env R A s RR a a2 acc d gs sc q _ _ _ _ _ _ _ _ _ _ h;rw[hF] at h;exact ff h
 induction N with
|zero=>
  exact⟨fun n B S cx e st k ke oU env R A s Q E' c o I h=>(by exact ff h),fun n B S cx e st k ke oU env R A s Q E' c o I h=>(by exact ff h),fun n B S cx e st k ke oU env R A s Q E' c o I h=>(by exact ff h),
   fun n B S cx e st k ke oU env R A s Q E' c hf o I h=>(by exact ff h),fun n B S dp un f as st k ke oU env R A s Q E' x xs c I F X h=>(by exact ff h),fun n B _=>noco _ (fun _ _ _ _ _ _ _ _ _ _=>rfl) n B⟩
|succ N I=>
  exact⟨fun n B S=>G8 (C:=C.at n) S (I.ex n B S) (NH (C:=C.at n) S (I.ex n B S) (I.exs n B S) (I.ts n B S) (I.call n B S) (I.ex n) (fun n'=>I.ex n') (I.co n)),
   fun n B S cx e st k ke oU env R A s Q E' c o J h P PX=>Jn (C:=C.at n) (I.ex n B S) (I.exs n B S) c o J h P PX,
   fun n B S cx e st k ke oU env R A s Q E' c o J h P PX=>NK (C:=C.at n) S (I.ex n B S) (I.ts n B S) c c.ub o J h P PX,
   fun n B S=>FZ (C:=C.at n) S (I.ex n B S),fun n B S=>A5 (C:=C.at n) S,fun n B _=>noco _ (fun _ _ _ _ _ _ _ _ _ _=>rfl) n B⟩
end
def sP(i:Nat):S:=match nth f705.body i with
|some s=>s
|none=>.ret0 ⟨0,0,0,0⟩
theorem A2:f705.body=[sP 0,sP 1,sP 2,sP 3,sP 4]:=by kernel_rfl
noncomputable def rS(l:List (Nat×SV)):List (Nat×SV):=(196,.scr)::(172,.int 0)::l
def ifP:E×List S:=match sP 1 with
|.ife t a _ _=>(t,a)
|_=>(.non ⟨0,0,0,0⟩,[])
noncomputable def H0(c:Int):Int:=if -1-c>c then -1-c else c
section
variable (n0:Nat)(F:Tr SO)(bod:bH)(dp un tb n:Nat)(objs:List SO)(da:List (Option Bool))(ov:List (Nat×SO))(K:Fl->St->Bool)(KB:Bool->St->Bool)(ke:Ke)(scl:List Int)(c:Int)
theorem Oy:cT (fT n0 F bod) (uJ scl (fT n0 F bod) 40) ⟨[],dp,un,tb⟩ (sP 0) ⟨rS [],n,objs,da,ov⟩ K ke=K .nxt ⟨rS [(213,.int 0)],n,objs,da,ov⟩:=by kernel_rfl
theorem Nu:(uJ scl (fT n0 F bod) 40).ts ⟨[],dp,un,tb⟩ ifP.1 ⟨rS [(213,.int 0)],n,objs,da,ov⟩ KB ke=KB (decide ((0:Int)<Int.ofNat scl.length)) ⟨rS [(213,.int 0)],n,objs,da,ov⟩:=by kernel_rfl
theorem Ma(i:Int)(r:List Int):(uJ (i::r) (fT n0 F bod) 40).sts ⟨[],dp,un,tb⟩ ifP.2 ⟨rS [(213,.int 0)],n,objs,da,ov⟩ K ke=K .nxt ⟨rS [(213,.int i)],n,objs,da,ov⟩:=by kernel_rfl
def mP:PySem.Expr:=match sP 2 with
|.asg _ (.cal _ [_,.cal _ [.bin _ (.any e) _ _] _] _) _=>e
|_=>.Constant .none 0 ⟨0,0,0,0⟩
theorem Oz:cT (fT n0 F bod) (uJ scl (fT n0 F bod) 40) ⟨[],dp,un,tb⟩ (sP 2) ⟨rS [(213,.int c)],n,objs,da,ov⟩ K ke=(BA mP&&K .nxt ⟨rS [(213,.int c),(214,.int (H0 c))],n,objs,da,ov⟩):=by kernel_rfl
theorem HU:BA mP=true:=isM1_is.mpr ⟨_,_,rfl⟩
def Aq(n:Nat)(objs:List SO)(da:List (Option Bool))(ov:List (Nat×SO)):St:=⟨[(172,.int 0),(214,.nn false),(216,.nn true)],n+1,mU::objs,da,ov⟩
theorem OA:(ev (fT n0 F nob) 60).sts ⟨[],150,2500,99⟩ [sP 3,sP 4] ⟨[(172,.int 0),(214,.nn false)],n,objs,da,ov⟩ K ke=(K (.ret (.loc (n0+n))) (Aq n objs da ov)&&K (.ret (.loc (n0+n))) (Aq n objs da ov)):=by kernel_rfl
end
def zR(p:P)(cx:Cx)(st:St)(k:Fl->St->Bool):Bool:=bO (look 196 st.fr) fun v=>bO (look 172 st.fr) fun u=>bO u.int? fun i=>q9 v&&(decide (i=0)&&(wD cx&&(Nat.ble cx.dp 150&&(Nat.ble cx.un 2500&&st.wf [] fun st=>st.new p mU fun l st=>k (.ret (.loc l)) st))))
theorem look705:fnMain.look 705=some f705:=by rfl
theorem Fo(c:Int):0<=H0 c:=by unfold H0;split<;>(first|lia|omega)
theorem Ag:(∃q q1 q2,sP 0=.asg (.nm 213 q) (.int 0 q1) q2)/\(∃q,sP 1=.ife ifP.1 ifP.2 [] q)/\∃q f as q1 q2,sP 2=.asg (.nm 214 q) (.cal f as q1) q2:=⟨⟨_,_,_,rfl⟩,⟨_,rfl⟩,⟨_,_,_,_,_,rfl⟩⟩
section
variable{n0:Nat}{F:Tr SO}{bod:bH}
open Classical in
theorem B9(S:Sta C B K mg mb)(hp:C.p=fT n0 F bod){g:Fun}(hg:fnMain.look 705=some g):iN w C B g fun cx st k _=>some (zR C.p cx st k):=by
 intro cx st k ke oU env R A s Q E' c hf ok I h P PX;obtain rfl:=aF (look705.symm.trans hg);replace h:zR C.p cx st k=true:=aF h;refine dO h fun v0 hs h=>?_;refine dO h fun u0 hk0 h=>?_;refine dO h fun i0 hi0 h=>?_;refine M2 h fun hv0 hi1 hcl hdp hun hk=>?_;rw[lK hv0] at hs;rw[int?_is hi0,bD hi1] at hk0;have hcl:=iY hcl;refine zL Ag fun u3 u4 q2 f2 as2 q21 q22 e2=>?_;refine LW u3 fun q0 q01 q02 e0=>?_;refine oE u4 fun q1 e1=>?_;rw[A2] at ok ⊢;refine M1 ok fun o0 o1 o2 ok=>?_;have X:=Ew (w:=w) (C:=C) (K:=K) (mg:=mg) (mb:=mb) 40;have Ex:=X.ex C.ep B S;have St:=X.sts C.ep B S;have Ts:=X.ts C.ep B S;obtain⟨fr,n,objs,da,ov⟩:=st;obtain⟨cl,dp,un,tb⟩:=cx;subst hcl;refine oEA (I.frm) fun mf hmf hfr=>?_;have I0:At w C B oU env R ⟨rS [],n,objs,da,ov⟩ s.heap:=I.refr ⟨mf,hmf,fun m v e=>by
  rcases gT e with⟨rfl,rfl⟩|⟨rfl,rfl⟩
  ·exact hfr 196 _ hs
  ·exact hfr 172 _ hk0⟩
 have S0:fO w C B (uJ C.scl C.p 40) (sP 0):=by rw[e0];exact vT S Ex rfl
 have S1:fO w C B (uJ C.scl C.p 40) (sP 1):=by rw[e1];exact NI Ts St
 have S2:fO w C B (uJ C.scl C.p 40) (sP 2):=by rw[e2];exact vT S Ex rfl
 have r0:=fun K=>Oy n0 F bod dp un tb n objs da ov K dX C.scl;have r2:=fun K c=>Oz n0 F bod dp un tb n objs da ov K dX C.scl c;have r1:∃v:Int,∀K:Fl->Mine.St->Bool,cT C.p (uJ C.scl C.p 40) ⟨[],dp,un,tb⟩ (sP 1) ⟨rS [(213,.int 0)],n,objs,da,ov⟩ K dX=K .nxt ⟨rS [(213,.int v)],n,objs,da,ov⟩:=by
  have e:∀K:Fl->Mine.St->Bool,cT C.p (uJ C.scl C.p 40) ⟨[],dp,un,tb⟩ (sP 1) ⟨rS [(213,.int 0)],n,objs,da,ov⟩ K dX=(uJ C.scl C.p 40).ts ⟨[],dp,un,tb⟩ ifP.1 ⟨rS [(213,.int 0)],n,objs,da,ov⟩ (fun r st=>match r with
   |true=>(uJ C.scl C.p 40).sts ⟨[],dp,un,tb⟩ ifP.2 st K dX
   |false=>(uJ C.scl C.p 40).sts ⟨[],dp,un,tb⟩ [] st K dX) dX:=fun K=>by rw[e1];rfl
  rw[hp] at e ⊢;rcases hl:C.scl with _|⟨i,r⟩
  ·refine⟨0,fun K=>?_⟩;rw[hl] at e;rw[e,Nu];rfl
  ·refine⟨i,fun K=>?_⟩;rw[hl] at e;rw[e,Nu,show decide ((0:Int)<Int.ofNat (i::r).length)=true from decide_eq_true (Int.ofNat_lt.mpr (Nat.succ_pos _))];exact Ma n0 F bod dp un tb n objs da ov K dX i r
 refine oE r1 fun v r1=>?_;rw[<-hp] at r0 r2;generalize sP 1=s1 at o1 S1 r1 ⊢;generalize sP 0=s0 at o0 S0 r0 ⊢;generalize sP 2=s2 at o2 S2 r2 ⊢;refine wpAny_execs_cons (S0 ⟨[],dp,un,tb⟩ _ (fun fl st'=>decide (fl=.nxt/\st'=⟨rS [(213,.int 0)],n,objs,da,ov⟩)) dX oU env R A s _ E' c hf o0 I0 (by rw[r0];exact decide_eq_true ⟨rfl,rfl⟩) (fun f st1 R1 h1 tk1 g1 l1 I1 z1=>?_) (PE.no _));refine oA (bD z1) fun u5 u6=>?_;subst u5;subst u6;refine wpAny_execs_cons (S1 ⟨[],dp,un,tb⟩ _ (fun fl st'=>decide (fl=.nxt/\st'=⟨rS [(213,.int v)],n,objs,da,ov⟩)) dX oU env R1 A _ _ E' (c.le g1) hf o1 I1 (by rw[r1];exact decide_eq_true ⟨rfl,rfl⟩) (fun f st2 R2 h2 tk2 g2 l2 I2 z2=>?_) (PE.no _));refine oA (bD z2) fun u7 u8=>?_;subst u7;subst u8;refine wpAny_execs_cons (S2 ⟨[],dp,un,tb⟩ _ (fun fl st'=>decide (fl=.nxt/\st'=⟨rS [(213,.int v),(214,.int (H0 v))],n,objs,da,ov⟩)) dX oU env R2 A _ _ E' (c.le (g1.trans g2)) hf o2 I2 (by rw[r2,HU];exact decide_eq_true ⟨rfl,rfl⟩) (fun f st3 R3 h3 tk3 g3 l3 I3 z3=>?_) (PE.no _));refine oA (bD z3) fun u9 u10=>?_;subst u9;subst u10;refine oEA (I3.frm) fun mf3 hmf3 hfr3=>?_;have I4:At w C B oU env R3 ⟨[(172,.int 0),(214,.nn false)],n,objs,da,ov⟩ h3:=I3.refr ⟨mf3,hmf3,fun m v' e=>by
  rcases gT e with⟨rfl,rfl⟩|⟨rfl,rfl⟩
  ·exact hfr3 172 _ rfl
  ·refine LV (hfr3 214 _ rfl) fun x hx t u11=>?_;subst u11;exact⟨_,hx,H0 v,t,rfl,Fo v,fun e=>by exact ff e⟩⟩
 have S':Sta (C.swap nob) B K mg mb:=S.sub S.stl ⟨S.room.lb,S.room.lu⟩;have oo:∀n B,Sta ((C.swap nob).at n) B K mg mb->iO w ((C.swap nob).at n) B:=fun n B _=>pJ rfl;have gR:=g1.trans (g2.trans g3);have lR:=l1.trans (l2.trans l3);have c4:CxOk (C.swap nob) oU env R3 ⟨[],150,2500,99⟩ A:=(c.le gR).sub (aP hdp) (by decide) (aP hun) (by decide) (.inr S.tb9) (fun n i e=>by exact nf e) fun n=>rfl;have pe:(C.swap nob).p=fT n0 F nob:=by
  have:C.p.N0=n0/\C.p.F=F:=by rw[hp];exact⟨rfl,rfl⟩
  show(C.sub C.p.N0 C.p.F nob C.lb C.lu C.td C.fb).p=_;rw[this.1,this.2];exact Cst.sub_p hp
 have st4:=(fR (w:=w) (C:=C.swap nob) (K:=K) (mg:=mg) (mb:=mb) oo 60).sts C.ep B S' ⟨[],150,2500,99⟩ [sP 3,sP 4] ⟨[(172,.int 0),(214,.nn false)],n,objs,da,ov⟩ (fun fl st'=>decide ((∃i,fl=.ret (.loc i)/\i=n0+n)/\st'=Aq n objs da ov)) dX oU env R3 A {s with heap:=h3,toks:=tk3} Q E' c4 hf ok I4.to
  (by rw[show((C.swap nob).at C.ep).p=_ from pe,OA];exact Bool.and_eq_true_iff.mpr ⟨decide_eq_true ⟨⟨_,rfl,rfl⟩,rfl⟩,decide_eq_true ⟨⟨_,rfl,rfl⟩,rfl⟩⟩)
 refine st4 (fun f st5 R5 h5 tk5 g5 l5 I5 z5=>?_) (PE.no _);refine oA (bD z5) fun u12 u13=>?_;refine oEA u12 fun i u14 u15=>?_;subst u14;subst u15;subst u13;have I6:At w C B oU env R5 {Aq n objs da ov with fr:=[]} h5:=(I5.from (C:=C)).refr (by refine oEA ((I5.from (C:=C)).frm) fun m5 hm5 _=>?_;exact⟨m5,hm5,fun n v e=>by exact nf e⟩);have kk:k (.ret (.loc (n0+n))) {Aq n objs da ov with fr:=[]}=true:=by
  have:C.p.N0=n0:=by rw[hp];rfl
  rw[<-this];exact hk
 intro x X;have X:RV C R5 h5 (.loc (n0+n)) x:=X;exact P (.ret (.loc (n0+n))) _ R5 h5 tk5 (gR.trans g5) (lR.trans l5) I6 kk x X
end
end
section
def p0:P:=fT 0 .lf nob
def r8:bH:=fun f cx st k ke=>match Nat.beq f 705 with
|true=>some (zR p0 cx st k)
|false=>match Nat.beq f 712 with
 |true=>nZ p0 cx st k
 |false=>match Nat.beq f 230 with
  |true=>zY p0 7 true cx st k
  |false=>match Nat.beq f 440 with
   |true=>some (oV p0 cx st k ke)
   |false=>match Nat.beq f 794 with
    |true=>GK p0 cx st k
    |false=>match Nat.beq f 799 with
     |true=>Dh p0 cx st k
     |false=>gV p0 7 true f cx st k
def zO:P:=fT 0 .lf r8
noncomputable def uU(v:SV)(_:St):Bool:=match v with
|.bol true=>true
|_=>false
theorem Fe:fG zO (ev zO 1000) 59 497 f806 [.scr] ⟨[],0,[],[],[]⟩ uU dX=true:=by decide +kernel
section
theorem BJ(S:Sta C B K mg mb)(hp:C.p=zO)(htd:C.td=7)(hfb:C.fb=false)(hlu:2187<=C.lu):iO w C B:=by
 intro a g hg cx st k ke oU env R A s Q E' c hf ok I h P PX;rw[hp] at hg;replace hg:fnMain.look a=some g:=hg;have hb:r8 a cx st k ke=some true:=by rw[hp] at h;exact h
 unfold r8 at hb;have z:∀{n},Nat.beq a n=true->a=n:=fun h=>aT h;split at hb
 ·obtain rfl:=z (by assumption);exact B9 S hp hg cx st k ke oU env R A s Q E' c hf ok I (by rw[hp];exact hb) P PX
 ·split at hb
  ·obtain rfl:=z (by assumption);exact kQ S hp (by rw[hp];exact hg) c hf ok I (by rw[hp];exact hb) P
  ·split at hb
   ·obtain rfl:=z (by assumption);exact FJ w K mg mb 7 (Nat.le_refl 7) S hp (by(first|lia|omega)) (by rw[htd];exact hlu) true (fun _=>hfb) g hg cx st k ke oU env R A s Q E' c hf ok I (by rw[hp];exact hb) P PX
   ·split at hb
    ·obtain rfl:=z (by assumption);exact xN S hp hfb hg cx st k ke oU env R A s Q E' c hf ok I (by rw[hp];exact hb) P PX
    ·split at hb
     ·obtain rfl:=z (by assumption);exact D6 S hp hfb hg cx st k ke oU env R A s Q E' c hf ok I (by rw[hp];exact hb) P PX
     ·split at hb
      ·obtain rfl:=z (by assumption);exact Bv S hp hg cx st k ke oU env R A s Q E' c hf ok I (by rw[hp];exact hb) P PX
      ·exact HZ S hp (by(first|lia|omega)) true hg cx st k ke oU env R A s Q E' c hf ok I (by rw[hp];exact hb) P PX
end
end
variable{A:Around}{s:Shared}{R:Rn}{st:St}{k:Kv}
section
section
variable{dp un:Nat}{E':Value->Shared->Prop}{Q:Value->Shared->Prop}
theorem MW(S:Sta C B K mg mb){a:Nat}{g:Fun}(hst:Gv w C B ih g.body)(dep:A.depth<=dp+400)(hua:A.units<=un)(hA:A.handled=none)(stk:A.frames=some [])(hdp:dp<200)(hun:un<=4007)(I:Inv w C B R st s.heap)(hg:C.p.funs.look a=some g){as:List SV}{xs:List Value}(X:RVs C R s.heap as xs)
  (h:fG C.p ih dp un g as st k dX=true)
  (P:∀v st' R' h' tk' x,B.StaysIn h'->Tabs B C.tq h'->RV C R' h' v x->k v st'=true->Q x {s with heap:=h',toks:=tk'}):codeAny (model C.prog w) A (.call (.ref a) ⟨xs,[]⟩) (wants Q E') s:=
 enterD S I.stays hst dep hua hA stk hdp hun hg (fun i b e z=>cZ (I.new i b e) fun _ o q _=>nf (z.symm.trans q)) (fun _ m=>nomatch m) (fun q hq=>cZ (I.tab q hq) fun _ ps e _=>⟨_,e⟩)
  (fun env' h₁ fr kk eL fro=>⟨(I.keep kk).wf _,fro,b9 I.stays (Heap.get?_none_of_le (Nat.le_of_eq eL.symm)),fun i e=>cZ (I.new i _ e) fun _ o q _=>nf ((Heap.get?_none_of_le (Nat.le_of_eq eL.symm)).symm.trans q),fun _ m=>nomatch m⟩) X h
  (fun v st3 R3 h3 tk3 y env' _ I3 _ Y e=>P v _ R3 h3 tk3 y I3.inv.stays I3.inv.tab Y e) (fun _ _ _ _ _ _ _ _ _ _ _ _ e=>ff e)
end
end
section
theorem BL:fnMain.look 806=some f806:=by rfl
theorem yY{v:SV}{st:St}(h:uU v st=true):v=.bol true:=by
 unfold uU at h;split at h
 ·rfl
 ·exact ff h
section
variable{E':Value->Shared->Prop}{Q:Value->Shared->Prop}
theorem y8(S:Sta C B K mg mb)(hp:C.p=zO)(htd:C.td=7)(hfb:C.fb=false)(hlu:2187<=C.lu)(stays:B.StaysIn s.heap)(tab:Tabs B C.tq s.heap)
  (hQ:∀h' tk',B.StaysIn h'->Tabs B C.tq h'->Q (.bool true) {s with heap:=h',toks:=tk'}):codeAny (model C.prog w) callerA (.call (.ref 806) ⟨[C.scr],[]⟩) (wants Q E') s:=by
 have n0:C.p.N0=0:=by rw[hp];rfl
 have I:Inv w C B ⟨[],[]⟩ ⟨[],0,[],[],[]⟩ s.heap:={
  stays:=stays
  len:=by rw[n0];rfl
  olen:=rfl
  dlen:=rfl
  dD:=fun _ m=>nomatch m
  da:=fun k b e=>by exact nf e
  inj:=fun i j a e=>by exact nf e
  new:=fun i a e=>by exact nf e
  obj:=fun i o a _ e=>by exact nf e
  tab:=tab
  tabA:=fun q _ i e=>by exact nf e}
 have oo:∀n B,Sta (C.at n) B K mg mb->iO w (C.at n) B:=fun n B S=>BJ (C:=C.at n) S hp htd hfb hlu;have ok:=(fR (w:=w) oo 1000).sts C.ep B S;refine MW (ih:=ev C.p 1000) (dp:=59) (un:=497) (k:=uU) (st:=⟨[],0,[],[],[]⟩) (R:=⟨[],[]⟩) S (ok.bd f806.body) (by decide) (by decide) rfl rfl (by decide) (by decide) I (by rw[hp];exact BL) (as:=[.scr]) ⟨C.scr,[],rfl,rfl,rfl⟩ (by rw[hp];exact Fe) fun v st' R' h' tk' x b t X e=>?_;obtain rfl:=yY e;subst X;exact hQ h' tk' b t
end
end
end Mine
end
section
set_option maxHeartbeats 0
open PySem PySem.W PyProof.Rows
namespace MineH
section
noncomputable def pg:Program:=PySem.Challenge.rw_on0042_01.row.toRowW.1
def bd:List Stmt:=behindTheImports pg
noncomputable def Fu:List Stmt->Nat->Stmt
|[],_=>.Pass default
|x::_,0=>x
|_::xs,n+1=>Fu xs n
noncomputable def xM:Stmt->List Stmt
|.FunctionDef _ _ b ..=>b
|.ClassDef _ _ _ b ..=>b
|.For _ _ b _ _=>b
|.While _ b _ _=>b
|.If _ b _ _=>b
|_=>[]
noncomputable def CX:Stmt->Arguments
|.FunctionDef _ a ..=>a
|_=>default
noncomputable def Dk:Stmt->Str
|.FunctionDef n ..=>n
|_=>Str.empty
noncomputable def Al:Stmt->Scope
|.FunctionDef _ _ _ _ _ _ s ..=>s
|_=>default
def S(n:Nat):Stmt:=Fu bd n
def I(st:Stmt)(n:Nat):Stmt:=Fu (xM st) n
noncomputable def n0:Value:=.none
noncomputable def vb(b:Bool):Value:=.bool b
noncomputable def vi(i:Int)(t:Nat):Value:=.int i t
noncomputable def v0(i:Nat):Value:=.int (.ofNat i) 0
noncomputable def vs(s:String)(t:Nat):Value:=.str (.ofString s) t
noncomputable def e(P:Params)(s:String)(t:Nat)(v:Value):DictEntry:=⟨PyData.keyHash P (.ofString s),.str (.ofString s) t,v⟩
noncomputable def oX(c:Value)(l:List Value):Obj:={cls:=c,data:=.fields l.toArray}
def oF(l:List Value):Obj:=oX .none l
noncomputable def oT(l:List Value):Obj:={cls:=.type "tuple",data:=.seq l.toArray}
noncomputable def oD(c:Value)(l:List DictEntry)(n:Nat):Obj:={cls:=c,data:=.dict l.toArray n}
noncomputable def oN(c:Value)(l:List (Option Value)):Obj:={cls:=c,slots:=l.toArray}
noncomputable def oK(n:String)(b m:List Value)(ns:Nat)(q:String)(s:List Value)(l:List (Option Value)):Obj:=
 {cls:=.type "type",data:=.cls {name:=.ofString n,bases:=b,mro:=m,ns:=ns,qualname:=.ofString q,subclasses:=s},slots:=l.toArray}
def oC(n q:String)(t l a b c d r:Nat)(g:Bool)(x1 x2 x3 x4:Value)(t3:Nat):Obj:=
 oX (.type "code") [vs n t,vs q (t+1),vs "/claim/cut.py" (t+2),v0 l,v0 a,v0 b,v0 c,v0 d,.ref r,.bool g,v0 181,.ref (r+1),x1,x2,x3,x4,v0 t3,v0 l,vs "/claim/cut.py" (t3+1)]
def oG(c:Value)(st:Stmt)(q:String)(g:Nat)(dV m k:Value):Obj:=
 {cls:=c,data:=.func {name:=Dk st,qualname:=.ofString q,params:=CX st,body:=.stmts (xM st),scope:=Al st,globals:=g,closure:=[],defaults:=dV,kwdefaults:=.none,pyModule:=m,code:=k}}
def oP(st:Stmt)(q:String):Obj:=oG .none st q 0 .none .none .none
def oU(st:Stmt)(q:String)(dV m k _d:Value):Obj:=oG (.type "function") st q 3 dV m k
def toks:Nat->List String->List Value
|_,[]=>[]
|t,x::xs=>vs x t::toks (t+1) xs
def dA(st:Stmt)(n q:String)(a t l na:Nat)(xs ys:List String)(dV m:Value):List Obj:=
 [oT [],oF [],oT (toks (t+3) xs),oT (toks (t+3+xs.length) ys),oP st q,oC n q t l na 0 0 3 a true n0 (.ref (a+2)) (.ref (a+3)) (.ref (a+4)) (t+3+xs.length+ys.length),oU st q dV m (.ref (a+5)) n0]
def dB(st:Stmt)(n q:String)(a t l na:Nat)(dV m:Value):List Obj:=
 [oT [],oF [],oP st q,oC n q t l na 0 0 3 a true n0 n0 n0 (.ref (a+2)) (t+3),oU st q dV m (.ref (a+3)) n0]
def xP:Obj:=oX (.type "builtin_function_or_method") [.builtin "type.__prepare__",.type "type"]
def xI(a:Addr):Obj:=oX (.type "builtin_function_or_method") [.builtin "object.__init_subclass__",.ref a]
def xS(a:Addr):Obj:=oX (.type "super") [.ref a,.ref a,.ref a]
def xW(t a:Nat):Obj:=oX (.type "getset_descriptor") [vs "__weakref__" t,.ref a,.builtin "ExceptionGroup.__weakref__",n0]
def xD(t a:Nat):Obj:=oX (.type "getset_descriptor") [vs "__dict__" t,.ref a,.builtin "function.__dict__",.builtin "function.__dict__#set"]
def xF(a c:Addr)(m:Value):Obj:=oN (.type "frame") [some (.ref a),some (.ref 3),some (.ref c),none,some m,none,some (.ref 0)]
def eL(P:Params)(t:Nat)(i:Int)(u:Nat):DictEntry:=e P "__firstlineno__" t (vi i u)
def eA(P:Params)(t:Nat)(a:Addr):DictEntry:=e P "__static_attributes__" t (.ref a)
def eQ(P:Params)(t:Nat)(q:String)(u:Nat):DictEntry:=e P "__qualname__" t (vs q u)
def eM(P:Params)(t:Nat)(v:Value):DictEntry:=e P "__module__" t v
def eR(P:Params)(q:String)(t:Nat)(a:Addr):DictEntry:=e P q t (.ref a)
def jK:List DictEntry->Nat->Obj:=oD (.type "dict")
def rT:Value:=vs "chancore.errors" 194
def rU:Value:=vs "chancore.const_exprs" 578
def rV:Value:=vs "law_on0042_01" 1264
def tO:Value:=vs "chancore.scopes" 986
def vR:Value:=vs "chancore.consts" 292
def vS:Value:=vs "chancore.packages" 853
def wZ:Value:=vs "chancore.type_exprs" 456
def w3:Value:=vs "chancore.world" 1118
def DM:Value:=vs "chancore.holding" 783
def E3(P:Params):List DictEntry:=[e P "__doc__" 166 n0,e P "__package__" 167 n0,e P "__loader__" 168 (.builtin "__main__.__loader__#opaque"),e P "__spec__" 169 n0,eR P "__annotations__" 170 6,eR P "__builtins__" 171 4,e P "__file__" 173 (vs "/claim/cut.py" 172),e P "__cached__" 174 n0,eR P "_wall" 193 21,eR P "ChanError" 227 39,eR P "NameFault" 243 52,eR P "TypeFault" 259 64,eR P "ConstFault" 275 76,eR P "ImportFault" 291 88,eR P "BITS" 324 91,e P "MOST_BITS" 326 (vi (512) 325),eR P "COMPARISONS" 333 92,e P "WRONG_RUNE" 335 (.bytes ⟨[239,191,189]⟩ 334),eR P "is_unsigned" 342 99,eR P "int_range" 349 106,eR P "is_in_range" 359 113,eR P "within_range" 367 120,eR P "representable" 376 127,eR P "const_unary" 385 135,eR P "const_quotient" 394 142,eR P "const_shift" 404 149,eR P "int_binary" 413 156,eR P "const_compared" 422 163,eR P "sort_of_const" 429 170,eR P "const_binary" 440 178,eR P "rune_octets" 447 185,eR P "const_convert" 455 192,eR P "SYNC_TYPES" 460 193,e P "MOST_LENGTH" 464 (vi (1048576) 463),eR P "type_entry" 478 201,eR P "exported_entry" 489 209,eR P "TypeReader" 577 264,eR P "UNTYPED_INT" 582 269,eR P "UNTYPED_RUNE" 585 270,eR P "UNTYPED_BOOL" 588 271,eR P "UNTYPED_TEXT" 591 272,eR P "NUMBERS" 592 273,eR P "ConstReader" 742 360,eR P "const_of" 753 372,eR P "type_of" 766 379,eR P "underlying_of" 776 386,eR P "is_comparable" 782 391,eR P "Holding" 842 429,eR P "check_late_keys" 852 440,eR P "KNOWN" 857 441,e P "MAIN" 859 (vs "main" 858),eR P "is_exported" 866 448,eR P "told_names" 872 453,eR P "selected_names" 882 460,eR P "Packages" 985 523,eR P "ScopeRow" 1025 544,eR P "Scope" 1117 617,eR P "INT_KINDS" 1130 622,eR P "BUILTINS" 1144 623,eR P "ERROR" 1147 624,eR P "PLAIN" 1149 627,eR P "NamedRow" 1184 644,eR P "known_rows" 1196 655,eR P "universe" 1205 662,eR P "World" 1263 694,eR P "_law_pool" 1276 705,eR P "_law_take" 1285 712,eR P "_law_one" 1293 719,eR P "_law_plain" 1295 722,eR P "_law_face" 1301 729,eR P "_law_begun" 1307 734,eR P "_law_name" 1315 742,eR P "_law_leaf" 1322 749,eR P "_law_length" 1330 756,eR P "_law_function" 1342 763,eR P "_law_struct" 1348 768,eR P "_law_interface" 1354 773,eR P "_law_type" 1368 780,eR P "_law_answer" 1375 787,eR P "_law_bad_right" 1392 794,eR P "_law_holding_right" 1398 799,eR P "law" 1414 806]
def NE:List Nat->List Value
|x::y::r=>v0 x::v0 0::.ref y::NE r
|_=>[]
def E12:List Value:=NE [1,20,5,27,11,48,13,60,15,72,17,84,24,98,26,105,30,112,35,119,39,126,52,134,64,141,69,148,77,155,97,162,109,169,113,177,128,184,132,191,141,200,156,208,165,215,237,279,344,371,346,378,349,385,351,390,367,397,396,439,405,447,407,452,415,459,427,466,500,533,509,554,553,633,560,654,568,661,585,668,619,704,626,711,633,718,636,728,638,733,658,741,660,748,662,755,665,762,673,767,683,772,693,779,711,786,720,793,736,798,755,805]
def L0(P:Params)(z:Bool)(nm:Value)(m3 m12:Nat)(s:Nat):List Obj:=[boot_o_0 P,boot_o_1 P,bif z then oD n0 [e P "type.__subclasses__.Exception.0" 224 (v0 39),e P "type.__subclasses__.Exception.n" 225 (v0 1)] 2 else boot_o_2 P,jK (e P "__name__" 165 nm::(E3 P).take m3) (m3+1),boot_o_4 P,boot_o_5 P,boot_o_6 P,boot_o_7 P,boot_o_8 P,boot_o_9 P,boot_o_10 P,oT [],oF (E12.take m12),oC "<module>" "<module>" 182 1 0 0 0 0 11 false n0 n0 n0 n0 185,xF 13 3 (vs "__main__" 164)]++(dA (S 0) "_wall" "_wall" 15 187 1 1 ["k"] [] n0 (vs "__main__" 164)++([oT [.type "Exception"],xP,jK [eM P 203 rT,eQ P 205 "ChanError" 204,eL P 207 5 206,eR P "__init__" 217 36,eA P 220 37] 5,oT [],oF [v0 7,v0 4,.ref 35],oC "ChanError" "ChanError" 198 5 0 0 0 0 25 false n0 n0 n0 n0 201,xF 27 24 rT,oT [vi (0) 208]]++(dA (I (S 2) 0) "__init__" "ChanError.__init__" 30 209 7 3 ["self","message","spot"] [] (.ref 29) rT++([oT [vs "message" 218,vs "spot" 219],jK [eM P 203 rT,eL P 207 5 206,eR P "__init__" 217 36,eA P 220 37,eR P "__weakref__" 222 40,e P "__doc__" 223 n0] 3,oK "ChanError" [.type "Exception"] [.ref 39,.type "Exception",.type "BaseException",.type "object"] 38 "ChanError" ([.ref 52,.ref 64,.ref 76,.ref 88].take s) [some (.ref 22),none,some (vs "ChanError" 196),some (vs "ChanError" 204),some (.builtin "Exception.__new__"),some (vb true)],xW 221 39,xS 39]))))
def L1(P:Params):List Obj:=[xI 39,oT [.ref 39],xP,jK [eM P 235 rT,eQ P 237 "NameFault" 236,eL P 239 11 238,eA P 240 50] 4,oT [],oF [],oC "NameFault" "NameFault" 230 11 0 0 0 0 46 false n0 n0 n0 n0 233,xF 48 45 rT,oT [],jK [eM P 235 rT,eL P 239 11 238,eA P 240 50,e P "__doc__" 241 n0] 2,oK "NameFault" [.ref 39] [.ref 52,.ref 39,.type "Exception",.type "BaseException",.type "object"] 51 "NameFault" [] [some (.ref 43),none,some (vs "NameFault" 228),some (vs "NameFault" 236),some (.builtin "Exception.__new__"),some (vb true)],xS 52,xI 52,oT [.ref 39],xP,jK [eM P 251 rT,eQ P 253 "TypeFault" 252,eL P 255 13 254,eA P 256 62] 4,oT [],oF [],oC "TypeFault" "TypeFault" 246 13 0 0 0 0 58 false n0 n0 n0 n0 249,xF 60 57 rT,oT [],jK [eM P 251 rT,eL P 255 13 254,eA P 256 62,e P "__doc__" 257 n0] 2,oK "TypeFault" [.ref 39] [.ref 64,.ref 39,.type "Exception",.type "BaseException",.type "object"] 63 "TypeFault" [] [some (.ref 55),none,some (vs "TypeFault" 244),some (vs "TypeFault" 252),some (.builtin "Exception.__new__"),some (vb true)],xS 64,xI 64,oT [.ref 39],xP,jK [eM P 267 rT,eQ P 269 "ConstFault" 268,eL P 271 15 270,eA P 272 74] 4,oT [],oF []]
def L2(P:Params):List Obj:=[oC "ConstFault" "ConstFault" 262 15 0 0 0 0 70 false n0 n0 n0 n0 265,xF 72 69 rT,oT [],jK [eM P 267 rT,eL P 271 15 270,eA P 272 74,e P "__doc__" 273 n0] 2,oK "ConstFault" [.ref 39] [.ref 76,.ref 39,.type "Exception",.type "BaseException",.type "object"] 75 "ConstFault" [] [some (.ref 67),none,some (vs "ConstFault" 260),some (vs "ConstFault" 268),some (.builtin "Exception.__new__"),some (vb true)],xS 76,xI 76,oT [.ref 39],xP,jK [eM P 283 rT,eQ P 285 "ImportFault" 284,eL P 287 17 286,eA P 288 86] 4,oT [],oF [],oC "ImportFault" "ImportFault" 278 17 0 0 0 0 82 false n0 n0 n0 n0 281,xF 84 81 rT,oT [],jK [eM P 283 rT,eL P 287 17 286,eA P 288 86,e P "__doc__" 289 n0] 2,oK "ImportFault" [.ref 39] [.ref 88,.ref 39,.type "Exception",.type "BaseException",.type "object"] 87 "ImportFault" [] [some (.ref 79),none,some (vs "ImportFault" 276),some (vs "ImportFault" 284),some (.builtin "Exception.__new__"),some (vb true)],xS 88,xI 88,jK [e P "int" 294 (vi (64) 295),e P "int8" 296 (vi (8) 297),e P "int16" 298 (vi (16) 299),e P "int32" 300 (vi (32) 301),e P "int64" 302 (vi (64) 303),e P "uint" 304 (vi (64) 305),e P "uint8" 306 (vi (8) 307),e P "uint16" 308 (vi (16) 309),e P "uint32" 310 (vi (32) 311),e P "uint64" 312 (vi (64) 313)] 10,oT [vs "==" 327,vs "!=" 328,vs "<" 329,vs "<=" 330,vs ">" 331,vs ">=" 332]]++(dA (S 12) "is_unsigned" "is_unsigned" 93 336 24 1 ["kind"] [] n0 vR++(dA (S 13) "int_range" "int_range" 100 343 26 1 ["kind"] [] n0 vR++(dA (S 14) "is_in_range" "is_in_range" 107 350 30 2 ["number","kind","low","high"] [] n0 vR++(dA (S 15) "within_range" "within_range" 114 360 35 2 ["number","kind"] [] n0 vR++(dA (S 16) "representable" "representable" 121 368 39 2 ["value","told","word"] [] n0 vR++([oT [n0]]++(dA (S 17) "const_unary" "const_unary" 129 377 52 3 ["op","value","kind"] [] (.ref 128) vR++(dA (S 18) "const_quotient" "const_quotient" 136 386 64 2 ["a","b","found"] [] n0 vR++(dA (S 19) "const_shift" "const_shift" 143 395 69 4 ["op","a","many","kind"] [] n0 vR)))))))))
def L3(P:Params):List Obj:=dA (S 20) "int_binary" "int_binary" 150 405 77 3 ["op","a","b"] [] n0 vR++(dA (S 21) "const_compared" "const_compared" 157 414 97 3 ["op","a","b"] [] n0 vR++(dA (S 22) "sort_of_const" "sort_of_const" 164 423 109 1 ["value"] [] n0 vR++([oT [n0]]++(dA (S 23) "const_binary" "const_binary" 172 430 113 4 ["op","a","b","kind","sort"] [] (.ref 171) vR++(dA (S 24) "rune_octets" "rune_octets" 179 441 128 1 ["number"] [] n0 vR++(dA (S 25) "const_convert" "const_convert" 186 448 132 2 ["value","told"] [] n0 vR++([oT [vs "Mutex" 458,vs "WaitGroup" 459],oT [vb true]]++(dA (S 29) "type_entry" "type_entry" 195 465 141 6 ["world","scope","package","name","spot","is_wanted","entry","around"] [] (.ref 194) wZ++([oT [vb true]]++(dA (S 30) "exported_entry" "exported_entry" 203 479 156 5 ["world","path","name","spot","is_wanted"] [] (.ref 202) wZ++([oT [],xP,jK [eM P 497 wZ,eQ P 499 "TypeReader" 498,eL P 501 165 500,eR P "__init__" 511 223,eR P "read" 521 230,eR P "all" 527 235,eR P "length" 537 242,eR P "key" 546 249,eR P "struct" 560 256,eR P "interface" 566 261,eA P 570 262] 11,oT [],oF [v0 167,v0 4,.ref 222,v0 172,v0 4,.ref 229,v0 190,v0 4,.ref 234,v0 193,v0 4,.ref 241,v0 199,v0 4,.ref 248,v0 204,v0 4,.ref 255,v0 216,v0 4,.ref 260],oC "TypeReader" "TypeReader" 492 165 0 0 0 0 213 false n0 n0 n0 n0 495,xF 215 212 wZ]++(dA (I (S 31) 0) "__init__" "TypeReader.__init__" 217 502 167 4 ["self","world","scope","const_reader"] [] n0 wZ++(dA (I (S 31) 1) "read" "TypeReader.read" 224 512 172 2 ["self","typex","kind","spot"] [] n0 wZ++(dB (I (S 31) 2) "all" "TypeReader.all" 231 522 190 2 n0 wZ++(dA (I (S 31) 3) "length" "TypeReader.length" 236 528 193 2 ["self","expr","told","value"] [] n0 wZ++(dA (I (S 31) 4) "key" "TypeReader.key" 243 538 199 2 ["self","typex","told"] [] n0 wZ++(dA (I (S 31) 5) "struct" "TypeReader.struct" 250 547 204 2 ["self","typex","rows","names","name","inner","is_embedded","told"] [] n0 wZ++(dB (I (S 31) 6) "interface" "TypeReader.interface" 257 561 216 2 n0 wZ++([oT [vs "const_reader" 567,vs "scope" 568,vs "world" 569],jK [eM P 497 wZ,eL P 501 165 500,eR P "__init__" 511 223,eR P "read" 521 230,eR P "all" 527 235,eR P "length" 537 242,eR P "key" 546 249,eR P "struct" 560 256,eR P "interface" 566 261,eA P 570 262,eR P "__dict__" 572 265,eR P "__weakref__" 574 266,e P "__doc__" 575 n0] 4,oK "TypeReader" [.type "object"] [.ref 264,.type "object"] 263 "TypeReader" [] [none,none,some (vs "TypeReader" 490),some (vs "TypeReader" 498),some (.builtin "object.__new__"),some (vb true)],xD 571 264])))))))))))))))))))
def L4(P:Params):List Obj:=[xW 573 264,xS 264,xI 264,oT [vs "untyped" 580,vs "int" 581],oT [vs "untyped" 583,vs "rune" 584],oT [vs "untyped" 586,vs "bool" 587],oT [vs "untyped" 589,vs "string" 590],oT [.ref 269,.ref 270],oT [],xP,jK [eM P 600 rU,eQ P 602 "ConstReader" 601,eL P 604 237 603,eR P "__init__" 615 287,eR P "read" 625 294,eR P "named" 635 301,eR P "selected" 647 308,eR P "kind_of" 656 315,eR P "of_one" 668 322,eR P "of_two" 685 329,eR P "common" 697 336,eR P "called" 712 343,eR P "wanted" 720 350,eR P "reckoned" 730 357,eA P 735 358] 15,oT [],oF [v0 239,v0 4,.ref 286,v0 245,v0 4,.ref 293,v0 265,v0 4,.ref 300,v0 273,v0 4,.ref 307,v0 281,v0 4,.ref 314,v0 285,v0 4,.ref 321,v0 289,v0 4,.ref 328,v0 301,v0 4,.ref 335,v0 312,v0 4,.ref 342,v0 330,v0 4,.ref 349,v0 339,v0 4,.ref 356],oC "ConstReader" "ConstReader" 595 237 0 0 0 0 277 false n0 n0 n0 n0 598,xF 279 276 rU]++(dA (I (S 38) 0) "__init__" "ConstReader.__init__" 281 605 239 5 ["self","world","package","scope","iota"] [] n0 rU++(dA (I (S 38) 1) "read" "ConstReader.read" 288 616 245 2 ["self","expr","kind","spot"] [] n0 rU++(dA (I (S 38) 2) "named" "ConstReader.named" 295 626 265 4 ["self","entry","name","spot"] [] n0 rU++(dA (I (S 38) 3) "selected" "ConstReader.selected" 302 636 273 2 ["self","expr","spot","around","name","entry"] [] n0 rU++(dA (I (S 38) 4) "kind_of" "ConstReader.kind_of" 309 648 281 2 ["self","told","base"] [] n0 rU++(dA (I (S 38) 5) "of_one" "ConstReader.of_one" 316 657 285 2 ["self","expr"] ["self","expr","told","value"] n0 rU++(dA (I (S 38) 6) "of_two" "ConstReader.of_two" 323 669 289 2 ["self","expr","spot","right","found"] ["self","a","b","left","op","told"] n0 rU++(dA (I (S 38) 7) "common" "ConstReader.common" 330 686 301 6 ["self","left","a","right","b","spot"] [] n0 rU++(dA (I (S 38) 8) "called" "ConstReader.called" 337 698 312 2 ["self","expr","spot","func","args","told","wanted"] ["base","value"] n0 rU++(dA (I (S 38) 9) "wanted" "ConstReader.wanted" 344 713 330 2 ["self","func"] [] n0 rU++(dA (I (S 38) 10) "reckoned" "ConstReader.reckoned" 351 721 339 3 ["self","call","spot","fault"] [] n0 rU++([oT [vs "iota" 731,vs "package" 732,vs "scope" 733,vs "world" 734],jK [eM P 600 rU,eL P 604 237 603,eR P "__init__" 615 287,eR P "read" 625 294,eR P "named" 635 301,eR P "selected" 647 308,eR P "kind_of" 656 315,eR P "of_one" 668 322,eR P "of_two" 685 329,eR P "common" 697 336,eR P "called" 712 343,eR P "wanted" 720 350,eR P "reckoned" 730 357,eA P 735 358,eR P "__dict__" 737 361,eR P "__weakref__" 739 362,e P "__doc__" 740 n0] 4,oK "ConstReader" [.type "object"] [.ref 360,.type "object"] 359 "ConstReader" [] [none,none,some (vs "ConstReader" 593),some (vs "ConstReader" 601),some (.builtin "object.__new__"),some (vb true)],xD 736 360]))))))))))))
def L5(P:Params):List Obj:=[xW 738 360,xS 360,xI 360,oT [n0]]++(dA (S 39) "const_of" "const_of" 366 743 344 5 ["world","package","scope","expr","iota"] [] (.ref 365) rU++(dA (S 40) "type_of" "type_of" 373 754 346 4 ["world","package","scope","typex"] ["world","package","scope"] n0 rU++(dA (S 42) "underlying_of" "underlying_of" 380 769 349 2 ["world","T"] [] n0 (vs "chancore.types" 767)++(dB (S 43) "is_comparable" "is_comparable" 387 777 351 2 n0 (vs "chancore.types" 767)++([oT [],xP,jK [eM P 792 DM,eQ P 794 "Holding" 793,eL P 796 367 795,eR P "__init__" 804 405,eR P "look_at_all" 812 412,eR P "look" 823 419,eR P "look_at_named" 831 426,eA P 835 427] 8,oT [],oF [v0 369,v0 4,.ref 404,v0 374,v0 4,.ref 411,v0 378,v0 4,.ref 418,v0 387,v0 4,.ref 425],oC "Holding" "Holding" 787 367 0 0 0 0 395 false n0 n0 n0 n0 790,xF 397 394 DM]++(dA (I (S 45) 0) "__init__" "Holding.__init__" 399 797 369 2 ["self","world"] [] n0 DM++(dA (I (S 45) 1) "look_at_all" "Holding.look_at_all" 406 805 374 1 ["self","path"] [] n0 DM++(dA (I (S 45) 2) "look" "Holding.look" 413 813 378 2 ["self","told","name","inner","is_embedded"] [] n0 DM++(dA (I (S 45) 3) "look_at_named" "Holding.look_at_named" 420 824 387 2 ["self","path"] [] n0 DM++([oT [vs "done" 832,vs "is_open" 833,vs "world" 834],jK [eM P 792 DM,eL P 796 367 795,eR P "__init__" 804 405,eR P "look_at_all" 812 412,eR P "look" 823 419,eR P "look_at_named" 831 426,eA P 835 427,eR P "__dict__" 837 430,eR P "__weakref__" 839 431,e P "__doc__" 840 n0] 4,oK "Holding" [.type "object"] [.ref 429,.type "object"] 428 "Holding" [] [none,none,some (vs "Holding" 785),some (vs "Holding" 793),some (.builtin "object.__new__"),some (vb true)],xD 836 429,xW 838 429,xS 429,xI 429]++(dA (S 46) "check_late_keys" "check_late_keys" 434 843 396 1 ["world","rows","told","spot"] [] n0 DM++([oT [vs "sync" 855,vs "runtime" 856]]++(dA (S 50) "is_exported" "is_exported" 442 860 405 1 ["name"] [] n0 vS++(dB (S 51) "told_names" "told_names" 449 867 407 1 n0 vS))))))))))))))
def L6(P:Params):List Obj:=dA (S 52) "selected_names" "selected_names" 454 873 415 1 ["tree","found","left","here"] [] n0 vS++([oT [],xP,jK [eM P 890 vS,eQ P 892 "Packages" 891,eL P 894 427 893,eR P "__init__" 900 472,eR P "own_names" 913 479,eR P "imported" 927 486,eR P "name_of" 935 493,eR P "takes" 947 500,eR P "find" 956 507,eR P "find_exported" 968 515,eR P "order" 974 520,eA P 978 521] 12,oT [],oF [v0 429,v0 4,.ref 471,v0 439,v0 4,.ref 478,v0 448,v0 4,.ref 485,v0 462,v0 4,.ref 492,v0 465,v0 4,.ref 499,v0 472,v0 4,.ref 506,v0 475,v0 4,.ref 514,v0 481,v0 4,.ref 519],oC "Packages" "Packages" 885 427 0 0 0 0 464 false n0 n0 n0 n0 888,xF 466 463 vS]++(dB (I (S 53) 0) "__init__" "Packages.__init__" 468 895 429 2 n0 vS++(dA (I (S 53) 1) "own_names" "Packages.own_names" 473 901 439 3 ["self","path","told","found","decl","name","word"] [] n0 vS++(dA (I (S 53) 2) "imported" "Packages.imported" 480 914 448 2 ["self","path","found","used","alias","wanted","spot","name"] [] n0 vS++(dA (I (S 53) 3) "name_of" "Packages.name_of" 487 928 462 2 ["self","path"] [] n0 vS++(dA (I (S 53) 4) "takes" "Packages.takes" 494 936 465 2 ["self","path","found","alias","wanted","spot"] [] n0 vS++(dA (I (S 53) 5) "find" "Packages.find" 501 948 472 3 ["self","package","name"] [] n0 vS++([oT [vi (0) 957]]++(dA (I (S 53) 6) "find_exported" "Packages.find_exported" 509 958 475 4 ["self","package","name","spot","found"] [] (.ref 508) vS++(dB (I (S 53) 7) "order" "Packages.order" 516 969 481 1 n0 vS++([oT [vs "files" 975,vs "names" 976,vs "taken" 977],jK [eM P 890 vS,eL P 894 427 893,eR P "__init__" 900 472,eR P "own_names" 913 479,eR P "imported" 927 486,eR P "name_of" 935 493,eR P "takes" 947 500,eR P "find" 956 507,eR P "find_exported" 968 515,eR P "order" 974 520,eA P 978 521,eR P "__dict__" 980 524,eR P "__weakref__" 982 525,e P "__doc__" 983 n0] 4,oK "Packages" [.type "object"] [.ref 523,.type "object"] 522 "Packages" [] [none,none,some (vs "Packages" 883),some (vs "Packages" 891),some (.builtin "object.__new__"),some (vb true)],xD 979 523,xW 981 523,xS 523,xI 523,oT [],xP,jK [eM P 995 tO,eQ P 997 "ScopeRow" 996,eL P 999 500 998,eR P "__init__" 1011 541,eA P 1018 542] 5,oT [],oF [v0 502,v0 4,.ref 540],oC "ScopeRow" "ScopeRow" 990 500 0 0 0 0 531 false n0 n0 n0 n0 993])))))))))))
def L7(P:Params):List Obj:=[xF 533 530 tO]++(dA (I (S 55) 0) "__init__" "ScopeRow.__init__" 535 1000 502 6 ["self","name","entry","spot","owner","is_checked"] [] n0 tO++([oT [vs "entry" 1012,vs "is_checked" 1013,vs "is_used" 1014,vs "name" 1015,vs "owner" 1016,vs "spot" 1017],jK [eM P 995 tO,eL P 999 500 998,eR P "__init__" 1011 541,eA P 1018 542,eR P "__dict__" 1020 545,eR P "__weakref__" 1022 546,e P "__doc__" 1023 n0] 4,oK "ScopeRow" [.type "object"] [.ref 544,.type "object"] 543 "ScopeRow" [] [none,none,some (vs "ScopeRow" 988),some (vs "ScopeRow" 996),some (.builtin "object.__new__"),some (vb true)],xD 1019 544,xW 1021 544,xS 544,xI 544,oT [],xP,jK [eM P 1033 tO,eQ P 1035 "Scope" 1034,eL P 1037 509 1036,eR P "__init__" 1046 563,eR P "declare" 1057 571,eR P "is_here" 1065 578,eR P "row" 1074 585,eR P "find" 1084 593,eR P "use" 1092 600,eR P "unused" 1099 607,eR P "depth" 1106 614,eA P 1110 615] 12,oT [],oF [v0 511,v0 4,.ref 562,v0 516,v0 4,.ref 570,v0 523,v0 4,.ref 577,v0 526,v0 4,.ref 584,v0 534,v0 4,.ref 592,v0 540,v0 4,.ref 599,v0 543,v0 4,.ref 606,v0 546,v0 4,.ref 613],oC "Scope" "Scope" 1028 509 0 0 0 0 552 false n0 n0 n0 n0 1031,xF 554 551 tO,oT [n0]]++(dA (I (S 56) 0) "__init__" "Scope.__init__" 557 1038 511 3 ["self","outer","owner"] [] (.ref 556) tO++([oT [vb false]]++(dA (I (S 56) 1) "declare" "Scope.declare" 565 1047 516 5 ["self","name","entry","spot","is_checked"] [] (.ref 564) tO++(dA (I (S 56) 2) "is_here" "Scope.is_here" 572 1058 523 2 ["self","name"] [] n0 tO++(dA (I (S 56) 3) "row" "Scope.row" 579 1066 526 2 ["self","name","here"] [] n0 tO++([oT [n0]]++(dA (I (S 56) 4) "find" "Scope.find" 587 1075 534 3 ["self","name","spot","found"] [] (.ref 586) tO++(dA (I (S 56) 5) "use" "Scope.use" 594 1085 540 2 ["self","name"] [] n0 tO++(dA (I (S 56) 6) "unused" "Scope.unused" 601 1093 543 1 ["self"] [] n0 tO++(dA (I (S 56) 7) "depth" "Scope.depth" 608 1100 546 1 ["self"] [] n0 tO++([oT [vs "outer" 1107,vs "owner" 1108,vs "rows" 1109],jK [eM P 1033 tO,eL P 1037 509 1036,eR P "__init__" 1046 563,eR P "declare" 1057 571,eR P "is_here" 1065 578,eR P "row" 1074 585,eR P "find" 1084 593,eR P "use" 1092 600,eR P "unused" 1099 607,eR P "depth" 1106 614,eA P 1110 615,eR P "__dict__" 1112 618,eR P "__weakref__" 1114 619,e P "__doc__" 1115 n0] 4,oK "Scope" [.type "object"] [.ref 617,.type "object"] 616 "Scope" [] [none,none,some (vs "Scope" 1026),some (vs "Scope" 1034),some (.builtin "object.__new__"),some (vb true)]])))))))))))))
def L8(P:Params):List Obj:=[xD 1111 617,xW 1113 617,xS 617,xI 617,oT [vs "int" 1120,vs "int8" 1121,vs "int16" 1122,vs "int32" 1123,vs "int64" 1124,vs "uint" 1125,vs "uint8" 1126,vs "uint16" 1127,vs "uint32" 1128,vs "uint64" 1129],oT [vs "len" 1131,vs "cap" 1132,vs "append" 1133,vs "copy" 1134,vs "delete" 1135,vs "make" 1136,vs "new" 1137,vs "panic" 1138,vs "recover" 1139,vs "print" 1140,vs "close" 1141,vs "min" 1142,vs "max" 1143],oT [vs "named" 1145,vs "error" 1146],oT [],oT [],oT [vs "func" 1148,.ref 625,.ref 626,vb false],oT [],xP,jK [eM P 1157 w3,eQ P 1159 "NamedRow" 1158,eL P 1161 553 1160,eR P "__init__" 1172 641,eA P 1177 642] 5,oT [],oF [v0 555,v0 4,.ref 640],oC "NamedRow" "NamedRow" 1152 553 0 0 0 0 631 false n0 n0 n0 n0 1155,xF 633 630 w3]++(dA (I (S 62) 0) "__init__" "NamedRow.__init__" 635 1162 555 5 ["self","path","package","underlying","methods"] [] n0 w3++([oT [vs "methods" 1173,vs "package" 1174,vs "path" 1175,vs "underlying" 1176],jK [eM P 1157 w3,eL P 1161 553 1160,eR P "__init__" 1172 641,eA P 1177 642,eR P "__dict__" 1179 645,eR P "__weakref__" 1181 646,e P "__doc__" 1182 n0] 4,oK "NamedRow" [.type "object"] [.ref 644,.type "object"] 643 "NamedRow" [] [none,none,some (vs "NamedRow" 1150),some (vs "NamedRow" 1158),some (.builtin "object.__new__"),some (vb true)],xD 1178 644,xW 1180 644,xS 644,xI 644]++(dA (S 63) "known_rows" "known_rows" 649 1185 560 0 ["text","adding","held","told","locks","waits"] [] n0 w3++(dA (S 64) "universe" "universe" 656 1197 568 0 ["found","kind","name"] [] n0 w3++([oT [],xP,jK [eM P 1213 w3,eQ P 1215 "World" 1214,eL P 1217 585 1216,eR P "__init__" 1225 677,eR P "base_of" 1234 684,eR P "settled" 1242 691,eA P 1256 692] 7])))))
def L9(P:Params):List Obj:=[oT [],oF [v0 587,v0 4,.ref 676,v0 602,v0 4,.ref 683,v0 614,v0 4,.ref 690],oC "World" "World" 1208 585 0 0 0 0 666 false n0 n0 n0 n0 1211,xF 668 665 w3,oT [n0]]++(dA (I (S 65) 0) "__init__" "World.__init__" 671 1218 587 2 ["self","packages"] [] (.ref 670) w3++(dA (I (S 65) 1) "base_of" "World.base_of" 678 1226 602 2 ["self","told","row"] [] n0 w3++(dA (I (S 65) 2) "settled" "World.settled" 685 1235 614 2 ["self","entry"] [] n0 w3++([oT [vs "bodies" 1243,vs "consts" 1244,vs "files" 1245,vs "funcs" 1246,vs "globals" 1247,vs "is_whole" 1248,vs "late_keys" 1249,vs "named" 1250,vs "order" 1251,vs "packages" 1252,vs "scopes" 1253,vs "settle" 1254,vs "starts" 1255],jK [eM P 1213 w3,eL P 1217 585 1216,eR P "__init__" 1225 677,eR P "base_of" 1234 684,eR P "settled" 1242 691,eA P 1256 692,eR P "__dict__" 1258 695,eR P "__weakref__" 1260 696,e P "__doc__" 1261 n0] 4,oK "World" [.type "object"] [.ref 694,.type "object"] 693 "World" [] [none,none,some (vs "World" 1206),some (vs "World" 1214),some (.builtin "object.__new__"),some (vb true)],xD 1257 694,xW 1259 694,xS 694,xI 694]++(dA (S 67) "_law_pool" "_law_pool" 699 1266 619 2 ["script","k","cell","big","stirred"] [] n0 rV++(dA (S 68) "_law_take" "_law_take" 706 1277 626 2 ["source","top","figure"] [] n0 rV++(dA (S 69) "_law_one" "_law_one" 713 1286 633 2 ["source","things"] [] n0 rV++([oT [],oT [],oT [vs "func" 1294,.ref 720,.ref 721,vb false]]++(dA (S 71) "_law_face" "_law_face" 723 1296 636 0 [] [] n0 rV++(dB (S 72) "_law_begun" "_law_begun" 730 1302 638 0 n0 rV++([oT [n0]]++(dA (S 73) "_law_name" "_law_name" 736 1308 658 2 ["name","package"] [] (.ref 735) rV++(dA (S 74) "_law_leaf" "_law_leaf" 743 1316 660 1 ["source"] [] n0 rV++(dA (S 75) "_law_length" "_law_length" 750 1323 662 1 ["source","plus"] [] n0 rV++(dA (S 76) "_law_function" "_law_function" 757 1331 665 2 ["source","deep","one","written","ins","outs"] [] n0 rV++(dB (S 77) "_law_struct" "_law_struct" 764 1343 673 2 n0 rV++(dB (S 78) "_law_interface" "_law_interface" 769 1349 683 2 n0 rV)))))))))))))))))
def NN(P:Params):List Obj:=dA (S 79) "_law_type" "_law_type" 774 1355 693 2 ["source","deep","way","inner","word","expr","many","key"] [] n0 rV++(dA (S 80) "_law_answer" "_law_answer" 781 1369 711 1 ["call"] [] n0 rV++(dA (S 81) "_law_bad_right" "_law_bad_right" 788 1376 720 3 ["source","world","scope","int_name","empty","twice","bad","word"] ["world","scope","written"] n0 rV++(dB (S 82) "_law_holding_right" "_law_holding_right" 795 1393 736 1 n0 rV++(dA (S 83) "law" "law" 800 1399 755 1 ["script","source","turn","told","is_compared","keys","empty"] ["scope","world","written"] n0 rV))))
def Lo(P:Params)(z:Bool)(nm:Value)(m3 m12 s:Nat):List Obj:=L0 P z nm m3 m12 s++(L1 P++(L2 P++(L3 P++(L4 P++(L5 P++(L6 P++(L7 P++(L8 P++(L9 P++(NN P))))))))))
noncomputable def B8:Bool->List Obj->List Obj
|_,[]=>[]
|true,x::xs=>x::B8 false xs
|false,_::xs=>B8 true xs
def mk:Nat->List Obj->BT
|0,_=>.nil
|_+1,[]=>.nil
|n+1,x::xs=>.node x (mk n (B8 true xs)) (mk n (B8 false xs))
def tr(P:Params)(z:Bool)(nm:Value)(n m3 m12 s:Nat):BT:=mk 12 ((Lo P z nm m3 m12 s).take n)
def sJ:Env:={scope:=pg.main.scope,locals:=mainNs,globals:=mainNs,cells:=[],code:=.ref 13,frame:=some 14}
def gP:Code:=.body bd sJ
def sT(w:World)(os:OsState)(z:Bool)(nm:Value)(n m3 m12 s t:Nat):SharedT:=⟨tr w.params z nm n m3 m12 s,n,{},#[],{},t,os⟩
def lZ(w:World)(n:Nat)(s:SharedT)(l:List Stmt)(p:Pos):=PySem.W.Fast.tw10110043849684766642 PySem.W.Fast.tw14364793385576792824 pg w 11 (some (.ref 6)) 1 n s (piecesOf l sJ gP p [topFrame ⟨0,0,0,0⟩])
def m0:Value:=(vs "__main__" 164)
def m1:Value:=(vs "chancore.errors" 194)
theorem g0(w:World)(os:OsState):lZ w 271 (sT w os false m0 15 8 0 0 187) [S 0,S 1,S 2] ⟨0,0,0,0⟩=some (.next,sT w os true m1 43 10 6 0 228,gP,⟨5,0,10,24⟩):=by kernel_rfl
theorem g1(w:World)(os:OsState):lZ w 214 (sT w os true m1 43 10 6 0 228) [S 3] ⟨5,0,10,24⟩=some (.next,sT w os true m1 55 11 9 1 244,gP,⟨11,0,12,8⟩):=by kernel_rfl
theorem g2(w:World)(os:OsState):lZ w 214 (sT w os true m1 55 11 9 1 244) [S 4] ⟨11,0,12,8⟩=some (.next,sT w os true m1 67 12 12 2 260,gP,⟨13,0,14,8⟩):=by kernel_rfl
theorem g3(w:World)(os:OsState):lZ w 214 (sT w os true m1 67 12 12 2 260) [S 5] ⟨13,0,14,8⟩=some (.next,sT w os true m1 79 13 15 3 276,gP,⟨15,0,16,8⟩):=by kernel_rfl
def m2:Value:=(vs "chancore.consts" 292)
theorem g5(w:World)(os:OsState):lZ w 397 (sT w os true m2 92 16 18 4 327) [S 10,S 11,S 12,S 13,S 14,S 15,S 16,S 17,S 18,S 19,S 20,S 21,S 22,S 23] ⟨21,0,21,9⟩=some (.next,sT w os true m2 179 30 54 4 441,gP,⟨113,0,127,51⟩):=by kernel_rfl
def m3:Value:=(vs "chancore.type_exprs" 456)
theorem g6(w:World)(os:OsState):lZ w 167 (sT w os true m2 179 30 54 4 441) [S 24,S 25,S 26,S 27,S 28,S 29,S 30] ⟨113,0,127,51⟩=some (.next,sT w os true m3 210 36 66 4 490,gP,⟨156,0,164,55⟩):=by kernel_rfl
theorem g7(w:World)(os:OsState):lZ w 422 (sT w os true m3 210 36 66 4 490) [S 31] ⟨156,0,164,55⟩=some (.next,sT w os true m3 269 37 69 4 578,gP,⟨165,0,230,84⟩):=by kernel_rfl
def m4:Value:=(vs "chancore.const_exprs" 578)
theorem g8(w:World)(os:OsState):lZ w 72 (sT w os true m3 269 37 69 4 578) [S 32,S 33,S 34,S 35,S 36,S 37] ⟨165,0,230,84⟩=some (.next,sT w os true m4 274 42 69 4 593,gP,⟨236,0,236,7⟩):=by kernel_rfl
theorem g9(w:World)(os:OsState):lZ w 584 (sT w os true m4 274 42 69 4 593) [S 38] ⟨236,0,236,7⟩=some (.next,sT w os true m4 365 43 72 4 743,gP,⟨237,0,343,49⟩):=by kernel_rfl
def m5:Value:=(vs "chancore.holding" 783)
theorem N1(w:World)(os:OsState):lZ w 144 (sT w os true m4 365 43 72 4 743) [S 39,S 40,S 41,S 42,S 43,S 44] ⟨237,0,343,49⟩=some (.next,sT w os true m5 392 47 84 4 785,gP,⟨366,0,366,8⟩):=by kernel_rfl
def m6:Value:=(vs "chancore.packages" 853)
theorem N2(w:World)(os:OsState):lZ w 386 (sT w os true m5 392 47 84 4 785) [S 45,S 46,S 47,S 48,S 49] ⟨366,0,366,8⟩=some (.next,sT w os true m6 442 51 90 4 860,gP,⟨404,0,404,4⟩):=by kernel_rfl
theorem g12(w:World)(os:OsState):lZ w 88 (sT w os true m6 442 51 90 4 860) [S 50,S 51,S 52] ⟨404,0,404,4⟩=some (.next,sT w os true m6 461 54 99 4 883,gP,⟨415,0,426,16⟩):=by kernel_rfl
theorem N3(w:World)(os:OsState):lZ w 462 (sT w os true m6 461 54 99 4 883) [S 53] ⟨415,0,426,16⟩=some (.next,sT w os true m6 528 55 102 4 986,gP,⟨427,0,498,20⟩):=by kernel_rfl
def m7:Value:=(vs "chancore.scopes" 986)
theorem N4(w:World)(os:OsState):lZ w 241 (sT w os true m6 528 55 102 4 986) [S 54,S 55] ⟨427,0,498,20⟩=some (.next,sT w os true m7 549 56 105 4 1026,gP,⟨500,0,508,28⟩):=by kernel_rfl
theorem N5(w:World)(os:OsState):lZ w 457 (sT w os true m7 549 56 105 4 1026) [S 56] ⟨500,0,508,28⟩=some (.next,sT w os true m7 622 57 108 4 1118,gP,⟨509,0,547,16⟩):=by kernel_rfl
def m8:Value:=(vs "chancore.world" 1118)
theorem N6(w:World)(os:OsState):lZ w 373 (sT w os true m7 622 57 108 4 1118) [S 57,S 58,S 59,S 60,S 61,S 62,S 63,S 64] ⟨509,0,547,16⟩=some (.next,sT w os true m8 663 64 117 4 1206,gP,⟨568,0,584,16⟩):=by kernel_rfl
def m9:Value:=(vs "law_on0042_01" 1264)
theorem N7(w:World)(os:OsState):lZ w 374 (sT w os true m8 663 64 117 4 1206) [S 65,S 66,S 67,S 68] ⟨568,0,584,16⟩=some (.next,sT w os true m9 713 67 126 4 1286,gP,⟨626,0,632,67⟩):=by kernel_rfl
theorem N8(w:World)(os:OsState):lZ w 380 (sT w os true m9 713 67 126 4 1286) [S 69,S 70,S 71,S 72,S 73,S 74,S 75,S 76,S 77,S 78,S 79,S 80,S 81] ⟨626,0,632,67⟩=some (.next,sT w os true m9 795 80 162 4 1393,gP,⟨720,0,735,75⟩):=by kernel_rfl
theorem N9(w:World)(os:OsState):lZ w 65 (sT w os true m9 795 80 162 4 1393) [S 82,S 83] ⟨720,0,735,75⟩=some (.next,sT w os true m9 807 82 168 4 1415,gP,⟨755,0,770,146⟩):=by kernel_rfl
end
section
theorem g4(w:World)(os:OsState):lZ w 392 (sT w os true m1 79 13 15 3 276) [S 6,S 7,S 8,S 9] ⟨15,0,16,8⟩=some (.next,sT w os true m2 92 16 18 4 327,gP,⟨21,0,21,9⟩):=
 byRow2 "special-get-raises" (P:=fun w=>lZ w 392 (sT w os true m1 79 13 15 3 276) [S 6,S 7,S 8,S 9] ⟨15,0,16,8⟩=some (.next,sT w os true m2 92 16 18 4 327,gP,⟨21,0,21,9⟩)) (fun w=>by kernel_rfl) (fun w=>by kernel_rfl) w
def OZ(P:Params):Heap:=absHeap (tr P false m0 15 8 0 0) 15 {}
def hp(P:Params):Heap:=absHeap (tr P true m9 807 82 168 4) 807 {}
theorem Lb(w:World)(os:OsState):PySem.W.Fast.tw15667345088766844465 PySem.W.Fast.tw14364793385576792824 pg w 11 (some (.ref 6)) 12 ⟨boot_heap w.params,#[],boot_drawn,boot_toks,os⟩ (topStub pg) =
  some ((sT w os false m0 15 8 0 0 187).abs,⟨PySem.W.Fast.tw11892475500146522536 PySem.W.Fast.tw14364793385576792824 gP,gP,⟨0,0,0,0⟩,[topFrame ⟨0,0,0,0⟩]⟩):=by kernel_rfl
theorem Hl(w:World)(os:OsState):topGo treeTable pg w 11 (some (.ref 6)) 12 ⟨boot_heap w.params,#[],boot_drawn,boot_toks,os⟩ (topStub pg) =
  some ((sT w os false m0 15 8 0 0 187).abs,⟨denote treeTable gP,gP,⟨0,0,0,0⟩,[topFrame ⟨0,0,0,0⟩]⟩):=by
 rw[PySem.W.Fast.te15667345088766844465,PySem.W.Fast.te14364793385576792824,PySem.W.Fast.te11892475500146522536];exact Lb w os
theorem FT{w:World}{n:Nat}{s s':SharedT}{l:List Stmt}{p p':Pos}(h:lZ w n s l p=some (.next,s',gP,p')) :
  segRun treeTable pg w 11 (some (.ref 6)) 1 n s.abs (piecesOf l sJ gP p [topFrame ⟨0,0,0,0⟩])=some (.next,s'.abs,gP,p'):=
 segRun_of (by rw[PySem.W.Fast.te10110043849684766642,PySem.W.Fast.te14364793385576792824];exact h)
theorem nxt{w:World}{n N:Nat}{s s':SharedT}{l rest:List Stmt}{p p':Pos}{r:Shared}(h:lZ w n s l p=some (.next,s',gP,p'))
  (k:topRun treeTable pg w 11 (some (.ref 6)) N s'.abs (restOf rest sJ gP p' [topFrame ⟨0,0,0,0⟩])=some r) :
  topRun treeTable pg w 11 (some (.ref 6)) (n+N) s.abs (restOf (l++rest) sJ gP p [topFrame ⟨0,0,0,0⟩])=some r:=piece_app (FT h) k
theorem ER(w:World)(os:OsState):segRun treeTable pg w 11 (some (.ref 6)) 1 1 (sT w os false m0 15 8 0 0 187).abs (blockOf bd sJ gP ⟨0,0,0,0⟩ [topFrame ⟨0,0,0,0⟩])=some (.next,(sT w os false m0 15 8 0 0 187).abs,gP,⟨0,0,0,0⟩):=by kernel_rfl
theorem La(w:World)(os:OsState):topRun treeTable pg w 11 (some (.ref 6)) 2 (sT w os true m9 807 82 168 4 1415).abs (restOf [] sJ gP ⟨755,0,770,146⟩ [topFrame ⟨0,0,0,0⟩])=some ⟨hp w.params,#[],{},1415,os⟩:=by kernel_rfl
theorem GL:bd=[S 0,S 1,S 2]++([S 3]++([S 4]++([S 5]++([S 6,S 7,S 8,S 9]++([S 10,S 11,S 12,S 13,S 14,S 15,S 16,S 17,S 18,S 19,S 20,S 21,S 22,S 23]++([S 24,S 25,S 26,S 27,S 28,S 29,S 30]++([S 31]++([S 32,S 33,S 34,S 35,S 36,S 37]++([S 38]++([S 39,S 40,S 41,S 42,S 43,S 44]++([S 45,S 46,S 47,S 48,S 49]++([S 50,S 51,S 52]++([S 53]++([S 54,S 55]++([S 56]++([S 57,S 58,S 59,S 60,S 61,S 62,S 63,S 64]++([S 65,S 66,S 67,S 68]++([S 69,S 70,S 71,S 72,S 73,S 74,S 75,S 76,S 77,S 78,S 79,S 80,S 81]++([S 82,S 83]++[]))))))))))))))))))):=by kernel_rfl
theorem Lc(w:World)(os:OsState):topRun treeTable pg w 11 (some (.ref 6)) 5932 ⟨boot_heap w.params,#[],boot_drawn,boot_toks,os⟩ (topStub pg)=some ⟨hp w.params,#[],{},1415,os⟩:=
 go_top (Hl w os) (piece_block (n:=1) (ER w os) (GL▸(nxt (g0 w os) (nxt (g1 w os) (nxt (g2 w os) (nxt (g3 w os) (nxt (g4 w os) (nxt (g5 w os) (nxt (g6 w os) (nxt (g7 w os) (nxt (g8 w os) (nxt (g9 w os) (nxt (N1 w os) (nxt (N2 w os) (nxt (g12 w os) (nxt (N3 w os) (nxt (N4 w os) (nxt (N5 w os) (nxt (N6 w os) (nxt (N7 w os) (nxt (N8 w os) (nxt (N9 w os) (La w os)))))))))))))))))))))))
end
section
def q:Program:=view pg [83]
noncomputable def gJ:List Str:=["_wall","ChanError","NameFault","TypeFault","ConstFault","ImportFault","BITS","MOST_BITS","COMPARISONS","WRONG_RUNE","is_unsigned","int_range","is_in_range","within_range","representable","const_unary","const_quotient","const_shift","int_binary","const_compared","sort_of_const","const_binary","rune_octets","const_convert","SYNC_TYPES","MOST_LENGTH","type_entry","exported_entry","TypeReader","UNTYPED_INT","UNTYPED_RUNE","UNTYPED_BOOL","UNTYPED_TEXT","NUMBERS","ConstReader","const_of","type_of","underlying_of","is_comparable","Holding","check_late_keys","KNOWN","MAIN","is_exported","told_names","selected_names","Packages","ScopeRow","Scope","INT_KINDS","BUILTINS","ERROR","PLAIN","NamedRow","known_rows","universe","World","_law_pool","_law_take","_law_one","_law_plain","_law_face","_law_begun","_law_name","_law_leaf","_law_length","_law_function","_law_struct","_law_interface","_law_type","_law_answer","_law_bad_right","_law_holding_right"].map Str.ofString
theorem Hu:∀w:World,(fencedOpening treeTable pg w 6000).map (fun s=>(s.heap,s.gens,s.drawn,s.toks))=some (boot_heap w.params,Array.mk [],boot_drawn,boot_toks):=
 boot_open (by kernel_rfl) rfl fun s=>by kernel_rfl
theorem Hx(w:World):((boot_heap w.params).isNs mainGlobals&&(#[]:Array GenState).size==0,(boot_heap w.params).objs.size,(boot_heap w.params).nsMap mainGlobals "__annotations__")=(true,11,some (.ref 6)):=by kernel_rfl
theorem k1(w:World):staticsOk (importedModules pg.main.body) (boot_heap w.params) (hp w.params)=true:=by kernel_rfl
theorem k2(w:World):namesBound pg (hp w.params)=true:=by kernel_rfl
theorem k3(w:World):laidKept (boot_heap w.params) (hp w.params)=true:=by kernel_rfl
def sF(w:World)(os:OsState):Shared:=⟨hp w.params,#[],{},1415,os⟩
noncomputable def Xt:Shared->Bool:=recOk PySem.Challenge.rw_on0042_01.row.toRowW.records
theorem l1(w:World)(os:OsState):seen ((recsOf q).map (·.name)) (ownsOf q) [] {sF w os with gens:=#[]}=expectedOf q:=by kernel_rfl
theorem l2(w:World)(os:OsState):(sF w os).heap.bltView=bltViewBooted:=by kernel_rfl
theorem l3(w:World)(os:OsState):((sF w os).heap.keysOk (looseW q gJ) ((recsOf q).map (·.name)) ((litsOf q).map (·.1)) ((clssOf q (looseW q gJ)).map (·.name))&&(sF w os).heap.accountedOkI (importedModules pg.main.body)&&(sF w os).heap.isNs mainGlobals&&(sF w os).heap.isNs builtinsNs&&tablesOk q (sF w os).heap&&Xt (sF w os)&&(if true then(sF w os).gens.size==0 else !leftWithCleanup (sF w os).gens))=true:=by kernel_rfl
theorem l4(w:World)(os:OsState):tabsOk q (sF w os)=true:=by kernel_rfl
theorem l5(w:World)(os:OsState):(pinSeenD q (drecsOf q) (sF w os),plainSeenE q (looseW q gJ) (sF w os),plainSeenD q gJ (sF w os),wideSeen q (sF w os),clsSeenW q gJ (sF w os))=(pinGoodD (drecsOf q),plainGoodE q (looseW q gJ),plainGoodD q gJ,wideGood q,clsGoodW q gJ):=by kernel_rfl
theorem LE:LeftO pg q gJ Xt (fun s=>s.heap) (fun w=>hp w.params) 6000:=
 LeftO.of_pieces Hu Hx Lc (by decide) fun w=>funext fun os=>
  looks_pair (look_both (look_both (look_both (k1 w) (k2 w)) rfl) (k3 w)) (looks_pair (looks_pair (l1 w os) (looks_pair (l2 w os) (looks_pair (l3 w os) (looks_pair (l4 w os) (l5 w os))))) rfl)
noncomputable def rl:OpenLaw:=PySem.Challenge.rw_on0042_01
def row:OpenRow:=rl.row
theorem Ge:noRoadLSs {strict:=!(importedModules pg.main.body).all cThrough.contains,foot:=none,bare:=(["vars","dir","locals"]:List Str).filter (readsOut pg pg.main.body)} pg.main.body=true:=by
 rw[show({strict:=!(importedModules pg.main.body).all cThrough.contains,foot:=none,bare:=(["vars","dir","locals"]:List Str).filter (readsOut pg pg.main.body)}:Look)={strict:=false,foot:=none,bare:=[]} by kernel_rfl,PySem.W.Fast.te8326940854005059898]
 kernel_rfl
theorem Gd:looksOpen row.prog=true:=look_both (look_both (by kernel_rfl) Ge) (by kernel_rfl)
theorem Jj:rl.row.wellSaid=true:=by
 show(row.partSaid&&_&&_)=true;unfold OpenRow.partSaid;rw[Gd]
 kernel_rfl
theorem wellSaid:rl.wellSaid=true:=by
 unfold OpenLaw.wellSaid;rw[Jj]
 kernel_rfl
theorem Hz:(chainsOk q&&opensWell pg&&(frees row.toRowW&&row.within.isEmpty))=true:=by kernel_rfl
def dl:DefRec:=⟨Dk (S 83),CX (S 83),xM (S 83),Al (S 83),(S 83).pos⟩
theorem Lj:defOf q row.name=some (dl,[]):=by kernel_rfl
theorem Ob:pg.theDef row.name=some (dl.params,dl.body,dl.scope):=by kernel_rfl
theorem Oc:kwWritten? dl.params.kwonlyargs dl.params.kw_defaults=some []:=by kernel_rfl
def Ho(w:World)(h:Heap):Prop:=∀b o,(hp w.params).get? b=some o->h.get? b=some o
theorem LZ:row.toRowW.promised:=⟨[.list []],by kernel_rfl,by kernel_rfl⟩
theorem holds(call:WalkO q gJ (fun _ _=>True) Ho row.toRowW dl [] fun f vs=>PySem.call f vs):rl.Holds:=
 ⟨wellSaid,holds_open (Xt:=Xt) LE (fun w s h b o hb=>by rw[show s.heap=hp w.params from h];exact hb) (fun w h h' a k b o hb=>k b o (a b o hb)) (fun _ _=>trivial) (fun _ _ _ _ _=>trivial)
  Lj Ob Oc (fun _ e=>recFacts_of e) rfl Jj Hz ⟨rfl,rfl,rfl,rfl,rfl,by kernel_rfl⟩ LZ call⟩
end
end MineH
end
section
open PySem PySem.W PyProof.Rows MineH
namespace Mine
section
noncomputable def kA:List Nat:=[3,36,38,39,51,52,63,64,75,76,87,88,113,120,135,156,170,178,201,209,223,230,235,242,249,256,261,263,264,287,294,301,308,315,322,329,336,343,350,357,359,360,372,379,386,391,405,412,419,426,428,429,440,448,453,460,472,479,486,493,500,507,515,520,522,523,541,543,544,563,571,585,593,616,617,641,643,644,655,662,677,684,691,693,694,705,712,719,729,734,742,749,756,763,768,773,780,787,794,799,806]
noncomputable def zQ:List Obj->Nat->List Nat->Frag
|[],_,_=>[]
|o::l,i,as=>match as with
 |[]=>[]
 |a::r=>match Nat.beq a i with
  |true=>(a,o)::zQ l (i+1) r
  |false=>zQ l (i+1) (a::r)
def KP(P:Params):Frag:=zQ (MineH.Lo P true m9 82 168 4) 0 kA
theorem Gp(P:Params):kA=(KP P).map (·.1):=by kernel_rfl
theorem DP(P:Params):kA.map (MineH.hp P).get?=(KP P).map fun p=>some p.2:=by kernel_rfl
theorem CR(P:Params):(KP P).In (MineH.hp P):=Frag.in_of (Gp P) (DP P)
end
section
def Tr.toL{β:Type}:Tr β->List (Nat×β)
|.lf=>[]
|.nd l a b r=>l.toL++(a,b)::r.toL
section
variable (P:Params)
def Ed:Bool:=excMain.all fun e=>keepIn (KP P) (.ref e.1)&&excMain.all fun h=>Bj (KP P) e.1 h.1 (e.2.any (Nat.beq h.1))
def Ee:Bool:=fldMain.all fun e=>xT (KP P) e.1 e.2&&e.2.all fun n=>decide (findIn (KP P) (.ref e.1) (nm n)=some none)
def xO(k f:Nat):Bool:=decide (findIn (KP P) (.ref (k/1024)) (nm (k%1024))=some (some (.ref f)))&&decide (typeIn (KP P) (.ref f)=some (.type "function"))&&decide (findIn (KP P) (.ref (k/1024)) "__getattribute__"=some (some (.builtin "object.__getattribute__")))&&decide (findIn (KP P) (.ref (k/1024)) "__getattr__"=some none)
def Ef:Bool:=initMain.all fun e=>keepIn (KP P) (.ref e.1)&&makesIn (KP P) e.1&&decide (findIn (KP P) (.ref e.1) "__init__"=some (some (.ref e.2)))&&decide (typeIn (KP P) (.ref e.2)=some (.type "function"))
def uA(a:Nat)(_:Fun):Bool:=keepIn (KP P) (.ref a)
theorem Lz:excMain.map (fun e=>J2 (KP P) e.1)=excMain.map fun e=>M8 (KP P) e.1:=by kernel_rfl
theorem Ly:Ed P=true:=by kernel_rfl
theorem LA:Ee P=true:=by kernel_rfl
theorem Of:Tr.all (xO P) rB=true:=by kernel_rfl
theorem LB:Ef P=true:=by kernel_rfl
theorem HG:Tr.all (uA P) fnMain=true:=by kernel_rfl
theorem BD:noTabs (KP P)=true:=by kernel_rfl
end
end
section
noncomputable def t_(s:Str):Nat:=s.cps.toList.foldl (fun a c=>a*2097152+c+1) 0
noncomputable def Jw(x:Nat)(k:Nat->Bool):Bool:=match x with
|0=>k 0
|n+1=>k (n+1)
def Jv:List Nat->(List Nat->Bool)->Bool
|[],k=>k []
|x::r,k=>Jw x fun y=>Jv r fun l=>k (y::l)
theorem sM(x:Nat)(k:Nat->Bool):Jw x k=k x:=by rcases x with _|_<;>rfl
theorem yJ:∀(l:List Nat) (k:List Nat->Bool),Jv l k=k l
|[],_=>rfl
|x::r,k=>by rw[Jv,sM,yJ r]
noncomputable def JO:List Nat->Bool
|[]=>true
|a::r=>r.all (fun b=>!Nat.beq a b)&&JO r
theorem xA:∀{l:List Nat},JO l=true->l.Nodup
|[],_=>.nil
|a::r,h=>by obtain⟨h1,h2⟩:=(Bool.and_eq_true_iff.mp h:_/\_);refine List.nodup_cons.mpr ⟨fun hm=>?_,xA h2⟩;have:=aZ h1 a hm;rw[Nat.beq_refl] at this;exact ff this
def Dn:Bool:=Jv ((List.range 222).map fun n=>t_ (nm n)) fun l=>JO l&&Jw (t_ "__debug__") fun d=>Jw (t_ "__classdict__") fun c=>l.all fun x=>!(Nat.beq x d||Nat.beq x c)
theorem BX:Dn=true:=by kernel_rfl
theorem BY:((List.range 222).all fun n=>Nat.ble (nm n).length 100)=true:=by kernel_rfl
theorem BW:nmT.all (fun k _=>Nat.blt k 222)=true:=by kernel_rfl
theorem iW{n:Nat}(h:222<=n):(nm n).length=n+50:=by
 have e:nmT.look n=none:=by
  rcases z:nmT.look n with _|s
  ·rfl
  ·have:=Tr.all_look (f:=fun k (_:String)=>Nat.blt k 222) (t:=nmT) BW z;have:=aP this
   (first|lia|omega)
 unfold nm nms;rw[e,PySem.ofString_length];show(String.ofList (List.replicate (n+50) '#')).length=n+50;rw[String.length_ofList,List.length_replicate]
theorem nM{n:Nat}(h:n<222):(nm n).length<=100:=aP (aZ BY n (List.mem_range.mpr h))
theorem nm_chk:(((List.range 222).map fun n=>t_ (nm n)).Nodup)/\∀n,n<222->t_ (nm n)≠t_ "__debug__"/\t_ (nm n)≠t_ "__classdict__":=by
 have h:=BX;unfold Dn at h;rw[yJ] at h;obtain⟨h1,h2⟩:=(Bool.and_eq_true_iff.mp h:_/\_);rw[sM,sM] at h2;refine⟨xA h1,fun n hn=>?_⟩;have:=aZ h2 (t_ (nm n)) (List.mem_map.mpr ⟨n,List.mem_range.mpr hn,rfl⟩);constructor
 ·intro e;rw[e,Nat.beq_refl] at this;exact ff this
 ·intro e;rw[e,Nat.beq_refl,Bool.or_true] at this;exact ff this
theorem Fs(n n':Nat)(e:nm n=nm n'):n=n':=by
 by_cases h:n<222
 ·by_cases h':n'<222
  ·have nd:=nm_chk.1;have l:(List.range 222).length=222:=List.length_range;have g:∀i,i<222->((List.range 222).map fun n=>t_ (nm n))[i]?=some (t_ (nm i)):=fun i hi=>by rw[List.getElem?_map,List.getElem?_range hi];rfl
   exact(List.getElem?_inj (by rw[List.length_map,l];exact h) nd).mp ((g n h).trans ((congrArg (fun s=>some (t_ s)) e).trans (g n' h').symm))
  ·have:=nM h;have:=iW (Nat.le_of_not_lt h');rw[<-e] at this;(first|lia|omega)
 ·have b:=iW (Nat.le_of_not_lt h);by_cases h':n'<222
  ·have:=nM h';rw[e] at b;(first|lia|omega)
  ·have:=iW (Nat.le_of_not_lt h');rw[e,this] at b;(first|lia|omega)
theorem Fq(n:Nat):(nm n==("__debug__":Str))=false/\(nm n==("__classdict__":Str))=false:=by
 have h1:(Str.ofString "__debug__").length=9:=by rw[PySem.ofString_length];rfl
 have h2:(Str.ofString "__classdict__").length=13:=by rw[PySem.ofString_length];rfl
 constructor
 ·rcases z:nm n==("__debug__":Str) with _|_
  ·rfl
  ·have e:=eq_of_beq z;by_cases h:n<222
   ·exact absurd (congrArg t_ e) (nm_chk.2 n h).1
   ·have:=iW (Nat.le_of_not_lt h);rw[e] at this;have:(Str.ofString "__debug__").length=n+50:=this
    (first|lia|omega)
 ·rcases z:nm n==("__classdict__":Str) with _|_
  ·rfl
  ·have e:=eq_of_beq z;by_cases h:n<222
   ·exact absurd (congrArg t_ e) (nm_chk.2 n h).2
   ·have:=iW (Nat.le_of_not_lt h);rw[e] at this;have:(Str.ofString "__classdict__").length=n+50:=this
    (first|lia|omega)
end
variable{B:Heap}{C:Cst}
section
noncomputable def tbL:List (Addr×Addr×Str):=[(378,374,"type_of.<locals>.<lambda>"),(321,317,"ConstReader.of_one.<locals>.<lambda>"),(328,324,"ConstReader.of_two.<locals>.<lambda>"),(342,338,"ConstReader.called.<locals>.<lambda>"),(805,801,"law.<locals>.<lambda>"),(793,789,"_law_bad_right.<locals>.<lambda>"),(798,796,"_law_holding_right.<locals>.<lambda>")]
def tabsL:List (Addr×Addr):=tbL.map fun x=>(x.1,x.2.1)
def tqM:List (Addr×Str):=tbL.map (·.2)
def AD(i:Nat):Option (Addr×Addr×Str):=nth tbL i
noncomputable def Jr(v:Value):Addr:=match v with
|.ref a=>a
|_=>0
noncomputable def Go(v:Value):Tok:=match v with
|.int _ t=>t
|.str _ t=>t
|_=>0
noncomputable def OP(v:Value):Str:=match v with
|.str s _=>s
|_=>Str.empty
noncomputable def Nq(v:Value):Int:=match v with
|.int i _=>i
|_=>0
def Hh(o:Obj):Array Value:=match o.data with
|.fields vs=>vs
|_=>#[]
noncomputable def NC(o:Obj):Option (Array Value×Nat):=match o.data with
|.seq xs n=>some (xs,n)
|_=>none
theorem FW{o:Obj}{x:Array Value×Nat}(e:NC o=some x):o.data=.seq x.1 x.2:=by rcases o with⟨c,d,da,sl⟩;cases da<;>first|exact nf e|rw[<-aF e]
noncomputable def Na(o:Obj):FuncData:=match o.data with
|.func fd=>fd
|_=>default
theorem bE{α:Type}{o:Option α}{f:α->Bool}{G:Prop}(h:bO o f=true)(k:∀x,o=some x->f x=true->G):G:=by
 rcases o with _|x
 ·exact ff h
 ·exact k x rfl h
def Ga(h:Heap)(x:Value)(k:List Value->Bool):Bool:=decide (x=.ref (Jr x))&&bO (h.get? (Jr x)) fun o=>decide (o.cls=.type "tuple")&&bO (NC o) fun y=>k y.1.toList
theorem AH{h:Heap}{x:Value}{q:List Value->Bool}{G:Prop}(e:Ga h x q=true)(k:∀a o n xs,x=.ref a->h.get? a=some o->o.cls=.type "tuple"->o.data=.seq (List.toArray xs) n->q xs=true->G):G:=by refine bZ e fun e1 e2=>?_;refine bE e2 fun o e2 e3=>?_;refine bZ e3 fun e3 e4=>?_;exact bE e4 fun y e4 e5=>k _ o _ _ (bD e1) e2 (bD e3) (FW e4) e5
def DY(f:SV->Value->Bool)(vs:List SV):List Value->Bool:=List.rec (fun l=>l.isEmpty) (fun v _ k l=>bO l.head? fun x=>f v x&&k l.tail) vs
def JC(h:Heap)(n:Nat):SV->Value->Bool:=Nat.rec (fun _ _=>false) (fun _ r v x=>SV.casesOn v (decide (x=.none)) (fun b=>decide (x=.bool b)) (fun i=>decide (x=.int i (Go x))) (fun s=>nP s&&decide (x=.str (bB s) (Go x))) (fun _=>false) (fun a=>decide (x=.ref a)) (fun k=>decide (x=.type (iK k))) (fun k=>decide (x=.builtin (D8 k))) (fun _=>false) (fun vs=>Ga h x (DY r vs)) (fun _ _=>false) (fun _=>false) (fun _=>false) false false (fun _=>false)) n
theorem w_{C:Cst}{h:Heap}{f:SV->Value->Bool}(k:∀v x,f v x=true->RV C ⟨[],[]⟩ h v x){vs:List SV}:∀{xs:List Value},DY f vs xs=true->RVs C ⟨[],[]⟩ h vs xs:=by
 induction vs with
|nil=>
  intro xs e;rcases xs with _|_
  ·exact rfl
  ·exact ff e
|cons v r ih=>
  intro xs e;rcases xs with _|⟨x,xs⟩
  ·exact ff e
  ·exact bZ e fun e1 e2=>⟨x,xs,rfl,k v x e1,ih e2⟩
theorem zX{C:Cst}{h:Heap}{n:Nat}:∀(v:SV) (x:Value),JC h n v x=true->RV C ⟨[],[]⟩ h v x:=by
 induction n with
|zero=>exact fun _ _ e=>ff e
|succ n ih=>
  intro v x e;cases v with
 |int i=>exact⟨_,bD e⟩
 |str s=>exact bZ e fun e1 e2=>⟨e1,_,bD e2⟩
 |tup vs=>exact AH e fun a o n xs e1 e2 e3 e4 e5=>⟨a,xs,e1,⟨o,e2,e3,n,e4⟩,w_ ih e5⟩
 |_=>first|exact ff e|exact bD (p:=_=_) e
def K4(h:Heap)(a:Addr)(g:Fun):=
 let o:=(h.get? a).getD default;let fd:=Na o;let c:=Jr fd.code;let co:=(h.get? c).getD default
 (h.get? a,o.data,fd.body,fd.scope,fd.params,fd.closure,fd.globals,fd.builtins,fd.code,h.get? c,co.data,((Hh co)[1]?:Option Value),(decide (fd.defaults=.none)&&g.dflts.isEmpty||Ga h fd.defaults (DY (JC h 9) g.dflts)),((AD g.tb).all fun x=>decide (fd.code=.ref x.1)&&decide (fd.qualname++".<locals>."++"<lambda>"=x.2.2)),Du lamsMain g,Dt g)
def Nb(h:Heap)(a:Addr)(g:Fun):type_of% (K4 h a g):=
 let o:=(h.get? a).getD default;let fd:=Na o;let c:=Jr fd.code;let co:=(h.get? c).getD default
 (some o,.func fd,.stmts (fU (aN lamsMain) g.body),g.sc,d8 (aN lamsMain) g.params g.dfles,[],mainGlobals,builtinsNs,.ref c,some co,.fields (Hh co),some (.str fd.qualname (Go (((Hh co)[1]?:Option Value).getD .none))),true,true,true,true)
def JU(h:Heap)(c Q:Addr):=
 let o:=(h.get? c).getD default;let vs:=Hh o
 (h.get? c,o.cls,o.data,(vs[11]?:Option Value),vs.getD 11 .none,vs.getD 18 .none,vs.getD 7 .none,vs.getD 9 .none,vs.getD 10 .none,Nat.beq c Q)
def M6(h:Heap)(c Q:Addr):type_of% (JU h c Q):=
 let o:=(h.get? c).getD default;let vs:=Hh o
 (some o,.type "code",.fields vs,some (.ref Q),.ref Q,.str (OP (vs.getD 18 .none)) (Go (vs.getD 18 .none)),.int (Nq (vs.getD 7 .none)) (Go (vs.getD 7 .none)),.bool (decide (vs.getD 9 .none=.bool true)),.int (Nq (vs.getD 10 .none)) (Go (vs.getD 10 .none)),false)
section
variable (P:Params)
theorem Hb:(Tr.toL fnMain).map (fun x=>K4 (MineH.hp P) x.1 x.2)=(Tr.toL fnMain).map fun x=>Nb (MineH.hp P) x.1 x.2:=by kernel_rfl
theorem IX:tabsL.map (fun q=>JU (MineH.hp P) q.1 q.2)=tabsL.map fun q=>M6 (MineH.hp P) q.1 q.2:=by kernel_rfl
theorem IY:tabsL.map (fun q=>(MineH.hp P).get? q.2)=tabsL.map fun _=>some (tabObj #[]):=by kernel_rfl
end
theorem BI:lamsMain.all (Dv lamsMain)=true:=by kernel_rfl
theorem BH:lamsMain.map (fun l=>bC vA l.body)=lamsMain.map fun l=>bC (aN lamsMain) l.body:=by kernel_rfl
theorem Tr.look_mem{β:Type}{t:Tr β}{k:Nat}{v:β}:t.look k=some v->(k,v)∈t.toL:=by
 induction t with
|lf=>exact fun e=>nf e
|nd l a b r i1 i2=>
  intro e;replace e:(match Nat.beq a k with|true=>some b|false=>match Nat.blt k a with|true=>l.look k|false=>r.look k)=some v:=e;rcases z:Nat.beq a k
  ·rw[z] at e;rcases z:Nat.blt k a
   ·rw[z] at e;exact List.mem_append_right _ (.tail _ (i2 e))
   ·rw[z] at e;exact List.mem_append_left _ (i1 e)
  ·rw[z] at e;rw[<-aT z,<-aF e];exact List.mem_append_right _ (.head _)
section
variable{P:Params}
theorem Hc(kp:Kp (MineH.hp P) B)(keepB:∀b o,(MineH.hp P).get? b=some o->o≠tabObj #[]->B.get? b=some o)(hl:C.p.lams=lamsMain)(ht:C.tbs=AD){a:Nat}{g:Fun}(hg:fnMain.look a=some g):FnOk C B a g:=by
 have e:=List.map_inj_left.mp (Hb P) _ (Tr.look_mem hg);replace e:K4 (MineH.hp P) a g=Nb (MineH.hp P) a g:=e;have dt:=congrArg (·.2.1) e;refine⟨⟨_,_,keepB a _ (congrArg (·.1) e) fun z=>?_,dt,hl▸congrArg (·.2.2.1) e,congrArg (·.2.2.2.1) e,hl▸congrArg (·.2.2.2.2.1) e,congrArg (·.2.2.2.2.2.1) e,congrArg (·.2.2.2.2.2.2.1) e,congrArg (·.2.2.2.2.2.2.2.1) e,kp.code ⟨_,_,_,_,congrArg (·.2.2.2.2.2.2.2.2.1) e,congrArg (·.2.2.2.2.2.2.2.2.2.1) e,congrArg (·.2.2.2.2.2.2.2.2.2.2.1) e,congrArg (·.2.2.2.2.2.2.2.2.2.2.2.1) e⟩,?_,fun c Q q y=>?_⟩,hl▸congrArg (·.2.2.2.2.2.2.2.2.2.2.2.2.2.2.1) e,congrArg (·.2.2.2.2.2.2.2.2.2.2.2.2.2.2.2) e⟩
 ·exact nomatch dt.symm.trans (congrArg Obj.data z)
 ·rcases Bool.or_eq_true_iff.mp (congrArg (·.2.2.2.2.2.2.2.2.2.2.2.2.1) e:_=true) with h|h
  ·exact bZ h fun h1 h2=>.inl ⟨List.isEmpty_iff.mp h2,bD h1⟩
  ·exact AH h fun T o n xs h1 h2 h3 h4 h5=>.inr ⟨T,o,n,xs,h1,keepB T o h2 (fun z=>nomatch h4.symm.trans (congrArg Obj.data z)),h4,(w_ zX h5).mono (Rn.le.refl _) kp⟩
 ·have q:=congrArg (·.2.2.2.2.2.2.2.2.2.2.2.2.2.1) e;rw[ht] at y;replace q:(AD g.tb).all _=true:=q;rw[y] at q;exact bZ q fun q1 q2=>⟨bD q1,bD q2⟩
theorem GS{h:Heap}{c Q:Addr}(e:JU h c Q=M6 h c Q):CodeHd h c Q:=
 ⟨_,_,_,_,_,_,_,_,_,congrArg (·.1) e,congrArg (·.2.1) e,congrArg (·.2.2.1) e,congrArg (·.2.2.2.1) e,congrArg (·.2.2.2.2.1) e,congrArg (·.2.2.2.2.2.1) e,congrArg (·.2.2.2.2.2.2.1) e,congrArg (·.2.2.2.2.2.2.2.1) e,congrArg (·.2.2.2.2.2.2.2.2.1) e,fun z=>ff ((congrArg (·.2.2.2.2.2.2.2.2.2) e:Nat.beq c Q=false).symm.trans ((congrArg (Nat.beq c) z.symm).trans (Nat.beq_refl c)))⟩
end
end
section
def Hj(P:Params)(n:Nat)(v:SV):Bool:=(bO (nsIn (KP P) mainGlobals (nm n)) fun y=>bO y fun x=>JC (MineH.hp P) 9 v x)||decide (nsIn (KP P) mainGlobals (nm n)=some none)&&bO (bootBuiltins (nm n)) (JC (MineH.hp P) 9 v)&&!decide (nm n="__name__")
theorem Hk(P:Params):Tr.all (Hj P) gMain=true:=by kernel_rfl
theorem Oa{P:Params}{B:Heap}{C:Cst}{mg mb:Str->Option Value}(kp:Kp (MineH.hp P) B)(X:(KP P).In B)(g:B.Ns mainGlobals mg)(hb:∀x:Str,x≠"__name__"->mb x=bootBuiltins x){n:Nat}{v:SV}(e:gMain.look n=some v) :
  ∃x,(mg (nm n)=some x\/(mg (nm n)=none/\mb (nm n)=some x))/\RV C ⟨[],[]⟩ B v x:=by
 rcases Bool.or_eq_true_iff.mp (Tr.all_look (f:=Hj P) (t:=gMain) (Hk P) e) with q|q
 ·exact bE q fun y q1 q2=>bE q2 fun x q2 q3=>⟨x,.inl (mg_of X g (q2▸q1)),RV.mono (Rn.le.refl _) kp (zX _ _ q3)⟩
 ·exact mJ q fun q1 q2 q3=>bE q2 fun x q2 q4=>⟨x,.inr ⟨mg_none_of X g (bD q1),(hb _ (of_decide_eq_false (Bool.not_eq_eq_eq_not.mp q3))).trans q2⟩,RV.mono (Rn.le.refl _) kp (zX _ _ q4)⟩
end
variable{mg mb:Str->Option Value}
section
def NW(prog:Program)(la:Addr)(pm:Value)(xs:List Int):Cst:={prog:=prog,p:=zO,scr:=.ref la,pm:=pm,lb:=0,lu:=2187,td:=7,fb:=false,tq:=tqM,tbs:=AD,ep:=0,scl:=xs}
theorem zJ{β:Type}{l:List β}{k:Nat}{x:β}(e:nth l k=some x):x∈l:=List.mem_of_getElem? ((bS l k).symm.trans e)
theorem HI{v:SV}{i n:Nat}(e:FK v n=some i):v=.tup [cB i,.int 0]:=by
 induction n with
|zero=>exact nf e
|succ n ih=>
  replace e:(match sq 20 v (.tup [cB n,.int 0]) with|true=>some n|false=>FK v n)=some i:=e;rcases z:sq 20 v (.tup [cB n,.int 0])
  ·rw[z] at e;exact ih e
  ·rw[z] at e;rw[<-aF e];exact hH _ _ _ z
def IW(P:Params):Obj:=((MineH.hp P).get? sysModules).getD default
theorem Mw(P:Params):(MineH.hp P).get? sysModules=some (IW P):=by kernel_rfl
theorem Mx(P:Params):decide ((IW P).cls=.none)=false:=by kernel_rfl
theorem HL(P:Params):nsIn (KP P) mainGlobals MineH.dl.name=some (some (.ref 806)):=by kernel_rfl
theorem Jb:tqM.map (fun q=>look q.1 tqM)=tqM.map fun q=>some q.2:=by kernel_rfl
theorem dm{c n:Nat}(hn:n<1024):(c*1024+n)/1024=c/\(c*1024+n)%1024=n:=(Nat.div_mod_unique (Nat.le_add_left 1 1023)).mpr ⟨(Nat.add_comm _ _).trans (congrArg (·+n) (Nat.mul_comm _ _)),hn⟩
theorem Eh{h:Heap}{l:List (Addr×Addr)}{q:Addr×Addr}(a:CodeAll l h)(m:q∈l):CodeHd h q.1 q.2:=by
 induction m with
|head=>exact a.1
|tail _ _ ih=>exact ih a.2
theorem B4{β:Type}{l:List β}{i:Nat}(h:i<l.length):∃x,nth l i=some x/\x∈l:=⟨l[i],(bS l i).trans (List.getElem?_eq_getElem h),List.getElem_mem h⟩
theorem My{h:Heap}(a:CodeAll tabsL h){i:Nat}(hi:i<7):∃c P q,AD i=some (c,P,q)/\(P,q)∈tqM/\CodeHd h c P:=
 oEA (B4 (l:=tbL) hi) fun x e m=>⟨x.1,x.2.1,x.2.2,e,List.mem_map_of_mem (f:=Prod.snd) m,Eh a (List.mem_map_of_mem (f:=fun x:Addr×Addr×Str=>(x.1,x.2.1)) m)⟩
section
variable{P:Params}{h₁:Heap}{p:Program}{gJ:List Str}{mean:ExcName->Option Value}
theorem tJ(ho:∀b o,(MineH.hp P).get? b=some o->h₁.get? b=some o):TabsAt tabsL h₁:=fun q hq=>
 ⟨(GS (List.map_inj_left.mp (IX P) q hq)).keeps ho,ho _ _ (List.map_inj_left.mp (IY P) q hq)⟩
theorem IT(prog:Program)(ho:∀b o,(MineH.hp P).get? b=some o->h₁.get? b=some o)(T:Top p gJ mean mg mb h₁){la:Addr}{its:List Int}{xs:List Value}(hl:h₁.IsList la xs.toArray)(hi:InS its xs)(hn:its.length<=64) :
  Sta (NW prog la ((mg "__name__").getD .none) its) (ghostOf h₁ tabsL) (KP P) mg mb:=by
 have hT:=tJ ho;have keepB:∀b o,(MineH.hp P).get? b=some o->o≠tabObj #[]->(ghostOf h₁ tabsL).get? b=some o:=fun b o e n=>ghost_get hT (ho b o e) n;have kp:Kp (MineH.hp P) (ghostOf h₁ tabsL):=fun b o e m=>keepB b o e fun z=>gX (ps:=#[]) (by exact True.intro) (z▸m);have X:(KP P).In (ghostOf h₁ tabsL):=ghost_K hT (fun a o e=>ho _ _ (CR P a o e)) (BD P);have g:=ghost_ns hT T.g;have exA:∀c l,look c excMain=some l->ExcC (KP P) c/\keepIn (KP P) (.ref c)=true/\∀h l',look h excMain=some l'->Bj (KP P) c h (l.any (Nat.beq h))=true:=fun c l e=>by have q:=aZ (Ly P) _ (look_mem e);refine bZ q fun q2 q3=>?_;exact⟨List.map_inj_left.mp (Lz P) _ (look_mem e),q2,fun h l' e'=>aZ q3 _ (look_mem e')⟩
 have fdA:∀c fs,look c fldMain=some fs->xT (KP P) c fs=true/\∀n,fs.any (Nat.beq n)=true->findIn (KP P) (.ref c) (nm n)=some none:=fun c fs e=>by have q:=aZ (LA P) _ (look_mem e);refine bZ q fun q1 q2=>?_;refine⟨q1,fun n hn=>?_⟩;refine oEA (List.any_eq_true.mp hn) fun m hm e2=>?_;rw[aT e2];exact bD (aZ q2 _ hm)
 exact{
  X:=X
  g:=g
  b:=ghost_ns hT T.b
  nolimit:=let⟨mc,a,r⟩:=T.nolimit;⟨mc,ghost_ns hT a,r⟩
  exc:=fun c h=>by refine oE (Option.isSome_iff_exists.mp h) fun l e=>?_;exact⟨(exA c l e).1,(exA c l e).2.1⟩
  exf:=by kernel_rfl
  exn:=by kernel_rfl
  exm:=fun c l h e e'=>by refine oE (Option.isSome_iff_exists.mp e') fun l' e'=>?_;exact(exA c l e).2.2 h l' e'
  stl:=fun i o e=>by exact nf e
  rg:=by kernel_rfl
  en:=by kernel_rfl
  dbg:=Fq
  nmi:=Fs
  room:=⟨aP rfl,aP rfl⟩
  sysm:=⟨_,keepB _ _ (Mw P) fun z=>of_decide_eq_false (Mx P) (congrArg Obj.cls z)⟩
  fl:=fun c fs e=>(fdA c fs e).1
  fn:=fun a f e=>⟨Hc kp keepB rfl rfl e,Tr.all_look (f:=uA P) (HG P) e⟩
  me:=fun c n f e hn=>by have q:=Tr.all_look (f:=xO P) (Of P) e;refine oA (dm (c:=c) hn) fun d1 d2=>?_;unfold xO at q;rw[d1,d2] at q;exact AS q fun q1 q2 q3 q4=>⟨bD q1,bD q2,bD q3,bD q4⟩
  mu:=fun c fs n e hn=>(fdA c fs e).2 n hn
  bd:=fun i=>rfl
  ky:=fun v i e=>HI (n:=12) e
  lm:=fun k l e=>⟨aZ BI _ (zJ e),List.map_inj_left.mp BH _ (zJ e)⟩
  tbn:=fun i hi=>My (ghost_code hT) hi
  blt:=by refine rD (T.bmain) fun bm ob e1 e2 e3 e4 e5 e6=>?_;refine⟨bm,ob,e1,e2,fun z=>?_,ghost_get hT e3 (fun q=>by rw[q] at e4;cases e4),e4,e5,e6⟩;refine dT (T.g) fun o es ep h1 h2 _=>?_;rw[z,h1] at e3;obtain rfl:=aF e3;rw[e6] at h2;cases h2
  mgn:=rfl
  tb9:=rfl
  ini:=fun a f e=>by have q:=aZ (LB P) _ (look_mem e);exact AS q fun q1 q2 q3 q4=>⟨q1,q2,bD q3,bD q4⟩
  tqu:=fun q hq q' hq' e=>Prod.ext e (aF ((List.map_inj_left.mp Jb q hq).symm.trans ((congrArg (fun x=>look x tqM) e).trans (List.map_inj_left.mp Jb q' hq'))))
  sc:=⟨la,xs,rfl,ghost_list hT hl,hn,hi⟩
  gt:=fun n v e=>Oa kp X g T.builtins e}
theorem IZ(ho:∀b o,(MineH.hp P).get? b=some o->h₁.get? b=some o):Tabs (ghostOf h₁ tabsL) tqM h₁:=fun q hq=>by refine oEA (List.mem_map.mp hq) fun x m e=>?_;have m:=List.mem_map_of_mem (f:=fun x:Addr×Addr×Str=>(x.1,x.2.1)) m;subst e;exact⟨hideAll_none _ (List.mem_map_of_mem (f:=(·.2)) m),#[],(tJ ho _ m).2,True.intro,fun pos cv z=>by exact nf z⟩
end
theorem By{R:WRecords}{cl:Str->Option Addr}{h:Heap}{ds:List WData}:∀{vs:List Value} {as:List Addr},WShape.hasItems R ds .int=true->ReadsAllW R cl h vs ds as->∃its:List Int,InS its vs/\its.length=ds.length:=by
 induction ds with
|nil=>exact fun _ r=>⟨[],(readsAllW_nil_inv r).1,rfl⟩
|cons d r ih=>intro vs as hs q;refine lT (readsAllW_cons_inv q) fun v vs as1 as2 e _ q1 q2=>?_;refine oE (hasW_int (aG hs).1) fun i z=>?_;subst z;refine oEA (ih (aG hs).2 q2) fun its k1 k2=>?_;exact oEA (readsW_int_inv q1) fun t z _=>⟨i::its,⟨t,vs,e.trans (congrArg (·::vs) z),k1⟩,congrArg (·+1) k2⟩
theorem wI{ds:List WData}(h:MineH.row.toRowW.pre.holds MineH.row.toRowW.records {args:=[.list ds]}=true):ds.length<=64:=by
 refine oA (holds_andW (a:=.not (.lt (.lit (.int 63)) (.len (.arg 0)))) (b:=.lit (.bool true)) h) fun h1 _=>?_;replace h1:(match some (WData.bool (!decide ((63:Int)<(ds.length:Int)))) with
 |some (.bool true)=>true
 |_=>false)=true:=h1
 rcases q:decide ((63:Int)<(ds.length:Int)) with _|_
 ·exact Int.ofNat_le.mp (Int.le_trans (Int.not_lt.mp (of_decide_eq_false q)) (by decide))
 ·rw[q] at h1;exact ff h1
theorem yL{h:Heap}{l:List (Addr×Addr)}:(∀q∈l,GrownAt q.2 h)->GrownAll l h:=by
 induction l with
|nil=>exact fun _=>True.intro
|cons q r ih=>exact fun k=>⟨k q (.head _),ih fun q hq=>k q (.tail _ hq)⟩
theorem Hq{B h:Heap}(t:Tabs B tqM h):GrownAll tabsL h:=yL fun q hq=>by refine oEA (List.mem_map.mp hq) fun x m e=>?_;subst e;exact cZ (t _ (List.mem_map_of_mem m)) fun _ ps e2 _=>⟨ps,e2⟩
theorem holds:MineH.rl.Holds:=MineH.holds fun w s₀ s₁ mg mb G ho a o pm cd doc dV kV hao hod hcd hD hmg hgens args vals as hpre hlay hrd hwl hlo=>by
 refine oA (pre_splitW hpre) fun hsh hcond=>?_;refine aY (hasAllW_cons (e:=.list .int) (es:=[]) hsh) fun d r u2 h1 h2=>?_;refine oEA (hasW_list h1) fun ds u3 h3=>?_;have u:=hasAllW_nil h2;subst u2 u3 u;refine lT (readsAllW_cons_inv hrd) fun v vs as1 as2 z1 _ q1 q2=>?_;have u:=(readsAllW_nil_inv q2).1;refine fD (readsW_list_inv q1) fun la xs as' z2 hl q4 _=>?_;subst z2 u z1;have hT:=tJ (P:=w.params) ho;have ha:=hmg.symm.trans (mg_of (fun a o e=>ho _ _ (CR w.params a o e)) G.T.g (HL w.params));have ha:=Value.ref.inj (aF ha);subst ha;refine oEA (By h3 q4) fun its k1 k2=>?_;have S:=IT (P:=w.params) row.toRowW.prog ho G.T (la:=la) (its:=its) (xs:=xs.toList) hl k1 (k2▸wI hcond);refine enter_call (kn_post hT (fun _ _=>rfl) (codeAny_mono (y8 (w:=w) S rfl rfl rfl (Nat.le_refl _) (fun _ _ e=>of_hideAll _ e) (IZ ho) (Q:=fun v s'=>v=.bool true/\∃h' tk',s'={s₁ with heap:=h',toks:=tk'}/\(ghostOf s₁.heap tabsL).StaysIn h'/\Tabs (ghostOf s₁.heap tabsL) tqM h') (E':=fun _ _=>False) fun h' tk' b t=>⟨rfl,h',tk',rfl,b,t⟩) fun res s' g=>?_));rcases res with e|f
 ·exact g.elim
 ·rcases f with _|_<;>first|exact g.elim|skip
  refine cV g fun u4 h' tk' u5 b t=>?_;subst u4 u5;exact⟨⟨.inl ⟨.bool true,.bool true,[],rfl,fun _=>rfl,.bool _,postW_of (by rfl) (by rfl) (same_self _),fun _=>⟨.nil,fun _ m=>nomatch m⟩⟩,b,rfl,hgens⟩,Hq t⟩
end
end Mine
end
end
theorem PySem.Challenge.cw_on0042_01_holds : PySem.Challenge.rw_on0042_01.Holds :=
  Mine.holds
