import PyProof.Rows.All
import Wide.All
import OpenK.AllK
import OpenK.ZBase
import KE.KIsAll
import PyProof.TableCode
import Open.Row
import Open.Tree
import Open.Seg
import Open.Boot
import Open.Pieces
import Open.Line
import Lean
import PySem.Challenge.RW_nt0414_01
set_option maxRecDepth 100000
set_option linter.all false
set_option maxHeartbeats 0
set_option Elab.async false
set_option tactic.hygienic false
set_option genSizeOf false
set_option genInjectivity false
set_option backward.match.sparseCases false
set_option backward.linearNoConfusionType false
set_option bootstrap.genMatcherCode false
noncomputable section
local macro_rules | `(tactic| ext) => `(tactic| first | kernel_rfl | decide)
namespace Mine
open PySem PySem.W PyProof.Rows PySem.Calls
section
universe u
@[elab_as_elim] theorem zb{α:Sort u}{a t:α}{P:α->Prop}(h:a=t)(k:P a):P t:=h▸k
@[elab_as_elim] theorem zc{α:Sort u}{a t:α}{P:α->Prop}(h:t=a)(k:P a):P t:=h▸k
theorem aE{α:Type u}{a b:α}(h:some a=some b):a=b:=Option.some.inj h
theorem aG{a b c:Nat}(h:a<=b)(k:b<=c):a<=c:=Nat.le_trans h k
def bh(a b:Nat):a<=a+b:=Nat.le_add_right a b
theorem aV(a:Nat):a<=a:=Nat.le_refl a
theorem eP{a b c:Nat}(h:a<=b)(k:b<c):a<c:=Nat.lt_of_le_of_lt h k
theorem bz{α:Type u}(a b c:List α):a++b++c=a++(b++c):=List.append_assoc a b c
theorem bO{α:Type u}{a b:List α}:(a++b).length=a.length+b.length:=List.length_append
theorem ec{α:Type u}{a:α}{b:List α}:(a::b).length=b.length+1:=List.length_cons
def cp{α:Type u}{p:α->Bool}{l:List α}(h:l.all p=true):∀x∈l,p x=true:=List.all_eq_true.mp h
theorem cK{a b:Bool}(h:(a&&b)=true):a=true/\b=true:=Bool.and_eq_true_iff.mp h
def ei{α:Type u}{a:α}(l:List α){k:List α}(h:a∈k):a∈l++k:=List.mem_append_right l h
def gq{α:Type u}{a:α}{l:List α}(k:List α)(h:a∈l):a∈l++k:=List.mem_append_left k h
theorem fo{α:Type u}{a b:α}(h:a∈[b]):a=b:=List.mem_singleton.mp h
def dZ{α:Type u}{a b:α}{l:List α}(h:a∈b::l):a=b\/a∈l:=List.mem_cons.mp h
theorem fy{a b:Nat}(h:Nat.beq a b=true):a=b:=Nat.eq_of_beq_eq_true h
theorem cS(a b:Bool):((a&&b)=true)=(a=true/\b=true):=Bool.and_eq_true a b
theorem dg(a:Bool):((!a)=true)=(a=false):=Bool.not_eq_true' a
def iA{m n:Nat}(h:m<=n):∃k,n=k+m:=Nat.exists_eq_add_of_le' h
def bx{α:Type u}{motive:List α->Prop}(t:List α)(nil:motive [])(cons:∀head tail,motive<|head::tail):motive t:=List.casesOn t nil cons
def eZ{α:Type u}(l:List α):l<+:l:=List.prefix_refl l
@[elab_as_elim] theorem zm{α:Type u}{a t:α}{P:α->Prop}(h:some a=some t)(k:P a):P t:=Option.some.inj h▸k
@[elab_as_elim] theorem zn{α:Type u}{a t:α}{P:α->Prop}(h:some t=some a)(k:P a):P t:=Option.some.inj h▸k
section
variable{N M X Y Z B m k j c e p q a b a' c':Nat}
theorem ia(h:Nat.ble a b=true:=by exact rfl):a<=b:=Nat.le_of_ble_eq_true h
def ja(h:Nat.ble a b=true:=by exact rfl):N+a<=N+b:=Nat.add_le_add_left (ia h) N
def jc(h:k<=N)(e:Nat.ble j k=true:=by exact rfl):j<=N:=Nat.le_trans (ia e) h
def jb(h:k<=N)(e:Nat.ble j (k+c)=true:=by exact rfl):j<=N+c:=Nat.le_trans (ia e)<|Nat.add_le_add_right h c
def j0(h:k<=N+p)(e:Nat.ble (j+p) (k+c)=true:=by exact rfl):j<=N+c:=by have:=ia e;lia
def jk(h:k<=N+p)(e:Nat.ble (j+p) k=true:=by exact rfl):j<=N:=by have:=ia e;lia
def ju(h:X<=p)(e:Nat.ble p a=true:=by exact rfl):X<=a:=Nat.le_trans h<|ia e
def jv(h:X<=p)(e:Nat.ble (p+a) b=true:=by exact rfl):X+a<=b:=Nat.le_trans (Nat.add_le_add_right h a)<|ia e
def jw(h:X<=p)(e:Nat.ble (a+p) b=true:=by exact rfl):a+X<=b:=Nat.le_trans (Nat.add_le_add_left h a)<|ia e
def jx(h:X+p<=Y+q)(e:Nat.ble (a+q) (b+p)=true:=by exact rfl):X+a<=Y+b:=by have:=ia e;lia
def jy(h:X+p<=Y)(e:Nat.ble a (b+p)=true:=by exact rfl):X+a<=Y+b:=by have:=ia e;lia
def jz(h:X+p<=Y)(e:Nat.ble a p=true:=by exact rfl):X+a<=Y:=by have:=ia e;lia
def jt(h:X+p<=Y):X<=Y:=by lia
def jr(h:X+p<=Y+q)(e:Nat.ble q (b+p)=true:=by exact rfl):X<=Y+b:=by have:=ia e;lia
def j5(h:X+p<=Y+q)(e:Nat.ble q p=true:=by exact rfl):X<=Y:=by have:=ia e;lia
def ji(h:X<=Y)(e:Nat.ble a b=true:=by exact rfl):X+a<=Y+b:=Nat.add_le_add h<|ia e
def jj(h:X<=Y):X<=Y+b:=Nat.le_trans h<|Nat.le_add_right Y b
def j6(h:k<=N)(g:N+p<=Y+q)(e:Nat.ble (j+q) (k+p+c)=true:=by exact rfl):j<=Y+c:=by have:=ia e;lia
def j7(h:k<=N)(g:N<=Y)(e:Nat.ble j (k+c)=true:=by exact rfl):j<=Y+c:=by have:=ia e;lia
def j8(h:k<=N)(g:N<=Y)(e:Nat.ble j k=true:=by exact rfl):j<=Y:=by have:=ia e;lia
def ib(h:k<=N)(g:N+p<=Y)(e:Nat.ble j (k+p)=true:=by exact rfl):j<=Y:=by have:=ia e;lia
def ig(h:k<=N)(g:N+p<=Y+q)(e:Nat.ble (j+q) (k+p)=true:=by exact rfl):j<=Y:=by have:=ia e;lia
def jl(h:a*B+c<=m)(e:(Nat.ble 1 a&&Nat.ble c' c)=true:=by exact rfl):B+c'<=m:=by obtain⟨x,y⟩:=Bool.and_eq_true_iff.mp e;have:=ia y;have:=Nat.mul_le_mul_right B<|ia x;lia
def jm(h:a*B+c<=m)(e:(Nat.ble a' a&&Nat.ble c' c)=true:=by exact rfl):a'*B+c'<=m:=by obtain⟨x,y⟩:=Bool.and_eq_true_iff.mp e;have:=ia y;have:=Nat.mul_le_mul_right B<|ia x;lia
def jo(e:(Nat.ble a' a&&Nat.ble c' c)=true:=by exact rfl):a'*B+c'<=a*B+c:=jm (Nat.le_refl _) e
def jp(e:(Nat.ble 1 a&&Nat.ble c' c)=true:=by exact rfl):B+c'<=a*B+c:=jl (Nat.le_refl _) e
def jq(e:Nat.ble 1 a=true:=by exact rfl):B<=a*B+c:=jl (c':=0) (Nat.le_refl _)<|Bool.and_eq_true_iff.mpr ⟨e,rfl⟩
def jd(h:X+p<=Y)(e:Nat.ble (a+b) p=true:=by exact rfl):X+a<=Y-b:=by have:=ia e;lia
def je(h:X+p<=Y)(e:Nat.ble b p=true:=by exact rfl):X<=Y-b:=by have:=ia e;lia
def jf(h:k<=N)(g:N+p<=Y)(e:Nat.ble (j+b) (k+p)=true:=by exact rfl):j<=Y-b:=by have:=ia e;lia
def jg(h:X+p<=Y)(e:(Nat.ble b p&&Nat.ble a b)=true:=by exact rfl):Y-b+a<=Y:=by obtain⟨x,y⟩:=Bool.and_eq_true_iff.mp e;have:=ia y;have:=ia x;lia
def jh(h:k<=Y)(e:Nat.ble (j+b) k=true:=by exact rfl):j<=Y-b:=by have:=ia e;lia
end
@[elab_as_elim] theorem lE{P:Nat->Prop}{j:Nat}(h:j<2)(a:P 0)(b:P 1):P j:=match j,h with
  |0,_=>a
  |1,_=>b
@[elab_as_elim] theorem wF{P:Nat->Prop}{j:Nat}(h:j<3)(aa:P 0)(bb:P 1)(cc:P 2):P j:=match j,h with
  |0,_=>aa
  |j+1,h=>lE (P:=λi=>P<|i+1) (Nat.lt_of_succ_lt_succ h) bb cc
@[elab_as_elim] theorem KO{P:Nat->Prop}{j:Nat}(h:j<4)(aa:P 0)(bb:P 1)(cc:P 2)(dd:P 3):P j:=match j,h with
  |0,_=>aa
  |j+1,h=>wF (P:=λi=>P<|i+1) (Nat.lt_of_succ_lt_succ h) bb cc dd
@[elab_as_elim] theorem lt5{P:Nat->Prop}{j:Nat}(h:j<5)(aa:P 0)(bb:P 1)(cc:P 2)(dd:P 3)(ee:P 4):P j:=match j,h with
  |0,_=>aa
  |j+1,h=>KO (P:=λi=>P<|i+1) (Nat.lt_of_succ_lt_succ h) bb cc dd ee
@[elab_as_elim] theorem JH{P:Nat->Prop}{j:Nat}(h:j<6)(aa:P 0)(bb:P 1)(cc:P 2)(dd:P 3)(ee:P 4)(ff:P 5):P j:=match j,h with
  |0,_=>aa
  |j+1,h=>lt5 (P:=λi=>P<|i+1) (Nat.lt_of_succ_lt_succ h) bb cc dd ee ff
@[elab_as_elim] theorem lt7{P:Nat->Prop}{j:Nat}(h:j<7)(aa:P 0)(bb:P 1)(cc:P 2)(dd:P 3)(ee:P 4)(ff:P 5)(gg:P 6):P j:=match j,h with
  |0,_=>aa
  |j+1,h=>JH (P:=λi=>P<|i+1) (Nat.lt_of_succ_lt_succ h) bb cc dd ee ff gg
@[elab_as_elim] theorem J6{P:Nat->Prop}{j:Nat}(h:j<8)(aa:P 0)(bb:P 1)(cc:P 2)(dd:P 3)(ee:P 4)(ff:P 5)(gg:P 6)(hh:P 7):P j:=match j,h with
  |0,_=>aa
  |j+1,h=>lt7 (P:=λi=>P<|i+1) (Nat.lt_of_succ_lt_succ h) bb cc dd ee ff gg hh
@[elab_as_elim] theorem lt9{P:Nat->Prop}{j:Nat}(h:j<9)(aa:P 0)(bb:P 1)(cc:P 2)(dd:P 3)(ee:P 4)(ff:P 5)(gg:P 6)(hh:P 7)(ii:P 8):P j:=match j,h with
  |0,_=>aa
  |j+1,h=>J6 (P:=λi=>P<|i+1) (Nat.lt_of_succ_lt_succ h) bb cc dd ee ff gg hh ii
@[elab_as_elim] theorem Xx{P:Nat->Prop}{j:Nat}(h:j<10)(aa:P 0)(bb:P 1)(cc:P 2)(dd:P 3)(ee:P 4)(ff:P 5)(gg:P 6)(hh:P 7)(ii:P 8)(jj:P 9):P j:=match j,h with
  |0,_=>aa
  |j+1,h=>lt9 (P:=λi=>P<|i+1) (Nat.lt_of_succ_lt_succ h) bb cc dd ee ff gg hh ii jj
@[elab_as_elim] theorem XW{P:Nat->Prop}{j:Nat}(h:j<11)(aa:P 0)(bb:P 1)(cc:P 2)(dd:P 3)(ee:P 4)(ff:P 5)(gg:P 6)(hh:P 7)(ii:P 8)(jj:P 9)(kk:P 10):P j:=match j,h with
  |0,_=>aa
  |j+1,h=>Xx (P:=λi=>P<|i+1) (Nat.lt_of_succ_lt_succ h) bb cc dd ee ff gg hh ii jj kk
@[elab_as_elim] theorem YI{P:Nat->Prop}{j:Nat}(h:j<12)(aa:P 0)(bb:P 1)(cc:P 2)(dd:P 3)(ee:P 4)(ff:P 5)(gg:P 6)(hh:P 7)(ii:P 8)(jj:P 9)(kk:P 10)(ll:P 11):P j:=match j,h with
  |0,_=>aa
  |j+1,h=>XW (P:=λi=>P<|i+1) (Nat.lt_of_succ_lt_succ h) bb cc dd ee ff gg hh ii jj kk ll
@[elab_as_elim] theorem YC{P:Nat->Prop}{j:Nat}(h:j<13)(aa:P 0)(bb:P 1)(cc:P 2)(dd:P 3)(ee:P 4)(ff:P 5)(gg:P 6)(hh:P 7)(ii:P 8)(jj:P 9)(kk:P 10)(ll:P 11)(mm:P 12):P j:=match j,h with
  |0,_=>aa
  |j+1,h=>YI (P:=λi=>P<|i+1) (Nat.lt_of_succ_lt_succ h) bb cc dd ee ff gg hh ii jj kk ll mm
@[elab_as_elim] theorem IA{P:Nat->Prop}{j:Nat}(h:j<14)(aa:P 0)(bb:P 1)(cc:P 2)(dd:P 3)(ee:P 4)(ff:P 5)(gg:P 6)(hh:P 7)(ii:P 8)(jj:P 9)(kk:P 10)(ll:P 11)(mm:P 12)(nn:P 13):P j:=match j,h with
  |0,_=>aa
  |j+1,h=>YC (P:=λi=>P<|i+1) (Nat.lt_of_succ_lt_succ h) bb cc dd ee ff gg hh ii jj kk ll mm nn
def ng{α:Type}{x:α}{G:Prop}(h:none=some x):G:=nomatch h
def nh{α:Type}{x:α}{G:Prop}(h:some x=none):G:=nomatch h
def nl{α:Type}{x:α}{G:Prop}(h:x∈([]:List α)):G:=absurd h List.not_mem_nil
def nj{G:Prop}(h:false=true):G:=nomatch h
def nk{G:Prop}(h:true=false):G:=nomatch h
end
section
variable{A B C D E F H I J K L:Type}{G:Prop}
section
variable{P0 P1 P2 P3 P4:Prop}
def rx(p0:P0)(p1:P1)(p2:P2):P0/\P1/\P2:=⟨p0,p1,p2⟩
def JC(p0:P0)(p1:P1)(p2:P2)(p3:P3):P0/\P1/\P2/\P3:=⟨p0,p1,p2,p3⟩
def fp(h:P0/\P1/\P2)(k:P0->P1->P2->G):G:=k h.1 h.2.1 h.2.2
def rP(h:P0/\P1/\P2/\P3)(k:P0->P1->P2->P3->G):G:=k h.1 h.2.1 h.2.2.1 h.2.2.2
def x04(h:P0/\P1/\P2/\P3/\P4)(k:P0->P1->P2->P3->P4->G):G:=k h.1 h.2.1 h.2.2.1 h.2.2.2.1 h.2.2.2.2
end
section
variable{P0 P1 P2 P3 P4 P5:A->Prop}
theorem au(a:A)(p0:P0 a)(p1:P1 a):∃a,P0 a/\P1 a:=⟨a,p0,p1⟩
def fA(a:A)(p0:P0 a)(p1:P1 a)(p2:P2 a):∃a,P0 a/\P1 a/\P2 a:=⟨a,p0,p1,p2⟩
def js(a:A)(p0:P0 a)(p1:P1 a)(p2:P2 a)(p3:P3 a):∃a,P0 a/\P1 a/\P2 a/\P3 a:=⟨a,p0,p1,p2,p3⟩
def fc(a:A)(p0:P0 a)(p1:P1 a)(p2:P2 a)(p3:P3 a)(p4:P4 a):∃a,P0 a/\P1 a/\P2 a/\P3 a/\P4 a:=⟨a,p0,p1,p2,p3,p4⟩
def ZU(a:A)(p0:P0 a)(p1:P1 a)(p2:P2 a)(p3:P3 a)(p4:P4 a)(p5:P5 a):∃a,P0 a/\P1 a/\P2 a/\P3 a/\P4 a/\P5 a:=⟨a,p0,p1,p2,p3,p4,p5⟩
def aA(h:∃a,P0 a/\P1 a)(k:∀a,P0 a->P1 a->G):G:=h.elim λa h=>k a h.1 h.2
def fz(h:∃a,P0 a/\P1 a/\P2 a)(k:∀a,P0 a->P1 a->P2 a->G):G:=h.elim λa h=>k a h.1 h.2.1 h.2.2
def lD(h:∃a,P0 a/\P1 a/\P2 a/\P3 a)(k:∀a,P0 a->P1 a->P2 a->P3 a->G):G:=h.elim λa h=>k a h.1 h.2.1 h.2.2.1 h.2.2.2
def i8(h:∃a,P0 a/\P1 a/\P2 a/\P3 a/\P4 a)(k:∀a,P0 a->P1 a->P2 a->P3 a->P4 a->G):G:=h.elim λa h=>k a h.1 h.2.1 h.2.2.1 h.2.2.2.1 h.2.2.2.2
def Dy(h:∃a,P0 a/\P1 a/\P2 a/\P3 a/\P4 a/\P5 a)(k:∀a,P0 a->P1 a->P2 a->P3 a->P4 a->P5 a->G):G:=h.elim λa h=>k a h.1 h.2.1 h.2.2.1 h.2.2.2.1 h.2.2.2.2.1 h.2.2.2.2.2
end
section
variable{P0 P1 P2 P3:A->B->Prop}
def bT(a:A)(b:B)(p0:P0 a b):∃a b,P0 a b:=⟨a,b,p0⟩
def aW(a:A)(b:B)(p0:P0 a b)(p1:P1 a b):∃a b,P0 a b/\P1 a b:=⟨a,b,p0,p1⟩
def dA(a:A)(b:B)(p0:P0 a b)(p1:P1 a b)(p2:P2 a b):∃a b,P0 a b/\P1 a b/\P2 a b:=⟨a,b,p0,p1,p2⟩
def t6(a:A)(b:B)(p0:P0 a b)(p1:P1 a b)(p2:P2 a b)(p3:P3 a b):∃a b,P0 a b/\P1 a b/\P2 a b/\P3 a b:=⟨a,b,p0,p1,p2,p3⟩
def cX(h:∃a b,P0 a b)(k:∀a b,P0 a b->G):G:=h.elim λa h=>h.elim λb h=>k a b h
def bJ(h:∃a b,P0 a b/\P1 a b)(k:∀a b,P0 a b->P1 a b->G):G:=h.elim λa h=>h.elim λb h=>k a b h.1 h.2
def dW(h:∃a b,P0 a b/\P1 a b/\P2 a b)(k:∀a b,P0 a b->P1 a b->P2 a b->G):G:=h.elim λa h=>h.elim λb h=>k a b h.1 h.2.1 h.2.2
def wG(h:∃a b,P0 a b/\P1 a b/\P2 a b/\P3 a b)(k:∀a b,P0 a b->P1 a b->P2 a b->P3 a b->G):G:=h.elim λa h=>h.elim λb h=>k a b h.1 h.2.1 h.2.2.1 h.2.2.2
end
section
variable{P0 P1 P2 P3 P4 P5 P6:A->B->C->Prop}
def gp(a:A)(b:B)(c:C)(p0:P0 a b c):∃a b c,P0 a b c:=⟨a,b,c,p0⟩
def fK(a:A)(b:B)(c:C)(p0:P0 a b c)(p1:P1 a b c):∃a b c,P0 a b c/\P1 a b c:=⟨a,b,c,p0,p1⟩
def rt(a:A)(b:B)(c:C)(p0:P0 a b c)(p1:P1 a b c)(p2:P2 a b c):∃a b c,P0 a b c/\P1 a b c/\P2 a b c:=⟨a,b,c,p0,p1,p2⟩
def jE(a:A)(b:B)(c:C)(p0:P0 a b c)(p1:P1 a b c)(p2:P2 a b c)(p3:P3 a b c):∃a b c,P0 a b c/\P1 a b c/\P2 a b c/\P3 a b c:=⟨a,b,c,p0,p1,p2,p3⟩
def oU(a:A)(b:B)(c:C)(p0:P0 a b c)(p1:P1 a b c)(p2:P2 a b c)(p3:P3 a b c)(p4:P4 a b c):∃a b c,P0 a b c/\P1 a b c/\P2 a b c/\P3 a b c/\P4 a b c:=⟨a,b,c,p0,p1,p2,p3,p4⟩
def JR(a:A)(b:B)(c:C)(p0:P0 a b c)(p1:P1 a b c)(p2:P2 a b c)(p3:P3 a b c)(p4:P4 a b c)(p5:P5 a b c):∃a b c,P0 a b c/\P1 a b c/\P2 a b c/\P3 a b c/\P4 a b c/\P5 a b c:=⟨a,b,c,p0,p1,p2,p3,p4,p5⟩
def yC(a:A)(b:B)(c:C)(p0:P0 a b c)(p1:P1 a b c)(p2:P2 a b c)(p3:P3 a b c)(p4:P4 a b c)(p5:P5 a b c)(p6:P6 a b c):∃a b c,P0 a b c/\P1 a b c/\P2 a b c/\P3 a b c/\P4 a b c/\P5 a b c/\P6 a b c:=⟨a,b,c,p0,p1,p2,p3,p4,p5,p6⟩
def m5(h:∃a b c,P0 a b c)(k:∀a b c,P0 a b c->G):G:=h.elim λa h=>h.elim λb h=>h.elim λc h=>k a b c h
def gz(h:∃a b c,P0 a b c/\P1 a b c)(k:∀a b c,P0 a b c->P1 a b c->G):G:=h.elim λa h=>h.elim λb h=>h.elim λc h=>k a b c h.1 h.2
def ez(h:∃a b c,P0 a b c/\P1 a b c/\P2 a b c)(k:∀a b c,P0 a b c->P1 a b c->P2 a b c->G):G:=h.elim λa h=>h.elim λb h=>h.elim λc h=>k a b c h.1 h.2.1 h.2.2
def fH(h:∃a b c,P0 a b c/\P1 a b c/\P2 a b c/\P3 a b c)(k:∀a b c,P0 a b c->P1 a b c->P2 a b c->P3 a b c->G):G:=h.elim λa h=>h.elim λb h=>h.elim λc h=>k a b c h.1 h.2.1 h.2.2.1 h.2.2.2
def oE(h:∃a b c,P0 a b c/\P1 a b c/\P2 a b c/\P3 a b c/\P4 a b c)(k:∀a b c,P0 a b c->P1 a b c->P2 a b c->P3 a b c->P4 a b c->G):G:=h.elim λa h=>h.elim λb h=>h.elim λc h=>k a b c h.1 h.2.1 h.2.2.1 h.2.2.2.1 h.2.2.2.2
def Z5(h:∃a b c,P0 a b c/\P1 a b c/\P2 a b c/\P3 a b c/\P4 a b c/\P5 a b c)(k:∀a b c,P0 a b c->P1 a b c->P2 a b c->P3 a b c->P4 a b c->P5 a b c->G):G:=h.elim λa h=>h.elim λb h=>h.elim λc h=>k a b c h.1 h.2.1 h.2.2.1 h.2.2.2.1 h.2.2.2.2.1 h.2.2.2.2.2
def DH(h:∃a b c,P0 a b c/\P1 a b c/\P2 a b c/\P3 a b c/\P4 a b c/\P5 a b c/\P6 a b c)(k:∀a b c,P0 a b c->P1 a b c->P2 a b c->P3 a b c->P4 a b c->P5 a b c->P6 a b c->G):G:=h.elim λa h=>h.elim λb h=>h.elim λc h=>k a b c h.1 h.2.1 h.2.2.1 h.2.2.2.1 h.2.2.2.2.1 h.2.2.2.2.2.1 h.2.2.2.2.2.2
end
section
variable{P0 P1 P2 P3 P4 P5 P6 P7:A->B->C->D->Prop}
def lu(a:A)(b:B)(c:C)(d:D)(p0:P0 a b c d):∃a b c d,P0 a b c d:=⟨a,b,c,d,p0⟩
def i41(a:A)(b:B)(c:C)(d:D)(p0:P0 a b c d)(p1:P1 a b c d):∃a b c d,P0 a b c d/\P1 a b c d:=⟨a,b,c,d,p0,p1⟩
def rE(a:A)(b:B)(c:C)(d:D)(p0:P0 a b c d)(p1:P1 a b c d)(p2:P2 a b c d):∃a b c d,P0 a b c d/\P1 a b c d/\P2 a b c d:=⟨a,b,c,d,p0,p1,p2⟩
def wj(a:A)(b:B)(c:C)(d:D)(p0:P0 a b c d)(p1:P1 a b c d)(p2:P2 a b c d)(p3:P3 a b c d):∃a b c d,P0 a b c d/\P1 a b c d/\P2 a b c d/\P3 a b c d:=⟨a,b,c,d,p0,p1,p2,p3⟩
def Kl(a:A)(b:B)(c:C)(d:D)(p0:P0 a b c d)(p1:P1 a b c d)(p2:P2 a b c d)(p3:P3 a b c d)(p4:P4 a b c d):∃a b c d,P0 a b c d/\P1 a b c d/\P2 a b c d/\P3 a b c d/\P4 a b c d:=⟨a,b,c,d,p0,p1,p2,p3,p4⟩
def KQ(a:A)(b:B)(c:C)(d:D)(p0:P0 a b c d)(p1:P1 a b c d)(p2:P2 a b c d)(p3:P3 a b c d)(p4:P4 a b c d)(p5:P5 a b c d)(p6:P6 a b c d):∃a b c d,P0 a b c d/\P1 a b c d/\P2 a b c d/\P3 a b c d/\P4 a b c d/\P5 a b c d/\P6 a b c d:=⟨a,b,c,d,p0,p1,p2,p3,p4,p5,p6⟩
def tY(a:A)(b:B)(c:C)(d:D)(p0:P0 a b c d)(p1:P1 a b c d)(p2:P2 a b c d)(p3:P3 a b c d)(p4:P4 a b c d)(p5:P5 a b c d)(p6:P6 a b c d)(p7:P7 a b c d):∃a b c d,P0 a b c d/\P1 a b c d/\P2 a b c d/\P3 a b c d/\P4 a b c d/\P5 a b c d/\P6 a b c d/\P7 a b c d:=⟨a,b,c,d,p0,p1,p2,p3,p4,p5,p6,p7⟩
def DI(h:∃a b c d,P0 a b c d)(k:∀a b c d,P0 a b c d->G):G:=h.elim λa h=>h.elim λb h=>h.elim λc h=>h.elim λd h=>k a b c d h
def me(h:∃a b c d,P0 a b c d/\P1 a b c d/\P2 a b c d)(k:∀a b c d,P0 a b c d->P1 a b c d->P2 a b c d->G):G:=h.elim λa h=>h.elim λb h=>h.elim λc h=>h.elim λd h=>k a b c d h.1 h.2.1 h.2.2
def J7(h:∃a b c d,P0 a b c d/\P1 a b c d/\P2 a b c d/\P3 a b c d)(k:∀a b c d,P0 a b c d->P1 a b c d->P2 a b c d->P3 a b c d->G):G:=h.elim λa h=>h.elim λb h=>h.elim λc h=>h.elim λd h=>k a b c d h.1 h.2.1 h.2.2.1 h.2.2.2
def v4(h:∃a b c d,P0 a b c d/\P1 a b c d/\P2 a b c d/\P3 a b c d/\P4 a b c d)(k:∀a b c d,P0 a b c d->P1 a b c d->P2 a b c d->P3 a b c d->P4 a b c d->G):G:=h.elim λa h=>h.elim λb h=>h.elim λc h=>h.elim λd h=>k a b c d h.1 h.2.1 h.2.2.1 h.2.2.2.1 h.2.2.2.2
def yE(h:∃a b c d,P0 a b c d/\P1 a b c d/\P2 a b c d/\P3 a b c d/\P4 a b c d/\P5 a b c d/\P6 a b c d)(k:∀a b c d,P0 a b c d->P1 a b c d->P2 a b c d->P3 a b c d->P4 a b c d->P5 a b c d->P6 a b c d->G):G:=h.elim λa h=>h.elim λb h=>h.elim λc h=>h.elim λd h=>k a b c d h.1 h.2.1 h.2.2.1 h.2.2.2.1 h.2.2.2.2.1 h.2.2.2.2.2.1 h.2.2.2.2.2.2
def wq(h:∃a b c d,P0 a b c d/\P1 a b c d/\P2 a b c d/\P3 a b c d/\P4 a b c d/\P5 a b c d/\P6 a b c d/\P7 a b c d)(k:∀a b c d,P0 a b c d->P1 a b c d->P2 a b c d->P3 a b c d->P4 a b c d->P5 a b c d->P6 a b c d->P7 a b c d->G):G:=h.elim λa h=>h.elim λb h=>h.elim λc h=>h.elim λd h=>k a b c d h.1 h.2.1 h.2.2.1 h.2.2.2.1 h.2.2.2.2.1 h.2.2.2.2.2.1 h.2.2.2.2.2.2.1 h.2.2.2.2.2.2.2
end
section
variable{P0 P1 P2 P3 P4 P5:A->B->C->D->E->Prop}
def uh(a:A)(b:B)(c:C)(d:D)(e:E)(p0:P0 a b c d e):∃a b c d e,P0 a b c d e:=⟨a,b,c,d,e,p0⟩
def Kj(a:A)(b:B)(c:C)(d:D)(e:E)(p0:P0 a b c d e)(p1:P1 a b c d e):∃a b c d e,P0 a b c d e/\P1 a b c d e:=⟨a,b,c,d,e,p0,p1⟩
def i52(a:A)(b:B)(c:C)(d:D)(e:E)(p0:P0 a b c d e)(p1:P1 a b c d e)(p2:P2 a b c d e):∃a b c d e,P0 a b c d e/\P1 a b c d e/\P2 a b c d e:=⟨a,b,c,d,e,p0,p1,p2⟩
def tX(a:A)(b:B)(c:C)(d:D)(e:E)(p0:P0 a b c d e)(p1:P1 a b c d e)(p2:P2 a b c d e)(p3:P3 a b c d e):∃a b c d e,P0 a b c d e/\P1 a b c d e/\P2 a b c d e/\P3 a b c d e:=⟨a,b,c,d,e,p0,p1,p2,p3⟩
def v3(a:A)(b:B)(c:C)(d:D)(e:E)(p0:P0 a b c d e)(p1:P1 a b c d e)(p2:P2 a b c d e)(p3:P3 a b c d e)(p4:P4 a b c d e):∃a b c d e,P0 a b c d e/\P1 a b c d e/\P2 a b c d e/\P3 a b c d e/\P4 a b c d e:=⟨a,b,c,d,e,p0,p1,p2,p3,p4⟩
def ui(a:A)(b:B)(c:C)(d:D)(e:E)(p0:P0 a b c d e)(p1:P1 a b c d e)(p2:P2 a b c d e)(p3:P3 a b c d e)(p4:P4 a b c d e)(p5:P5 a b c d e):∃a b c d e,P0 a b c d e/\P1 a b c d e/\P2 a b c d e/\P3 a b c d e/\P4 a b c d e/\P5 a b c d e:=⟨a,b,c,d,e,p0,p1,p2,p3,p4,p5⟩
def ZV(h:∃a b c d e,P0 a b c d e)(k:∀a b c d e,P0 a b c d e->G):G:=h.elim λa h=>h.elim λb h=>h.elim λc h=>h.elim λd h=>h.elim λe h=>k a b c d e h
def DZ(h:∃a b c d e,P0 a b c d e/\P1 a b c d e)(k:∀a b c d e,P0 a b c d e->P1 a b c d e->G):G:=h.elim λa h=>h.elim λb h=>h.elim λc h=>h.elim λd h=>h.elim λe h=>k a b c d e h.1 h.2
def DN(h:∃a b c d e,P0 a b c d e/\P1 a b c d e/\P2 a b c d e/\P3 a b c d e)(k:∀a b c d e,P0 a b c d e->P1 a b c d e->P2 a b c d e->P3 a b c d e->G):G:=h.elim λa h=>h.elim λb h=>h.elim λc h=>h.elim λd h=>h.elim λe h=>k a b c d e h.1 h.2.1 h.2.2.1 h.2.2.2
def x54(h:∃a b c d e,P0 a b c d e/\P1 a b c d e/\P2 a b c d e/\P3 a b c d e/\P4 a b c d e)(k:∀a b c d e,P0 a b c d e->P1 a b c d e->P2 a b c d e->P3 a b c d e->P4 a b c d e->G):G:=h.elim λa h=>h.elim λb h=>h.elim λc h=>h.elim λd h=>h.elim λe h=>k a b c d e h.1 h.2.1 h.2.2.1 h.2.2.2.1 h.2.2.2.2
def wn(h:∃a b c d e,P0 a b c d e/\P1 a b c d e/\P2 a b c d e/\P3 a b c d e/\P4 a b c d e/\P5 a b c d e)(k:∀a b c d e,P0 a b c d e->P1 a b c d e->P2 a b c d e->P3 a b c d e->P4 a b c d e->P5 a b c d e->G):G:=h.elim λa h=>h.elim λb h=>h.elim λc h=>h.elim λd h=>h.elim λe h=>k a b c d e h.1 h.2.1 h.2.2.1 h.2.2.2.1 h.2.2.2.2.1 h.2.2.2.2.2
end
section
variable{P0 P1 P2:A->B->C->D->E->F->Prop}
def Df(a:A)(b:B)(c:C)(d:D)(e:E)(f:F)(p0:P0 a b c d e f)(p1:P1 a b c d e f):∃a b c d e f,P0 a b c d e f/\P1 a b c d e f:=⟨a,b,c,d,e,f,p0,p1⟩
def yw(a:A)(b:B)(c:C)(d:D)(e:E)(f:F)(p0:P0 a b c d e f)(p1:P1 a b c d e f)(p2:P2 a b c d e f):∃a b c d e f,P0 a b c d e f/\P1 a b c d e f/\P2 a b c d e f:=⟨a,b,c,d,e,f,p0,p1,p2⟩
def x61(h:∃a b c d e f,P0 a b c d e f/\P1 a b c d e f)(k:∀a b c d e f,P0 a b c d e f->P1 a b c d e f->G):G:=h.elim λa h=>h.elim λb h=>h.elim λc h=>h.elim λd h=>h.elim λe h=>h.elim λf h=>k a b c d e f h.1 h.2
end
section
variable{P0 P1 P2 P3:A->B->C->D->E->F->H->Prop}
def DL(a:A)(b:B)(c:C)(d:D)(e:E)(f:F)(g:H)(p0:P0 a b c d e f g)(p1:P1 a b c d e f g)(p2:P2 a b c d e f g)(p3:P3 a b c d e f g):∃a b c d e f g,P0 a b c d e f g/\P1 a b c d e f g/\P2 a b c d e f g/\P3 a b c d e f g:=⟨a,b,c,d,e,f,g,p0,p1,p2,p3⟩
def Z0(h:∃a b c d e f g,P0 a b c d e f g/\P1 a b c d e f g/\P2 a b c d e f g/\P3 a b c d e f g)(k:∀a b c d e f g,P0 a b c d e f g->P1 a b c d e f g->P2 a b c d e f g->P3 a b c d e f g->G):G:=h.elim λa h=>h.elim λb h=>h.elim λc h=>h.elim λd h=>h.elim λe h=>h.elim λf h=>h.elim λg h=>k a b c d e f g h.1 h.2.1 h.2.2.1 h.2.2.2
end
def A8{P0 P1 P2:A->B->C->D->E->F->H->I->J->K->Prop}(a:A)(b:B)(c:C)(d:D)(e:E)(f:F)(g:H)(i:I)(j:J)(l:K)(p0:P0 a b c d e f g i j l)(p1:P1 a b c d e f g i j l)(p2:P2 a b c d e f g i j l):∃a b c d e f g i j l,P0 a b c d e f g i j l/\P1 a b c d e f g i j l/\P2 a b c d e f g i j l:=⟨a,b,c,d,e,f,g,i,j,l,p0,p1,p2⟩
def WQ{P0 P1 P2:A->B->C->D->E->F->H->I->J->K->Prop}(h:∃a b c d e f g i j l,P0 a b c d e f g i j l/\P1 a b c d e f g i j l/\P2 a b c d e f g i j l)(k:∀a b c d e f g i j l,P0 a b c d e f g i j l->P1 a b c d e f g i j l->P2 a b c d e f g i j l->G):G:=h.elim λa h=>h.elim λb h=>h.elim λc h=>h.elim λd h=>h.elim λe h=>h.elim λf h=>h.elim λg h=>h.elim λi h=>h.elim λj h=>h.elim λl h=>k a b c d e f g i j l h.1 h.2.1 h.2.2
end
inductive V where
 |none|bool (b:Bool)|int (i:Int)|str (s:List Nat)
 |lst (xs:List V)|tup (xs:List V)|fq (es:List (V×V))
 |inst (c:Nat) (fs:List (Str×V))|ptr (i:Nat)
inductive O where
 |dead|lst (xs:List V)|dict (es:List (V×V))|inst (c:Nat) (fs:List (Str×V))
inductive LV where
 |val (v:V)|own (xs:List V)
inductive TV where
 |p (v:V)|f (xs:List V)|b (xs:List V)
inductive Fl|bu|brk|cnt|ret (v:V)
abbrev Lo:=List<|Str×LV
set_option genCtorIdx false in
inductive An where
 |call (n f:Nat) (v:V) (c:List O)
 |ov (n:Nat) (t:TV)
 |br (n:Nat) (b:Bool)
 |wx (fl:Fl) (ρ:Lo) (c:List O)
structure St where
 c:List O
 sc:List An
 P:Prop
noncomputable def lq:List Nat->List Nat->Bool
 |[],[]=>true
 |a::r,b::t=>Nat.beq a b&&lq r t
 |_,_=>false
theorem dR:∀a b:List Nat,lq a b=true↔a=b
 |[],[]=>⟨λ_=>rfl,λ_=>rfl⟩
 |[],_::_=>⟨nj,nofun⟩
 |_::_,[]=>⟨nj,nofun⟩
 |a::r,b::t=>⟨λh=>by
  have q:=cK (show(Nat.beq a b&&lq r t)=true from h);rw[fy q.1,(dR r t).mp q.2],λh=>by
  obtain⟨rfl,rfl⟩:=List.cons.inj h;exact(Bool.and_eq_true_iff.mpr ⟨Nat.beq_refl a,(dR r r).mpr rfl⟩:(Nat.beq a a&&lq r r)=true)⟩
noncomputable def nq(a b:Str):Bool:=lq a.cps.toList b.cps.toList
theorem gJ:nq a b=true↔a=b:=by
 unfold nq;rw[dR];constructor
 ·intro h;cases a;cases b;simpa using h
 ·rintro rfl;rfl
theorem FB(a:Str):nq a a=true:=gJ.mpr rfl
theorem uT(h:nq a b=false):a≠b:=λe=>by rw[gJ.mpr e] at h;cases h
noncomputable def aU{α:Type}(x:Str):List (Str×α)->Option α
 |[]=>none
 |p::r=>bif nq p.1 x then some p.2 else aU x r
noncomputable def db{α:Type}(x:Str)(l:α):List (Str×α)->List (Str×α)
 |[]=>[(x,l)]
 |p::r=>bif nq p.1 x then(p.1,l)::r else p::db x l r
noncomputable def lR(x:Str):List Str->Bool
 |[]=>false
 |y::r=>nq y x||lR x r
noncomputable def hs(s:Str):Nat:=s.cps.toList.foldl (λa c=>(a*257+c)%4294967296) 7
inductive Bi|ord|chr|len|str|int|abs|max|list
set_option genCtorIdx false in
inductive Gl
 |fn (i:Nat)|cls (c:Nat)|tab (v:V)|bi (b:Bi)|mW|m6
set_option genCtorIdx false in
inductive Tr(α:Type)
 |lf|nd (l:Tr α) (k:Nat) (s:Str) (v:α) (r:Tr α)
def Tr.find{α:Type}(h:Nat)(x:Str):Tr α->Option α
 |.lf=>none
 |.nd l k s v r=>bif Nat.beq h k then(bif nq s x then some v else none) else bif Nat.blt h k then l.find h x else r.find h x
structure Fn where
 ps:List Str
 body:List Stmt
 kd:List<|Str×NameKind
noncomputable def hX{α:Type}:Nat->List α->Option α
 |_,[]=>none
 |0,x::_=>some x
 |n+1,_::r=>hX n r
noncomputable def vg(s:Stmt):Option Fn:=match s with
 |.FunctionDef _ args body _ _ _ scope _ _ _=>some ⟨args.args.map (·.arg),body,scope.names⟩
 |_=>none
noncomputable def Bc(s:Stmt):List Stmt:=match s with
 |.ClassDef _ _ _ body _ _ _ _ _ _ _=>body
 |_=>[]
noncomputable def P0:Program:=PySem.Challenge.pw_nt0414_01
def oM(i:Nat):Option Fn:=(hX (i%1000) P0.main.body).bind λs=>match i/1000 with
 |0=>vg s
 |j+1=>(hX j<|Bc s).bind vg
noncomputable def NO:V:=.lst [.int 9,.int 11,.int 12,.int 32,.int 160,.int 5760,.int 6158,.int 8239,.int 8287,.int 12288,.int 65279]
noncomputable def Me:V:=.lst [.int 10,.int 13,.int 8232,.int 8233]
noncomputable def MG:V:=.lst [.tup [.int 170,.int 170],.tup [.int 181,.int 181],.tup [.int 186,.int 186],.tup [.int 192,.int 214],.tup [.int 216,.int 246],.tup [.int 248,.int 705],.tup [.int 880,.int 883],.tup [.int 886,.int 887],.tup [.int 891,.int 893],.tup [.int 902,.int 902],.tup [.int 904,.int 906],.tup [.int 908,.int 908],.tup [.int 910,.int 929],.tup [.int 931,.int 1013],.tup [.int 1015,.int 1153],.tup [.int 1162,.int 1315],.tup [.int 1329,.int 1366],.tup [.int 1377,.int 1415],.tup [.int 1488,.int 1514],.tup [.int 1569,.int 1594],.tup [.int 1601,.int 1610],.tup [.int 2308,.int 2361],.tup [.int 4256,.int 4293],.tup [.int 4304,.int 4346],.tup [.int 7680,.int 7835],.tup [.int 7840,.int 7929],.tup [.int 8544,.int 8578],.tup [.int 12353,.int 12438],.tup [.int 12449,.int 12538],.tup [.int 12549,.int 12588],.tup [.int 19968,.int 40891],.tup [.int 44032,.int 55203]]
noncomputable def Ra:V:=.lst [.tup [.int 768,.int 879],.tup [.int 1632,.int 1641],.tup [.int 2406,.int 2415],.tup [.int 8204,.int 8205],.tup [.int 8255,.int 8256],.tup [.int 8276,.int 8276]]
noncomputable def Mp:V:=.int 9223372036854775808
noncomputable def LG:V:=.int 52
noncomputable def LC:V:=.int 4503599627370495
noncomputable def Lv:V:=.int 4503599627370496
noncomputable def LB:V:=.int 2047
noncomputable def Ly:V:=.int 1075
noncomputable def Lu:V:=.int<|-1074
noncomputable def Tj:V:=.int 0
noncomputable def Wk:V:=.int 9218868437227405312
noncomputable def Lq:V:=.int<|-1074
noncomputable def Lr:V:=.int 4503599627370496
noncomputable def M5:V:=.fq [(.int 8,.str [92,98]),(.int 9,.str [92,116]),(.int 10,.str [92,110]),(.int 11,.str [92,118]),(.int 12,.str [92,102]),(.int 13,.str [92,114]),(.int 34,.str [92,34]),(.int 92,.str [92,92])]
noncomputable def M6:V:=.str [48,49,50,51,52,53,54,55,56,57,97,98,99,100,101,102]
noncomputable def L7:V:=.fq [(.str [124,124],.int 3),(.str [38,38],.int 4),(.str [124],.int 5),(.str [94],.int 6),(.str [38],.int 7),(.str [61,61],.int 8),(.str [33,61],.int 8),(.str [61,61,61],.int 8),(.str [33,61,61],.int 8),(.str [60],.int 9),(.str [62],.int 9),(.str [60,61],.int 9),(.str [62,61],.int 9),(.str [105,110],.int 9),(.str [105,110,115,116,97,110,99,101,111,102],.int 9),(.str [60,60],.int 10),(.str [62,62],.int 10),(.str [62,62,62],.int 10),(.str [43],.int 11),(.str [45],.int 11),(.str [42],.int 12),(.str [47],.int 12),(.str [37],.int 12)]
noncomputable def QV:V:=.int 0
noncomputable def N8:V:=.int 1
noncomputable def Uq:V:=.int 2
noncomputable def O2:V:=.int 13
noncomputable def Nm:V:=.int 14
noncomputable def TP:V:=.int 15
noncomputable def OA:V:=.int 16
noncomputable def NY:V:=.fq [(.str [67,111,109,109,97],.int 0),(.str [65,115,115,105,103,110],.int 1),(.str [67,111,110,100],.int 2),(.str [85,110,97,114,121],.int 13),(.str [67,97,108,108],.int 15)]
noncomputable def Qp:V:=.fq [(.str [78,117,108,108],.str [110,117,108,108]),(.str [84,104,105,115],.str [116,104,105,115])]
noncomputable def OG:V:=.fq [(.str [98],.int 8),(.str [116],.int 9),(.str [110],.int 10),(.str [118],.int 11),(.str [102],.int 12),(.str [114],.int 13)]
noncomputable def Ms:V:=.int 400
noncomputable def Mh:V:=.lst [.str [98,114,101,97,107],.str [99,97,115,101],.str [99,97,116,99,104],.str [99,111,110,116,105,110,117,101],.str [100,101,98,117,103,103,101,114],.str [100,101,102,97,117,108,116],.str [100,101,108,101,116,101],.str [100,111],.str [101,108,115,101],.str [102,105,110,97,108,108,121],.str [102,111,114],.str [102,117,110,99,116,105,111,110],.str [105,102],.str [105,110],.str [105,110,115,116,97,110,99,101,111,102],.str [110,101,119],.str [114,101,116,117,114,110],.str [115,119,105,116,99,104],.str [116,104,105,115],.str [116,104,114,111,119],.str [116,114,121],.str [116,121,112,101,111,102],.str [118,97,114],.str [118,111,105,100],.str [119,104,105,108,101],.str [119,105,116,104],.str [99,108,97,115,115],.str [99,111,110,115,116],.str [101,110,117,109],.str [101,120,112,111,114,116],.str [101,120,116,101,110,100,115],.str [105,109,112,111,114,116],.str [115,117,112,101,114],.str [110,117,108,108],.str [116,114,117,101],.str [102,97,108,115,101]]
noncomputable def NZ:V:=.lst [.str [62,62,62,61],.str [61,61,61],.str [33,61,61],.str [62,62,62],.str [60,60,61],.str [62,62,61],.str [60,61],.str [62,61],.str [61,61],.str [33,61],.str [43,43],.str [45,45],.str [60,60],.str [62,62],.str [38,38],.str [124,124],.str [43,61],.str [45,61],.str [42,61],.str [37,61],.str [38,61],.str [124,61],.str [94,61],.str [47,61],.str [123],.str [125],.str [40],.str [41],.str [91],.str [93],.str [46],.str [59],.str [44],.str [60],.str [62],.str [43],.str [45],.str [42],.str [37],.str [38],.str [124],.str [94],.str [33],.str [126],.str [63],.str [58],.str [61],.str [47]]
noncomputable def LK:V:=.tup [.str [105,109,112,108,101,109,101,110,116,115],.str [105,110,116,101,114,102,97,99,101],.str [108,101,116],.str [112,97,99,107,97,103,101],.str [112,114,105,118,97,116,101],.str [112,114,111,116,101,99,116,101,100],.str [112,117,98,108,105,99],.str [115,116,97,116,105,99],.str [121,105,101,108,100]]
noncomputable def L1:V:=.tup [.str [97,114,103,117,109,101,110,116,115],.str [101,118,97,108]]
noncomputable def Nq:V:=.tup [.str [78,97,109,101],.str [77,101,109,98,101,114],.str [73,110,100,101,120]]
noncomputable def Mr:V:=.fq [(.str [124,124],.int 1),(.str [38,38],.int 2),(.str [124],.int 3),(.str [94],.int 4),(.str [38],.int 5),(.str [61,61],.int 6),(.str [33,61],.int 6),(.str [61,61,61],.int 6),(.str [33,61,61],.int 6),(.str [60],.int 7),(.str [62],.int 7),(.str [60,61],.int 7),(.str [62,61],.int 7),(.str [105,110,115,116,97,110,99,101,111,102],.int 7),(.str [105,110],.int 7),(.str [60,60],.int 8),(.str [62,62],.int 8),(.str [62,62,62],.int 8),(.str [43],.int 9),(.str [45],.int 9),(.str [42],.int 10),(.str [47],.int 10),(.str [37],.int 10)]
noncomputable def L9:V:=.tup [.str [61],.str [43,61],.str [45,61],.str [42,61],.str [47,61],.str [37,61],.str [60,60,61],.str [62,62,61],.str [62,62,62,61],.str [38,61],.str [94,61],.str [124,61]]
noncomputable def LO:V:=.tup [.str [45],.str [43],.str [33],.str [126]]
noncomputable def LU:V:=.tup [.str [116,121,112,101,111,102],.str [118,111,105,100],.str [100,101,108,101,116,101]]
noncomputable def QM:V:=.tup [.str [43,43],.str [45,45]]
noncomputable def L2:V:=.tup [.str [100,111],.str [119,104,105,108,101],.str [102,111,114]]
def Lh:Tr Gl:=.nd (.nd (.nd (.nd (.nd (.nd (.nd (.nd .lf 5800536 "laid_out" (.fn 46) .lf) 17790401 "show_bare" (.fn 67) .lf) 18319321 "show_bits" (.fn 60)<|.nd .lf 18711509 "show_body" (.fn 75) .lf) 35686082 "show_code" (.fn 76)<|.nd (.nd (.nd .lf 64731766 "SIGN_BIT" (.tab Mp) .lf) 70860399 "show_statements" (.fn 77) .lf) 86808265 "show_free" (.fn 79)<|.nd .lf 94747448 "show_numshow" (.fn 48) .lf) 123663844 "INF" (.tab Wk)<|.nd (.nd (.nd (.nd .lf 125254205 "abs" (.bi .abs) .lf) 125387844 "chr" (.bi .chr) .lf) 125785682 "int" (.bi .int)<|.nd .lf 125980491 "law" (.fn 158) .lf) 125981510 "len" (.bi .len)<|.nd (.nd (.nd .lf 126046541 "max" (.bi .max) .lf) 126182988 "ord" (.bi .ord) .lf) 126447712 "str" (.bi .str)<|.nd .lf 150600968 "Token" (.cls 1) .lf) 178407784 "FARTHEST" (.tab Ms)<|.nd (.nd (.nd (.nd (.nd .lf 178556630 "code_at" (.fn 91) .lf) 184495984 "show_key" (.fn 59) .lf) 185093766 "show_try" (.fn 84)<|.nd .lf 188064995 "show_list" (.fn 70) .lf) 188460257 "show_loop" (.fn 82)<|.nd (.nd (.nd .lf 203054211 "shortest" (.fn 42) .lf) 206437536 "hex_figures" (.fn 56) .lf) 217530876 "show_statement" (.fn 80)<|.nd .lf 221484232 "show_name" (.fn 58) .lf) 246537621 "octal_fault" (.fn 121)<|.nd (.nd (.nd (.nd .lf 286362977 "_law_row" (.fn 154) .lf) 308850619 "_law_bits" (.fn 143) .lf) 309242807 "_law_body" (.fn 151)<|.nd .lf 323598828 "show_text" (.fn 57) .lf) 348619311 "LOOP_WORDS" (.tab L2)<|.nd (.nd .lf 357282275 "show_vars" (.fn 78) .lf) 373885777 "signed_exponent" (.fn 44)<|.nd .lf 459970085 "is_id_part" (.fn 12) .lf) 469090313 "target_fault" (.fn 119)<|.nd (.nd (.nd (.nd (.nd (.nd .lf 478991555 "_law_loop" (.fn 156) .lf) 498229830 "show_array" (.fn 68) .lf) 503743873 "signed" (.fn 30)<|.nd .lf 512937903 "_law_node" (.fn 142) .lf) 546490544 "_law_pick" (.fn 141)<|.nd (.nd (.nd .lf 562233589 "delete_fault" (.fn 120) .lf) 563428636 "StmtParser" (.cls 4) .lf) 580841172 "_law_rows" (.fn 152)<|.nd .lf 610939854 "STRICT_WORDS" (.tab LK) .lf) 613862574 "_law_take" (.fn 140)<|.nd (.nd (.nd (.nd .lf 614787516 "_law_told" (.fn 157) .lf) 636856208 "_law_target" (.fn 146) .lf) 647813573 "_law_vars" (.fn 153)<|.nd .lf 665712837 "_law_word" (.fn 144) .lf) 801616581 "is_octal_digit" (.fn 9)<|.nd (.nd .lf 872790937 "_law_values" (.fn 148) .lf) 901595247 "_law_function" (.fn 150)<|.nd .lf 990549510 "params_fault" (.fn 118) .lf) 1018976820 "show_leave" (.fn 81)<|.nd (.nd (.nd (.nd (.nd .lf 1083751132 "OTHERS" (.tab NY) .lf) 1088594067 "with_exponent" (.fn 45) .lf) 1116910281 "SINGLE" (.tab OG)<|.nd .lf 1132809475 "EXPONENT_MASK" (.tab LB) .lf) 1139766563 "name_fault" (.fn 115)<|.nd (.nd (.nd .lf 1173912618 "LETTERS" (.tab MG) .lf) 1224463850 "begins_badly" (.fn 63) .lf) 1236790109 "binding_fault" (.fn 116)<|.nd .lf 1304770760 "hex_value" (.fn 10) .lf) 1403298228 "entry_fault" (.fn 122)<|.nd (.nd (.nd (.nd .lf 1421399012 "PUNCTS" (.tab NZ) .lf) 1461153911 "show_expression" (.fn 66) .lf) 1511906185 "PRIORITY" (.tab Mr)<|.nd .lf 1599639407 "without_figures" (.fn 47) .lf) 1614132259 "CALL" (.tab TP)<|.nd (.nd .lf 1615057451 "COND" (.tab Uq) .lf) 1630811749 "punct_at" (.fn 106)<|.nd .lf 1673646975 "KEYWORDS" (.tab Mh) .lf) 1692742071 "assembled" (.fn 34)<|.nd (.nd (.nd (.nd (.nd (.nd (.nd .lf 1753256077 "show_function" (.fn 74) .lf) 1779275094 "show_unary" (.fn 73) .lf) 1803509538 "parse" (.fn 138)<|.nd .lf 1803509809 "parts" (.fn 31) .lf) 1803897229 "Node" (.cls 0)<|.nd (.nd (.nd .lf 1889466773 "is_negative" (.fn 26) .lf) 1938248468 "range" (.mW) .lf) 2004813639 "ZERO" (.tab Tj)<|.nd .lf 2151034975 "line_end_size" (.fn 93) .lf) 2224112025 "show_access" (.fn 71)<|.nd (.nd (.nd (.nd .lf 2264426985 "from_decimal" (.fn 100) .lf) 2312742595 "list" (.bi .list) .lf) 2347694264 "LINE_ENDS" (.tab Me)<|.nd .lf 2380108454 "pack" (.fn 25) .lf) 2410903591 "width" (.fn 24)<|.nd (.nd (.nd .lf 2413759417 "show_switch" (.fn 83) .lf) 2513675835 "worth" (.fn 99) .lf) 2530889666 "BLANKS" (.tab NO)<|.nd .lf 2551681338 "decimal_place" (.fn 40) .lf) 2648424020 "is_among" (.fn 5)<|.nd (.nd (.nd (.nd (.nd .lf 2671076374 "_law_leave" (.fn 155) .lf) 2686836195 "is_name" (.fn 13) .lf) 2752840820 "COMMA" (.tab QV)<|.nd .lf 2759616457 "STRENGTHS" (.tab L7) .lf) 2772098204 "is_id_start" (.fn 11)<|.nd (.nd (.nd .lf 2782505299 "is_digit" (.fn 8) .lf) 2834853779 "first_place" (.fn 41) .lf) 2836753185 "TARGETS" (.tab Nq)<|.nd .lf 2879280481 "HIDDEN_BIT_numshow" (.tab Lr) .lf) 2890796802 "is_zero" (.fn 29)<|.nd (.nd (.nd (.nd .lf 2963558272 "hex_at" (.fn 92) .lf) 3019711388 "last_figure" (.fn 43) .lf) 3059907613 "_law_plain" (.fn 145)<|.nd .lf 3062223786 "ASSIGNING" (.tab L9) .lf) 3126454188 "show_property" (.fn 69)<|.nd (.nd .lf 3128719160 "isinstance" (.m6) .lf) 3140193996 "ASSIGN" (.tab N8)<|.nd .lf 3150702464 "is_line_end" (.fn 7) .lf) 3176284231 "is_keyword" (.fn 105)<|.nd (.nd (.nd (.nd (.nd (.nd .lf 3263711260 "FIGURES" (.tab M6) .lf) 3278935334 "_law_value" (.fn 147) .lf) 3292115114 "first_twice" (.fn 117)<|.nd .lf 3349053056 "quotient" (.fn 32) .lf) 3360189246 "has_call" (.fn 62)<|.nd (.nd (.nd .lf 3388436437 "accessor_fault" (.fn 123) .lf) 3393068945 "PARTS" (.tab Ra) .lf) 3429134451 "read_escape" (.fn 95)<|.nd .lf 3523892961 "LEAST_POWER_dbits" (.tab Lu) .lf) 3546030584 "show_operation" (.fn 72)<|.nd (.nd (.nd (.nd .lf 3556252380 "LEAST_POWER_numshow" (.tab Lq) .lf) 3578663803 "PLAIN" (.tab Qp) .lf) 3578960505 "UNARY_SIGNS" (.tab LO)<|.nd .lf 3653329535 "is_inf" (.fn 28) .lf) 3653656447 "is_nan" (.fn 27)<|.nd (.nd .lf 3736656135 "Lexer" (.cls 2) .lf) 3767431798 "strength" (.fn 61)<|.nd .lf 3813010789 "from_int" (.fn 35) .lf) 3852806333 "figure_of" (.fn 98)<|.nd (.nd (.nd (.nd (.nd .lf 3872519702 "Jumps" (.cls 3) .lf) 3892405333 "EXPONENT_SHIFT" (.tab Ly) .lf) 3917235862 "STEPS" (.tab QM)<|.nd .lf 3950130838 "UNARY" (.tab O2) .lf) 3951544452 "UNARY_WORDS" (.tab LU)<|.nd (.nd (.nd .lf 3970983402 "octal_escape" (.fn 94) .lf) 3990829294 "FRACTION_BITS" (.tab LG) .lf) 4001833980 "ESCAPED" (.tab M5)<|.nd .lf 4021253248 "_law_object" (.fn 149) .lf) 4048224611 "is_white" (.fn 6)<|.nd (.nd (.nd (.nd .lf 4062118912 "RESTRICTED" (.tab L1) .lf) 4113985727 "MEMBER" (.tab OA) .lf) 4136876852 "POSTFIX" (.tab Nm)<|.nd .lf 4174022502 "HIDDEN_BIT_dbits" (.tab Lv) .lf) 4175807917 "round_ratio" (.fn 33)<|.nd (.nd .lf 4177021160 "FRACTION_MASK" (.tab LC) .lf) 4203390763 "show_printer" (.fn 85)<|.nd .lf 4291712883 "scaled" (.fn 39) .lf
def gT(x:Str):Option Gl:=Lh.find (hs x) x
noncomputable def CE:Tr Nat:=.nd .lf 1116230967 "__init__" 1088 .lf
noncomputable def CC:Tr Nat:=.nd .lf 1116230967 "__init__" 1104 .lf
noncomputable def BX:Tr Nat:=.nd (.nd (.nd (.nd (.nd .lf 584341107 "read_exponent" 14110 .lf) 660139704 "name_sign" 7110 .lf) 954841739 "read_number" 10110<|.nd .lf 1116230967 "__init__" 1110 .lf) 1391051996 "escaped" 18110<|.nd (.nd (.nd .lf 1728391320 "skip_blanks" 5110 .lf) 1964259233 "skip_digits" 9110 .lf) 2005684002 "regex" 15110<|.nd .lf 2185158447 "regex_body" 16110 .lf) 2210364067 "fail" 3110<|.nd (.nd (.nd (.nd .lf 2346428870 "next" 2110 .lf) 2487731363 "read_name" 8110 .lf) 2555291089 "read_decimal" 13110<|.nd .lf 2589845959 "read_text" 17110 .lf) 3449418256 "skip_comment" 6110<|.nd (.nd (.nd .lf 3535502919 "read_hex" 11110 .lf) 3596191301 "end_line" 4110 .lf) 3793714197 "read_octal" 12110<|.nd .lf 4166364204 "read_punct" 19110 .lf
noncomputable def B4:Tr Nat:=.nd (.nd (.nd .lf 1116230967 "__init__" 1124 .lf) 2228315271 "break_fault" 3124 .lf) 2554214786 "label_fault" 2124<|.nd .lf 3916661479 "continue_fault" 4124 .lf
noncomputable def BK:Tr Nat:=.nd (.nd (.nd (.nd (.nd (.nd .lf 40637037 "function" 4136 .lf) 68402339 "need_name" 12126<|.nd .lf 116599405 "function_name" 5136 .lf) 125518145 "eat" 6126<|.nd (.nd .lf 222099646 "need_word" 8126 .lf) 550027505 "element" 3136<|.nd .lf 555834505 "priority" 6133 .lf) 626102448 "case_body" 22136<|.nd (.nd (.nd .lf 665213390 "loop_body" 15136 .lf) 666315419 "conditional" 5133<|.nd .lf 674723442 "end_statement" 16126 .lf) 696097161 "need_target" 4133<|.nd (.nd .lf 884350092 "property_name" 14126 .lf) 1044984338 "block" 10136 .lf) 1079526438 "array" 16133<|.nd (.nd (.nd (.nd .lf 1115222444 "left_hand" 10133 .lf) 1116230967 "__init__" 1126<|.nd .lf 1237200139 "primary" 14133 .lf) 1239855703 "expression" 2133<|.nd (.nd .lf 1281776953 "entry" 18133 .lf) 1308713033 "fail_for" 10126 .lf) 1428621062 "attempt" 23136<|.nd (.nd (.nd .lf 1483132313 "switch" 21136 .lf) 1505467105 "entry_key" 19133<|.nd .lf 1526094868 "postfix" 9133 .lf) 1609751277 "leaving" 20136<|.nd (.nd .lf 1804089792 "variables" 11136 .lf) 1991731979 "word_operand" 15133 .lf) 2004263996 "unexpected" 11126<|.nd (.nd (.nd (.nd (.nd .lf 2053388428 "binary" 7133 .lf) 2067515357 "need_binding" 13126<|.nd .lf 2143389109 "body" 1136 .lf) 2171813234 "choice" 13136<|.nd (.nd .lf 2210364067 "fail" 9126 .lf) 2279584451 "jump" 19136<|.nd .lf 2313137857 "loop" 14136 .lf) 2346423971 "need" 7126<|.nd (.nd (.nd .lf 2360571702 "unary" 8133 .lf) 2373138034 "at_end" 2136<|.nd .lf 2380373164 "peek" 3126 .lf) 2405572672 "assignment" 3133<|.nd (.nd .lf 2420845815 "word_statement" 9136 .lf) 2448008876 "take" 2126 .lf) 2456069084 "statement" 7136<|.nd (.nd (.nd (.nd .lf 2584733287 "for_loop" 16136 .lf) 2689103823 "can_end" 15126<|.nd .lf 2772236019 "is_sign" 4126 .lf) 2816023053 "with_members" 11133<|.nd (.nd .lf 2840533502 "is_word" 5126 .lf) 2975571914 "plain_expression" 8136 .lf) 3341348969 "key_loop" 17136<|.nd (.nd (.nd .lf 3409736764 "labelled" 18136 .lf) 3700370638 "condition" 12136<|.nd .lf 3702803070 "object" 17133 .lf) 3876844347 "parameters" 6136<|.nd (.nd .lf 4106702557 "arguments" 13133 .lf) 4204377692 "creation" 12133 .lf
def mT(c:Nat)(x:Str):Option Nat:=(hX c [CE,CC,BX,B4,BK]).bind λt=>t.find (hs x) x
noncomputable def B5:List<|List Str:=[["kind","line","parts","scope"],["kind","value","line","is_behind_line","start","end","is_octal","is_plain"],["text","at","line"],["labels","loops","switches"],["lexer","token","later","is_strict","depth","jumps","pending"]]
def gn(c:Nat)(f:Str):Bool:=((hX c B5).map<|lR f).getD false
noncomputable def xj:List<|List Nat×List Nat:=[([82,101,116,117,114,110],[114,101,116,117,114,110]),([84,104,114,111,119],[116,104,114,111,119]),([66,114,101,97,107],[98,114,101,97,107]),([67,111,110,116,105,110,117,101],[99,111,110,116,105,110,117,101]),([68,101,98,117,103,103,101,114],[100,101,98,117,103,103,101,114])]
noncomputable def wW:List<|List Nat×List Nat:=[([49],[49]),([50],[50]),([51],[51]),([52],[52]),([53],[53]),([54],[54]),([55],[55]),([56],[56]),([57],[57]),([49,48],[49,48]),([49,49],[49,49]),([49,50],[49,50]),([49,51],[49,51]),([49,52],[49,52]),([49,53],[49,53]),([49,54],[49,54]),([49,55],[49,55]),([49,56],[49,56]),([49,57],[49,57]),([50,48],[50,48]),([48,53],[53]),([49,53],[49,53]),([50,53],[50,53]),([51,53],[51,53]),([52,53],[52,53]),([53,53],[53,53]),([54,53],[54,53]),([55,53],[55,53]),([56,53],[56,53]),([57,53],[57,53])]
abbrev M(α:Type):=Lo->St->Option (α×St)
abbrev Ex:=Lo->St->Option (Fl×Lo×St)
noncomputable def ar{α β:Type}(a:M α)(f:α->Lo->St->Option β):Lo->St->Option β:=λρ σ=>(a ρ σ).bind λq=>f q.1 ρ q.2
noncomputable def aS{α:Type}(o:Option α):M α:=λ_ σ=>o.bind λa=>some (a,σ)
noncomputable def gd{β:Type}(b:Bool)(k:Lo->St->Option β):Lo->St->Option β:=λρ σ=>bif b then k ρ σ else none
noncomputable def no{β:Type}:Lo->St->Option β:=λ_ _=>none
noncomputable def vc{β:Type}(p:Prop)(k:Lo->St->Option β):Lo->St->Option β:=λρ σ=>k ρ ⟨σ.c,σ.sc,p/\σ.P⟩
noncomputable def iP{β:Type}(p:Option Prop)(k:Lo->St->Option β):Lo->St->Option β:=match p with
 |none=>k
 |some p=>vc p k
noncomputable def oV(o:List O->Option TV):M TV:=λ_ σ=>match σ.sc with
 |.ov n t::r=>(match n with
  |0=>some (t,⟨σ.c,r,o σ.c=some t/\σ.P⟩)
  |n+1=>(o σ.c).bind λx=>some (x,⟨σ.c,.ov n t::r,σ.P⟩))
 |_=>(o σ.c).bind λx=>some (x,σ)
noncomputable def iN(b:Bool):M Bool:=λ_ σ=>match σ.sc with
 |.br n v::r=>(match n with
  |0=>some (v,⟨σ.c,r,b=v/\σ.P⟩)
  |n+1=>some (b,⟨σ.c,.br n v::r,σ.P⟩))
 |_=>some (b,σ)
noncomputable def pu{β:Type}(c:List O)(k:Lo->St->Option β):Lo->St->Option β:=λρ σ=>k ρ ⟨c,σ.sc,σ.P⟩
noncomputable def i5{β:Type}(k:List O->Lo->St->Option β):Lo->St->Option β:=λρ σ=>k σ.c ρ σ
noncomputable def TV.v:TV->V
 |.p v=>v
 |.f xs=>.lst xs
 |.b xs=>.lst xs
noncomputable def TV.keep:TV->Option V
 |.p v=>some v
 |.f xs=>some<|.lst xs
 |.b _=>none
noncomputable def TV.yv:TV->Bool
 |.p _=>true
 |_=>false
noncomputable def dY:TV->Option V
 |.p v=>some v
 |_=>none
noncomputable def V.jP:V->Option Bool
 |.bool b=>Option.some b
 |_=>Option.none
noncomputable def V.cw:V->Option Int
 |.int i=>Option.some i
 |_=>Option.none
noncomputable def V.f7:V->Option (List Nat)
 |.str s=>Option.some s
 |_=>Option.none
noncomputable def jP(t:TV):Option Bool:=(dY t).bind V.jP
noncomputable def cw(t:TV):Option Int:=(dY t).bind V.cw
noncomputable def f7(t:TV):Option<|List Nat:=(dY t).bind V.f7
noncomputable def mM{α β:Type}(f:α->Option β):List α->Option (List β)
 |[]=>some []
 |a::r=>(f a).bind λb=>(mM f r).bind λl=>some<|b::l
noncomputable def qR(ts:List TV):Option<|List V:=mM TV.keep ts
noncomputable def LV.tv:LV->TV
 |.val v=>.p v
 |.own xs=>.b xs
noncomputable def ae:Nat:=2^23
noncomputable def dF(a b:Nat):Bool:=Nat.ble a b
noncomputable abbrev dQ(a b:Int):Bool:=PySem.W.Z.leB a b
noncomputable abbrev bA(a b:Int):Bool:=PySem.W.Z.eqB a b
noncomputable abbrev bQ(a b:Int):Bool:=PySem.W.Z.ltB a b
noncomputable def bK{α:Type}(b:Bool)(a:Option α):Option α:=bif b then a else none
def eO(a b:V):Bool:=match a with
 |.str a=>(match b with|.str b=>lq a b|_=>false)
 |.int a=>(match b with|.int b=>bA a b|_=>false)
 |_=>false
noncomputable def sM:V->Bool|.str _=>true|_=>false
noncomputable def F1:V->Bool|.int _=>true|_=>false
def sS(k:V):List (V×V)->Option V
 |[]=>none
 |p::r=>bif eO p.1 k then some p.2 else sS k r
noncomputable def DE(k:V)(es:List<|V×V):Bool:=match k with
 |.str _=>es.all λq=>sM q.1
 |.int _=>es.all λq=>F1 q.1
 |_=>false
def mB(k:V)(es:List<|V×V):Option<|Option V:=bK (DE k es)<|some<|sS k es
def km(k v:V):List (V×V)->List (V×V)
 |[]=>[(k,v)]
 |p::r=>bif eO p.1 k then(p.1,v)::r else p::km k v r
noncomputable def c9:List Nat->List Nat->Bool
 |[],_=>true
 |_::_,[]=>false
 |a::r,b::t=>Nat.beq a b&&c9 r t
noncomputable def cf(sep:List Nat):List (List Nat)->List Nat
 |[]=>[]
 |a::r=>(match r with|[]=>a|_::_=>a++sep++cf sep r)
def ir{α:Type}(xs:List α)(k:Int):Option α:=bif dQ 0 k then xs[k.toNat]? else bif dQ 0 (k+xs.length) then xs[(k+xs.length).toNat]? else none
noncomputable def g9(n:Nat)(k:Int):Nat:=(max 0<|min (if k<0 then k+n else k) (n:Int)).toNat
noncomputable def cU{α:Type}(xs:List α)(lo hi:Option Int):List α:=(xs.take<|hi.elim xs.length<|g9 xs.length).drop<|lo.elim 0<|g9 xs.length
noncomputable def Am(n:Nat):List Nat:=(Nat.toDigits 10 n).map Char.toNat
def FG(i:Int):List Nat:=bif bQ i 0 then 45::Am i.natAbs else Am i.natAbs
noncomputable def nK{α:Type}(n:Nat)(xs:List α):List α:=(List.replicate n xs).flatten
def oe(f:Int->Int->Option Int)(a b:V):Option TV:=a.cw.bind λx=>b.cw.bind λy=>(f x y).bind λz=>some<|.p<|.int z
noncomputable def mr(i:Int):Bool:=Nat.ble (i.natAbs+1)<|2^64
def I3(a b:V):Option<|TV×Option Prop:=match a with
 |.int x=>b.cw.bind λy=>some (.p<|.int<|x+y,none)
 |.str x=>b.f7.bind λy=>some (.p<|.str<|x++y,some<|(x++y).length<=ae)
 |.lst x=>(match b with
  |.lst y=>some (.f<|x++y,some<|(x++y).length<=ae)
  |_=>none)
 |_=>none
def IQ(a b:V):Option TV:=b.cw.bind λy=>match a with
 |.int x=>bK (mr x||mr y)<|some<|.p<|.int<|x*y
 |.str x=>bK (dQ (-1000000) y&&dQ y 1000000&&dF (x.length*y.toNat) ae)<|some<|.p<|.str<|nK y.toNat x
 |.lst x=>bK (dQ (-1000000) y&&dQ y 1000000&&dF (x.length*y.toNat) ae)<|some<|.f<|nK y.toNat x
 |_=>none
def n7:Operator->V->V->Option TV
 |.Sub=>oe λx y=>some<|x-y
 |.FloorDiv=>oe λx y=>bK (bQ 0 y&&dF (y.toNat.log2+1) 9000)<|some<|x/y
 |.Mod=>oe λx y=>bK (bQ 0 y)<|some<|x%y
 |.Pow=>oe λx y=>bK (dQ 0 y&&dQ y 100000&&dF x.natAbs 15)<|some<|x^y.toNat
 |.LShift=>oe λx y=>bK (dQ 0 y&&dQ y 1000000&&mr x)<|some<|x*2^y.toNat
 |.RShift=>oe λx y=>bK (dQ 0 y)<|some<|x/2^y.toNat
 |.BitAnd=>oe λx y=>bK (dQ 0 x&&dQ 0 y)<|some<|Int.ofNat<|x.toNat&&&y.toNat
 |.BitOr=>oe λx y=>bK (dQ 0 x&&dQ 0 y)<|some<|Int.ofNat (x.toNat|||y.toNat)
 |.Mult=>IQ
 |_=>λ_ _=>none
noncomputable def Hx:Operator->Bool
 |.Add=>true
 |_=>false
noncomputable def tU:List Nat->List Nat->Bool
 |[],_=>true
 |_::_,[]=>false
 |a::r,b::t=>bif Nat.beq a b then tU r t else Nat.blt a b
def CN(k:V)(xs:List V):Option Bool:=match k with
 |.str y=>(mM V.f7 xs).bind λl=>some<|l.any λx=>lq x y
 |.int y=>(mM V.cw xs).bind λl=>some<|l.any λx=>bA x y
 |_=>none
noncomputable def hH(c:List O)(i:Nat):Option<|List V:=c[i]?.bind λo=>match o with
 |.lst xs=>some xs
 |_=>none
noncomputable def gv(c:List O)(i:Nat):Option<|List<|V×V:=c[i]?.bind λo=>match o with
 |.dict es=>some es
 |_=>none
noncomputable def jG(c:List O)(i:Nat):Option<|Nat×List (Str×V):=c[i]?.bind λo=>match o with
 |.inst k fs=>some (k,fs)
 |_=>none
def Dx(c:List O)(k d:V):Option Bool:=match d with
 |.str t=>k.f7.bind λs=>(match s with
  |[x]=>some<|t.any<|Nat.beq x
  |_=>none)
 |.ptr i=>(match gv c i with
  |some es=>(mB k es).bind λr=>some r.isSome
  |none=>none)
 |.lst xs=>CN k xs
 |.tup xs=>CN k xs
 |.fq es=>(mB k es).bind λr=>some r.isSome
 |_=>none
noncomputable def V.isNone:V->Bool|.none=>true|_=>false
noncomputable def kU(f:V->V->Bool):List V->List V->Bool
 |[],[]=>true
 |a::r,b::t=>f a b&&kU f r t
 |_,_=>false
def gY:Nat->V->V->Bool
 |0,_,_=>false
 |n+1,a,b=>match a with
  |.none=>b.isNone
  |.bool x=>b.jP.elim false λy=>x==y
  |.int x=>b.cw.elim false λy=>bA x y
  |.str x=>b.f7.elim false λy=>lq x y
  |.lst x=>(match b with|.lst y=>kU (gY n) x y|_=>false)
  |.tup x=>(match b with|.tup y=>kU (gY n) x y|_=>false)
  |_=>false
def eqF(a b:V):Option Bool:=match a with
 |.int x=>b.cw.bind λy=>some<|bA x y
 |.str x=>b.f7.bind λy=>some<|lq x y
 |.tup x=>(match b with|.tup y=>bK (kU (gY 300) x y) (some true)|_=>none)
 |_=>none
def vA(c:List O)(op:CmpOp)(a b:V):Option Bool:=match op with
 |.Eq=>eqF a b
 |.NotEq=>(match a with
  |.int x=>b.cw.bind λy=>some<|!bA x y
  |.str x=>b.f7.bind λy=>some<|!lq x y
  |_=>none)
 |.Lt=>a.cw.bind λx=>b.cw.bind λy=>some<|bQ x y
 |.LtE=>(match a with
  |.int x=>b.cw.bind λy=>some<|dQ x y
  |.str x=>b.f7.bind λy=>some<|tU x y
  |_=>none)
 |.Gt=>a.cw.bind λx=>b.cw.bind λy=>some<|bQ y x
 |.GtE=>a.cw.bind λx=>b.cw.bind λy=>some<|dQ y x
 |.Is=>bK b.isNone<|some a.isNone
 |.IsNot=>bK b.isNone<|some !a.isNone
 |.In=>Dx c a b
 |.NotIn=>(Dx c a b).bind λr=>some !r
def Dj:V->Option (Bool×Bool×Bool)
 |.inst c _=>bK (Nat.beq c 0)<|some (true,false,false)
 |.lst _=>some (false,true,false)
 |.tup _=>some (false,true,false)
 |.bool _=>some (false,false,true)
 |.int _=>some (false,false,false)
 |.str _=>some (false,false,false)
 |.none=>some (false,false,false)
 |_=>none
noncomputable def yb(k:Nat)(t:Bool×Bool×Bool):Bool:=bif Nat.beq k 0 then t.1 else bif Nat.beq k 1 then t.2.1 else t.2.2
def G9(k:Nat)(v:V):Option Bool:=(Dj v).bind λt=>some<|yb k t
def rD{α:Type}(xs:List α)(k:Int):Option α:=bK (dF xs.length ae)<|ir xs k
def GZ(c:List O):V->Option (Nat×List (Str×V))
 |.inst k fs=>some (k,fs)
 |.ptr i=>jG c i
 |_=>none
def u4(c:List O)(f:Str)(v:V):Option V:=(GZ c v).bind λq=>aU f q.2
def pF(c:List O)(a k:V):Option V:=match a with
 |.lst xs=>k.cw.bind λi=>rD xs i
 |.tup xs=>k.cw.bind λi=>rD xs i
 |.str s=>k.cw.bind λi=>(rD s i).bind λx=>some<|.str [x]
 |.fq es=>(mB k es).bind id
 |.ptr j=>(match gv c j with
  |some es=>(mB k es).bind id
  |none=>(hH c j).bind λxs=>k.cw.bind λi=>rD xs i)
 |_=>none
def I2(a:V)(l h:Option Int):Option<|TV×Option Prop:=match a with
 |.str s=>some (.p<|.str<|cU s l h,some<|s.length<=ae)
 |.lst xs=>some (.f<|cU xs l h,some<|xs.length<=ae)
 |_=>none
noncomputable def jX(a b:Int):List V:=(List.range (b-a).toNat).map λ(k:Nat)=>V.int<|a+(k:Int)
noncomputable def AG:V->Option (List V)
 |.lst xs=>some xs
 |.tup xs=>some xs
 |.str s=>some<|s.map λc=>V.str [c]
 |_=>none
def IL(c:List O)(t:TV):Option<|TV×Option Prop:=match t.v with
 |.str s=>some (.p<|.int s.length,some<|s.length<=ae)
 |.lst xs=>some (.p<|.int xs.length,some<|xs.length<=ae)
 |.tup xs=>some (.p<|.int xs.length,some<|xs.length<=ae)
 |.ptr i=>(hH c i).bind λxs=>some (.p<|.int xs.length,none)
 |_=>none
noncomputable def jV{α:Type}:List α->Option α
 |[a]=>some a
 |_=>none
def vN(b:Bi)(ts:List TV)(c:List O):Option<|TV×Option Prop:=match b with
 |.ord=>(jV ts).bind λt=>(f7 t).bind λs=>(jV s).bind λx=>some (.p<|.int x,none)
 |.chr=>(jV ts).bind λt=>(cw t).bind λi=>bK (dQ 0 i&&dQ i 1114111)<|some (.p<|.str [i.toNat],none)
 |.len=>(jV ts).bind λt=>IL c t
 |.str=>(jV ts).bind λt=>(dY t).bind λv=>(match v with
  |.int i=>bK (dF (i.natAbs+1)<|10^400)<|some (.p<|.str<|FG i,none)
  |.str s=>some (.p<|.str s,none)
  |_=>none)
 |.int=>(jV ts).bind λt=>(jP t).bind λb=>some (.p<|.int<|bif b then 1 else 0,none)
 |.abs=>(jV ts).bind λt=>(cw t).bind λi=>some (.p<|.int i.natAbs,none)
 |.max=>(match ts with
  |[s,t]=>(cw s).bind λi=>(cw t).bind λj=>some (.p<|.int<|bif bQ i j then j else i,none)
  |_=>none)
 |.list=>(jV ts).bind λt=>(match t.v with
  |.lst xs=>bK (dF xs.length ae)<|some (.f xs,none)
  |.tup xs=>bK (dF xs.length ae)<|some (.f xs,none)
  |_=>none)
inductive Mt|append|pop|get|startswith|join|lower|lstrip
def mK(m:Str):Option Mt:=
 bif nq m "append" then some .append else bif nq m "startswith" then some .startswith else bif nq m "join" then some .join else bif nq m "get" then some .get
 else bif nq m "pop" then some .pop else bif nq m "lower" then some .lower else bif nq m "lstrip" then some .lstrip else none
def oJ(s:List Nat):List (List Nat×List Nat)->Option (List Nat)
 |[]=>none
 |p::r=>bif lq p.1 s then some p.2 else oJ s r
def ol(s:List Nat)(m:Mt)(ts:List TV):Option<|TV×Option Prop:=match m with
 |.startswith=>(match ts with
  |[t]=>(f7 t).bind λa=>some (.p<|.bool<|c9 a s,none)
  |[t,u]=>(f7 t).bind λa=>(cw u).bind λi=>some (.p<|.bool<|c9 a<|s.drop i.toNat,some<|0<=i/\i<=s.length/\s.length<=ae)
  |_=>none)
 |.join=>(jV ts).bind λt=>(match t.v with
  |.lst xs=>(mM V.f7 xs).bind λls=>bK (dF s.length 100)<|some (.p<|.str<|cf s ls,some<|(cf s ls).length<=ae)
  |_=>none)
 |.lower=>(match ts with
  |[]=>(oJ s xj).bind λr=>some (.p<|.str r,none)
  |_=>none)
 |.lstrip=>(jV ts).bind λt=>(f7 t).bind λa=>bK (lq a [48])<|(oJ s wW).bind λr=>some (.p<|.str r,none)
 |_=>none
def oq(es:List<|V×V)(m:Mt)(ts:List TV):Option TV:=match m with
 |.get=>(match ts with
  |[t,d]=>(dY t).bind λk=>d.keep.bind λd=>(mB k es).bind λr=>some<|.p<|r.getD d
  |_=>none)
 |_=>none
def vj(xs:List V)(m:Mt)(ts:List TV):Option<|TV×List V×Option Prop:=match m with
 |.append=>(jV ts).bind λt=>t.keep.bind λv=>some (.p .none,xs++[v],some<|xs.length<ae)
 |.pop=>(match ts with
  |[]=>xs.getLast?.bind λv=>some (.p v,xs.dropLast,none)
  |[t]=>(cw t).bind λi=>bK (bA i 0) (match xs with|v::r=>some (.p v,r,none)|[]=>none)
  |_=>none)
 |_=>none
def jK(t:TV):M TV:=aS<|some t
noncomputable def adj(c:List O)(i:Nat)(o:O):List O:=c.set i o
def Bf(o:V)(m:Mt)(ts:List TV):M TV:=match o with
 |.str s=>ar (aS<|ol s m ts) λq=>iP q.2<|jK q.1
 |.fq es=>oV λ_=>oq es m ts
 |.ptr i=>i5 λc=>(match gv c i with
  |some es=>oV λ_=>oq es m ts
  |none=>ar (aS<|hH c i) λxs=>ar (aS<|vj xs m ts) λq=>iP q.2.2<|pu (c.set i<|.lst q.2.1)<|jK q.1)
 |_=>no
noncomputable def oH:Option NameKind->Bool
 |some .local=>true
 |some .cell=>true
 |some .free=>true
 |_=>false
noncomputable def gN:Option NameKind->Bool
 |some .local=>true
 |some .cell=>true
 |_=>false
noncomputable def gr(k:NameKind)(o:Option NameKind):Bool:=o.elim false λq=>q==k
abbrev Cx:=List<|Str×NameKind
def gV(x:Str):Bool:= !nq x "__debug__"&& !nq x "__classdict__"
def ny(x:Str):Bool:=lR x ["labels","left","label"]
abbrev Ca:=Nat->List V->St->Option (V×St)
structure dC where
 t:M TV
 b:M Bool
 s:Nat->M (List V)
def yP(t:M TV):M Bool:=ar t λx=>aS<|jP x
def vv(c:List O)(m:Nat):TV->Option (List V)
 |.p v=>(match v with
  |.ptr i=>bK (Nat.beq m 2)<|hH c i
  |v=>(AG v).bind λxs=>bK (dF xs.length ae)<|some xs)
 |.b xs=>bK (!Nat.beq m 0&&dF xs.length ae)<|some xs
 |.f xs=>bK (dF xs.length ae)<|some xs
def C4(t:M TV):Nat->M (List V):=λm=>ar t λx=>i5 λc=>aS<|vv c m x
def df(t:M TV):dC:=⟨t,yP t,C4 t⟩
def gE:dC:=df no
noncomputable def eq:Expr->Bool
 |.Starred .. =>false
 |_=>true
section
variable(C:Ca)(r:Cx->Expr->dC)
def kH(r:Expr->dC):List Expr->M (List TV)
 |[]=>aS<|some []
 |e::es=>gd (eq e)<|ar (r e).t λt=>ar (kH r es) λts=>aS<|some<|t::ts
def rF(vs:List V):Option<|List V:=bK (dF vs.length 1000)<|some vs
def mG(r:Expr->dC)(es:List Expr):M<|List V:=ar (kH r es) λts=>aS<|(qR ts).bind rF
noncomputable def tu:Const->Option V
 |.none=>some .none
 |.bool b=>some<|.bool b
 |.int i=>some<|.int i
 |.str s=>some<|.str s.cps.toList
 |_=>none
noncomputable def Gl.YU:Gl->Option V
 |.tab v=>some v
 |_=>Option.none
def BS(x:Str):M TV:=λρ σ=>(aU x ρ).bind λl=>some (l.tv,σ)
def pj(c:Cx)(x:Str):M TV:=gd (gV x) λρ σ=>bif oH (aU x c) then BS x ρ σ else
 bif gr .globalImplicit (aU x c) then aS ((gT x).bind λg=>g.YU.bind λv=>some<|.p v) ρ σ else none
noncomputable def qA:Expr->Bool
 |.Call f as ks _=>(match f with
  |.Name .. => !(as.isEmpty&&ks.isEmpty)
  |_=>true)
 |_=>true
def vT(v:V):M TV:=aS<|some<|.p v
def H4(d:dC)(f:Str):M TV:=ar d.t λt=>ar (aS<|dY t) λo=>i5 λc=>ar (aS<|u4 c f o) vT
noncomputable def oS(f:Nat)(vs:List V):M V:=λ_ σ=>C f vs σ
noncomputable def Bg(vs:List V):Option V:=match vs with
 |[k,l,p]=>some<|.inst 0 [("kind",k),("line",l),("parts",p),("scope",.none)]
 |_=>none
noncomputable def yf(o:O):M V:=λρ σ=>some (.ptr σ.c.length,⟨σ.c++[o],σ.sc,σ.P⟩)
def xY(v:V):Option Unit:=bK v.isNone<|some ()
def yj(k:Nat)(vs:List V):M TV:=bif Nat.beq k 0 then ar (aS<|Bg vs) vT else
 ar (aS<|mT k "__init__") λf=>ar (yf<|.inst k []) λp=>ar (oS C f<|p::vs) λu=>ar (aS<|xY u) λ_=>vT p
def zA(c:List O)(v:V):Option Nat:=match v with
 |.ptr i=>(jG c i).bind λq=>some q.1
 |_=>none
def o9(c:List O)(v:V):Nat:=match v with
 |.ptr i=>((hH c i).elim 0 λ_=>1)+((gv c i).elim 0 λ_=>2)
 |_=>0
def HJ(d:dC)(m:Str)(es:M<|List TV):M TV:=ar d.t λt=>ar (aS<|dY t) λo=>i5 λcE=>ar es λts=>i5 λiG=>
 (zA cE o).elim (gd (Nat.beq (o9 cE o)<|o9 iG o)<|ar (aS<|mK m) λk=>Bf o k ts)
  λk=>ar (aS<|mT k m) λf=>ar (aS<|qR ts) λvs=>ar (oS C f<|o::vs) vT
def Ko(b:Bi)(es:M<|List TV):M TV:=ar es λts=>i5 λc=>ar (aS<|vN b ts c) λq=>iP q.2<|jK q.1
noncomputable def qH:Expr->Option Str
 |.Name x _=>some x
 |_=>none
noncomputable def G7:Expr->Option (List Expr)
 |.Tuple es _ _=>some es
 |_=>none
def pd(c:Cx)(x:Str)(y:Str):Bool:=nq x y&&gr .globalImplicit (aU x c)
def yl(c:Cx)(e:Expr):Option Nat:=match qH e with
 |some x=>bif pd c x "Node" then some 0 else bK (pd c x "bool") (some 2)
 |none=>(G7 e).bind λes=>match es with
  |[a,b]=>(qH a).bind λx=>(qH b).bind λy=>bK (pd c x "list"&&pd c y "tuple")<|some 1
  |_=>none
def BV(ts:List TV):Option<|List V×Option Prop:=match ts with
 |[t]=>(cw t).bind λn=>some (jX 0 n,some<|-8388608<=n/\n<=(ae:Int))
 |[s,t]=>(cw s).bind λa=>(cw t).bind λb=>some (jX a b,some<|0<=a/\a<=(ae:Int)/\-8388608<=b/\b<=(ae:Int))
 |_=>none
def IK(es:M<|List TV):M<|List V:=ar es λts=>ar (aS<|BV ts) λq=>iP q.2<|aS<|some q.1
def Bx(c:Cx)(x:Str)(es:List Expr):dC:=(gT x).elim gE λg=>match g with
 |.fn i=>df<|ar (mG (r c) es) λvs=>ar (oS C i vs) vT
 |.cls k=>df<|ar (mG (r c) es) λvs=>yj C k vs
 |.bi b=>df<|Ko b<|kH (r c) es
 |.mW=>⟨no,no,λ_=>IK<|kH (r c) es⟩
 |.m6=>(match es with
  |[e,q]=>df<|gd (eq e&&eq q)<|ar (aS<|yl c q) λk=>ar (r c e).t λt=>ar (aS<|dY t) λv=>ar (aS<|G9 k v) λb=>vT<|.bool b
  |_=>gE)
 |.tab _=>gE
def Hk(c:Cx)(f:Expr)(es:List Expr)(ks:List Keyword)(pos:Pos):dC:=match ks with
 |[]=>(match f with
  |.Name x _=>bif gV x&&gr .globalImplicit (aU x c) then Bx C r c x es else gE
  |.Attribute o m gx=>bif qA o&&Nat.blt es.length 30&&Nat.beq gx.endLine pos.line then df (HJ C (r c o) m<|kH (r c) es) else gE
  |_=>gE)
 |_::_=>gE
def Ir(op:Operator)(a b:dC):M TV:=ar a.t λx=>ar b.t λy=>bif Hx op then(ar (aS<|I3 x.v y.v) λq=>iP q.2<|jK q.1) else oV λ_=>n7 op x.v y.v
def bB(d:M Bool):M TV:=ar d λb=>vT<|.bool b
noncomputable def sX:BoolOp->Bool
 |.And=>true
 |.Or=>false
def sP(k:Bool):List dC->M TV
 |[]=>no
 |e::r=>(match r with
  |[]=>e.t
  |_::_=>ar e.t λt=>ar (aS<|jP t) λb=>ar (iN b) λb=>bif b==k then sP k r else vT (.bool b))
def uP(k:Bool):List dC->M Bool
 |[]=>aS<|some k
 |e::r=>ar e.b λb=>ar (iN b) λb=>bif b==k then uP k r else aS (some b)
def ra(op:CmpOp)(x y:TV):M Bool:=i5 λc=>aS<|vA c op x.v y.v
def Jg(l:Expr)(d:Expr->dC)(os:List CmpOp)(rs:List Expr):dC:=match os with
 |[o]=>(match rs with
  |[b]=>bif behindInMarks o b then gE else df (bB<|ar (d l).t λx=>ar (d b).t λy=>ra o x y)
  |_=>gE)
 |[o,o']=>(match rs with
  |[b,b']=>bif lastMarks os rs then gE else df (bB<|ar (d l).t λx=>ar (d b).t λy=>ar (ra o x y) λq=>ar (iN q) λq=>bif q then(ar (d b').t λz=>ra o' y z) else aS (some false))
  |_=>gE)
 |_=>gE
def ty{α:Type}(c:M Bool)(a b:M α):M α:=ar c λq=>ar (iN q) λq=>bif q then a else b
def DT(op:UnaryOp)(d:dC):dC:=match op with
 |.Not=>⟨bB<|ar (ar d.t λt=>aS<|jP t) λb=>aS<|some !b,ar d.b λb=>aS<|some !b,λ_=>no⟩
 |.USub=>df<|ar d.t λt=>ar (aS<|cw t) λi=>vT<|.int<|-i
 |_=>gE
noncomputable def alt:List Expr->List Expr->List Expr
 |[],_=>[]
 |k::ks,vs=>(match vs with
  |[]=>[]
  |v::vs=>k::v::alt ks vs)
noncomputable def rH(σn:Nat):TV->Option (V×List O×Option Prop)
 |.p v=>some (v,[],none)
 |.f xs=>some (.ptr σn,[.lst xs],some<|xs.length<=ae)
 |.b _=>none
def uM(r:Expr->dC):List (Option Expr)->List Expr->M (List<|V×V)
 |[],vs=>gd vs.isEmpty<|aS<|some []
 |k::ks,vs=>k.elim no λk=>(match vs with
  |[]=>no
  |v::vs=>ar (r k).t λa=>ar (aS<|dY a) λa=>ar (r v).t λb=>i5 λc=>ar (aS<|rH c.length b) λq=>iP q.2.2<|pu (c++q.2.1)<|ar (uM r ks vs) λl=>aS<|some<|(a,q.1)::l)
def jC:List (V×V)->Bool
 |[]=>true
 |p::r=>sM p.1&&r.all (λq=> !eO q.1 p.1)&&jC r
def HF(r:Expr->dC)(ks:List<|Option Expr)(vs:List Expr):M TV:=gd (dF ks.length 15)<|ar (uM r ks vs) λl=>gd (jC l)<|ar (yf<|.dict l) vT
def qQ(el:V->M TV)(cn:V->M Bool):List V->M (List V)
 |[]=>aS<|some []
 |v::r=>ar (cn v) λb=>ar (iN b) λb=>bif b then(ar (el v) λt=>ar (aS t.keep) λx=>ar (qQ el cn r) λxs=>aS<|some<|x::xs) else qQ el cn r
def kR{α:Type}(x:Str)(d:M α)(v:V):M α:=λρ σ=>d (db x (.val v) ρ) σ
noncomputable def oi(c:Cx):Cx:=c.map λp=>(p.1,if p.2==.free then .cell else p.2)
def xQ(c:Cx)(scope:Scope)(x:Str):Bool:=scope.kind==.function&&scope.names.all λy=>match y.2 with
 |.cell=>false
 |.local=>gr .local (aU y.1 scope.names)&&(nq y.1 x||nq y.1 ".0")
 |.free=>gr .cell<|aU y.1 c
 |_=>true
noncomputable def w8:Expr->Bool
 |.Set .. =>false
 |_=>true
noncomputable def jY:Expr->Bool
 |.Name .. =>true
 |.Subscript a i _=>(match i with
  |.Constant q _ _=>(match q with
   |.int _=>jY a
   |_=>false)
  |_=>false)
 |_=>false
def Q4{β:Type}(k:Lo->St->Option β):Lo->St->Option β:=λρ σ=>bif (aU ".0" ρ).isNone then k ρ σ else none
def Ho(c:Cx)(e iter:Expr)(ifs:List Expr)(scope:Scope)(x:Str):M TV:=
 gd (gr .local (aU x scope.names)&&xQ c scope x&&w8 iter) (Q4 (match ifs with
  |[]=>ar ((r c iter).s (if jY e then 2 else 1)) λvs=>ar (qQ (kR x (r (oi scope.names) e).t) (λ_=>aS<|some true) vs) λxs=>jK<|.f xs
  |[d]=>ar ((r c iter).s (if jY e&&jY d then 2 else 1)) λvs=>ar (qQ (kR x (r (oi scope.names) e).t) (kR x (r (oi scope.names) d).b) vs) λxs=>jK<|.f xs
  |_=>no))
def xE(c:Cx)(e:Expr)(gs:List Comprehension)(scope:Scope):M TV:=match gs with
 |[g]=>(match g.target with
  |.Name x _=>gd (g.is_async==0)<|Ho r c e g.iter g.ifs scope x
  |_=>no)
 |_=>no
def vC(d:Expr->dC):Option Expr->M (Option Int)
 |none=>aS<|some none
 |some e=>ar (d e).t λt=>ar (aS<|cw t) λi=>aS<|some<|some i
def pO(d:Expr->dC)(a i:Expr):M TV:=match i with
 |.Slice lo hi st _=>(match st with
  |none=>ar (d a).t λx=>ar (vC d lo) λl=>ar (vC d hi) λh=>ar (aS<|I2 x.v l h) λq=>iP q.2<|jK q.1
  |some _=>no)
 |i=>ar (d a).t λx=>ar (d i).t λk=>ar (aS<|dY k) λk=>oV λc=>(pF c x.v k).bind λv=>some<|.p v
def Hm(c:Cx)(e:Expr):dC:=match e with
 |.Constant q _ _=>df<|aS<|(tu q).bind λv=>some<|.p v
 |.Name x _=>df<|pj c x
 |.Attribute o f _=>df<|gd (qA o)<|H4 (r c o) f
 |.Call f es ks pos=>Hk C r c f es ks pos
 |.BinOp a op b _=>df<|Ir op (r c a)<|r c b
 |.UnaryOp op a _=>DT op<|r c a
 |.BoolOp op es _=>⟨sP (sX op)<|es.map<|r c,uP (sX op)<|es.map<|r c,λ_=>no⟩
 |.Compare l os rs _=>Jg l (r c) os rs
 |.IfExp q a b _=>⟨ty (r c q).b (r c a).t (r c b).t,ty (r c q).b (r c a).b (r c b).b,C4<|ty (r c q).b (r c a).t (r c b).t⟩
 |.List es _=>df<|ar (mG (r c) es) λvs=>jK<|.f vs
 |.Tuple es _ _=>df<|ar (mG (r c) es) λvs=>vT<|.tup vs
 |.Dict ks vs _=>df<|HF (r c) ks vs
 |.ListComp e gs scope _=>df<|xE r c e gs scope
 |.Subscript a i _=>df<|pO (r c) a i
 |_=>gE
end
def dn(C:Ca):Nat->Cx->Expr->dC
 |0=>λ_ _=>gE
 |n+1=>Hm C<|dn C n
def lH(c:List O)(f:Str)(v o:V):Option<|List O:=match o with
 |.ptr i=>(jG c i).bind λq=>bK (gn q.1 f&&dF q.2.length 100)<|some<|c.set i<|.inst q.1<|db f v q.2
 |_=>none
def zB(c:List O)(k v o:V):Option<|List O:=match o with
 |.ptr i=>(match gv c i with
  |some es=>k.f7.bind λ_=>bK (DE k es&&dF es.length 100)<|some<|c.set i<|.dict<|km k v es
  |none=>(hH c i).bind λxs=>k.cw.bind λj=>bK (dQ 0 j&&bQ j xs.length)<|some<|c.set i<|.lst<|xs.set j.toNat v)
 |_=>none
abbrev Xl:=Lo->St->Option (Lo×St)
noncomputable def qk(o:List O->Option (List O)):Xl:=λρ σ=>(o σ.c).bind λc=>some (ρ,⟨c,σ.sc,σ.P⟩)
def kW(x:Str)(l:LV):Xl:=λρ σ=>some (db x l ρ,σ)
def oy(hp:Bool)(t:TV)(k:V->Xl):Xl:=bif hp then i5 λc=>ar (aS<|rH c.length t) λq=>iP q.2.2 (pu (c++q.2.1)<|k q.1) else ar (aS t.keep) k
def Ik(k:V):Bool:=match k with
 |.str s=>lq s [108,97,98,101,108,115]
 |_=>false
section
variable(d:Expr->dC)(c:Cx)
def qU(x:Str)(t:TV):Xl:=match t with
 |.f xs=>bif ny x then oy true t λv=>kW x (.val v) else kW x (.own xs)
 |.p v=>kW x<|.val v
 |.b _=>λ_ _=>none
def l9(e:Expr)(t:TV):Xl:=match e with
 |.Name x _=>gd (gN<|aU x c)<|qU x t
 |.Attribute o f _=>oy (ny f) t λv=>ar (d o).t λu=>ar (aS<|dY u) λu=>qk λc=>lH c f v u
 |.Subscript o i _=>ar (d o).t λu=>ar (aS<|dY u) λu=>ar (d i).t λk=>ar (aS<|dY k) λk=>oy (Ik k) t λv=>qk λc=>zB c k v u
 |_=>no
noncomputable def mO(a b:Xl):Xl:=λρ σ=>(a ρ σ).bind λq=>b q.1 q.2
def uR:List Expr->List TV->Xl
 |[],ts=>gd ts.isEmpty λρ σ=>some (ρ,σ)
 |e::es,ts=>match ts with
  |[]=>no
  |t::ts=>mO (l9 d c e t)<|uR es ts
def qW:List TV->Bool
 |[]=>true
 |t::r=>match t with
  |.p _=>qW r
  |.f _=>r.all TV.yv
  |.b _=>false
def iF:List Expr->Option (List Str)
 |[]=>some []
 |e::r=>match e with
  |.Name x _=>bK (gN<|aU x c)<|(iF r).bind λl=>some<|x::l
  |_=>none
def xq:List Str->List V->Xl
 |[],vs=>gd vs.isEmpty λρ σ=>some (ρ,σ)
 |x::xs,vs=>match vs with
  |[]=>no
  |v::vs=>mO (kW x<|.val v)<|xq xs vs
noncomputable def Cj(v:V):Option<|List V:=match v with
 |.tup vs=>some vs
 |.lst vs=>some vs
 |_=>none
def xA(xs:List Str)(v:V):Xl:=ar (aS<|Cj v) λvs=>xq xs vs
noncomputable def bu(x:Xl):Ex:=λρ σ=>(x ρ σ).bind λq=>some (.bu,q.1,q.2)
noncomputable def cb(f:Fl):Ex:=λρ σ=>some (f,ρ,σ)
noncomputable def F0(n:Nat):Expr->Bool
 |.Name _ pos=>pos.line==n
 |_=>false
def zt(bS vs:List Expr)(xs:List Str):Bool:=(bS.length==2||bS.length==3)&&bS.all (F0 ((bS.head?.map (·.pos.line)).getD 0))&&xs.all (λx=>gr .local<|aU x c)&&decide xs.Nodup&&xs.eraseDups.length==xs.length&& !(vs.all<|foldedForSure 8)&& !(vs.all<|constantsAlone 8)
def CY(bS vs:List Expr):Bool:= !(bS.length==2||bS.length==3)||vs.all (foldedForSure 8)||bS.any λe=>match e with
 |.Name x _=>gr .cell<|aU x c
 |_=>true
noncomputable def nW:Expr->Bool
 |.ListComp .. =>false
 |.SetComp .. =>false
 |.DictComp .. =>false
 |_=>true
noncomputable def sL:Expr->Bool
 |.Tuple .. =>false
 |.List .. =>false
 |_=>true
def w5(line:Nat)(te e:Expr):Bool:=match te with
 |.Name x tp=>(match e with
  |.ListComp _ _ scope lp=>gr .local (aU x c)&& !ny x&&Nat.beq tp.line lp.line&& !(scope.names.any λp=>p.1==x&&(p.2==.local||p.2==.cell))
  |_=>false)
 |_=>false
def wH:List Str->List TV->Xl
 |[],ts=>gd ts.isEmpty λρ σ=>some (ρ,σ)
 |x::xs,ts=>match ts with
  |[]=>no
  |t::ts=>mO (qU x t)<|wH xs ts
def IC(te e:Expr)(line:Nat):Xl:=match te with
 |.Tuple bS _ _=>(match e with
  |.Tuple vs _ _=>gd (Nat.beq bS.length vs.length&&dF vs.length 1000&&bS.all eq) (ar (kH d vs) λts=>bif CY c bS vs then gd (qW ts) (uR d c bS ts)
   else ar (aS<|iF c bS) λxs=>gd (zt c bS vs xs&&qW ts.reverse)<|wH xs.reverse ts.reverse)
  |e=>ar (aS<|bK (sL e)<|iF c bS) λxs=>ar (d e).t λt=>xA xs t.v)
 |te=>gd (nW e||w5 c line te e)<|ar (d e).t λt=>l9 d c te t
noncomputable def yx(op:Operator)(a b:Int):Option Int:=match op with
 |.Add=>some<|a+b
 |.Sub=>some<|a-b
 |_=>none
def Im(te:Expr)(op:Operator)(e:Expr):Xl:=match te with
 |.Name x _=>gd (gN (aU x c)&&gV x)<|ar (ar (BS x) λt=>aS<|cw t) λa=>ar (d e).t λt=>ar (aS<|cw t) λb=>ar (aS<|yx op a b) λv=>kW x<|.val<|.int v
 |.Attribute o f _=>ar (d o).t λu=>ar (aS<|dY u) λu=>i5 λcl=>ar (aS<|(u4 cl f u).bind V.cw) λa=>ar (d e).t λt=>ar (aS<|cw t) λb=>ar (aS<|yx op a b) λv=>qk λc=>lH c f (.int v) u
 |_=>no
def B0(x:Str)(k:List V->Ex):Ex:=λρ σ=>match aU x ρ with
 |some (.own xs)=>k xs ρ σ
 |_=>none
def HQ(x m:Str)(e:Expr):Ex:=B0 x λxs=>bif nq m "append" then
    ar (d e).t λt=>ar (aS t.keep) λv=>vc (xs.length<ae)<|bu<|kW x<|.own<|xs++[v]
 else bif nq m "extend" then ar (d e).t λt=>(match t with
  |.f ys=>vc (xs.length+ys.length<ae)<|bu<|kW x<|.own<|xs++ys
  |_=>no) else no
def TZ(x:Str)(ρ:Lo):Bool:=match aU x ρ with
 |some (.own _)=>true
 |_=>false
def pb(e:Expr):Ex:=ar (d e).t λt=>ar (aS<|dY t) λ_=>cb .bu
def Hc(e:Expr):Ex:=match e with
 |.Call f es ks pos=>(match f with
  |.Attribute o m gx=>(match o with
   |.Name x _=>(match es with
    |[a]=>λρ σ=>bif TZ x ρ then gd (ks.isEmpty&&gN (aU x c)&&gV x&&Nat.beq gx.endLine pos.line&&eq a) (HQ d x m a) ρ σ else pb d e ρ σ
    |_=>pb d e)
   |_=>pb d e)
  |_=>pb d e)
 |e=>gd (nW e)<|pb d e
def Av(v:V):M V:=λ_ σ=>match v with
 |.ptr i=>(match jG σ.c i with
  |some (k,fs)=>bif Nat.beq k 1 then some (.inst k fs,⟨σ.c.set i .dead,σ.sc,σ.P⟩) else some (v,σ)
  |none=>some (v,σ))
 |v=>some (v,σ)
noncomputable def nJ:Lo->Lo
 |[]=>[]
 |p::r=>(match p.2 with
  |.own xs=>(p.1,.val<|.lst xs)
  |.val v=>(p.1,.val v))::nJ r
def IS(e:Expr):Ex:=λρ σ=>ar (λ_ σ=>(d e).t (nJ ρ) σ) (λt=>ar (aS t.keep) λv=>ar (Av v) λv=>cb<|.ret v) ρ σ
abbrev Lp:=Lo->List O->Fl->Lo->List O->Prop
noncomputable def D2:List An->Option (Fl×Lo×List O×List An)
 |.wx fl ρ c::r=>some (fl,ρ,c,r)
 |_=>none
noncomputable def uo{α:Sort u}(f:Fl)(n:α)(b:α)(r:V->α):α:=match f with
 |.bu=>n
 |.cnt=>n
 |.brk=>b
 |.ret v=>r v
def nZ(L:Lp)(t:M Bool)(b:Ex):Nat->Ex
 |0=>no
 |n+1=>λρ σ=>match D2 σ.sc with
  |some q=>some (q.1,q.2.1,⟨q.2.2.1,q.2.2.2,L ρ σ.c q.1 q.2.1 q.2.2.1/\σ.P⟩)
  |none=>ar t (λz=>ar (iN z) λz=>bif z then(λρ σ=>(b ρ σ).bind λq=>uo q.1 (nZ L t b n q.2.1 q.2.2) (some (.bu,q.2)) λ_=>some q) else cb .bu) ρ σ
def n8(st:V->Xl)(b:Ex):List V->Ex
 |[]=>cb .bu
 |v::r=>λρ σ=>(st v ρ σ).bind λq=>(b q.1 q.2).bind λq=>uo q.1 (n8 st b r q.2.1 q.2.2) (some (.bu,q.2)) λ_=>some q
def vz(te:Expr)(v:V):Xl:=match te with
 |.Name x _=>gd (gN<|aU x c)<|kW x<|.val v
 |.Tuple bS _ _=>ar (aS<|iF c bS) λxs=>xA xs v
 |_=>no
end
noncomputable def lJ(a b:Ex):Ex:=λρ σ=>(a ρ σ).bind λq=>match q.1 with
 |.bu=>b q.2.1 q.2.2
 |_=>some q
def eN(f:Stmt->Ex):List Stmt->Ex
 |[]=>cb .bu
 |s::r=>lJ (f s)<|eN f r
def UW(L:Stmt->Lp)(d:Expr->dC)(c:Cx)(x:Stmt->Ex)(s:Stmt):Ex:=match s with
 |.Expr e _=>Hc d c e
 |.Assign ts e pos=>(match ts with
  |[te]=>bu<|IC d c te e pos.line
  |_=>no)
 |.AugAssign te op e _=>bu<|Im d c te op e
 |.If q a b _=>ar (d q).b λz=>ar (iN z) λz=>bif z then eN x a else eN x b
 |.While q b o _=>(match o with
  |[]=>nZ (L s) (d q).b (eN x b) 1000
  |_=>no)
 |.For te e b o _=>(match o with
  |[]=>gd (w8 e)<|ar ((d e).s 0) λvs=>n8 (vz c te) (eN x b) vs
  |_=>no)
 |.Return e _=>e.elim (cb<|.ret .none)<|IS d
 |.Break _=>cb .brk
 |.Continue _=>cb .cnt
 |_=>no
def xn(C:Ca)(L:Stmt->Lp)(c:Cx):Nat->Stmt->Ex
 |0=>λ_=>no
 |n+1=>UW L (dn C 30 c) c<|xn C L c n
def pw:List Str->List V->Option Lo
 |[],vs=>bK vs.isEmpty<|some []
 |x::xs,vs=>match vs with
  |[]=>none
  |v::vs=>(pw xs vs).bind λl=>some<|(x,.val v)::l
noncomputable def vi(q:Fl×Lo×St):Option<|V×St:=match q.1 with
 |.bu=>some (.none,q.2.2)
 |.ret v=>some (v,q.2.2)
 |_=>none
def inl(C:Ca)(L:Cx->Stmt->Lp)(fn:Fn)(vs:List V)(σ:St):Option<|V×St:=(pw fn.ps vs).bind λρ=>(eN (xn C (L fn.kd) fn.kd 30) fn.body ρ σ).bind vi
def Ig(C:Ca)(L:Cx->Stmt->Lp):Ca:=λf vs σ=>(oM f).bind λfn=>inl C L fn vs σ
abbrev Di:=Nat->List V->List O->V->List O->Prop
noncomputable def BO(S:Di)(g:Ca):Ca:=λf vs σ=>match σ.sc with
 |.call n h v c::r=>bif Nat.beq f h then(match n with
  |0=>some (v,⟨c,r,S f vs σ.c v c/\σ.P⟩)
  |n+1=>g f vs ⟨σ.c,.call n h v c::r,σ.P⟩) else g f vs σ
 |_=>g f vs σ
def Bs(S:Di)(L:Nat->Cx->Stmt->Lp):Nat->Ca
 |0=>BO S λ_ _ _=>none
 |n+1=>BO S<|Ig (Bs S L n)<|L n
abbrev GM:=Addr->Option Obj
abbrev Ft:=List<|List Addr
def kF(G G':GM):Prop:=∀a o,G a=some o->G' a=some o
structure Wd where
 w:World
 cls:Nat->Addr
 lK:GM
abbrev Wd.M(W:Wd):Model:=model P0 W.w
structure Wo where
 G:GM
 φ:Ft
 s:Shared
abbrev Wo.h(w:Wo):Heap:=w.s.heap
noncomputable abbrev dq(items:List Value)(n:Nat):Obj:={cls:=.type "list",data:=.seq items.toArray n}
noncomputable abbrev lQ(items:List Value)(n:Nat):Obj:={cls:=.type "tuple",data:=.seq items.toArray n}
mutual
inductive VR(W:Wd)(G:GM)(φ:Ft):V->Value->Prop
 |none:VR W G φ .none .none
 |bool (b:Bool):VR W G φ (.bool b) (.bool b)
 |int (i:Int) (t:Tok):VR W G φ (.int i) (.int i t)
 |str (s:List Nat) (t:Tok):VR W G φ (.str s) (.str ⟨s.toArray⟩ t)
 |lst {xs:List V} {items:List Value} {a:Addr} {n:Nat} (ho:G a=some (dq items n)) (h:be W G φ xs items):VR W G φ (.lst xs) (.ref a)
 |tup {xs:List V} {items:List Value} {a:Addr} {n:Nat} (ho:G a=some (lQ items n)) (h:be W G φ xs items):VR W G φ (.tup xs) (.ref a)
 |fq {aO:List (V×V)} {es:List DictEntry} {a:Addr} {n:Nat} (ho:G a=some (dictOf es n)) (h:cZ W G φ aO es) (hs:(a==sysModules)=false):VR W G φ (.fq aO) (.ref a)
 |inst {c:Nat} {fs:List (Str×V)} {es:List DictEntry} {a d:Addr} {n:Nat} (ho:G a=some (instObj (W.cls c) d)) (hd:G d=some (dictOf es n)) (h:dh W G φ fs es) (hf:∀q∈fs,gn c q.1=true):VR W G φ (.inst c fs) (.ref a)
 |ptr {i:Nat} {a:Addr} {r:List Addr} (h:φ[i]? =some (a::r)):VR W G φ (.ptr i) (.ref a)
inductive be(W:Wd)(G:GM)(φ:Ft):List V->List Value->Prop
 |nil:be W G φ [] []
 |cons {v:V} {u:Value} {vs:List V} {us:List Value} (h:VR W G φ v u) (r:be W G φ vs us):be W G φ (v::vs) (u::us)
inductive dh(W:Wd)(G:GM)(φ:Ft):List (Str×V)->List DictEntry->Prop
 |nil:dh W G φ [] []
 |cons {f:Str} {v:V} {hsh:Int} {t:Tok} {u:Value} {fs:List (Str×V)} {es:List DictEntry} (h:VR W G φ v u) (r:dh W G φ fs es):dh W G φ ((f,v)::fs) (⟨hsh,.str f t,u⟩::es)
inductive cZ(W:Wd)(G:GM)(φ:Ft):List (V×V)->List DictEntry->Prop
 |nil:cZ W G φ [] []
 |str {s:List Nat} {v:V} {t:Tok} {u:Value} {aO:List (V×V)} {es:List DictEntry} (h:VR W G φ v u) (r:cZ W G φ aO es):cZ W G φ ((.str s,v)::aO) (⟨hashStr W.w ⟨s.toArray⟩,.str ⟨s.toArray⟩ t,u⟩::es)
 |int {i:Int} {v:V} {t:Tok} {u:Value} {aO:List (V×V)} {es:List DictEntry} (h:VR W G φ v u) (r:cZ W G φ aO es):cZ W G φ ((.int i,v)::aO) (⟨hashInt i,.int i t,u⟩::es)
end
section
variable{W:Wd}{G G':GM}{φ iR:Ft}
def uE(eV:φ<+:iR){i:Nat}(h:φ[i]? =some x):iR[i]? =some x:=by obtain⟨t,rfl⟩:=eV;rw[List.getElem?_append_left (by have:=(List.getElem?_eq_some_iff.mp h).1;exact this)];exact h
theorem VR.mono(hG:kF G G')(eV:φ<+:iR){v:V}(h:VR W G φ v u):VR W G' iR v u:=
 h.rec (motive_1:=λv u _=>VR W G' iR v u) (motive_2:=λv u _=>be W G' iR v u) (motive_3:=λv u _=>dh W G' iR v u) (motive_4:=λv u _=>cZ W G' iR v u)
  .none .bool .int .str (λo _ r=>.lst (hG _ _ o) r) (λo _ r=>.tup (hG _ _ o) r) (λo _ s r=>.fq (hG _ _ o) r s) (λo d _ f r=>.inst (hG _ _ o) (hG _ _ d) r f) (λh=>.ptr<|uE eV h)
  .nil (λ_ _ h r=>.cons h r) .nil (λ_ _ h r=>.cons h r) .nil (λ_ _ h r=>.str h r) (λ_ _ h r=>.int h r)
def VRi(W:Wd)(G:GM)(φ:Ft)(v:V)(u:Value):Prop:=V.casesOn (motive_1:=λ_=>Prop) v (u=.none) (λb=>u=.bool b) (λi=>∃t,u=.int i t) (λs=>∃t,u=.str ⟨s.toArray⟩ t) (λxs=>∃items a n,u=.ref a/\G a=some (dq items n)/\be W G φ xs items) (λxs=>∃items a n,u=.ref a/\G a=some (lQ items n)/\be W G φ xs items)
 (λxs=>∃es a n,u=.ref a/\G a=some (dictOf es n)/\cZ W G φ xs es/\(a==sysModules)=false) (λc fs=>∃es a d n,u=.ref a/\G a=some (instObj (W.cls c) d)/\G d=some (dictOf es n)/\dh W G φ fs es/\∀q∈fs,gn c q.1=true) (λi=>∃a r,u=.ref a/\φ[i]? =some (a::r))
theorem VR.i(h:VR W G φ v u):VRi W G φ v u:=by
 cases h with
 |none=>exact rfl
 |bool=>exact rfl
 |int _ t=>exact⟨t,rfl⟩
 |str _ t=>exact⟨t,rfl⟩
 |lst o h=>exact rt _ _ _ rfl o h
 |tup o h=>exact rt _ _ _ rfl o h
 |fq o h s=>exact jE _ _ _ rfl o h s
 |inst o d h f=>exact Kl _ _ _ _ rfl o d h f
 |ptr h=>exact aW _ _ rfl h
def Zu(W:Wd)(G:GM)(φ:Ft)(vs:List V)(us:List Value):Prop:=List.casesOn (motive:=λ_=>Prop) vs (us=[]) λv vs=>∃u v5,us=u::v5/\VR W G φ v u/\be W G φ vs v5
theorem be.i(h:be W G φ vs us):Zu W G φ vs us:=by
 cases h with
 |nil=>exact rfl
 |cons h r=>exact dA _ _ rfl h r
def Y0(W:Wd)(G:GM)(φ:Ft)(fs:List<|Str×V)(es:List DictEntry):Prop:=List.casesOn (motive:=λ_=>Prop) fs (es=[]) λp fs=>∃hsh t u rW,es=⟨hsh,.str p.1 t,u⟩::rW/\VR W G φ p.2 u/\dh W G φ fs rW
theorem dh.i(h:dh W G φ fs es):Y0 W G φ fs es:=by
 cases h with
 |nil=>exact rfl
 |cons h r=>exact rE _ _ _ _ rfl h r
@[elab_as_elim] theorem be.ind{P:List V->List Value->Prop}(n:P [] [])(c:∀v u vs us,VR W G φ v u->be W G φ vs us->P vs us->P (v::vs) (u::us)):∀{vs:List V} {us:List Value},be W G φ vs us->P vs us:=by
  intro vs;induction vs with
  |nil=>exact λh=>h.i▸n
  |cons v vs ih=>exact λh=>dW h.i λu us e a b=>e▸c v u vs us a b (ih b)
@[elab_as_elim] theorem dh.ind{P:List (Str×V)->List DictEntry->Prop}(n:P [] [])(c:∀p hsh t u fs es,VR W G φ p.2 u->dh W G φ fs es->P fs es->P (p::fs) (⟨hsh,.str p.1 t,u⟩::es)):∀{vs:List<|Str×V} {us:List DictEntry},dh W G φ vs us->P vs us:=by
  intro vs;induction vs with
  |nil=>exact λh=>h.i▸n
  |cons v vs ih=>exact λh=>me h.i λhsh t u us e a b=>e▸c v hsh t u vs us a b (ih b)
@[elab_as_elim] theorem cZ.ind{P:List (V×V)->List DictEntry->Prop}(n:P [] [])(c:∀s v t u aO es,VR W G φ v u->cZ W G φ aO es->P aO es->P ((.str s,v)::aO) (⟨hashStr W.w ⟨s.toArray⟩,.str ⟨s.toArray⟩ t,u⟩::es))(d:∀i v t u aO es,VR W G φ v u->cZ W G φ aO es->P aO es->P ((.int i,v)::aO) (⟨hashInt i,.int i t,u⟩::es)):∀{vs:List<|V×V} {us:List DictEntry},cZ W G φ vs us->P vs us:=λh=>cZ.rec (motive_1:=λ_ _ _=>True) (motive_2:=λ_ _ _=>True) (motive_3:=λ_ _ _=>True) (motive_4:=λvs us _=>P vs us) trivial (λ_=>trivial) (λ_ _=>trivial) (λ_ _=>trivial) (λ_ _ _=>trivial) (λ_ _ _=>trivial) (λ_ _ _ _=>trivial) (λ_ _ _ _ _=>trivial) (λ_=>trivial) trivial (λ_ _ _ _=>trivial) trivial (λ_ _ _ _=>trivial) n (λh r _ ih=>c _ _ _ _ _ _ h r ih) (λh r _ ih=>d _ _ _ _ _ _ h r ih) h
theorem be.mono(hG:kF G G')(eV:φ<+:iR)(h:be W G φ v u):be W G' iR v u:=h.ind .nil λ_ _ _ _ h _ ih=>.cons (h.mono hG eV) ih
theorem dh.mono(hG:kF G G')(eV:φ<+:iR){v:List<|Str×V}(h:dh W G φ v u):dh W G' iR v u:=h.ind .nil λ_ _ _ _ _ _ h _ ih=>.cons (h.mono hG eV) ih
theorem cZ.mono(hG:kF G G')(eV:φ<+:iR){v:List<|V×V}(h:cZ W G φ v u):cZ W G' iR v u:=h.ind .nil (λ_ _ _ _ _ _ h _ ih=>.str (h.mono hG eV) ih) λ_ _ _ _ _ _ h _ ih=>.int (h.mono hG eV) ih
theorem be.length(h:be W G φ vs us):vs.length=us.length:=h.ind rfl λ_ _ _ _ _ _ ih=>congrArg (· +1) ih
def be.append(h':be W G φ v' u')(h:be W G φ v u):be W G φ (v++v')<|u++u':=h.ind h' λ_ _ _ _ h _ ih=>.cons h ih
theorem be.get{j:Nat}(h:be W G φ vs us):vs[j]? =some v->∃u,us[j]? =some u/\VR W G φ v u:=by
 revert j;show∀j:Nat,_;refine h.ind (λ_ e=>ng e) λ_ _ _ _ h _ ih j e=>?_;induction j using Nat.casesAuxOn with
 |zero=>exact zb (aE e)<|au _ rfl h
 |succ j=>exact ih j e
def be.set{y:V}(h':VR W G φ y z)(i:Nat)(h:be W G φ vs us):be W G φ (vs.set i y)<|us.set i z:=by
 revert i;refine h.ind (λ_=>.nil) λ_ _ _ _ h r ih i=>?_;induction i using Nat.casesAuxOn with
 |zero=>exact .cons h' r
 |succ i=>exact .cons h<|ih i
def be.take{vs:List V}(i:Nat)(h:be W G φ vs us):be W G φ (vs.take i)<|us.take i:=by
 revert i;refine h.ind (λi=>by rw[List.take_nil,List.take_nil];exact .nil) λ_ _ _ _ h r ih i=>?_;induction i using Nat.casesAuxOn with
 |zero=>exact .nil
 |succ i=>exact .cons h<|ih i
def be.drop{vs:List V}(i:Nat)(h:be W G φ vs us):be W G φ (vs.drop i)<|us.drop i:=by
 revert i;refine h.ind (λi=>by rw[List.drop_nil,List.drop_nil];exact .nil) λ_ _ _ _ h r ih i=>?_;induction i using Nat.casesAuxOn with
 |zero=>exact .cons h r
 |succ i=>exact ih i
theorem be.rep(h:be W G φ x u)(n:Nat):be W G φ (nK n x)<|nK n u:=by
 induction n with
 |zero=>exact .nil
 |succ n ih=>exact ih.append h
end
def OR(W:Wd)(G:GM)(φ:Ft)(h:Heap):O->List Addr->Prop
 |.dead,_=>True
 |.lst xs,as=>∃a items n,as=[a]/\h.get? a=some (dq items n)/\be W G φ xs items/\G a=none/\xs.length<=ae
 |.dict aO,as=>∃a es n,as=[a]/\h.get? a=some (dictOf es n)/\cZ W G φ aO es/\G a=none/\(a==sysModules)=false/\jC aO=true/\aO.length<=1000
 |.inst c fs,as=>∃a d es n,as=[a,d]/\h.get? a=some (instObj (W.cls c) d)/\h.get? d=some (dictOf es n)/\dh W G φ fs es/\G a=none/\G d=none/\(∀q∈fs,gn c q.1=true)/\es.length<=900
structure cO(w:Wo)(b:Addr)(o:Obj):Prop where
 o:w.h.get? b=some o
 g:w.G b=none
 n:b∉w.φ.flatten
structure aI(W:Wd)(w:Wo)(c:List O):Prop where
 g:∀a o,w.G a=some o->w.h.get? a=some o
 base:kF W.lK w.G
 len:w.φ.length=c.length
 nodup:w.φ.flatten.Nodup
 live:∀a∈w.φ.flatten,∃o,w.h.get? a=some o
 cells:∀(i:Nat) (o:O),c[i]? =some o->∃as,w.φ[i]? =some as/\OR W w.G w.φ w.h o as
structure ch(B:Addr->Prop)(w w':Wo):Prop where
 le:kF w.G w'.G
 pre:w.φ<+:w'.φ
 kp:∀b o,B b->cO w b o->cO w' b o
 al:∀b o,w.h.get? b=some o->∃o',w'.h.get? b=some o'
 sm:w'.s={w.s with heap:=w'.s.heap,toks:=w'.s.toks}
abbrev aQ:Wo->Wo->Prop:=ch λ_=>True
abbrev dI(w:Wo)(a:Addr):Prop:=w.h.get? a=none
def iB(w:Wo):dI w w.h.objs.size:=by unfold dI Heap.get?;simp
def ch.refl(B:Addr->Prop)(w:Wo):ch B w w:=⟨λ_ _ e=>e,eZ _,λ_ _ _ e=>e,λ_ _ e=>⟨_,e⟩,rfl⟩
theorem ch.trans(x:ch B w w')(y:ch B w' gC):ch B w gC:=⟨λa o e=>y.le a o<|x.le a o e,x.pre.trans y.pre,λb o q e=>y.kp b o q<|x.kp b o q e,λb o e=>(x.al b o e).elim λ_ e=>y.al b _ e,by rw[y.sm,x.sm]⟩
def ch.to(x:aQ w w')(B:Addr->Prop):ch B w w':=⟨x.le,x.pre,λb o _ e=>x.kp b o trivial e,x.al,x.sm⟩
def ch.keep(x:aQ w w')(p:cO w b o):cO w' b o:=x.kp b o trivial p
def ch.old(x:ch B w w')(q:dI w' a):dI w a:=by
 cases e:w.h.get? a with
 |none=>exact e
 |some o=>exact(x.al a o e).elim λo' e'=>absurd (e'.symm.trans q) λz=>nh z
def eH(env:Env)(h:Heap)(x:Str)(v:Value):Prop:=
 (env.kindOf x=some .local/\∃m,h.Ns env.locals m/\m x=some v)\/
 ((env.kindOf x=some .cell\/env.kindOf x=some .free)/\∃c,env.cells.lookup x=some c/\h.IsCell c (some v))
def jZ(env:Env)(x:Str):Bool:=oH<|env.kindOf x
noncomputable abbrev fP(env:Env):List Addr:=env.locals::env.cells.map (·.2)
def n6(W:Wd)(w:Wo)(xs:List V)(a:Addr):Prop:=∃items n,cO w a (dq items n)/\be W w.G w.φ xs items
def dj(env:Env)(ρ:Lo)(h:Heap)(x:Str)(a:Addr):Prop:=(∃xs,aU x ρ=some (.own xs))/\jZ env x=true/\eH env h x (.ref a)
structure FR(W:Wd)(B:Addr->Prop)(env:Env)(ρ:Lo)(w:Wo):Prop where
 vals:∀x v,aU x ρ=some (.val v)->jZ env x=true->∃u,eH env w.h x u/\VR W w.G w.φ v u
 gb:∀x xs,aU x ρ=some (.own xs)->jZ env x=true->∃a,eH env w.h x (.ref a)/\n6 W w xs a
 apart:∀x a,dj env ρ w.h x a->a∉fP env/\¬B a
 diff:∀x y a,dj env ρ w.h x a->dj env ρ w.h y a->x=y
 d4:∀b∈fP env,(∃o,cO w b o)/\¬B b
 ns:∃m,w.h.Ns env.locals m
 cells:∀p∈env.cells,∃v,w.h.IsCell p.2 v
 i0:∀b,B b->∃o,cO w b o
def TR(W:Wd)(n w:Wo):TV->Value->Prop
 |.p v,u=>VR W w.G w.φ v u
 |.f xs,u=>∃a,u=.ref a/\n6 W w xs a/\dI n a
 |.b xs,u=>∃a,u=.ref a/\n6 W w xs a
theorem hY{α:Type}{c:α}{l:List<|Str×α}(e:l.lookup x=some c):(x,c)∈l:=(List.lookup_eq_some_iff.mp e).elim λrm h=>h.elim λrh h=>h.1▸ei _ (.head _)
def EH(h:env.cells.lookup x=some c):c∈fP env:=.tail _<|List.mem_map.mpr<|au _ (hY h) rfl
def ch.vr(x:ch B w w')(r:VR W w.G w.φ v u):VR W w'.G w'.φ v u:=r.mono x.le x.pre
def ch.ma(x:ch B w w')(r:be W w.G w.φ v u):be W w'.G w'.φ v u:=r.mono x.le x.pre
def ch.AA(x:aQ w w')(r:n6 W w xs a):n6 W w' xs a:=r.imp λitems r=>r.imp λn r=>⟨x.keep r.1,x.ma r.2⟩
def ch.tr(x:aQ w w')(r:TR W n w t u):TR W n w' t u:=match t,r with
 |.p _,r=>x.vr r
 |.f _,r=>r.imp λa r=>⟨r.1,x.AA r.2.1,r.2.2⟩
 |.b _,r=>r.imp λa r=>⟨r.1,x.AA r.2⟩
theorem TR.le(x:ch B n n')(r:TR W n' w t u):TR W n w t u:=match t,r with
 |.p _,r=>r
 |.f _,r=>r.imp λa r=>⟨r.1,r.2.1,x.old r.2.2⟩
 |.b _,r=>r
def eH.to(k:∀b∈fP env,∀o,h.get? b=some o->h'.get? b=some o)(r:eH env h x u):eH env h' x u:=
 r.imp (λr=>⟨r.1,r.2.imp λm r=>⟨r.1.at' λo e=>k _ (.head _) o e,r.2⟩⟩)
  λr=>⟨r.1,r.2.imp λc r=>⟨r.1,r.2.elim λo q=>(au o (k c (EH r.1) o q.1) q.2)⟩⟩
def eH.uniq(r:eH env h x u)(r':eH env h x u'):u=u':=by
 rcases r with⟨k,m,hm,e⟩|⟨k,c,hc,hv⟩<;>rcases r' with⟨k',m',uq,e'⟩|⟨k',c',dB,nt⟩
 ·refine fH hm λo es ep h1 h2 _ h3=>?_;refine fH uq λo' rW K8 wD rU _ CX=>?_;cases h1.symm.trans wD;cases h2.symm.trans rU;exact aE<|e.symm.trans<|(h3 x).symm.trans<|(CX x).trans e'
 ·rw[k] at k';rcases k' with k'|k'<;>(injection k' with q0;injection q0)
 ·rw[k'] at k;rcases k with k|k<;>(injection k with q0;injection q0)
 ·cases hc.symm.trans dB;refine aA hv λo h1 h2=>?_;refine aA nt λo' wD rU=>?_;cases h1.symm.trans wD;have:=h2.symm.trans rU;simpa using this
def ch.xi(x:ch B' w w')(hb:B' a)(r:n6 W w xs a):n6 W w' xs a:=r.imp λitems r=>r.imp λn r=>⟨x.kp _ _ hb r.1,x.ma r.2⟩
def FR.BL{B':Addr->Prop}(le:kF w.G w'.G)(pre:w.φ<+:w'.φ)(kp:∀b o,B' b->cO w b o->cO w' b o)(F:FR W B env ρ w)(h1:∀b∈fP env,B' b)(h2:∀y a,dj env ρ w.h y a->B' a)(h3:∀b,B b->B' b):FR W B env ρ w'/\∀y a,dj env ρ w'.h y a->dj env ρ w.h y a:=
 have k:∀b∈fP env,∀o,w.h.get? b=some o->w'.h.get? b=some o:=λb hb o e=>(F.d4 b hb).1.elim λo' p=>by cases p.o.symm.trans e;exact(kp _ _ (h1 b hb) p).o
 have kb:∀b∈fP env,∀o,w'.h.get? b=some o->w.h.get? b=some o:=λb hb o e=>(F.d4 b hb).1.elim λo' p=>by cases(kp _ _ (h1 b hb) p).o.symm.trans e;exact p.o
 have ow:∀y a,dj env ρ w'.h y a->dj env ρ w.h y a:=λy a h=>⟨h.1,h.2.1,h.2.2.to kb⟩
 ⟨{vals:=λy v e i=>(F.vals y v e i).imp λu r=>⟨r.1.to k,r.2.mono le pre⟩
   gb:=λy xs e i=>(F.gb y xs e i).imp λa r=>⟨r.1.to k,r.2.imp λitems q=>q.imp λn q=>⟨kp _ _ (h2 y a ⟨⟨xs,e⟩,i,r.1⟩) q.1,q.2.mono le pre⟩⟩
   apart:=λy a h=>F.apart y a<|ow y a h
   diff:=λy z a h h'=>F.diff y z a (ow y a h)<|ow z a h'
   d4:=λb hb=>⟨(F.d4 b hb).1.imp λo p=>kp _ _ (h1 b hb) p,(F.d4 b hb).2⟩
   ns:=F.ns.imp λm h=>h.at' λo e=>k _ (.head _) o e
   cells:=λp hp=>(F.cells p hp).imp λv h=>h.elim λo q=>au o (k _ (.tail _<|List.mem_map.mpr<|au p hp rfl) o q.1) q.2
   i0:=λb hb=>(F.i0 b hb).imp λo p=>kp _ _ (h3 b hb) p},ow⟩
def FR.oT(x:ch B' w w')(F:FR W B env ρ w)(h1:∀b∈fP env,B' b)(h2:∀y a,dj env ρ w.h y a->B' a)(h3:∀b,B b->B' b):FR W B env ρ w'/\∀y a,dj env ρ w'.h y a->dj env ρ w.h y a:=F.BL x.le x.pre x.kp h1 h2 h3
theorem FR.step(x:aQ w w')(F:FR W B env ρ w):FR W B env ρ w':=(F.oT x (λ_ _=>trivial) (λ_ _ _=>trivial) λ_ _=>trivial).1
def Po(W:Wd)(w:Wo)(c:List O){β:Type}(R:Wo->β->Prop)(u:β)(s':Shared):Prop:=∃w',s'=w'.s/\aQ w w'/\aI W w' c/\R w' u
abbrev Ff:Value->Shared->Prop:=λ_ _=>False
def ow{α:Type}(o:Option α)(Q:α->Prop):Prop:=∀q,o=some q->Q q
def Pq(W:Wd)(A:Around)(env:Env){α β:Type}(m:Sem β)(R:Wo->Wo->α->β->Prop)(ρ:Lo)(σ:St)(q:α×St):Prop:=q.2.P->σ.P/\∀B w,aI W w σ.c->FR W B env ρ w->wpAny W.M A m (Po W w q.2.c λw' u=>R w w' q.1 u) Ff w.s
def jS{α β:Type}(W:Wd)(A:Around)(env:Env)(d:M α)(m:Sem β)(R:Wo->Wo->α->β->Prop):Prop:=∀ρ σ,ow (d ρ σ)<|Pq W A env m R ρ σ
abbrev k5(W:Wd)(A:Around)(env:Env)(d:M TV)(m:Sem Value):Prop:=jS W A env d m<|TR W
abbrev J4(_ _:Wo)(b u:Bool):Prop:=u=b
abbrev tD(W:Wd)(A:Around)(env:Env)(d:M Bool)(m:Sem Bool):Prop:=jS W A env d m J4
def Po.use{β:Type}{m:Sem β}{R:Wo->β->Prop}{Q:β->Shared->Prop}(h:wpAny W.M A m (Po W w c R) Ff s)(k:∀u w',aQ w w'->aI W w' c->R w' u->Q u w'.s):wpAny W.M A m Q E s:=wpAny_mono h (λu _ hu=>hu.elim λw' hu=>hu.1▸k u w' hu.2.1 hu.2.2.1 hu.2.2.2) λ_ _ e=>e.elim
theorem Po.mk{β:Type}{R:Wo->β->Prop}{u:β}(x:aQ w w')(r:aI W w' c)(q:R w' u):Po W w c R u w'.s:=js w' rfl x r q
def Po.after{β:Type}{R R':Wo->β->Prop}{u:β}(x:aQ w w')(q:Po W w' c R u s)(k:∀gC,aQ w' gC->R gC u->R' gC u):Po W w c R' u s:=q.imp λgC q=>⟨q.1,x.trans q.2.1,q.2.2.1,k gC q.2.1 q.2.2.2⟩
abbrev Wo.tk(w:Wo)(k:Nat):Wo:=⟨w.G,w.φ,{w.s with toks:=k}⟩
theorem aQ.tk(w:Wo)(k:Nat):aQ w<|w.tk k:=⟨λ_ _ e=>e,eZ _,λ_ _ _ e=>⟨e.o,e.g,e.n⟩,λ_ _ e=>⟨_,e⟩,rfl⟩
theorem aI.tk(r:aI W w c)(k:Nat):aI W (w.tk k) c:=⟨r.g,r.base,r.len,r.nodup,r.live,r.cells⟩
def Po.here{β:Type}{R:Wo->β->Prop}{u:β}(r:aI W w c)(q:R w u):Po W w c R u w.s:=js w rfl (.refl _ _) r q
def Po.jH{β:Type}{R:Wo->β->Prop}{u:β}(r:aI W w c)(q:R (w.tk k) u):Po W w c R u {w.s with toks:=k}:=js (w.tk k) rfl (aQ.tk w k) (r.tk k) q
structure uQ(K:Frag)(C:Addr):Prop where
 ga:findIn K (.ref C) "__getattribute__"=some (some<|.builtin "object.__getattribute__")
 gt:findIn K (.ref C) "__getattr__"=some none
 sa:findIn K (.ref C) "__setattr__"=some (some<|.builtin "object.__setattr__")
 po:plainOver K C=true
 hd:hasDictIn K C=true
structure Hb(W:Wd)(K:Frag)(c:Nat)(fa:Addr):Prop where
 keep:keepIn K (.ref<|W.cls c)=true
 makes:makesIn K (W.cls c)=true
 init:findIn K (.ref<|W.cls c) "__init__"=some (some<|.ref fa)
 fn:typeIn K (.ref fa)=some (.type "function")
noncomputable def t4:Bi->Value
 |.ord=>.builtin "ord"|.chr=>.builtin "chr"|.len=>.builtin "len"|.str=>.type "str"|.int=>.type "int"|.abs=>.builtin "abs"|.max=>.builtin "max"|.list=>.type "list"
noncomputable def BN(C:Addr):List<|Value×Bool×Bool×Bool:=[(.ref C,true,false,false),(.type "list",false,true,false),(.type "tuple",false,true,false),(.type "bool",false,false,true),(.type "int",false,false,false),(.type "str",false,false,false),(.type "NoneType",false,false,false)]
structure A2(W:Wd)(K:Frag):Prop where
 KC:∀q∈BN (W.cls 0),kitOne K q.1 (.ref<|W.cls 0)=some q.2.1/\kitAny K q.1 [.type "list",.type "tuple"]=some q.2.2.1/\kitOne K q.1 (.type "bool")=some q.2.2.2
 own:∀x ox od,KitX K (.ref x) (.ref<|W.cls 0) λh=>InstAt h x ox (W.cls 0)<|some od
structure yn(W:Wd)(fa:Addr)(fn:Fn)(fd:FuncData)(args:List Arg):Prop where
 obj:∃o,W.lK fa=some o/\o.data=.func fd
 params:fd.params=⟨[],args,none,[],[],none,[]⟩
 names:args.map (·.arg)=fn.ps
 dflt:fd.defaults=.none
 JB:fd.closure=[]
 body:fd.body=.stmts fn.body
 code:∃c oc vs t,fd.code=.ref c/\W.lK c=some oc/\oc.data=.fields vs/\vs[1]? =some (.str fd.qualname t)
 glob:fd.globals=mainGlobals
 blt:fd.builtins=builtinsNs
 kind:fd.scope.kind=.function
 co:fd.scope.isCoroutine=false
 gen:fd.scope.isGenerator=false
 kd:fd.scope.names=fn.kd
 nd:(fn.kd.map (·.1)).Nodup
 loc:∀x∈fn.ps,fn.kd.lookup x=some .local\/fn.kd.lookup x=some .cell
 C7:fn.ps.Nodup
structure Sy(W:Wd)(K:Frag)(mg mb:Str->Option Value)(fa:Nat->Addr):Prop where
 hK:∀a o,K.lookup a=some o->W.lK a=some o
 gn:∀c f,gn c f=true->uQ K (W.cls c)/\findIn K (.ref<|W.cls c) f=some none
 La:∀h:Heap,(∀a o,W.lK a=some o->h.get? a=some o)->h.Ns mainGlobals mg
 KV:∀h:Heap,(∀a o,W.lK a=some o->h.get? a=some o)->h.Ns builtinsNs mb
 nolimit:∀h:Heap,(∀a o,W.lK a=some o->h.get? a=some o)->h.NoLimit
 tab:∀x v,gT x=some (.tab v)->∃u,mg x=some u/\VR W W.lK [] v u
 fn:∀x i,gT x=some (.fn i)->mg x=some (.ref<|fa i)/\keepIn K (.ref<|fa i)=true
 cls:∀x k,gT x=some (.cls k)->mg x=some (.ref<|W.cls k)
 init:∀k f,mT k "__init__"=some f->Hb W K k (fa f)
 met:∀k m f,mT k m=some f->findIn K (.ref<|W.cls k) m=some (some<|.ref<|fa f)/\isFn K (.ref<|fa f)=true/\keepIn K (.ref<|fa f)=true/\uQ K (W.cls k)
 bi:∀x b,gT x=some (.bi b)->mg x=none/\mb x=some (t4 b)
 mW:∀x,gT x=some .mW->mg x=none/\mb x=some (.type "range")
 m6:∀x,gT x=some .m6->mg x=none/\mb x=some (.builtin "isinstance")
 tys:(mg "list"=none/\mb "list"=some (.type "list"))/\(mg "tuple"=none/\mb "tuple"=some (.type "tuple"))/\(mg "bool"=none/\mb "bool"=some (.type "bool"))/\mg "Node"=some (.ref<|W.cls 0)
 ins:A2 W K
 sys:∃o,W.lK sysModules=some o
 lows:∀s r,oJ s xj=some r->Txt.lower ⟨s.toArray⟩=⟨r.toArray⟩/\r.length<=100
 Iy:∀s r,oJ s wW=some r->Txt.lstripChars ⟨s.toArray⟩ ⟨#[48]⟩=⟨r.toArray⟩/\s.length<=100
 defs:∀f fn,oM f=some fn->∃fd args,yn W (fa f) fn fd args
structure EnvOk(env:Env):Prop where
 kind:env.scope.kind=.function
 glob:env.globals=mainGlobals
 blt:env.builtins=builtinsNs
structure CxOk(env:Env)(c:Cx):Prop extends EnvOk env where
 kd:∀y q,aU y c=some q->env.kindOf y=some q
 cl:∀y,aU y c=some .cell->∃a,env.cells.lookup y=some a
def bc{α β:Type}{o:Option α}{f:α->Option β}{x:β}(h:o.bind f=some x):∃y,o=some y/\f y=some x:=Option.bind_eq_some_iff.mp h
def cW{α:Type}{o:Option α}{x:α}(h:bK b o=some x):b=true/\o=some x:=by
 induction b with
 |true=>exact⟨rfl,h⟩
 |false=>exact ng h
section
variable{α β:Type}{ρ:Lo}{σ:St}
def bE{a:M α}{f:α->Lo->St->Option β}{P:α×St->Prop}(h:ow (a ρ σ) P)(k:∀x aY,P (x,aY)->ow (f x ρ aY) Q):ow (ar a f ρ σ) Q:=λq e=>(bc e).elim λy e=>k y.1 y.2 (h y e.1) q e.2
def iE{o:Option α}{Q:α×St->Prop}(k:∀y,o=some y->Q (y,σ)):ow (aS o ρ σ) Q:=λq e=>(bc e).elim λy e=>aE e.2▸k y e.1
def cN{o:Option α}{f:α->Lo->St->Option β}{Q:β->Prop}(k:∀y,o=some y->ow (f y ρ σ) Q):ow (ar (aS o) f ρ σ) Q:=λq e=>(bc e).elim λy e=>iE (Q:=λp=>f p.1 ρ p.2=some q->Q q) (λx h e=>k x h q e) y e.1 e.2
def eJ(h:b=true->ow (k ρ σ) Q):ow (gd b k ρ σ) Q:=by
 induction b using Bool.casesOn with
 |true=>exact h rfl
 |false=>exact λ_ e=>ng e
def bD(h:Q q):ow (some q) Q:=λ_ e=>aE e▸h
def f8:ow none Q:=λ_ e=>ng e
def ph(h:b=true->ow x Q)(k:b=false->ow y Q):ow (bif b then x else y) Q:=Bool.casesOn (motive:=λc=>(c=true->ow x Q)->(c=false->ow y Q)->ow (bif c then x else y) Q) b (λ_ k=>k rfl) (λh _=>h rfl) h k
def ij{o:Option α}{f:α->Option β}{Q:β->Prop}(k:∀y,o=some y->ow (f y) Q):ow (o.bind f) Q:=λq e=>(bc e).elim λy e=>k y e.1 q e.2
def fB(h:ow o P)(k:∀q,P q->Q q):ow o Q:=λq e=>k q<|h q e
end
def uA(h:dY t=some v):t=.p v:=by
 induction t using TV.casesOn with
 |p _=>exact congrArg TV.p<|aE h
 |_=>exact ng h
def uG{v:V}(h:v.cw=some i):v=.int i:=by
 induction v using V.casesOn with
 |int _=>exact congrArg V.int<|aE h
 |_=>exact ng h
def uI{v:V}(h:v.f7=some i):v=.str i:=by
 induction v using V.casesOn with
 |str _=>exact congrArg V.str<|aE h
 |_=>exact ng h
def Om{v:V}(h:v.jP=some i):v=.bool i:=by
 induction v using V.casesOn with
 |bool _=>exact congrArg V.bool<|aE h
 |_=>exact ng h
def Oa{t:TV}{b:Bool}(h:jP t=some b):t=.p (.bool b):=(bc h).elim λv h=>Om h.2▸uA h.1
def EW{t:TV}{i:Int}(h:cw t=some i):t=.p (.int i):=(bc h).elim λv h=>uG h.2▸uA h.1
def OD{t:TV}{i:List Nat}(h:f7 t=some i):t=.p (.str i):=(bc h).elim λv h=>uI h.2▸uA h.1
theorem bp(h:(a&&b)):a=true/\b=true:=(cS a b).mp h
theorem oY{α:Type}:∀l:List<|Str×α,aU x l=l.lookup x:=by
 intro l;induction l with
 |nil=>rfl
 |cons p r ih=>
  rw[List.lookup_cons];show(bif nq p.1 x then some p.2 else aU x r)=_;cases q:nq p.1 x with
  |true=>rw[gJ.mp q,beq_self_eq_true];rfl
  |false=>rw[beq_eq_false_iff_ne.mpr λe=>uT q e.symm];exact ih
def zT{α:Type}{v:α}{l:List<|Str×α}(h:aU x l=some v):(x,v)∈l:=hY<|oY l▸h
def wZ(a b:Int):bA a b=true↔a=b:=Z.eqB_iff a b
noncomputable def ti:Str:="/claim/cut.py"
noncomputable def UY:NameKind->Bool
 |.local=>true
 |_=>false
noncomputable def OE(sc:Scope):List Str:=(sc.names.filter λp=>UY p.2).map (·.1)
noncomputable def toks(t:Nat):List Str->List Value
 |[]=>[]
 |x::r=>.str x t::toks (t+1) r
noncomputable def tO(vs:List Value):Obj:={cls:=.type "tuple",data:=.seq vs.toArray}
noncomputable def fO(cls:Value)(vs:List Value):Obj:={cls:=cls,data:=.fields vs.toArray}
noncomputable def zI(i:Int):Value:=.int i 0
def Ia(md:Value)(pre:Str)(a t:Nat)(s:Stmt):List Obj×Nat×Str:=match s with
 |.FunctionDef nm args body _ _ _ sc _ _ pos=>
  let q:=pre++nm;let f (g:Nat) (m c:Value):Data:=.func {name:=nm,qualname:=q,params:=args,body:=.stmts body,scope:=sc,globals:=g,closure:=[],defaults:=.none,kwdefaults:=.none,pyModule:=m,code:=c};let cd (x y z:Value) (k:Nat):Obj:=fO (.type "code") [.str nm t,.str q<|t+1,.str ti<|t+2,zI pos.line,zI args.args.length,zI 0,zI 0,zI 3,.ref a,.bool true,zI 181,.ref<|a+1,.none,x,y,z,zI k,zI pos.line,.str ti<|k+1]
  match sc.more with
  |[]=>let ns:=OE sc
   let k:=t+3+ns.length
   ([tO [],fO .none [],tO<|toks (t+3) ns,tO [],{cls:=.none,data:=f 0 .none .none},cd (.ref<|a+2) (.ref<|a+3) (.ref<|a+4) k,{cls:=.type "function",data:=f 3 md<|.ref<|a+5}],k+2,nm)
  |_=>let k:=t+3
   ([tO [],fO .none [],{cls:=.none,data:=f 0 .none .none},cd .none .none (.ref<|a+2) k,{cls:=.type "function",data:=f 3 md<|.ref<|a+3}],k+2,nm)
 |_=>([],t,"")
noncomputable def iv(P:Params)(x:Str)(t:Nat)(v:Value):DictEntry:=⟨PyData.keyHash P x,.str x t,v⟩
noncomputable def mz(es:List DictEntry)(n:Nat):Obj:={cls:=.type "dict",data:=.dict es.toArray n}
noncomputable def HD:Stmt->Pos
 |.FunctionDef _ _ _ _ _ _ _ _ _ pos=>pos
 |.ClassDef _ _ _ _ _ _ _ _ _ _ pos=>pos
 |_=>default
def G6(P:Params)(md:Value)(pre:Str):List Stmt->Nat->Nat->List Obj×List DictEntry×List Value×Nat×Nat
 |[],a,t=>([],[],[],a,t)
 |s::r,a,t=>
  let q:=Ia md pre a t s;let e:=a+q.1.length;let z:=G6 P md pre r e<|q.2.1+1
  (q.1++z.1,iv P q.2.2 q.2.1 (.ref<|e-1)::z.2.1,zI (HD s).line::zI 4::.ref (e-2)::z.2.2.1,z.2.2.2)
def GD(x:Str)(t:Nat)(c:Value)(g s:Value):Obj:=fO (.type "getset_descriptor") [.str x t,c,g,s]
def U2(P:Params)(md:Value)(k:Nat)(bases mro subs:List Value)(a t:Nat)(s:Stmt):List Obj×Nat×Str:=match s with
 |.ClassDef nm _ _ body _ _ _ _ _ sa pos=>
  let m:=G6 P md (nm++".") body (a+7)<|t+12;let b:=m.2.2.2.1;let u:=m.2.2.2.2;let v:=u+sa.length;let c:=Value.ref<|b+2;let e1:=iv P "__module__" (t+7) md;let e2:=iv P "__firstlineno__" (t+11)<|.int pos.line<|t+10;let e3:=m.2.1++[iv P "__static_attributes__" v<|.ref b];let Cu (ns:Nat):Obj:={cls:=.type "type",data:=.cls {name:=nm,bases:=bases,mro:=c::mro,ns:=ns,qualname:=nm,subclasses:=subs},slots:= #[match k with|0=>none|_=>some<|.ref a,none,some<|.str nm t,some<|.str nm<|t+8,some<|.builtin (match k with|1=>"Exception.__new__"|_=>"object.__new__"),some<|.bool true]}
  let uY:List Obj:=[tO (match k with|0=>[]|_=>bases),fO (.type "builtin_function_or_method") [.builtin "type.__prepare__",.type "type"],mz (e1::iv P "__qualname__" (t+9) (.str nm<|t+8)::e2::e3)<|m.2.1.length+4,tO [],fO .none m.2.2.1,
   fO (.type "code") [.str nm<|t+2,.str nm<|t+3,.str ti<|t+4,zI pos.line,zI 0,zI 0,zI 0,zI 0,.ref<|a+3,.bool false,zI 181,.ref<|a+4,.none,.none,.none,.none,zI<|t+5,zI pos.line,.str ti<|t+6],
   {cls:=.type "frame",slots:= #[some<|.ref<|a+5,some<|.ref 3,some<|.ref<|a+2,none,some md,none,some<|.ref 0]}]
  let weak (x:Nat):Obj:=GD "__weakref__" x c (.builtin "ExceptionGroup.__weakref__") .none;let back:List Obj:=[fO (.type "super") [c,c,c],fO (.type "builtin_function_or_method") [.builtin "object.__init_subclass__",c]]
  match k with
  |0=>(uY++m.1++[tO<|toks u sa,mz (e1::e2::e3++[iv P "__dict__" (v+2)<|.ref<|b+3,iv P "__weakref__" (v+4)<|.ref<|b+4,iv P "__doc__" (v+5) .none]) 4,Cu<|b+1,GD "__dict__" (v+1) c (.builtin "function.__dict__")<|.builtin "function.__dict__#set",weak<|v+3]++back,v+7,nm)
  |1=>(uY++m.1++[tO<|toks u sa,mz (e1::e2::e3++[iv P "__weakref__" (v+2)<|.ref<|b+3,iv P "__doc__" (v+3) .none]) 3,Cu<|b+1,weak<|v+1]++back,v+7,nm)
  |_=>(uY++m.1++[tO<|toks u sa,mz (e1::e2::e3++[iv P "__doc__" (v+1) .none]) 2,Cu<|b+1]++back,v+3,nm)
 |_=>([],t,"")
noncomputable def lO(vs:List Value):Obj:={cls:=.type "list",data:=.seq vs.toArray}
def yc:Nat->Expr->Nat->Nat->Value×List Obj×Nat×Nat
 |0,_,a,t=>(.none,[],a,t)
 |n+1,e,a,t=>
  let items (es:List Expr):List Value×List Obj×Nat×Nat:=es.foldl (λq e=>let z:=yc n e q.2.2.1 q.2.2.2;(q.1++[z.1],q.2.1++z.2.1,z.2.2)) ([],[],a,t)
  match e with
  |.Constant (.int i) _ _=>(.int i t,[],a,t+1)
  |.Constant (.str s) _ _=>(.str s t,[],a,t+1)
  |.Tuple es _ _=>let q:=items es;(.ref q.2.2.1,q.2.1++[tO q.1],q.2.2.1+1,q.2.2.2)
  |.List es _=>let q:=items es;(.ref q.2.2.1,q.2.1++[lO q.1],q.2.2.1+1,q.2.2.2)
  |_=>(.none,[],a,t)
noncomputable def BC:Stmt->Expr
 |.Assign _ e _=>e
 |_=>.Constant .none 0 default
def XD(P:Params)(k v:Value):DictEntry:=match k with
 |.str x t=>iv P x t v
 |.int i t=>⟨hashInt i,.int i t,v⟩
 |k=>⟨0,k,v⟩
noncomputable def Y1:Option Expr->Expr
 |some e=>e
 |none=>.Constant .none 0 default
def w1(P:Params)(w:Nat):List (Option Expr)->List Expr->Nat->List DictEntry
 |k::ks,vs,t=>match vs with
  |v::vs=>XD P (yc 1 (Y1 k) 0 t).1 (yc 1 v 0<|t+1).1::w1 P w ks vs (t+w)
  |[]=>[]
 |[],_,_=>[]
def Ww(P:Params)(t:Nat)(s:Stmt):List Obj×Nat:=match BC s with
 |.Dict ks vs _=>
  let n:=ks.length
  bif Nat.ble n 15 then([mz (w1 P 2 ks vs t) n],t+3*n)
  else
   let u:=t+3*17;let tl:=w1 P 2 (ks.drop 17) (vs.drop 17) u
   ([mz (w1 P 3 (ks.take 17) (vs.take 17) t++tl) n,mz tl<|n-17],u+3*(n-17))
 |_=>([],t)
noncomputable def vG:BT->Nat->List Obj->BT
 |T,_,[]=>T
 |T,i,o::r=>vG (T.ins i o) (i+1) r
noncomputable def TU(v:Value)(o:Obj):Obj:=match o.data with
 |.cls c=>{o with data:=.cls {c with subclasses:=c.subclasses++[v]}}
 |_=>o
noncomputable def PW(v:Value):List Value->BT->BT
 |[.ref b],T=>T.set b<|TU v
 |_,T=>T
structure TS where
 a:Nat
 t:Nat
 md:Value
 ns:List DictEntry
 qt:List Value
 tr:BT
noncomputable def YJ:List<|Nat×Int×Nat:=[(15,9223372036854775808,357),(17,4503599627370495,365),(18,4503599627370496,369),(21,(-1074),376),(23,9218868437227405312,382),(37,(-1074),489),(38,4503599627370496,493)]
noncomputable def Yp:List<|Nat×Nat×List Value×List Value×List Value:=[(88,0,[.type "object"],[.type "object"],[]),(104,0,[.type "object"],[.type "object"],[]),(108,1,[.type "Exception"],[.type "Exception",.type "BaseException",.type "object"],[]),(110,0,[.type "object"],[.type "object"],[]),(124,0,[.type "object"],[.type "object"],[]),
 (126,0,[.type "object"],[.type "object"],[]),(133,2,[.ref 966],[.ref 966,.type "object"],[]),(136,2,[.ref 1119],[.ref 1119,.ref 966,.type "object"],[])]
noncomputable def yD{α:Type}(i:Nat):List (Nat×α)->Option α
 |[]=>none
 |p::r=>bif Nat.beq p.1 i then some p.2 else yD i r
noncomputable def vO:Stmt->Str
 |.Assign [.Name x _] _ _=>x
 |_=>""
def IN(P:Params)(x:Str)(t:Nat)(v:Value):List DictEntry->List DictEntry
 |[]=>[iv P x t v]
 |e::r=>bif (match e.key with|.str y _=>nq y x|_=>false) then {e with val:=v}::r else e::IN P x t v r
def KP(x:Str):List DictEntry->Value
 |[]=>.none
 |e::r=>bif (match e.key with|.str y _=>nq y x|_=>false) then e.val else KP x r
def qY(P:Params)(q:TS)(x:Str)(o:List Obj)(v:Value)(t:Nat):TS:={q with a:=q.a+o.length,t:=t+1,ns:=iv P x t v::q.ns,tr:=vG q.tr q.a o}
noncomputable def TJ:List Str:=["COMMA","ASSIGN","COND","UNARY","POSTFIX","CALL","MEMBER"]
def B1(P:Params):List Str->Nat->List Value->List DictEntry
 |x::xs,t,vs=>match vs with
  |v::vs=>iv P x t v::B1 P xs (t+1) vs
  |[]=>[]
 |[],_,_=>[]
def Q1(P:Params)(i:Nat)(s:Stmt)(q:TS):TS:=match s with
 |.FunctionDef _ _ _ _ _ _ _ _ bind pos=>
  let z:=Ia q.md "" q.a q.t s;let v:=Value.ref<|q.a+z.1.length-1;let r:=bif Nat.beq i 85 then {q with a:=q.a+z.1.length,t:=z.2.1+1,ns:=IN P bind z.2.1 v q.ns,tr:=vG q.tr q.a z.1} else qY P q bind z.1 v z.2.1
  {r with qt:=.ref (r.a-2)::zI 0::zI pos.line::q.qt}
 |.ClassDef _ _ _ _ _ _ _ _ bind _ pos=>match yD i Yp with
  |some c=>
   let z:=U2 P q.md c.1 c.2.1 c.2.2.1 c.2.2.2 q.a q.t s;let back:=match c.1 with|0=>5|1=>4|_=>3
   let r:=qY P q bind z.1 (.ref<|q.a+z.1.length-back) z.2.1
   {r with qt:=.ref (q.a+5)::zI 0::zI pos.line::q.qt,tr:=PW (.ref<|q.a+z.1.length-back) c.2.1 r.tr}
  |none=>q
 |s=>bif Nat.beq i 54 then
   let vs:List Value:=[.int 0 700,.int 1 701,.int 2 702,.int 13 703,.int 14 704,.int 15 705,.int 16 706]
   {q with a:=q.a+4,t:=714,ns:=(B1 P TJ 707 vs).reverse++q.ns,tr:=vG q.tr q.a [tO vs,fO (.type "tuple_iterator") [.none,zI 7],tO [],fO (.type "StopIteration") [.ref<|q.a+2,.none,.none,.none,.bool false,.none]]}
  else bif Nat.beq i 55 then qY P q (vO s) [mz (B1 P ["Comma","Assign","Cond","Unary","Call"] 714 [.int 0 700,.int 1 701,.int 2 702,.int 13 703,.int 15 705]) 5] (.ref q.a) 724
  else match yD i YJ with
  |some c=>qY P q (vO s) [] (.int c.1<|c.2-2)<|c.2-1
  |none=>match BC s with
   |.Name y _=>qY P q (vO s) [] (KP y q.ns) q.t
   |.Dict .. =>let z:=Ww P q.t s;qY P q (vO s) z.1 (.ref q.a) z.2
   |_=>
    let z:=yc 5 (BC s) q.a q.t
    match vO s with
    |x=>bif nq x "__name__" then {q with t:=q.t+2,md:=z.1} else qY P q x z.2.1 z.1 z.2.2.2
def kN(P:Params):List Stmt->Nat->TS->TS
 |[],_,q=>q
 |s::r,i,q=>kN P r (i+1)<|Q1 P i s q
def JP(P:Params)(q:TS):List DictEntry:=match(boot_o_3 P).data with
 |.dict es _=>(match es.toList with|e::r=>{e with val:=q.md}::r|[]=>[])++q.ns.reverse
 |_=>[]
def o3(P:Params)(q:TS):Obj:=mz (JP P q)<|9+q.ns.length
def o2(P:Params)(t:Nat):Obj:=bif Nat.ble t 1247 then boot_o_2 P else {boot_o_2 P with data:=.dict #[iv P "type.__subclasses__.Exception.0" 1274<|zI 592,iv P "type.__subclasses__.Exception.n" 1275<|zI 1] 2}
def ZK:Obj:=fO (.type "code") [.str "<module>" 182,.str "<module>" 183,.str ti 184,zI 1,zI 0,zI 0,zI 0,zI 0,.ref 11,.bool false,zI 181,.ref 12,.none,.none,.none,.none,zI 185,zI 1,.str ti 186]
noncomputable def o14:Obj:={cls:=.type "frame",slots:= #[some<|.ref 13,some<|.ref 3,some<|.ref 3,none,some<|.str "__main__" 164,none,some<|.ref 0]}
def uY(P:Params)(q:TS):List Obj:=[boot_o_0 P,boot_o_1 P,o2 P q.t,o3 P q,boot_o_4 P,boot_o_5 P,boot_o_6 P,boot_o_7 P,boot_o_8 P,boot_o_9 P,boot_o_10 P,tO [],fO .none q.qt.reverse,ZK,o14]
def q00(P:Params):TS:=let q:TS:=⟨15,187,.str "__main__" 164,[],[],.nil⟩;{q with tr:=vG .nil 0<|uY P q}
def xK(P:Params)(q:TS):BT:=((q.tr.ins 2<|o2 P q.t).ins 3<|o3 P q).ins 12<|fO .none q.qt.reverse
def SS(w:World)(q:TS)(os:OsState):SharedT:=⟨xK w.params q,q.a,{},Array.mk [],{},q.t,os⟩
noncomputable abbrev qZ:Pos:={line:=0,col:=0,endLine:=0,endCol:=0}
def pI:Env:={scope:=P0.main.scope,locals:=mainNs,globals:=mainNs,cells:=[],code:=.ref 13,frame:=some 14}
abbrev jT:Code:=Code.body P0.main.body pI
noncomputable abbrev jA:Option Value:=some<|.ref 6
def cT(k n:Nat):List Stmt:=(P0.main.body.drop k).take n
def fF(k:Nat):Pos:=match hX (k-1) P0.main.body with
 |some (.Assign [.Name _ p] _ _)=>p
 |some s=>HD s
 |none=>qZ
noncomputable def tq(a t:Nat)(md:Str)(mt:Nat)(q:TS):TS:=⟨a,t,.str md mt,q.ns,q.qt,q.tr⟩
def vJ(P:Params):TS:=tq 15 187 "__main__" 164<|q00 P
def A9(P:Params):TS:=tq 274 603 "js.printwords" 601<|kN P (cT 0 51) 0<|vJ P
def BH(P:Params):TS:=tq 282 725 "js.printwords" 601<|kN P (cT 51 5) 51<|A9 P
def Bm(P:Params):TS:=tq 336 788 "js.printer" 786<|kN P (cT 56 9) 56<|BH P
def Bz(P:Params):TS:=tq 337 795 "js.printer" 786<|kN P (cT 65 1) 65<|Bm P
def BG(P:Params):TS:=tq 482 995 "js.escapes" 993<|kN P (cT 66 24) 66<|Bz P
def Bh(P:Params):TS:=tq 483 1014 "js.escapes" 993<|kN P (cT 90 1) 90<|BG P
def Ay(P:Params):TS:=tq 596 1280 "js.lexer" 1278<|kN P (cT 91 19) 91<|Bh P
def Az(P:Params):TS:=tq 971 1782 "js.parse_expr" 1780<|kN P (cT 110 18) 110<|Ay P
def AC(P:Params):TS:=tq 973 1852 "js.parse_expr" 1780<|kN P (cT 128 1) 128<|Az P
def AM(P:Params):TS:=tq 1123 2077 "js.parse_stmt" 2071<|kN P (cT 129 7) 129<|AC P
def nV(P:Params):TS:=tq 1424 2517 "law_nt0414_01" 2342<|kN P (cT 136 23) 136<|AM P
def zq{R:Type}(T:BT):(BT->R)->R:=BT.rec (λk=>k .nil) (λv _ _ f g k=>f λl=>g λr=>k<|.node v l r) T
def Le{R:Type}(T:BT):(BT->R)->R:=BT.rec (λk=>k .nil) (λv _ _ f g k=>f λl=>g λr=>k<|.node v l r) T
def yK{α R:Type}(xs:List α):(List α->R)->R:=List.rec (λk=>k []) (λx _ f k=>f λr=>k<|x::r) xs
theorem xg{R:Type}:∀(T:BT) (k:BT->R),zq T k=k T
 |.nil,_=>rfl
 |.node v l r,k=>by show zq l (λl=>zq r λr=>k<|.node v l r)=_;rw[xg l,xg r]
theorem Se{R:Type}(T:BT)(k:BT->R):Le T k=k T:=xg T k
theorem AO{α R:Type}:∀(xs:List α) (k:List α->R),yK xs k=k xs
 |[],_=>rfl
 |x::r,k=>by show yK r (λr=>k<|x::r)=_;rw[AO r]
def Lj(r:Flow×SharedT×Code×Pos):Flow×SharedT×Code×Pos:=zq r.2.1.tree λT=>(r.1,{r.2.1 with tree:=T},r.2.2)
theorem Uj(r:Flow×SharedT×Code×Pos):Lj r=r:=xg _ _
def KG{R:Type}(P:Params)(q:TS)(n t:Nat)(k:BT->R):R:=yK (JP P q) λL3=>yK q.qt.reverse λL12=>Le (((q.tr.ins 2<|o2 P t).ins 3<|mz L3 n).ins 12<|fO .none L12) k
def iV{w:World}{N:Nat}{s:SharedT}{th:Thread}{q:TS}{os:OsState}{p:Pos}(n a t:Nat)(h1:q.a=a)(h2:q.t=t)(h3:9+q.ns.length=n)
    (h:(segRunT treeTable P0 w 11 jA 1 N s th).map Lj=some (KG w.params q n t λT=>(.next,⟨T,a,{},Array.mk [],{},t,os⟩,jT,p))):segRunT treeTable P0 w 11 jA 1 N s th=some (.next,SS w q os,jT,p):=by
 subst h1 h2 h3;unfold KG at h;rw[AO,AO,Se] at h;cases e:segRunT treeTable P0 w 11 jA 1 N s th with
 |none=>rw[e] at h;cases h
 |some r=>rw[e] at h;rw[<-Uj r];exact h
def iT(w:World)(k n:Nat)(q q':Params->TS)(p p':Pos):Prop:=∀os:OsState,segRunT treeTable P0 w 11 jA 1 4000 (SS w (q w.params) os) (piecesOf (cT k n) pI jT p [topFrame qZ])=some (.next,SS w (q' w.params) os,jT,p')
def w2(r:String)(h0:∀w:World,iT (w.withFollow r false) k n q q' p p')(h1:∀w:World,iT (w.withFollow r true) k n q q' p p')(w:World):iT w k n q q' p p':=byRow2 r (P:=λw=>iT w k n q q' p p') h0 h1 w
def XN(w:World):iT w 0 51 vJ A9 qZ<|fF 51:=λos=>iV 56 274 603 rfl rfl (by ext)<|by ext
def Wv:∀w:World,iT w 51 5 A9 BH (fF 51)<|fF 56:=w2 "special-get-raises" (λw=>λos=>iV 67 282 725 rfl rfl (by ext)<|by ext) λw=>λos=>iV 67 282 725 rfl rfl (by ext)<|by ext
def Ws(w:World):iT w 56 9 BH Bm (fF 56)<|fF 65:=λos=>iV 75 336 788 rfl rfl (by ext)<|by ext
def Wc:∀w:World,iT w 65 1 Bm Bz (fF 65)<|fF 66:=w2 "special-get-raises" (λw=>λos=>iV 76 337 795 rfl rfl (by ext)<|by ext) λw=>λos=>iV 76 337 795 rfl rfl (by ext)<|by ext
def Vz(w:World):iT w 66 24 Bz BG (fF 66)<|fF 90:=λos=>iV 97 482 995 rfl rfl (by ext)<|by ext
def UV:∀w:World,iT w 90 1 BG Bh (fF 90)<|fF 91:=w2 "special-get-raises" (λw=>λos=>iV 98 483 1014 rfl rfl (by ext)<|by ext) λw=>λos=>iV 98 483 1014 rfl rfl (by ext)<|by ext
def Wu(w:World):iT w 91 19 Bh Ay (fF 91)<|fF 110:=λos=>iV 113 596 1280 rfl rfl (by ext)<|by ext
def RZ(w:World):iT w 110 18 Ay Az (fF 110)<|fF 128:=λos=>iV 128 971 1782 rfl rfl (by ext)<|by ext
def UB:∀w:World,iT w 128 1 Az AC (fF 128)<|fF 129:=w2 "special-get-raises" (λw=>λos=>iV 129 973 1852 rfl rfl (by ext)<|by ext) λw=>λos=>iV 129 973 1852 rfl rfl (by ext)<|by ext
def SA(w:World):iT w 129 7 AC AM (fF 129)<|fF 136:=λos=>iV 135 1123 2077 rfl rfl (by ext)<|by ext
def RP(w:World):iT w 136 23 AM nV (fF 136)<|fF 159:=λos=>iV 156 1424 2517 rfl rfl (by ext)<|by ext
noncomputable def HB:Params->Heap:=λP=>absHeap (xK P<|vJ P) 15 {}
noncomputable def HE:Params->Heap:=λP=>absHeap (xK P<|nV P) 1424 {}
def OY:∀w:World,(fencedOpening treeTable P0 w 60000).map (λs=>(s.heap,s.gens,s.drawn,s.toks))=some (boot_heap w.params,Array.mk [],boot_drawn,boot_toks):=boot_open (by ext) (by ext) (λs=>by ext)
def US(w:World)(os:OsState):topGo treeTable P0 w 11 jA 12 ⟨boot_heap w.params,Array.mk [],boot_drawn,boot_toks,os⟩ (topStub P0)=some (⟨HB w.params,Array.mk [],{},187,os⟩,⟨denote treeTable jT,jT,qZ,[topFrame qZ]⟩):=by ext
def Pt(w:World)(os:OsState):segRun treeTable P0 w 11 jA 1 1 ⟨HB w.params,Array.mk [],{},187,os⟩ (blockOf P0.main.body pI jT qZ [topFrame qZ])=some (.next,⟨HB w.params,Array.mk [],{},187,os⟩,jT,qZ):=by ext
def UL(w:World)(os:OsState):topRun treeTable P0 w 11 jA 2 (SS w (nV w.params) os).abs ⟨doneF .next,jT,fF 159,[topFrame qZ]⟩=some (SS w (nV w.params) os).abs:=by ext
def nf:Nat->Nat
 |0=>2
 |k+1=>4000+nf k
def lX{w:World}{os:OsState}{k n j:Nat}{q q':Params->TS}{p p':Pos}{rest:List Stmt}{r:Shared}(h:iT w k n q q' p p')
    (K:topRun treeTable P0 w 11 jA (nf j) (SS w (q' w.params) os).abs (restOf rest pI jT p' [topFrame qZ])=some r):topRun treeTable P0 w 11 jA (nf<|j+1) (SS w (q w.params) os).abs (restOf (cT k n++rest) pI jT p [topFrame qZ])=some r:=
 piece_app (segRun_of<|h os) K
theorem Sa:cT 0 51++(cT 51 5++(cT 56 9++(cT 65 1++(cT 66 24++(cT 90 1++(cT 91 19++(cT 110 18++(cT 128 1++(cT 129 7++(cT 136 23++[]))))))))))=P0.main.body:=by ext
def W0(w:World)(os:OsState):topRun treeTable P0 w 11 jA (nf 0) (SS w (nV w.params) os).abs (restOf [] pI jT (fF 159) [topFrame qZ])=some (SS w (nV w.params) os).abs:=piece_nil<|UL w os
def Rx(w:World):((boot_heap w.params).isNs mainGlobals&&(Array.mk ([]:List GenState)).size==0,(boot_heap w.params).objs.size,(boot_heap w.params).nsMap mainGlobals "__annotations__")=(true,11,jA):=by ext
def Xo(w:World)(os:OsState):topRun treeTable P0 w 11 jA (nf 11) (SS w (vJ w.params) os).abs (restOf (cT 0 51++(cT 51 5++(cT 56 9++(cT 65 1++(cT 66 24++(cT 90 1++(cT 91 19++(cT 110 18++(cT 128 1++(cT 129 7++(cT 136 23++[]))))))))))) pI jT qZ [topFrame qZ])=some (SS w (nV w.params) os).abs:=lX (XN w) (lX (Wv w)<|lX (Ws w)<|lX (Wc w)<|lX (Vz w)<|lX (UV w)<|lX (Wu w)<|lX (RZ w)<|lX (UB w)<|lX (SA w)<|lX (RP w)<|W0 w os)
def Ur{p:Program}{w:World}{n:Nat}{ann:Option Value}{s s':Shared}{t:Thread}{M:Nat}(h:topRun treeTable p w n ann M s t=some s')(le:Nat.ble M 60000=true):topRun treeTable p w n ann 60000 s t=some s':=by have r:=topRun_mono (60000-M) _ _ _ _ h;rwa [show M+(60000-M)=60000 by have:=ia le;omega] at r
theorem Ze(w:World)(os:OsState):(SS w (vJ w.params) os).abs=⟨HB w.params,Array.mk [],{},187,os⟩:=by ext
theorem ZA(w:World)(os:OsState):(SS w (nV w.params) os).abs=⟨HE w.params,Array.mk [],{},2517,os⟩:=by ext
def V4(w:World)(os:OsState):topRun treeTable P0 w 11 jA (nf 11) ⟨HB w.params,Array.mk [],{},187,os⟩ (restOf P0.main.body pI jT qZ [topFrame qZ])=some ⟨HE w.params,Array.mk [],{},2517,os⟩:=by have k:=Xo w os;rw[Sa,Ze,ZA] at k;exact k
def Vl(w:World)(os:OsState):topRun treeTable P0 w 11 jA 60000 ⟨boot_heap w.params,Array.mk [],boot_drawn,boot_toks,os⟩ (topStub P0)=some ⟨HE w.params,Array.mk [],{},2517,os⟩:=Ur (go_top (US w os)<|piece_block (Pt w os)<|V4 w os) (by ext)
noncomputable def bZ:Program:=view P0 [158]
noncomputable def fh:List PySem.Str:=(P0.main.scope.names.map (·.1)).filter λx=>x !="law"
def NC(w:World):staticsOk (importedModules P0.main.body) (boot_heap w.params) (HE w.params)=true:=by ext
def P8(w:World):namesBound P0 (HE w.params)=true:=by ext
def R8(w:World):laidKept (boot_heap w.params) (HE w.params)=true:=by ext
def Xf(w:World):(HE w.params).bltView=bltViewBooted:=by ext
noncomputable def sE(w:World)(os:OsState):Shared:=⟨HE w.params,Array.mk [],{},2517,os⟩
theorem s1(w:World)(os:OsState):seen ((recsOf bZ).map (·.name)) (ownsOf bZ) [] {sE w os with gens:= #[]}=expectedOf bZ:=by ext
def s2(w:World)(os:OsState):(HE w.params).keysOk (looseW bZ fh) ((recsOf bZ).map (·.name)) ((litsOf bZ).map (·.1)) ((clssOf bZ<|looseW bZ fh).map (·.name))=true:=by ext
def s3(w:World)(os:OsState):(HE w.params).accountedOkI (importedModules P0.main.body)=true:=by ext
def s4(w:World)(os:OsState):((HE w.params).isNs mainGlobals=true/\(HE w.params).isNs builtinsNs=true):=⟨by ext,by ext⟩
def s5(w:World)(os:OsState):tablesOk bZ (HE w.params)=true:=by ext
def s6(w:World)(os:OsState):tabsOk bZ (sE w os)=true:=by ext
def s7(w:World)(os:OsState):pinSeenD bZ (drecsOf bZ) (sE w os)=pinGoodD (drecsOf bZ):=by ext
def s8(w:World)(os:OsState):plainSeenE bZ (looseW bZ fh) (sE w os)=plainGoodE bZ (looseW bZ fh):=by ext
def s9(w:World)(os:OsState):plainSeenD bZ fh (sE w os)=plainGoodD bZ fh:=by ext
def ZW(w:World)(os:OsState):wideSeen bZ (sE w os)=wideGood bZ:=by ext
def s11(w:World)(os:OsState):clsSeenW bZ fh (sE w os)=clsGoodW bZ fh:=by ext
def RY(s:Shared)(h1:seen ((recsOf bZ).map (·.name)) (ownsOf bZ) [] {s with gens:= #[]}=expectedOf bZ)(h0:s.heap.bltView=bltViewBooted)
    (e2:s.heap.keysOk (looseW bZ fh) ((recsOf bZ).map (·.name)) ((litsOf bZ).map (·.1)) ((clssOf bZ<|looseW bZ fh).map (·.name))=true) (e3:s.heap.accountedOkI (importedModules P0.main.body)=true)
    (e4:s.heap.isNs mainGlobals=true) (e5:s.heap.isNs builtinsNs=true) (e6:tablesOk bZ s.heap=true) (eg:s.gens= #[]) (h6:tabsOk bZ s=true) (h7:pinSeenD bZ (drecsOf bZ) s=pinGoodD (drecsOf bZ))
    (h8:plainSeenE bZ (looseW bZ fh) s=plainGoodE bZ (looseW bZ fh)) (h9:plainSeenD bZ fh s=plainGoodD bZ fh) (mR:wideSeen bZ s=wideGood bZ) (h11:clsSeenW bZ fh s=clsGoodW bZ fh):
    openSeen bZ fh (importedModules P0.main.body) (λ_=>true) true s=openGood bZ fh:=by
 unfold openSeen openGood;have h:(s.heap.keysOk (looseW bZ fh) ((recsOf bZ).map (·.name)) ((litsOf bZ).map (·.1)) ((clssOf bZ<|looseW bZ fh).map (·.name))&&s.heap.accountedOkI (importedModules P0.main.body)&&s.heap.isNs mainGlobals&&s.heap.isNs builtinsNs&&tablesOk bZ s.heap&&true&&(if true then s.gens.size==0 else !leftWithCleanup s.gens))=true:=by rw[e2,e3,e4,e5,e6,eg];rfl
 exact looks_pair h1<|looks_pair h0<|looks_pair h<|looks_pair h6<|looks_pair h7<|looks_pair h8<|looks_pair h9<|looks_pair mR h11
def Ux(w:World)(os:OsState):openSeen bZ fh (importedModules P0.main.body) (λ_=>true) true (sE w os)=openGood bZ fh:=RY (sE w os) (s1 w os) (Xf w) (s2 w os) (s3 w os) (s4 w os).1 (s4 w os).2 (s5 w os) rfl (s6 w os) (s7 w os) (s8 w os) (s9 w os) (ZW w os) (s11 w os)
def Wx(hb:Heap)(s:Shared)(h1:staticsOk (importedModules P0.main.body) hb s.heap=true)(h2:namesBound P0 s.heap=true)(h3:gensDone s=true)(h4:laidKept hb s.heap=true):(staticsOk (importedModules P0.main.body) hb s.heap&&namesBound P0 s.heap&&gensDone s&&laidKept hb s.heap)=true:=by rw[h1,h2,h3,h4];rfl
def Wi(w:World)(os:OsState):(staticsOk (importedModules P0.main.body) (boot_heap w.params) (HE w.params)&&namesBound P0 (HE w.params)&&gensDone (sE w os)&&laidKept (boot_heap w.params) (HE w.params))=true:=Wx (boot_heap w.params) (sE w os) (NC w) (P8 w) rfl (R8 w)
def TD:LeftO P0 bZ fh (λ_=>true) (λs=>s.heap) (λw=>HE w.params) 60000:=
 LeftO.of_pieces (H₀:=boot_heap) (H₁:=HE) (gs₀:=Array.mk []) (gs₁:=Array.mk []) (d₀:=boot_drawn) (d₁:={}) (k₀:=boot_toks) (k₁:=2517) (m₀:=11) (ann:=jA) (M:=60000)
  OY Rx Vl (by ext) λw=>by funext os;exact looks_pair (Wi w os)<|looks_pair (Ux w os) rfl
noncomputable def JI:List<|Nat×Nat:=[(5,63),(6,70),(7,77),(8,84),(9,91),(10,98),(11,105),(12,112),(13,119),(24,126),(25,133),(26,140),(27,147),(28,154),(29,161),(30,168),(31,175),(32,182),(33,189),(34,196),(35,203),(39,210),(40,217),(41,224),(42,231),(43,238),(44,245),(45,252),(46,259),(47,266),(48,273),(56,288),(57,295),(58,300),(59,307),(60,314),(61,321),(62,328),(63,335),(66,343),(67,348),(68,353),(69,360),(70,365),(71,372),(72,377),(73,384),(74,391),(75,396),(76,403),(77,408),(78,415),(79,422),(80,429),(81,436),(82,441),(83,446),(84,453),(85,460),(1088,474),(91,489),(92,496),(93,503),(94,510),(95,517),(98,524),(99,531),(100,538),(1104,554),(105,568),(106,575),(1108,589),(1110,609),(2110,616),(3110,623),(4110,630),(5110,637),(6110,644),(7110,651),(8110,658),(9110,665),(10110,672),(11110,679),(12110,686),(13110,693),(14110,700),(15110,707),(16110,714),(17110,721),(18110,728),(19110,735),(115,752),(116,759),(117,766),(118,773),(119,780),(120,787),(121,794),(122,801),(123,808),(1124,822),(2124,827),(3124,832),(4124,837),(1126,858),(2126,865),(3126,872),(4126,879),(5126,886),(6126,893),(7126,900),(8126,907),(9126,914),(10126,921),(11126,928),(12126,935),(13126,942),(14126,949),(15126,956),(16126,963),(1133,990),(2133,997),(3133,1004),(4133,1011),(5133,1018),(6133,1025),(7133,1032),(8133,1039),(9133,1046),(10133,1053),(11133,1060),(12133,1067),(13133,1074),(14133,1081),(15133,1088),(16133,1095),(17133,1102),(18133,1109),(19133,1116),(1136,1136),(2136,1143),(3136,1150),(4136,1157),(5136,1164),(6136,1171),(7136,1178),(8136,1185),(9136,1192),(10136,1199),(11136,1206),(12136,1213),(13136,1220),(14136,1227),(15136,1234),(16136,1241),(17136,1248),(18136,1255),(19136,1262),(20136,1269),(21136,1276),(22136,1283),(23136,1290),(138,1302),(140,1309),(141,1316),(142,1323),(143,1330),(144,1337),(145,1344),(146,1351),(147,1356),(148,1361),(149,1368),(150,1375),(151,1382),(152,1387),(153,1392),(154,1399),(155,1406),(156,1411),(157,1416),(158,1423)]
def eG(i:Nat):Addr:=(yD i JI).getD 0
noncomputable def clA:List Nat:=[477,557,738,840,1293]
def hJ(c:Nat):Addr:=(hX c clA).getD 0
noncomputable def kA:List Addr:=[477,476,557,556,738,737,840,839,966,965,1119,1118,1293,1292]++JI.map (·.2)
def gG(P:Params):GM:=λa=>match Nat.blt a 1424 with
 |true=>((xK P<|nV P).get a).bind alive
 |false=>none
def Xd(h:gG P a=some o):(HE P).get? a=some o:=by
 unfold gG at h;induction ha:Nat.blt a 1424 with
 |false=>rw[ha] at h;exact ng h
 |true=>rw[ha] at h;have ha:a<1424:=Nat.blt_eq.mp ha;refine aA (Option.bind_eq_some_iff.mp h) λx e h=>?_;show(absHeap _ _ _).get? a=_;rw[abs_get ha e];exact h
def KF(P:Params):Frag:=kA.filterMap λa=>(gG P a).map λo=>(a,o)
def WF(w:World):Wd:=⟨w,hJ,gG w.params⟩
def Ef{α:Type}:∀{l:List<|Nat×α} {a:Nat} {o:α},l.lookup a=some o->(a,o)∈l
 |[],_,_,h=>by exact ng h
 |(b,q)::l,a,o,h=>by
  simp only[List.lookup] at h;split at h
  ·rename_i e;refine zb (aE h) ?_;rw[beq_iff_eq.mp e];exact .head _
  ·exact .tail _<|Ef h
def Um(h:(KF P).lookup a=some o):gG P a=some o:=by have m:=Ef h;unfold KF at m;refine aA (List.mem_filterMap.mp m) λb hb e=>?_;refine aA (Option.map_eq_some_iff.mp e) λx hx e=>?_;cases e;exact hx
noncomputable def tG(o:Option Obj)(x:Str):Option Value:=match o with
 |some o=>(match o.data with|.dict es _=>nsFind es x|_=>none)
 |none=>none
set_option backward.match.sparseCases true in
noncomputable def uW(o:Option Obj):Bool:=match o with
 |some o=>(match o.data with|.dict es _=>es.all (λe=>match e.key with|.str _ _=>true|_=>false)|_=>false)
 |none=>false
def xp{g:GM}{h:Heap}(x:uW (g a)=true)(G:∀a o,g a=some o->h.get? a=some o):h.Ns a<|tG<|g a:=by
 unfold uW at x;induction e:g a with
 |none=>rw[e] at x;exact nj x
 |some o=>
  rw[e] at x;have hh:=G a o e;have i:h.isNs a=true:=by unfold Heap.isNs;rw[hh];exact x
  have:=Heap.Ns.of_isNs i;have z:h.nsMap a=tG (some o):=by funext y;unfold Heap.nsMap tG;rw[hh];obtain⟨c,d,dt,sl⟩:=o;cases dt<;>rfl
  rw[z] at this;exact this
def eX(P:Params):Str->Option Value:=tG<|gG P mainGlobals
def lz(P:Params):Str->Option Value:=tG<|gG P builtinsNs
def xh(P:Params):uW (gG P mainGlobals)=true/\uW (gG P builtinsNs)=true/\uW (gG P cStatics)=true:=⟨by ext,by ext,by ext⟩
def SG(P:Params):tG (gG P cStatics) "sys.recursionlimit"=none:=by ext
noncomputable def Tr.all{α:Type}(p:Str->α->Bool):Tr α->Bool
 |.lf=>true
 |.nd l _ s v r=>l.all p&&p s v&&r.all p
def Tr.wR{α:Type}{p:Str->α->Bool}{v:α}:∀{t:Tr α},t.all p=true->t.find h x=some v->p x v=true
 |.lf,_,e=>by exact ng e
 |.nd l k s u r,a,e=>by
  have a':(l.all p&&p s u&&r.all p)=true:=a;simp only[cS] at a';have e:(bif Nat.beq h k then(bif nq s x then some u else none) else bif Nat.blt h k then l.find h x else r.find h x)=some v:=e;induction e1:Nat.beq h k with
  |true=>
   rw[e1] at e;induction e2:nq s x with
   |true=>rw[e2] at e;cases e;rw[<-gJ.mp e2];exact a'.1.2
   |false=>rw[e2] at e;exact ng e
  |false=>
   rw[e1] at e;induction e2:Nat.blt h k with
   |true=>rw[e2] at e;exact Tr.wR a'.1.1 e
   |false=>rw[e2] at e;exact Tr.wR a'.2 e
noncomputable def wf(nm:String):Option Obj->Option (List Value×Nat)
 |some ⟨.type s,none,.seq a n,⟨[]⟩⟩=>bif s==nm then some (a.toList,n) else none
 |_=>none
def E5(h:wf nm o=some q):o=some {cls:=.type nm,data:=.seq q.1.toArray q.2}:=by
 induction o using Option.casesOn with
 |none=>exact ng h
 |some o=>
  obtain⟨c,d,dt,sl⟩:=o;induction c using Value.casesOn with
  |type s=>induction d using Option.casesOn with
   |none=>induction dt using Data.casesOn with
    |seq a n=>
     obtain⟨sl⟩:=sl;induction sl using bx with
     |nil=>
      have h:(bif s==nm then some (a.toList,n) else none)=some q:=h;induction e:s==nm with
      |false=>rw[e] at h;exact ng h
      |true=>rw[e] at h;refine zb (aE h) ?_;rw[beq_iff_eq.mp e]
     |cons=>exact ng h
    |_=>exact ng h
   |some=>exact ng h
  |_=>exact ng h
noncomputable def mN{α β:Type}(p:α->β->Bool):List α->List β->Bool
 |[],[]=>true
 |a::r,b::t=>p a b&&mN p r t
 |_,_=>false
def qc(g:GM):Nat->V->Value->Bool
 |0,_,_=>false
 |n+1,v,u=>match v with
  |.none=>(match u with|.none=>true|_=>false)
  |.bool b=>(match u with|.bool c=>b==c|_=>false)
  |.int i=>(match u with|.int j _=>bA i j|_=>false)
  |.str s=>(match u with|.str t _=>lq s t.cps.toList|_=>false)
  |.lst xs=>(match u with|.ref a=>((wf "list"<|g a).map λq=>mN (qc g n) xs q.1).getD false|_=>false)
  |.tup xs=>(match u with|.ref a=>((wf "tuple"<|g a).map λq=>mN (qc g n) xs q.1).getD false|_=>false)
  |_=>false
def uV{α:Type}{o:Option α}{f:α->Bool}(h:(o.map f).getD false):∃x,o=some x/\f x=true:=by
 induction o with
 |none=>exact nj h
 |some x=>exact au x rfl h
def Fu(hp:∀v u,p v u=true->VR W g [] v u):∀{xs:List V} {us:List Value},mN p xs us=true->be W g [] xs us
 |[],[],_=>.nil
 |[],_::_,h=>by exact nj h
 |_::_,[],h=>by exact nj h
 |a::r,b::t,h=>by have h':(p a b&&mN p r t):=h;have e:=cK h';exact .cons (hp a b e.1)<|Fu hp e.2
def AL:∀(n:Nat) (v:V) (u:Value),qc g n v u=true->VR W g [] v u
 |0,_,_,h=>by exact nj h
 |n+1,v,u,h=>by
  have A:=λxs us=>Fu (W:=W) (g:=g) (AL n) (xs:=xs) (us:=us);induction v using V.casesOn with
  |none=>cases u<;>first|exact .none|exact nj h
  |bool b=>induction u with
   |bool c=>have e:b=c:=beq_iff_eq.mp h;refine zb e ?_;exact .bool b
   |_=>exact nj h
  |int i=>induction u with
   |int j t=>have e:i=j:=(wZ _ _).mp h;refine zb e ?_;exact .int i t
   |_=>exact nj h
  |str s=>induction u with
   |str x t=>have e:=(dR _ _).mp h;refine zc e ?_;exact .str x.cps.toList t
   |_=>exact nj h
  |lst xs=>induction u with
   |ref a=>have h:((wf "list"<|g a).map λq=>mN (qc g n) xs q.1).getD false:=h;refine aA (uV h) λq e k=>?_;exact .lst (n:=q.2) (E5 e)<|A _ _ k
   |_=>exact nj h
  |tup xs=>induction u with
   |ref a=>have h:((wf "tuple"<|g a).map λq=>mN (qc g n) xs q.1).getD false:=h;refine aA (uV h) λq e k=>?_;exact .tup (n:=q.2) (E5 e)<|A _ _ k
   |_=>exact nj h
  |_=>exact nj h
noncomputable def Iz(w:World)(es:List DictEntry):List DictEntry:=es.map λe=>⟨match e.key with|.str s _=>hashStr w s|.int i _=>hashInt i|_=>e.hash,e.key,e.val⟩
def yM(g:GM)(p:V×V)(e:DictEntry):Bool:=(match p.1,e.key with
 |.str s,.str t _=>lq s t.cps.toList
 |.int i,.int j _=>bA i j
 |_,_=>false)&&qc g 6 p.2 e.val
variable{W:Wd} in
def GW:∀{aO:List<|V×V} {es:List DictEntry},mN (yM g) aO es=true->cZ W g [] aO (Iz W.w es)
 |[],[],_=>.nil
 |[],_::_,h=>by exact nj h
 |_::_,[],h=>by exact nj h
 |(k,v)::r,⟨hh,kk,u⟩::t,h=>by
  have h':(yM g (k,v) ⟨hh,kk,u⟩&&mN (yM g) r t):=h;have e:=cK h';have R:=GW e.2;have e1:=cK e.1;have v1:=AL (W:=W) (g:=g) 6 v u e1.2;have k1:=e1.1;clear h h' e e1;induction k using V.casesOn with
  |str s=>induction kk with
   |str x tt=>have e:=(dR _ _).mp k1;refine zc e ?_;exact .str v1 R
   |_=>exact nj k1
  |int i=>induction kk with
   |int j tt=>have e:i=j:=(wZ _ _).mp k1;refine zb e ?_;exact .int v1 R
   |_=>exact nj k1
  |_=>exact nj k1
noncomputable def A3:Option Obj->List DictEntry×Nat
 |some o=>(match o.data with|.dict es n=>(es.toList,n)|_=>([],0))
 |none=>([],0)
def vm(P:Params)(x:Str):Option Obj:=match eX P x with
 |some (.ref a)=>gG P a
 |_=>none
noncomputable def dN:List Str:=["ESCAPED","STRENGTHS","OTHERS","PLAIN","SINGLE","PRIORITY"]
def V0(w:World):dN.map (λx=>vm w.params x)=dN.map (λx=>some<|dictOf (Iz w (A3<|vm w.params x).1) (A3<|vm w.params x).2):=by ext
def z5{α β:Type}{f h:α->β}:∀{l:List α},l.map f=l.map h->∀x∈l,f x=h x
 |[],_,_,hx=>by cases hx
 |a::r,e,x,hx=>by
  rw[List.map_cons,List.map_cons] at e;cases hx with
  |head=>exact(List.cons.inj e).1
  |tail _ hx=>exact z5 (List.cons.inj e).2 x hx
noncomputable def Da(v:Option Value)(a:Addr):Bool:=match v with|some (.ref b)=>Nat.beq b a|_=>false
def GL{v:Option Value}{a:Addr}(h:Da v a=true):v=some (.ref a):=by
 induction v using Option.casesOn with
 |none=>exact nj h
 |some u=>induction u using Value.casesOn with
  |ref b=>rw[fy h]
  |_=>exact nj h
def Lm(P:Params)(x:Str)(v:V):Bool:=match v with
 |.fq aO=>lR x dN&&((match eX P x with|some (.ref a)=>some a|_=>none).map λa=>mN (yM<|gG P) aO (A3<|gG P a).1&& !(a==sysModules)).getD false
 |v=>((eX P x).map λu=>qc (gG P) 6 v u).getD false
def rQ(P:Params)(x:Str):Gl->Bool
 |.fn i=>Da (eX P x) (eG i)&&keepIn (KF P) (.ref<|eG i)
 |.cls k=>Da (eX P x)<|hJ k
 |.tab v=>Lm P x v
 |.bi b=>eX P x==none&&lz P x==some (t4 b)
 |.mW=>eX P x==none&&lz P x==some (.type "range")
 |.m6=>eX P x==none&&lz P x==some (.builtin "isinstance")
def Sz(P:Params):Lh.all<|rQ P:=by ext
def sR(P:Params)(h:gT x=some g):rQ P x g:=Tr.wR (Sz P) h
def zV:∀{l:List Str},lR x l=true->x∈l
 |[],h=>by exact nj h
 |y::r,h=>by
  have h':(nq y x||lR x r):=h;rcases Bool.or_eq_true_iff.mp h' with e|e
  ·rw[gJ.mp e];exact .head _
  ·exact .tail _<|zV e
set_option tactic.hygienic true in
def WH(w:World)(h:gT x=some (.tab v)):∃u,eX w.params x=some u/\VR (WF w) (gG w.params) [] v u:=by
 have c:Lm w.params x v:=sR w.params h;have sO:((eX w.params x).map λu=>qc (gG w.params) 6 v u).getD false=true->∃u,eX w.params x=some u/\VR (WF w) (gG w.params) [] v u:=λc=>by refine aA (uV c) λu e k=>?_;exact au u e<|AL 6 v u k
 clear h;induction v using V.casesOn with
 |fq aO=>
  obtain⟨c1,c2⟩:=cK c;refine aA (uV c2) λa e k=>?_;have em:eX w.params x=some (.ref a):=by
   split at e
   ·rename_i b eb;cases e;exact eb
   ·exact ng e
  obtain⟨k1,k2⟩:=cK k;refine au _ em ?_;have q:=z5 (V0 w) x<|zV c1;have eo:vm w.params x=gG w.params a:=by unfold vm;rw[em]
  rw[eo] at q;exact .fq q (GW (W:=WF w) k1)<|by simpa using k2
 |_=>exact sO c
noncomputable def xS(K:Frag)(C:Addr):Bool:=findIn K (.ref C) "__getattribute__"==some (some<|.builtin "object.__getattribute__")&&findIn K (.ref C) "__getattr__"==some none&&findIn K (.ref C) "__setattr__"==some (some<|.builtin "object.__setattr__")&&plainOver K C&&hasDictIn K C
def Fe{K:Frag}(h:xS K C):uQ K C:=by simp only[xS,cS,beq_iff_eq] at h;exact⟨h.1.1.1.1,h.1.1.1.2,h.1.1.2,h.1.2,h.2⟩
noncomputable def tF{α:Type}(p:Nat->α->Bool):Nat->List α->Bool
 |_,[]=>true
 |i,a::r=>p i a&&tF p (i+1) r
def wU{α:Type}{p:Nat->α->Bool}{x:α}:∀{l:List α} {i k:Nat},tF p i l=true->hX k l=some x->p (i+k) x=true
 |[],_,k,_,e=>by cases k<;>exact ng e
 |a::r,i,k,h,e=>by
  have h':(p i a&&tF p (i+1) r):=h;obtain⟨h1,h2⟩:=cK h';induction k using Nat.casesAuxOn with
  |zero=>cases e;exact h1
  |succ k=>have:=wU (k:=k) h2 e;rw[show i+(k+1)=i+1+k by lia];exact this
def Xu(P:Params)(c:Nat)(l:List Str):Bool:=xS (KF P) (hJ c)&&l.all λf=>findIn (KF P) (.ref<|hJ c) f==some none
def QD(P:Params):tF (Xu P) 0 B5:=by ext
def Io(P:Params)(c:Nat)(t:Tr Nat):Bool:=xS (KF P) (hJ c)&&t.all λm f=>findIn (KF P) (.ref<|hJ c) m==some (some<|.ref<|eG f)&&isFn (KF P) (.ref<|eG f)&&keepIn (KF P) (.ref<|eG f)
def QI(P:Params):tF (Io P) 0 [CE,CC,BX,B4,BK]:=by ext
def HN(P:Params)(c:Nat)(t:Tr Nat):Bool:=keepIn (KF P) (.ref<|hJ c)&&makesIn (KF P) (hJ c)&&(((t.find (hs "__init__") "__init__").map λf=>findIn (KF P) (.ref<|hJ c) "__init__"==some (some<|.ref<|eG f)&&typeIn (KF P) (.ref<|eG f)==some (.type "function")).getD true)
def OI(P:Params):tF (HN P) 0 [CE,CC,BX,B4,BK]:=by ext
def Qb:xj.all λq=>decide (Txt.lower ⟨q.1.toArray⟩=⟨q.2.toArray⟩)&&decide (q.2.length<=100):=by decide+kernel
def Q0:wW.all λq=>decide (Txt.lstripChars ⟨q.1.toArray⟩ ⟨#[48]⟩=⟨q.2.toArray⟩)&&decide (q.1.length<=100):=by decide+kernel
def z6:∀{l:List<|List Nat×List Nat},oJ s l=some r->(s,r)∈l
 |[],e=>by exact ng e
 |p::t,e=>by
  unfold oJ at e;induction q:lq p.1 s with
  |true=>rw[q] at e;refine zb (aE e) ?_;rw[<-(dR _ _).mp q];exact .head _
  |false=>rw[q] at e;exact .tail _<|z6 e
def WK(w:World):A2 (WF w) (KF w.params) where
 KC:=by
  intro q hq;have e:(WF w).cls 0=477:=by ext
  rw[e] at hq⊢;simp only[BN,List.mem_cons,List.not_mem_nil,or_false] at hq;rcases hq with rfl|rfl|rfl|rfl|rfl|rfl|rfl
  all_goals exact⟨by ext,by ext,by ext⟩
 own:=λx ox od=>kitx_own (by ext) (by ext) (by ext) (by ext) (by ext)<|by ext
noncomputable def vI(o:Option Obj):FuncData:=match o with
 |some o=>(match o.data with
  |.func fd=>fd
  |_=>default)
 |none=>default
noncomputable def Hp(o:Option Obj):Bool:=match o with
 |some o=>(match o.data with
  |.func _=>true
  |_=>false)
 |none=>false
def O8{o:Option Obj}(h:Hp o=true):∃x,o=some x/\x.data=.func (vI o):=by
 induction o using Option.casesOn with
 |none=>exact nj h
 |some x=>
  obtain⟨c,d,dt,sl⟩:=x;induction dt using Data.casesOn with
  |func fd=>exact au _ rfl rfl
  |_=>exact nj h
noncomputable def AF(a:Arguments):Bool:=a.posonlyargs.isEmpty&&a.vararg.isNone&&a.kwonlyargs.isEmpty&&a.kw_defaults.isEmpty&&a.kwarg.isNone&&a.defaults.isEmpty
def Nr(h:AF a):a=⟨[],a.args,none,[],[],none,[]⟩:=by obtain⟨p,b,c,d,e,f,g⟩:=a;simp only[AF,cS,List.isEmpty_iff,Option.isNone_iff_eq_none] at h;obtain⟨⟨⟨⟨⟨rfl,rfl⟩,rfl⟩,rfl⟩,rfl⟩,rfl⟩:=h;rfl
def BB(g:GM)(c:Value)(q:Str):Bool:=match c with
 |.ref c=>(match g c with
  |some oc=>(match oc.data with
   |.fields vs=>(match(vs[1]? :Option Value) with
    |some (.str s _)=>nq s q
    |_=>false)
   |_=>false)
  |none=>false)
 |_=>false
set_option tactic.hygienic true in
def Ob(h:BB g c q):∃a oc vs t,c=.ref a/\g a=some oc/\oc.data=.fields vs/\vs[1]? =some (.str q t):=by
 unfold BB at h;split at h
 ·rename_i a;split at h
  ·rename_i oc e;split at h
   ·rename_i vs e2;split at h
    ·rename_i s t e3;rw[<-gJ.mp h];exact wj a oc vs t rfl e e2 e3
    ·exact nj h
   ·exact nj h
  ·exact nj h
 ·exact nj h
def vZ:List Str->Bool
 |[]=>true
 |x::r=> !lR x r&&vZ r
theorem Fv:∀{l:List Str},x∈l->lR x l=true
 |_,.head _=>by show(nq x x||_)=true;rw[FB];rfl
 |y::r,.tail _ h=>by show(nq y x||lR x r)=true;rw[Fv h,Bool.or_true]
def AH:∀{l:List Str},vZ l=true->l.Nodup
 |[],_=>.nil
 |x::r,h=>by have h':(!lR x r&&vZ r):=h;obtain⟨h1,h2⟩:=cK h';refine List.nodup_cons.mpr ⟨λq=>?_,AH h2⟩;rw[Fv q] at h1;exact nj h1
noncomputable def BU:Option NameKind->Bool
 |some .local=>true
 |some .cell=>true
 |_=>false
def Rb(h:BU o):o=some .local\/o=some .cell:=by
 unfold BU at h;split at h
 ·exact .inl rfl
 ·exact .inr rfl
 ·exact nj h
def IJ(g:GM)(a:Addr)(fn:Fn):Bool:=
 let fd:=vI<|g a
 Hp (g a)&&AF fd.params&&(match fd.defaults with|.none=>true|_=>false)&&fd.closure.isEmpty&&BB g fd.code fd.qualname
  &&Nat.beq fd.globals mainGlobals&&Nat.beq fd.builtins builtinsNs&&fd.scope.kind==.function&& !fd.scope.isCoroutine&& !fd.scope.isGenerator
  &&vZ (fn.kd.map (·.1))&&vZ fn.ps&&fn.ps.all λx=>BU<|aU x fn.kd
noncomputable def Cg(i:Nat):Nat->List Stmt->List (Nat×Stmt)
 |_,[]=>[]
 |j,m::r=>(i+1000*j,m)::Cg i (j+1) r
def vf:Nat->List Stmt->List (Nat×Stmt)
 |_,[]=>[]
 |i,s::r=>(i,s)::(Cg i 1 (Bc s)++vf (i+1) r)
def vH:List<|Nat×Stmt:=(vf 0 P0.main.body).filter λq=>(vg q.2).isSome
def rq(q:Nat×Stmt):Fn:=(vg q.2).getD ⟨[],[],[]⟩
def OU(P:Params):vH.all λq=>IJ (gG P) (eG q.1)<|rq q:=by ext
def RF(P:Params):vH.map (λq=>let fd:=vI (gG P<|eG q.1);(fd.params.args.map (·.arg),fd.body,fd.scope.names))=vH.map (λq=>((rq q).ps,FuncBody.stmts (rq q).body,(rq q).kd)):=by ext
def ER:∀{l:List Stmt} {j k:Nat},hX k l=some m->(i+1000*(j+k),m)∈Cg i j l
 |[],_,k,e=>by cases k<;>exact ng e
 |a::r,j,k,e=>by
  induction k using Nat.casesAuxOn with
  |zero=>refine zn e ?_;exact .head _
  |succ k=>exact .tail _ (by have:=ER (i:=i) (l:=r) (j:=j+1) (k:=k) e;rwa [show j+(k+1)=j+1+k by lia])
def EN:∀{l:List Stmt} {i k:Nat},hX k l=some s->(i+k,s)∈vf i l/\∀j m,hX j (Bc s)=some m->(i+k+1000*(1+j),m)∈vf i l
 |[],_,k,e=>by cases k<;>exact ng e
 |a::r,i,k,e=>by
  induction k using Nat.casesAuxOn with
  |zero=>refine zn e ?_;exact⟨.head _,λj m h=>.tail _<|gq _<|ER (j:=1) h⟩
  |succ k=>obtain⟨h1,h2⟩:=EN (l:=r) (i:=i+1) (k:=k) e;rw[show i+(k+1)=i+1+k by lia];exact⟨.tail _<|ei _ h1,λj m h=>.tail _<|ei _<|h2 j m h⟩
set_option tactic.hygienic true in
def PH(h:oM f=some fn):∃s,(f,s)∈vH/\rq (f,s)=fn:=by
 unfold oM at h;refine aA (Option.bind_eq_some_iff.mp h) λs h1 h2=>?_;obtain⟨m1,m2⟩:=EN (i:=0) h1;have done:∀t,(f,t)∈vf 0 P0.main.body->vg t=some fn->∃s,(f,s)∈vH/\rq (f,s)=fn:=λt ht e=>(au t (List.mem_filter.mpr ⟨ht,by rw[e];rfl⟩) (by unfold rq;rw[e];rfl))
 split at h2
 ·rename_i q;refine done s ?_ h2;have:0+f%1000=f:=by lia
  rw[this] at m1;exact m1
 ·rename_i j q;refine aA (Option.bind_eq_some_iff.mp h2) λm h3 h4=>?_;refine done m ?_ h4;have:=m2 j m h3;have e:0+f%1000+1000*(1+j)=f:=by lia
  rw[e] at this;exact this
def WO(w:World)(h:oM f=some fn):∃fd args,yn (WF w) (eG f) fn fd args:=by
 refine aA (PH h) λs hm e=>?_;have b:=cp (OU w.params) (f,s) hm;dsimp only at b;have q:=z5 (RF w.params) _ hm;rw[e] at b;simp only[e,Prod.mk.injEq] at q;refine fp q λq1 q2 q3=>?_;simp only[IJ,cS,dg,List.isEmpty_iff,List.all_eq_true] at b;obtain⟨⟨⟨⟨⟨⟨⟨⟨⟨⟨⟨⟨b1,b2⟩,b3⟩,b4⟩,b5⟩,b6⟩,b7⟩,b8⟩,b9⟩,Z7⟩,b11⟩,b12⟩,b13⟩:=b;refine aA (O8 b1) λx hx hd=>?_;refine bT (vI<|gG w.params<|eG f) ((vI<|gG w.params<|eG f).params.args) ?_;exact {
  obj:=au x hx hd
  params:=Nr b2
  names:=q1
  dflt:=by
   split at b3
   ·assumption
   ·exact nj b3
  JB:=b4
  body:=q2
  code:=Ob b5
  glob:=fy b6
  blt:=fy b7
  kind:=beq_iff_eq.mp b8
  co:=b9
  gen:=Z7
  kd:=q3
  nd:=AH b11
  loc:=λy hy=>by rw[<-oY];exact Rb<|b13 y hy
  C7:=AH b12}
def IU(h:(a&&b&&c)):a=true/\b=true/\c=true:=by simp only[cS] at h;exact⟨h.1.1,h.1.2,h.2⟩
def BA{a:Option Value}{v:Value}(h:(a==none&&b==some v)):a=none/\b=some v:=by simp only[cS,beq_iff_eq] at h;exact h
def S7{α:Type}{o:Option α}(h:o.isSome):∃x,o=some x:=Option.isSome_iff_exists.mp h
def Us(P:Params):∃o,gG P sysModules=some o:=S7<|by ext
section
variable(w:World)
def T6(c:Nat)(f:Str)(h:gn c f):uQ (KF w.params) (hJ c)/\findIn (KF w.params) (.ref<|hJ c) f=some none:=by have h:((hX c B5).map<|lR f).getD false:=h;refine aA (uV h) λl e k=>?_;have b:=wU (QD w.params) e;rw[Nat.zero_add] at b;obtain⟨b1,b2⟩:=cK b;exact⟨Fe b1,beq_iff_eq.mp<|cp b2 _<|zV k⟩
def Wj(x:Str)(i:Nat)(h:gT x=some (.fn i)):eX w.params x=some (.ref<|eG i)/\keepIn (KF w.params) (.ref<|eG i)=true:=by have b:=sR w.params h;simp only[rQ] at b;have b:=cK b;exact⟨GL b.1,b.2⟩
def TE(x:Str)(k:Nat)(h:gT x=some (.cls k)):eX w.params x=some (.ref<|hJ k):=by have b:=sR w.params h;simp only[rQ] at b;exact GL b
def wY(k f:Nat)(h:mT k "__init__"=some f):keepIn (KF w.params) (.ref<|hJ k)=true/\makesIn (KF w.params) (hJ k)=true/\findIn (KF w.params) (.ref<|hJ k) "__init__"=some (some<|.ref<|eG f)/\typeIn (KF w.params) (.ref<|eG f)=some (.type "function"):=by refine aA (Option.bind_eq_some_iff.mp h) λt e q=>?_;have b:=wU (OI w.params) e;rw[Nat.zero_add] at b;unfold HN at b;refine fp (IU b) λb1 b2 b3=>?_;rw[q] at b3;simp only[Option.map_some,Option.getD_some] at b3;obtain⟨c1,c2⟩:=cK b3;exact⟨b1,b2,beq_iff_eq.mp c1,beq_iff_eq.mp c2⟩
def SX(k:Nat)(m:Str)(f:Nat)(h:mT k m=some f):findIn (KF w.params) (.ref<|hJ k) m=some (some<|.ref<|eG f)/\isFn (KF w.params) (.ref<|eG f)=true/\keepIn (KF w.params) (.ref<|eG f)=true/\uQ (KF w.params) (hJ k):=by refine aA (Option.bind_eq_some_iff.mp h) λt e q=>?_;have b:=wU (QI w.params) e;rw[Nat.zero_add] at b;unfold Io at b;obtain⟨b1,b2⟩:=cK b;have c:=Tr.wR b2 q;refine fp (IU c) λc1 c2 c3=>?_;exact⟨beq_iff_eq.mp c1,c2,c3,Fe b1⟩
def Vj(x:Str)(b:Bi)(h:gT x=some (.bi b)):eX w.params x=none/\lz w.params x=some (t4 b):=by have c:=sR w.params h;simp only[rQ] at c;exact BA c
def SH(x:Str)(h:gT x=some .mW):eX w.params x=none/\lz w.params x=some (.type "range"):=by have c:=sR w.params h;simp only[rQ] at c;exact BA c
def SK(x:Str)(h:gT x=some .m6):eX w.params x=none/\lz w.params x=some (.builtin "isinstance"):=by have c:=sR w.params h;simp only[rQ] at c;exact BA c
def Uh:(eX w.params "list"=none/\lz w.params "list"=some (.type "list"))/\(eX w.params "tuple"=none/\lz w.params "tuple"=some (.type "tuple"))/\(eX w.params "bool"=none/\lz w.params "bool"=some (.type "bool"))/\eX w.params "Node"=some (.ref<|hJ 0):=⟨⟨by ext,by ext⟩,⟨by ext,by ext⟩,⟨by ext,by ext⟩,by ext⟩
end
def Q9(s r:List Nat)(h:oJ s xj=some r):Txt.lower ⟨s.toArray⟩=⟨r.toArray⟩/\r.length<=100:=by have:=cp Qb _<|z6 h;simpa only[cS,decide_eq_true_eq] using this
def O3(s r:List Nat)(h:oJ s wW=some r):Txt.lstripChars ⟨s.toArray⟩ ⟨#[48]⟩=⟨r.toArray⟩/\s.length<=100:=by have:=cp Q0 _<|z6 h;simpa only[cS,decide_eq_true_eq] using this
def XF(w:World):Sy (WF w) (KF w.params) (eX w.params) (lz w.params) eG:=by
 have e:(WF w).lK=gG w.params:=rfl;exact {
  hK:=λa o h=>Um h
  gn:=T6 w
  La:=λh g=>xp (xh w.params).1 g
  KV:=λh g=>xp (xh w.params).2.1 g
  nolimit:=λh g=>au _ (xp (xh w.params).2.2 g)<|SG w.params
  tab:=λx v h=>WH w h
  fn:=Wj w
  cls:=TE w
  init:=λk f h=>⟨(wY w k f h).1,(wY w k f h).2.1,(wY w k f h).2.2.1,(wY w k f h).2.2.2⟩
  met:=SX w
  bi:=Vj w
  mW:=SH w
  m6:=SK w
  tys:=Uh w
  ins:=WK w
  sys:=by rw[e];exact Us w.params
  lows:=Q9
  Iy:=O3
  defs:=λf fn h=>WO w h}
def PR(W:Wd)(w:Wo)(c:List O)(v:V)(r:Result)(s':Shared):Prop:=∃u,r=.ok (.ret u)/\Po W w c (λw' u=>VR W w'.G w'.φ v u) u s'
def rR(W:Wd)(A:Around)(a:Addr)(vs:List V)(c:List O)(v:V)(c':List O):Prop:=∀w us,aI W w c->be W w.G w.φ vs us->codeAny W.M A (.call (.ref a) ⟨us,[]⟩) (PR W w c' v) w.s
structure gO(d:Nat)(A:Around):Prop where
 hd:A.handled=none
 dep:A.depth+2*d+4<=recursionLimit
 un:A.units+10*d+1100<=cLine
def zW{W:Wd}{A:Around}{w:Wo}{c:List O}{Q E:Value->Shared->Prop}{f:Value}{us:List Value}{v:V}(hc:codeAny W.M A (.call f ⟨us,[]⟩) (PR W w c v) w.s)(q:∀u w',aQ w w'->aI W w' c->VR W w'.G w'.φ v u->Q u w'.s):wpAny W.M A (call f us) Q E w.s:=wpAny_call (codeAny_mono hc λr s' z=>z.elim λu z=>z.1▸z.2.elim λw' h=>h.1▸q u w' h.2.1 h.2.2.1 h.2.2.2)
def qM(W:Wd)(fa:Nat->Addr):Prop:=∀xs:List Int,xs.length<=63->∃c',∀A,gO 340 A->rR W A (fa 158) [.lst<|xs.map V.int] [] (.bool true) c'
def HO:∃w:World,∀w',qM (WF w) eG->qM (WF w') eG:=Classical.byCases (p:=∃w,¬qM (WF w) eG) (λh=>h.imp λw q w' z=>absurd z q)
 λh=>⟨⟨λ_ _=>0,{strHash:=λ_=>0,shareClass:=λ_=>0,mergeTok:=λt=>t,idOf:=λ_=>0,idOfShared:=λ_ _=>0,followText:=λ_=>false,idOfImm:=λ_=>0}⟩,λw' _=>Classical.not_not.mp λq=>h ⟨w',q⟩⟩
def w0:World:=Classical.choose HO
structure Wz where
 W:Wd
 K:Frag
 mg:Str->Option Value
 mb:Str->Option Value
 fa:Nat->Addr
def Hw:∃z:Wz,z=⟨WF w0,KF w0.params,eX w0.params,lz w0.params,eG⟩:=⟨_,rfl⟩
def wz:Wz:=Classical.choose Hw
def H7:wz=⟨WF w0,KF w0.params,eX w0.params,lz w0.params,eG⟩:=Classical.choose_spec Hw
def W:Wd:=wz.W
def K:Frag:=wz.K
def mg:Str->Option Value:=wz.mg
def mb:Str->Option Value:=wz.mb
def fa:Nat->Addr:=wz.fa
def Y:Sy W K mg mb fa:=(congrArg (λz:Wz=>Sy z.W z.K z.mg z.mb z.fa) H7).mpr<|XF w0
def Tm(h:qM W fa)(w:World):qM (WF w) eG:=Classical.choose_spec HO w<|(congrArg (λz:Wz=>qM z.W z.fa) H7).mp h
def aI.vD(r:aI W w c):∀a o,W.lK a=some o->w.h.get? a=some o:=λa o e=>r.g a o<|r.base a o e
theorem aI.X(r:aI W w c):K.In w.h:=λa o e=>r.vD a o<|Y.hK a o e
def VR.toB(h:VR W G φ (.bool v) u):u=.bool v:=match h with
 |.bool _=>rfl
def VR.toI(h:VR W G φ (.int v) u):∃k,u=.int v k:=match h with
 |.int _ k=>⟨k,rfl⟩
def VR.toS(h:VR W G φ (.str v) u):∃k,u=.str ⟨v.toArray⟩ k:=match h with
 |.str _ k=>⟨k,rfl⟩
def zp(q:TR W n w t u)(e:t=.p v):VR W w.G w.φ v u:=match t,e,q with
 |_,rfl,q=>q
def jO(q:TR W n w t u)(e:dY t=some v):VR W w.G w.φ v u:=zp q<|uA e
theorem vP(q:TR W n w t u)(e:jP t=some v):u=.bool v:=(zp q<|Oa e).toB
def kG(q:TR W n w t u)(e:cw t=some v):∃k,u=.int v k:=(zp q<|EW e).toI
def yN(q:TR W n w t u)(e:f7 t=some v):∃k,u=.str ⟨v.toArray⟩ k:=(zp q<|OD e).toS
def eH.load(H:EnvOk env)(v:eH env s.heap x u)(hn:(x==("__classdict__":Str))=false)(q:Q u s):wpAny W.M A (loadName env x) Q E s:=
 v.elim (λh=>h.2.elim λm h'=>wpAny_loadName_local H.kind h.1 h'.1 h'.2 q)
  λh=>h.2.elim λc h'=>h.1.elim (λk=>wpAny_loadName_cell H.kind k h'.1 h'.2 q) λk=>wpAny_loadName_free H.kind k h'.1 h'.2 q hn
def o7(h:gV x):(x==("__debug__":Str))=false/\(x==("__classdict__":Str))=false:=
 have f:∀y:Str,(!nq x y)=true->(x==y)=false:=λy h=>beq_eq_false_iff_ne.mpr<|uT<|dg _▸h
 ⟨f _ (bp h).1,f _ (bp h).2⟩
def FP:k5 W A env (aS<|(tu q).bind λv=>some<|.p v)<|eval (.Constant q k pos) env:=
 λρ σ=>iE λt e hP=>⟨hP,λB w R F=>by
  induction q with
  |none=>exact zb (aE e)<|wpAny_Constant_none<|Po.here R .none
  |bool b=>exact zb (aE e)<|wpAny_Constant_bool<|Po.here R<|.bool b
  |int i=>exact zb (aE e)<|wpAny_Constant_int<|Po.jH R<|.int i _
  |str x=>exact zb (aE e)<|wpAny_Constant_str<|Po.jH R<|.str _ _
  |_=>exact ng e⟩
def FR.load(F:FR W B env ρ w)(H:EnvOk env)(e:aU x ρ=some l)(hv:jZ env x)(hn:(x==("__classdict__":Str))=false)(q:∀u,eH env w.h x u->TR W w w l.tv u->Q u w.s):wpAny W.M A (loadName env x) Q E w.s:=match l,e,q with
 |.val v,e,q=>(F.vals x v e hv).elim λu h=>h.1.load H hn<|q u h.1 h.2
 |.own xs,e,q=>(F.gb x xs e hv).elim λa h=>h.1.load H hn<|q _ h.1<|au a rfl h.2
def nN(H:EnvOk env)(h1:gV x)(hx:env.kindOf x=some .globalImplicit)(R:aI W w c)(hu:mg x=some u\/mg x=none/\mb x=some u)(q:Q u w.s):
    wpAny W.M A (eval (.Name x pos) env) Q E w.s:=
 have g:w.s.heap.Ns env.globals mg:=H.glob.symm▸Y.La _ R.vD
 Name_function_global H.kind hx (hu.elim (λh=>loadGlobal_global g h q) λh=>loadGlobal_builtin g h.1 (H.blt.symm▸Y.KV _ R.vD) h.2 q) (o7 h1).1
theorem iU(h:gr k o):o=some k:=match o,h with
 |some q,h=>congrArg some<|beq_iff_eq.mp h
def EZ(X:CxOk env cx)(h:oH<|aU x cx):jZ env x:=by
 unfold jZ;induction e:aU x cx with
 |none=>rw[e] at h;exact nj h
 |some k=>rw[X.kd x k e,<-e];exact h
def zU(X:CxOk env cx):k5 W A env (pj cx x)<|eval (.Name x pos) env:=
 λρ σ=>eJ λh1=>ph
  (λhv=>ij λl e=>bD λhP=>⟨hP,λB w R F=>wpAny_Name (F.load X.toEnvOk e (EZ X hv) (o7 h1).2 λu _ h=>Po.here R h) (o7 h1).1⟩)
  λhv=>ph (λhg=>iE λt e hP=>⟨hP,λB w R F=>(bc e).elim λg e=>(bc e.2).elim λv e2=>by
   induction g with
   |tab _=>cases e2.1;cases e2.2;exact(Y.tab x v e.1).elim λu h=>nN X.toEnvOk h1 (X.kd _ _<|iU hg) R (.inl h.1)<|Po.here R<|h.2.mono R.base List.nil_prefix
   |_=>exact ng e2.1⟩) λ_=>f8
def FA(hk:(g==f)=false)(h:getL f es=some r):getL f (⟨hsh,.str g t,u⟩::es)=some r:=by
 have e:(Value.str g t).isStr f=false:=hk;unfold getL at h⊢;rw[List.find?_cons_of_neg (by rw[e];exact Bool.noConfusion)];induction q:es.find? λe=>e.key.isStr f with
 |some en=>rw[q] at h;exact h
 |none=>
  rw[q] at h;induction z:es.any (·.refKey) with
  |true=>rw[z] at h;exact ng h
  |false=>rw[z] at h;simp only[List.any_cons,z];exact h
def dh.find(F:dh W G φ fs es):aU f fs=some v->∃u,getL f es=some (some u)/\VR W G φ v u:=by
 refine F.ind (λh=>ng h) λp hsh t u r es h F ih e=>?_;replace e:(bif nq p.1 f then some p.2 else aU f r)=some v:=e;induction q:nq p.1 f with
 |true=>rw[q] at e;refine zm e ?_;exact au u (by rw[gJ.mp q];simp[getL,Value.isStr]) h
 |false=>rw[q] at e;exact(ih e).imp λu' h=>⟨FA (beq_eq_false_iff_ne.mpr<|uT q) h.1,h.2⟩
theorem dh.KH(F:dh W G φ fs es):aU f fs=none->getL f es=some none:=by
 refine F.ind (λ_=>rfl) λp hsh t u r es h F ih e=>?_;replace e:(bif nq p.1 f then some p.2 else aU f r)=none:=e;induction q:nq p.1 f with
 |true=>rw[q] at e;exact nh e
 |false=>rw[q] at e;exact FA (beq_eq_false_iff_ne.mpr<|uT q)<|ih e
def Bb(W:Wd)(w:Wo)(c:Nat)(fs:List<|Str×V)(a:Addr):Prop:=∃d es n,w.h.get? a=some (instObj (W.cls c) d)/\w.h.get? d=some (dictOf es n)/\dh W w.G w.φ fs es/\∀q∈fs,gn c q.1=true
def aI.cell(R:aI W w c){i:Nat}(e:c[i]? =some o)(ha:w.φ[i]? =some (a::r)):OR W w.G w.φ w.h o<|a::r:=(R.cells i o e).elim λas h=>aE (h.1.symm.trans ha)▸h.2
def zG(h:hH c i=some xs):c[i]? =some (.lst xs):=(bc h).elim λo h=>match o,h with
 |.lst _,h=>aE h.2▸h.1
def Mj(h:gv c i=some es):c[i]? =some (.dict es):=(bc h).elim λo h=>match o,h with
 |.dict _,h=>aE h.2▸h.1
def Ek(h:jG c i=some q):c[i]? =some (.inst q.1 q.2):=(bc h).elim λo h=>match o,h with
 |.inst _ _,h=>aE h.2▸h.1
variable{c:List O} in
def uz(R:aI W w c)(hr:VR W w.G w.φ (.ptr i) u)(e:hH c i=some xs){P:Prop}(k:∀a r items n,u=.ref a->w.φ[i]? =some (a::r)->r=[]->w.h.get? a=some (dq items n)->be W w.G w.φ xs items->w.G a=none->xs.length<=ae->P):P:=by refine bJ hr.i λ_ _ eu hp=>?_;subst eu;refine oE (R.cell (zG e) hp) λa' items n z h1 h2 h3 h4=>?_;obtain⟨rfl,rfl⟩:=List.cons.inj z;exact k _ _ items n rfl hp rfl h1 h2 h3 h4
variable{c:List O} in
def uy(R:aI W w c)(hr:VR W w.G w.φ (.ptr i) u)(e:gv c i=some aO){P:Prop}(k:∀a r es n,u=.ref a->w.φ[i]? =some (a::r)->r=[]->w.h.get? a=some (dictOf es n)->cZ W w.G w.φ aO es->w.G a=none->(a==sysModules)=false->jC aO=true->aO.length<=1000->P):P:=by refine bJ hr.i λ_ _ eu hp=>?_;subst eu;refine DH (R.cell (Mj e) hp) λa' es n z h1 h2 h3 h4 h5 h6=>?_;obtain⟨rfl,rfl⟩:=List.cons.inj z;exact k _ _ es n rfl hp rfl h1 h2 h3 h4 h5 h6
variable{c:List O} in
def ES(R:aI W w c)(hr:VR W w.G w.φ (.ptr i) u)(e:jG c i=some q){P:Prop}(k:∀a d es n,u=.ref a->w.φ[i]? =some [a,d]->w.h.get? a=some (instObj (W.cls q.1) d)->w.h.get? d=some (dictOf es n)->dh W w.G w.φ q.2 es->w.G a=none->w.G d=none->(∀p∈q.2,gn q.1 p.1=true)->es.length<=900->P):P:=by refine bJ hr.i λ_ _ eu hp=>?_;subst eu;refine wq (R.cell (Ek e) hp) λa' d es n z h1 h2 h3 h4 h5 h6 h7=>?_;obtain⟨rfl,rfl⟩:=List.cons.inj z;exact k _ d es n rfl hp h1 h2 h3 h4 h5 h6 h7
def zF(R:aI W w c)(hr:VR W w.G w.φ o u)(e:GZ c o=some q):∃a,u=.ref a/\Bb W w q.1 q.2 a:=by
 induction o using V.casesOn with
 |inst k fs=>exact v4 hr.i λ_ _ _ _ eu ho hd hh hf=>aE e▸(au _ eu<|jE _ _ _ (R.g _ _ ho) (R.g _ _ hd) hh hf)
 |ptr i=>exact ES R hr e λa d es n h0 _ h1 h2 h3 _ _ h4 _=>au a h0<|jE d es n h1 h2 h3 h4
 |_=>exact ng e
def VR.handed(h:VR W G φ v u):handedIn u:=by cases h<;>rfl
def Es(R:aI W w c)(I:Bb W w k fs a)(e:aU f fs=some v)(q:∀u,VR W w.G w.φ v u->Q u {w.s with toks:=w.s.toks+1}):wpAny W.M A (getAttr (.ref a) f expr) Q E w.s:=
 I.elim λd I=>I.elim λes I=>I.elim λn I=>(I.2.2.1.find e).elim λu h=>
  have hc:=Y.gn k f<|I.2.2.2 _<|zT e
  get_value (R.X) (⟨I.1,rfl,rfl,I.2.1⟩:InstAt w.s.heap a _ (W.cls k)<|some<|dictOf es n) hc.1.ga (findObj_own hc.1.hd hc.2 rfl h.1) h.2.handed (q u h.2)
theorem Fj(h:qA o)(name:Str)(m:Sem Value):attributeBase o name env m=m:=by
 induction o using Expr.casesOn with
 |Call f as ks p=>induction f using Expr.casesOn with
  |Name x q=>cases as<;>cases ks<;>first|rfl|exact nj h
  |_=>rfl
 |_=>rfl
def No(hb:qA e):eval (.Attribute e f pos) env=(do
 let o<-eval e env
 standAt pos.atName
 let r<-holding [o]<|getAttr o f true
 letTemporaryGo e o r
 pure r):=Fj (name:=f) hb (eval e env)▸rfl
def NW(hd:k5 W A env d.t<|eval e env):k5 W A env (gd (qA e)<|H4 d f)<|eval (.Attribute e f pos) env:=
 λρ σ=>eJ λhb=>bE (hd ρ σ) λx aY k=>cN λo e2=>cN (o:=u4 aY.c f o) λv e3=>bD λhP=>⟨(k hP).1,λB w R F=>
  Attribute_any_ (Po.use ((k hP).2 B w R F) λu ac az aJ ak=>(bc e3).elim λz h=>(zF aJ (jO ak e2) h.1).elim λa I=>I.1.symm▸
   Es aJ I.2 h.2 λu hu=>Po.after az (Po.jH aJ hu) λ_ _ r=>r) (No hb)⟩
inductive VT(W:Wd)(w:Wo):V->Value->Prop
 |of {v:V} {u:Value} (r:VR W w.G w.φ v u):VT W w v u
 |ap {xs:List V} {a:Addr} (r:n6 W w xs a):VT W w (.lst xs) (.ref a)
def TR.vt(r:TR W n w t u):VT W w t.v u:=match t,r with
 |.p v,r=>.of r
 |.f xs,r=>r.elim λa r=>r.1.symm▸.ap r.2.1
 |.b xs,r=>r.elim λa r=>r.1.symm▸.ap r.2
noncomputable def isL:V->Bool
 |.lst _=>true
 |_=>false
def VT.val(r:VT W w v u)(h:isL v=false):VR W w.G w.φ v u:=by
 cases r with
 |of r=>exact r
 |ap _=>exact nk h
theorem VT.int(r:VT W w (.int i) u):∃t,u=.int i t:=(r.val rfl).toI
theorem VT.str(r:VT W w (.str l) u):∃t,u=.str ⟨l.toArray⟩ t:=(r.val rfl).toS
def VT.toI(r:VT W w v u)(e:v.cw=some i):∃t,u=.int i t:=VT.int<|uG e▸r
def VT.toS(r:VT W w v u)(e:v.f7=some l):∃t,u=.str ⟨l.toArray⟩ t:=VT.str<|uI e▸r
def VT.lst(R:aI W w c)(r:VT W w (.lst xs) u):∃a items n,u=.ref a/\w.h.get? a=some (dq items n)/\be W w.G w.φ xs items:=by
 cases r with
 |of r=>exact ez r.i λ_ _ _ e ho hv=>rt _ _ _ e (R.g _ _ ho) hv
 |ap r=>exact bJ r λitems n p hv=>rt _ items n rfl p.o hv
def VT.tup(R:aI W w c)(r:VT W w (.tup xs) u):∃a items n,u=.ref a/\w.h.get? a=some (lQ items n)/\be W w.G w.φ xs items:=ez (r.val rfl).i λ_ _ _ e ho hv=>rt _ _ _ e (R.g _ _ ho) hv
def fN{h:Heap}(e:h.get? a=some (dq items n)):h.IsList a<|List.toArray items:=fA _ e rfl ⟨n,rfl⟩
def lG(e:h.get? a=some (lQ items n)):IsTup h a<|List.toArray items:=fA _ e rfl ⟨n,rfl⟩
theorem fg(a b:Int):dQ a b=true↔a<=b:=Z.leB_iff a b
def qD(a b:Int):bQ a b=true↔a<b:=Z.ltB_iff a b
def gu(a b:Nat):dF a b=true↔a<=b:=Z.ble_iff
def qC(h:a=true↔p)(k:b=true↔p):a=b:=Bool.eq_iff_iff.mpr<|h.trans k.symm
theorem uC(a b:Int):bA a b=(a==b):=qC (wZ a b) beq_iff_eq
def Eo(hk:0<k)(h:a.natAbs<2^k):Builtin.Int.intBits a<=k:=by
 unfold Builtin.Int.intBits;split
 ·exact Nat.le_of_lt hk
 ·rename_i q;exact(Nat.log2_lt<|by simpa using q).mpr h
def Ei(h:mr a):Builtin.Int.intBits a<=64:=Eo (by ext)<|(gu _ _).mp h
theorem Mu(x y:List Nat):(⟨x.toArray⟩:Str)++⟨y.toArray⟩=⟨(x++y).toArray⟩:=Str.ext' (by rw[Str.cps_append];exact(List.append_toArray ..))
def lI:ae<=sizeLine:=by ext
def aI.fresh(R:aI W w c)(q:dI w a):w.G a=none/\a∉w.φ.flatten:=by
 constructor
 ·induction e:w.G a with
  |none=>rfl
  |some o=>exact absurd ((R.g _ _ e).symm.trans q) nh
 ·exact λm=>(R.live _ m).elim λo e=>absurd (e.symm.trans q) nh
abbrev Wo.hp(w:Wo)(h:Heap)(k:Nat):Wo:=⟨w.G,w.φ,{w.s with heap:=h,toks:=k}⟩
def OR.keep(le:kF G G')(pre:φ<+:iR)(hk:∀b∈as,∀ob,h.get? b=some ob->h'.get? b=some ob)(hG:o≠.dead->∀b∈as,G b=none->G' b=none)(r:OR W G φ h o as):OR W G' iR h' o as:=by
 induction o with
 |dead=>trivial
 |lst xs=>refine oE r λa items n q2 ho hv hg hl=>?_;clear r;subst q2;exact oU a items n rfl (hk _ (.head _) _ ho) (hv.mono le pre) (hG nofun _ (.head _) hg) hl
 |dict aO=>refine oE r λa es n q3 ho hv hg hl=>?_;clear r;subst q3;exact oU a es n rfl (hk _ (.head _) _ ho) (hv.mono le pre) (hG nofun _ (.head _) hg) hl
 |inst k fs=>refine yE r λa d es n q4 ho hd hv hg eh hl=>?_;clear r;subst q4;exact KQ a d es n rfl (hk _ (.head _) _ ho) (hk _ (.tail _<|.head _) _ hd) (hv.mono le pre) (hG nofun _ (.head _) hg) (hG nofun _ (.tail _<|.head _) eh) hl
def aQ.grown(g:∀b o,w.h.get? b=some o->h.get? b=some o):aQ w<|w.hp h k:=⟨λ_ _ e=>e,eZ _,λb o _ e=>⟨g _ _ e.o,e.g,e.n⟩,λb o e=>⟨o,g _ _ e⟩,rfl⟩
def aI.grown(r:aI W w c)(g:∀b o,w.h.get? b=some o->h.get? b=some o):aI W (w.hp h k) c:=⟨λa o e=>g _ _<|r.g a o e,r.base,r.len,r.nodup,λa e=>(r.live a e).imp λo e=>g _ _ e,λi o e=>(r.cells i o e).imp λas h=>⟨h.1,h.2.keep (λ_ _ e=>e) (eZ _) (λ_ _ _ e=>g _ _ e) λ_ _ _ e=>e⟩⟩
def zM(R:aI W w c)(hv:be W w.G w.φ xs items)(g:∀b o,w.h.get? b=some o->h.get? b=some o)(ha:h.get? a=some (dq items n))(hn:dI w a):
    Po W w c (λw' u=>TR W w w' (.f xs) u) (.ref a) {w.s with heap:=h,toks:=k}:=
 Po.mk (w':=w.hp h k) (aQ.grown g) (R.grown g) (fA _ rfl (aW items n ⟨ha,(R.fresh hn).1,(R.fresh hn).2⟩ hv) hn)
def Oq(R:aI W w c)(hv:be W w.G w.φ xs items):
    Po W w c (λw' u=>TR W w w' (.f xs) u) (.ref w.s.heap.objs.size) {w.s with heap:=w.s.heap.push<|dq items 0,toks:=k}:=
 zM R hv (λ_ _ e=>Heap.get?_push_of_some _ e) (Heap.get?_push_size _ rfl) (iB _)
def wM(R:aI W w c)(hv:be W w.G w.φ xs items):
    Po W w c (λw' u=>TR W w w' (.f xs) u) (.ref w.s.heap.objs.size) {w.s with heap:=w.s.heap.push<|dq items 0}:=Oq R hv (k:=w.s.toks)
theorem E3{α:Type}(x:List α):∀(k:Nat) (bN:Array α),(List.replicate k x.toArray).foldl (λa b=>a++b) bN=bN++(nK k x).toArray:=by
 intro k;induction k with
 |zero=>intro bN;exact(Array.append_empty).symm
 |succ k ih=>intro bN;rw[List.replicate_succ,List.foldl_cons,ih];show _=bN++((List.replicate (k+1) x).flatten).toArray;rw[List.replicate_succ,List.flatten_cons,<-List.append_toArray,Array.append_assoc];rfl
theorem Qs(x:List Nat)(n:Int):Txt.mul ⟨x.toArray⟩ n=⟨(nK n.toNat x).toArray⟩:=by
 unfold Txt.mul;split
 ·rename_i q;rw[show n.toNat=0 by lia];rfl
 ·split
  ·rename_i q1 q;simp only[Bool.or_eq_true,beq_iff_eq] at q;rcases q with rfl|q
   ·simp[nK]
   ·have:x=[]:=List.length_eq_zero_iff.mp q;refine zc this ?_;simp[nK]
  ·rw[E3];simp
@[elab_as_elim] theorem oZ{P:Value->Value->TV->Prop}(e:oe f x y=some t)(hx:VT W w x u)(hy:VT W w y v)(k:∀i j z a b,f i j=some z->P (.int i a) (.int j b) (.p<|.int z)):P u v t:=(bc e).elim λi e=>(bc e.2).elim λj e2=>(bc e2.2).elim λz e3=>(hx.toI e.1).elim λa h=>(hy.toI e2.1).elim λb h'=>by rw[h,h',<-aE e3.2];exact k i j z a b e3.1
def PK{j:Int}(h:0<=j):j.natAbs=j.toNat:=match j,h with|.ofNat _,_=>rfl
variable{A:Around} in
def NE{u:Value}(e:n7 op x y=some t)(R:aI W w c)(hx:VT W w x u)(hy:VT W w y v):
    wpAny W.M A (binaryOp op u v) (Po W w c λw' u=>TR W w w' t u) Ff w.s:=by
 have cb:∀{z:Int} {t':TV} {tk k:Nat},t'=.p (.int z)->Po W w c (λw' u=>TR W w w' t' u) (.int z tk) {w.s with toks:=k}:=λh=>h▸Po.jH R (.int _ _);induction op with
 |Sub=>exact oZ e hx hy λi j z a b h3=>by exact zb (aE h3)<|sub_int<|cb rfl
 |FloorDiv=>
  exact oZ e hx hy λi j z a b h3=>by have h:=cW h3;have g:=bp h.1;have g1:=(qD _ _).mp g.1;refine zm h.2 ?_;refine floordiv_int (Int.ne_of_gt g1) ?_<|.inl<|PyProof.noPylong_of_log2<|PK (Int.le_of_lt g1)▸(gu _ _).mp g.2;rw[Int.fdiv_eq_ediv_of_nonneg _<|Int.le_of_lt g1];exact cb rfl
 |Mod=>
  exact oZ e hx hy λi j z a b h3=>by have h:=cW h3;have g1:=(qD _ _).mp h.1;refine zm h.2 ?_;refine mod_int' (Int.ne_of_gt g1) ?_;rw[Int.fmod_eq_emod_of_nonneg _<|Int.le_of_lt g1];exact cb rfl
 |Pow=>
  exact oZ e hx hy λi j z a b h3=>by have h:=cW h3;have g:=bp h.1;have g':=bp g.1;have g0:=(fg _ _).mp g'.1;have gj:=(fg _ _).mp g'.2;have gi:=(gu _ _).mp g.2;exact zm h.2<|pow_int g0 (Int.le_trans (Int.mul_le_mul_of_nonneg_right (Int.ofNat_le.mpr<|Eo (a:=i) (k:=4) (by ext)<|Nat.lt_succ_of_le gi) g0)<|Int.le_trans (Int.mul_le_mul_of_nonneg_left gj<|by ext)<|by ext)<|cb rfl
 |LShift=>
  exact oZ e hx hy λi j z a b h3=>by have h:=cW h3;have g:=bp h.1;have g':=bp g.1;exact zm h.2<|lshift_int_small ((fg _ _).mp g'.1) ((fg _ _).mp g'.2) ((gu _ _).mp g.2)<|cb rfl
 |RShift=>
  exact oZ e hx hy λi j z a b h3=>by have h:=cW h3;refine zm h.2 ?_;refine rshift_int ((fg _ _).mp h.1) ?_;rw[Int.fdiv_eq_ediv_of_nonneg _<|Int.le_of_lt<|Int.pow_pos<|by ext];exact cb rfl
 |BitAnd=>
  exact oZ e hx hy λi j z a b h3=>by
   have h:=cW h3;have g:=bp h.1;refine zm h.2 ?_;refine and_int ?_;have:Builtin.bitAnd i j=((i.toNat&&&j.toNat:Nat):Int):=by unfold Builtin.bitAnd;rw[decide_eq_true<|(fg _ _).mp g.1,decide_eq_true<|(fg _ _).mp g.2]
   rw[this];exact cb rfl
 |BitOr=>
  exact oZ e hx hy λi j z a b h3=>by
   have h:=cW h3;have g:=bp h.1;have g1:=(fg _ _).mp g.1;have g2:=(fg _ _).mp g.2;refine zm h.2 ?_;refine or_int ?_;have:Builtin.bitOr i j=((i.toNat|||j.toNat:Nat):Int):=by
    have n1:∀k:Int,Builtin.bitNot (Builtin.bitNot k)=k:=λk=>by unfold Builtin.bitNot;lia
    have n2:∀k:Int,0<=k->¬0<=Builtin.bitNot k:=λk hk=>by unfold Builtin.bitNot;lia
    unfold Builtin.bitOr Builtin.bitAnd;rw[decide_eq_false<|n2 i g1,decide_eq_false<|n2 j g2];simp only[n1]
   rw[this];exact cb rfl
 |Mult=>
  refine aA (bc (show IQ x y=some t from e)) λj e1 e2=>?_;obtain⟨b,rfl⟩:=hy.toI e1;clear e;induction x using V.casesOn with
  |int i=>
   obtain⟨a,rfl⟩:=hx.int;have h:=cW e2;refine zm h.2 ?_;refine mul_int (cb rfl) ?_;induction q:mr i with
   |true=>exact IntMulOk.of_left<|Ei q
   |false=>exact IntMulOk.of_right<|Ei (by have:=h.1;rwa [q] at this)
  |str l=>
   obtain⟨a,rfl⟩:=hx.str;have h:=cW e2;have g:=bp h.1;have g':=bp g.1;have g1:=(fg _ _).mp g'.1;have g2:=(fg _ _).mp g'.2;have g3:=(gu _ _).mp g.2;refine zm h.2 ?_;unfold ae at g3;refine SB.mul ⟨?_,λh1 h2=>?_,λh1 h2=>?_⟩ λt' k=>?_
   ·simp only[Bool.or_eq_false_iff,decide_eq_false_iff_not];lia
   ·have h3:(l.length:Int)<=8388608:=by
     have:l.length*1<=l.length*j.toNat:=Nat.mul_le_mul_left _<|by lia
     lia
    have h4:(8388609:Int)<=(2^63-1)/j:=(Int.le_ediv_iff_mul_le<|by lia).mpr<|by lia
    have h5:((⟨l.toArray⟩:Str).length:Int)=(l.length:Int):=rfl;rw[h5];lia
   ·have h5:(⟨l.toArray⟩:Str).length=l.length:=rfl;rw[h5];simp only[Builtin.Str.tooLong,decide_eq_false_iff_not,sizeLine_eq];lia
   ·rw[Qs];exact Po.jH R<|.str _ _
  |lst l=>
   refine ez (hx.lst R) λa items k q5 ha hv=>?_;refine zc q5 ?_;have h:=cW e2;have g:=bp h.1;have g':=bp g.1;have g1:=(fg _ _).mp g'.1;have g2:=(fg _ _).mp g'.2;have g3:=(gu _ _).mp g.2;refine zm h.2 ?_;unfold ae at g3;rw[hv.length] at g3;refine wpAny_binaryOp_repeat_ref (T:="list") (U:="int") (by ext) (au _ ha rfl) (λs'=>typeIs_int s' j b) noFill_list_mul PySem.F.fills_int_mul PySem.F.slot_int_rmul repeat_list PySem.F.slot_int_index.lookup
    (call_meets PySem.F.slot_int_rmul (typeIs_int w.s j b) PySem.F.entry_int_rmul (PySem.F.args_int_rmul_2 _ _) (int___rmul___int_list j b a items.toArray k)
     ⟨ha,rfl,(au _ ha rfl),call_meets PySem.F.slot_list_mul (au _ ha rfl) PySem.F.entry_list_mul (PySem.F.args_list_mul_2 _ _)
      (AutoListH.list___mul___list_int_3 a items.toArray k j b (by simp[Builtin.List.listFitsIndex];lia) (by simp;lia) (by simp[Builtin.List.listTooLong,sizeLine];lia))
      ⟨ha,?_⟩⟩)
   have e1:(List.foldl (λx1 x2=>x1++x2) #[] (List.replicate (if items.toArray.isEmpty=true then 0 else j.toNat) items.toArray))=(nK j.toNat items).toArray:=by
    rw[E3];clear ha hv g3;induction items using bx with
    |nil=>simp[nK]
    |cons=>simp
   rw[e1];exact wM R<|hv.rep _
  |_=>exact ng e2
 |_=>exact ng e
def Os(e:I3 x y=some q)(hp:∀p,q.2=some p->p)(R:aI W w c)(hx:VT W w x u)(hy:VT W w y v):
    wpAny W.M A (binaryOp .Add u v) (Po W w c λw' u=>TR W w w' q.1 u) Ff w.s:=by
 induction x using V.casesOn with
 |int i=>refine aA (bc e) λj e1 e2=>?_;obtain⟨a,rfl⟩:=hx.int;obtain⟨b,rfl⟩:=hy.toI e1;exact zb (aE e2)<|add_int<|Po.jH R<|.int _ _
 |str l=>refine aA (bc e) λj e1 e2=>?_;obtain⟨a,rfl⟩:=hx.str;obtain⟨b,rfl⟩:=hy.toS e1;obtain rfl:=aE e2;have h:=hp _ rfl;rw[bO] at h;exact add_str (λt' tk=>by rw[Mu];exact Po.jH R<|.str _ _)<|aG h lI
 |lst l=>
  induction y using V.casesOn with
  |lst l2=>cases e;refine ez (hx.lst R) λa items n q6 ha hv=>?_;subst q6;refine ez (hy.lst R) λb Un n2 q7 hb JU=>?_;subst q7;have h:=hp _ rfl;rw[bO,hv.length,JU.length] at h;refine concat_meets (au _ ha rfl) (au _ hb rfl) noFill_list_add seq_list_add PySem.F.slot_list_add PySem.F.entry_list_add (PySem.F.args_list_add_2 _ _) (list_addW a b items.toArray Un.toArray n n2 none none #[] #[] (aG h lI)) ⟨ha,hb,?_⟩;rw[List.append_toArray];exact wM R<|JU.append hv
  |_=>exact ng e
 |_=>exact ng e
structure dJ(A:Around):Prop where
 hd:A.handled=none
 un:A.units+1000<cLine
theorem uO(a b:List Nat):((⟨a.toArray⟩:Str)==⟨b.toArray⟩)=lq a b:=qC (p:=a=b) (beq_iff_eq.trans ⟨λe=>by simpa using congrArg (λs:Str=>s.cps.toList) e,λe=>e▸rfl⟩)<|dR a b
theorem Pw:∀a b:List Nat,tU a b= !(decide<|b<a):=by
 intro a;induction a with
 |nil=>intro b;simp[tU,List.not_lt_nil]
 |cons a r ih=>
  intro b;induction b using bx with
  |nil=>simp[tU]
  |cons b t=>
   show(bif Nat.beq a b then tU r t else Nat.blt a b)=_;rw[ih t];induction q:Nat.beq a b with
   |true=>refine zb (fy q) ?_;simp[List.cons_lt_cons_iff]
   |false=>have iM:=Nat.ne_of_beq_eq_false q;rw[Bool.eq_iff_iff];simp only[cond_false,Nat.blt_eq,List.cons_lt_cons_iff,decide_eq_true_eq,dg,decide_eq_false_iff_not];lia
def wL{α β:Type}{f:α->Option β}{a:α}{r:List α}{l:List β}(h:mM f (a::r)=some l){P:Prop}(k:∀b l',f a=some b->mM f r=some l'->l=b::l'->P):P:=(bc h).elim λb h=>(bc h.2).elim λl' h'=>k b l' h.1 h'.1 (aE h'.2).symm
def MN(h:be W G φ xs us):mM V.f7 xs=some l->StrsAre us (l.map λx=>⟨x.toArray⟩):=by revert l;show∀l,_;exact h.ind (λl e=>aE e▸.nil) λx u r us h t ih l e=>wL e λb l' h1 h2 h3=>by obtain⟨k,rfl⟩:=VR.toS (uI h1▸h);rw[h3];exact .cons _ _<|ih l' h2
def NK(h:be W G φ xs us):mM V.cw xs=some l->IntsAre us l:=by revert l;show∀l,_;exact h.ind (λl e=>aE e▸.nil) λx u r us h t ih l e=>wL e λb l' h1 h2 h3=>by obtain⟨k,rfl⟩:=VR.toI (uG h1▸h);rw[h3];exact .cons _ _<|ih l' h2
theorem N3(l:List<|List Nat)(y:List Nat):((l.map λx=>(⟨x.toArray⟩:Str)).any λx=>x==⟨y.toArray⟩)=l.any λx=>lq x y:=by rw[List.any_map];exact congrArg (l.any ·)<|funext λx=>uO x y
def E1(neg:Bool)(e:CN k xs=some b)(hk:VT W w k u)(hv:be W w.G w.φ xs items)(ha:w.h.get? a=some (dq items n)\/w.h.get? a=some (lQ items n))(q:Q (.bool<|bif neg then !b else b) w.s):
    wpAny W.M A (compareOp (bif neg then .NotIn else .In) u<|.ref a) Q E w.s:=by
 induction k using V.casesOn with
 |str y=>
  obtain⟨t,rfl⟩:=hk.str;refine aA (bc e) λl h1 h2=>?_;obtain rfl:=aE h2;have hs:=MN hv h1;rw[<-N3] at q;rcases ha with ha|ha<;>cases neg
  ·exact in_list_strs (fN ha) hs q
  ·exact notin_list_strs (fN ha) hs q
  ·exact in_tuple_strs (lG ha) hs q
  ·exact notin_tuple_strs (lG ha) hs q
 |int y=>
  obtain⟨t,rfl⟩:=hk.int;refine aA (bc e) λl h1 h2=>?_;obtain rfl:=aE h2;have hs:=NK hv h1;have e2:(λx=>bA x y)=(λx=>x==y):=funext λx=>uC x y;rw[e2] at q;rcases ha with ha|ha<;>cases neg
  ·exact in_list_ints (fN ha) hs q
  ·exact notin_list_ints (fN ha) hs q
  ·exact in_tuple_ints (lG ha) hs q
  ·exact notin_tuple_ints (lG ha) hs q
 |_=>exact ng e
def oA(W:Wd)(G:GM)(φ:Ft):Option V->Option Value->Prop
 |none,o=>o=none
 |some v,o=>∃y,o=some y/\VR W G φ v y
theorem oA.isSome(h:oA W G φ r o):o.isSome=r.isSome:=match r,h with
 |none,h=>h▸rfl
 |some _,h=>h.elim λy h=>h.1▸rfl
def cZ.strs:∀{aO:List<|V×V} {es:List DictEntry},cZ W G φ aO es->(aO.all λq=>sM q.1)=true->∀e∈es,∃x t,e.key=.str x t/\e.hash=hashStr W.w x:=by
 intro aO;induction aO with
 |nil=>intro es h _ e he;cases h;cases he
 |cons p r ih=>
  intro es h e en he;cases h with
  |int hv t=>exact nj<|(bp e).1
  |str hv t=>
   rcases dZ he with rfl|he
   ·exact aW _ _ rfl rfl
   ·exact ih t (bp e).2 _ he
def cZ.ints:∀{aO:List<|V×V} {es:List DictEntry},cZ W G φ aO es->(aO.all λq=>F1 q.1)=true->∀e∈es,∃x t,e.key=.int x t/\e.hash=hashInt x:=by
 intro aO;induction aO with
 |nil=>intro es h _ e he;cases h;cases he
 |cons p r ih=>
  intro es h e en he;cases h with
  |str hv t=>exact nj<|(bp e).1
  |int hv t=>
   rcases dZ he with rfl|he
   ·exact aW _ _ rfl rfl
   ·exact ih t (bp e).2 _ he
theorem ED{α:Type}{is:α->Value->Bool}{x:α}(hb:is x e.key=b):findBy is (List.toArray<|e::es) x=bif b then some e.val else findBy is es.toArray x:=by simp only[findBy,List.find?_toArray,List.find?_cons,hb];cases b<;>rfl
set_option tactic.hygienic true in
variable{G:GM}{φ:Ft} in
theorem cZ.look{α:Type}{is:α->Value->Bool}{x:α}(hs:∀s t,is x (.str ⟨s.toArray⟩ t)=eO (.str s) k)(hi:∀i t,is x (.int i t)=eO (.int i) k):∀{aO:List<|V×V} {es:List DictEntry},cZ W G φ aO es->oA W G φ (sS k aO) (findBy is es.toArray x):=by
 intro aO;induction aO with
 |nil=>intro es h;cases h;simp[sS,findBy,oA]
 |cons p r ih=>
  intro es h;cases h with
  |str hv t=>
   rename_i s v tk u es;rw[ED (b:=eO (.str s) k)<|hs s tk];show oA W G φ (bif eO (.str s) k then some v else sS k r) _;cases eO (.str s) k
   ·exact ih t
   ·exact au u rfl hv
  |int hv t=>
   rename_i s v tk u es;rw[ED (b:=eO (.int s) k)<|hi s tk];show oA W G φ (bif eO (.int s) k then some v else sS k r) _;cases eO (.int s) k
   ·exact ih t
   ·exact au u rfl hv
def xx(W:Wd)(w:Wo)(aO:List<|V×V)(a:Addr):Prop:=∃es n,w.h.get? a=some (dictOf es n)/\cZ W w.G w.φ aO es/\(a==sysModules)=false
def z1(e:mB k aO=some r)(hk:VT W w k u)(D:xx W w aO a):
    (∃x t m,u=.str x t/\w.h.MapOf (strKind P0 W.w) a m/\oA W w.G w.φ r (m x))\/
    (∃x t m,u=.int x t/\w.h.MapOf (intKind P0 W.w) a m/\oA W w.G w.φ r (m x)):=by
 refine dW D λes n ha hd _=>?_;have h:=cW e;refine zm h.2 ?_;clear e;induction k using V.casesOn with
 |str y=>obtain⟨t,rfl⟩:=hk.str;exact .inl<|rt _ t _ rfl (oU _ es.toArray n ha ⟨rfl,rfl,rfl⟩ rfl (λen he=>(hd.strs h.1 en<|Array.mem_toList_iff.mpr he).elim λx z=>z.elim λt z=>(au x (by rw[z.1];exact strKind_is P0 W.w x t) z.2)) λ_=>rfl)<|hd.look (k:=.str y) (x:=⟨y.toArray⟩) (is:=Value.isStrOf) (λs t=>uO s y) λi t=>rfl
 |int y=>
  obtain⟨t,rfl⟩:=hk.int;exact .inr (rt _ t _ rfl (oU _ es.toArray n ha ⟨rfl,rfl,rfl⟩ rfl (λen he=>(hd.ints h.1 en<|Array.mem_toList_iff.mpr he).elim λx z=>z.elim λt z=>(au x (by rw[z.1];exact intKind_is P0 W.w x t) z.2)) λ_=>rfl) (hd.look (k:=.int y) (x:=y) (is:=Value.isInt) (λs t=>rfl) λi t=>by have:eO (.int i) (.int y)=(i==y):=uC i y;rw[this];simp[Value.isInt]))
 |_=>exact nj h.1
def FQ(neg:Bool)(e:mB k aO=some r)(hk:VT W w k u)(D:xx W w aO a)(q:∀tk,Q (.bool<|bif neg then !r.isSome else r.isSome) {w.s with toks:=tk}):wpAny W.M A (compareOp (bif neg then .NotIn else .In) u<|.ref a) Q E w.s:=by
 have hs:=D.choose_spec.choose_spec.2.2;rcases z1 e hk D with⟨x,t,m,rfl,hm,hr⟩|⟨x,t,m,rfl,hm,hr⟩<;>rw[<-hr.isSome] at q<;>cases neg
 ·exact wpAny_in_of (strKind_is P0 W.w x t) hs hm<|q _
 ·exact wpAny_notIn_of (strKind_is P0 W.w x t) hs hm<|q _
 ·exact wpAny_in_of (intKind_is P0 W.w x t) hs hm<|q _
 ·exact wpAny_notIn_of (intKind_is P0 W.w x t) hs hm<|q _
def Ez{A:Around}(h:∀{a b:V} {u v:Value},f a b=true->VR W G φ a u->VR W G φ b v->SeqAt.EqAt A.in1 s u v true):∀{xs ys:List V} {us vs:List Value},kU f xs ys=true->be W G φ xs us->be W G φ ys vs->
    us.length=vs.length/\∀j (h1:j<us.length) (h2:j<vs.length),SeqAt.EqAt A.in1 s us[j] vs[j] true:=by
 intro xs;induction xs with
 |nil=>
  intro ys us vs e ha hb;induction ys using bx with
  |cons=>exact nj e
  |nil=>rw[show us=[] from ha.i,show vs=[] from hb.i];exact⟨rfl,λj h1=>absurd h1<|Nat.not_lt_zero _⟩
 |cons x xs ih=>
  intro ys us vs e ha hb;induction ys using bx with
  |nil=>exact nj e
  |cons y ys=>
   refine dW ha.i λ_ _ ea h1 r1=>dW hb.i λ_ _ eb h2 r2=>?_;subst ea eb;obtain⟨i1,i2⟩:=ih (bp e).2 r1 r2;refine⟨congrArg (· +1) i1,λj g1 g2=>?_⟩;induction j using Nat.casesAuxOn with
   |zero=>exact h (bp e).1 h1 h2
   |succ j=>exact i2 j (Nat.lt_of_succ_lt_succ g1)<|Nat.lt_of_succ_lt_succ g2
theorem z3(l:List Nat):(l.all λ_=>true):=List.all_eq_true.mpr λ_ _=>rfl
set_option tactic.hygienic true in
variable{c:List O} in
def QJ(R:aI W w c):∀(n:Nat) {a b:V} {u v:Value} {A:Around},gY n a b=true->A.units+n<cLine->VR W w.G w.φ a u->VR W w.G w.φ b v->SeqAt.EqAt A w.s u v true:=by
 intro n;induction n with
 |zero=>intro a b u v A e;exact nj e
 |succ n ih=>
  intro a b u v A e hu ha hb;have hu':A.in1.units+n<cLine:=by simp only[Around.in1_units];lia
  have many:=λ{xs ys:List V} {us vs:List Value}=>Ez (G:=w.G) (φ:=w.φ) (A:=A) (s:=w.s) (f:=gY n) (λe ha hb=>ih e hu' ha hb) (xs:=xs) (ys:=ys) (us:=us) (vs:=vs);cases ha with
  |none=>induction b using V.casesOn with
   |none=>cases hb;exact SeqAt.EqAt.same _
   |_=>exact nj e
  |bool x=>induction b using V.casesOn with
   |bool y=>cases hb;rw[<-(show(x==y)=true from e)];exact SeqAt.EqAt.bool_bool _ _
   |_=>exact nj e
  |int x t=>induction b using V.casesOn with
   |int y=>cases hb;have e':=(uC x y).symm.trans (show bA x y=true from e);rw[<-e'];exact SeqAt.EqAt.int_int _ _ _ _
   |_=>exact nj e
  |str x t=>induction b using V.casesOn with
   |str y=>cases hb;have h2:=SeqAt.EqAt.str_str (A:=A) (s:=w.s) ⟨x.toArray⟩ t ⟨y.toArray⟩;have e':=(uO x y).trans (show lq x y=true from e);rw[e'] at h2;exact h2 _
   |_=>exact nj e
  |lst h1 r1=>induction b using V.casesOn with
   |lst y=>
    rename_i l1 n1;refine ez hb.i λ_ l2 n2 eu h2 r2=>?_;refine zc eu ?_;by_cases q:l1=l2
    ·exact zb q<|SeqAt.EqAt.same _
    ·obtain⟨i1,i2⟩:=many e r1 r2;refine SeqAt.EqAt.of_refs q ?_;have:=SeqAt.RcAt.lists (A:=A) (e:=λ_=>true) (fN<|R.g _ _ h1) (fN<|R.g _ _ h2) i1 (by lia) λj h1 h2=>i2 j h1 h2;rw[z3] at this;exact this
   |_=>exact nj e
  |tup h1 r1=>induction b using V.casesOn with
   |tup y=>
    rename_i l1 n1;refine ez hb.i λ_ l2 n2 eu h2 r2=>?_;refine zc eu ?_;by_cases q:l1=l2
    ·exact zb q<|SeqAt.EqAt.same _
    ·obtain⟨i1,i2⟩:=many e r1 r2;refine SeqAt.EqAt.of_refs q ?_;have:=SeqAt.RcAt.tuples (A:=A) (e:=λ_=>true) (lG<|R.g _ _ h1) (lG<|R.g _ _ h2) (by lia) λj h1 h2=>i2 j h1 h2;rw[z3] at this;simpa[i1] using this
   |_=>exact nj e
  |_=>exact nj e
theorem VT.isNone(r:VT W w v u):(u==Value.none)=v.isNone:=match r with
 |.of r=>by cases r<;>rfl
 |.ap r=>rfl
def V.zO{v:V}(h:v.isNone):v=.none:=by
 induction v using V.casesOn with
 |none=>rfl
 |_=>exact nj h
theorem VT.none(r:VT W w .none u):u=.none:=(r.val rfl).i
def GA(e:Dx c a d=some b)(R:aI W w c)(ha:VT W w a u)(hc:VT W w d v)(q:∀tk,Q (.bool<|bif neg then !b else b) {w.s with toks:=tk}):
    wpAny W.M A (compareOp (bif neg then .NotIn else .In) u v) Q E w.s:=by
 induction d using V.casesOn with
 |str t=>
  obtain⟨k,rfl⟩:=hc.str;refine aA (bc e) λs h1 h2=>?_;obtain⟨k',rfl⟩:=ha.toS h1;clear h1 ha;induction s using bx with
  |nil=>exact ng h2
  |cons x s=>induction s using bx with
   |cons=>exact ng h2
   |nil=>
    obtain rfl:=aE h2;have e2:(⟨[x].toArray⟩:Str)=⟨#[x]⟩:=rfl;have e3:t.any (Nat.beq x)=decide (x∈t):=qC (List.any_eq_true.trans ⟨λ⟨y,h,k⟩=>fy k▸h,λh=>⟨x,h,Nat.beq_refl x⟩⟩) decide_eq_true_iff;rw[e3] at q;cases neg
    ·exact in_str (by rw[e2,StrLaws.found_one];exact q w.s.toks)
    ·exact notIn_str (by rw[e2,StrLaws.found_one];exact q w.s.toks)
 |fq es=>refine aA (bc e) λr h1 h2=>?_;obtain rfl:=aE h2;refine fH (hc.val rfl).i λ_ _ _ eu ho hd hs=>?_;subst eu;exact FQ neg h1 ha (dA _ _ (R.g _ _ ho) hd hs) q
 |ptr i=>
  replace e:(match gv c i with|some es=>(mB a es).bind λr=>some r.isSome|none=>none)=some b:=e
  induction h:gv c i with
  |none=>rw[h] at e;exact ng e
  |some es=>rw[h] at e;refine aA (bc e) λr h1 h2=>?_;obtain rfl:=aE h2;exact uy R (hc.val rfl) h λx r es n h0 _ _ g1 g2 _ g4 _ _=>h0.symm▸FQ neg h1 ha (dA es n g1 g2 g4) q
 |lst xs=>refine ez (hc.lst R) λx items n q1 g1 g2=>?_;exact zc q1<|E1 neg e ha g2 (.inl g1)<|q w.s.toks
 |tup xs=>refine ez (hc.tup R) λx items n q2 g1 g2=>?_;exact zc q2<|E1 neg e ha g2 (.inr g1)<|q w.s.toks
 |_=>exact ng e
variable{A:Around} in
def z2(Rm:dJ A)(e:vA c op a b=some r)(R:aI W w c)(ha:VT W w a u)(hb:VT W w b v)(q:∀tk,Q (.bool r) {w.s with toks:=tk}):
    wpAny W.M A (compareOp op u v) Q E w.s:=by
 have q0:=q w.s.toks;have two:∀{f:Int->Int->Bool},(a.cw.bind λx=>b.cw.bind λy=>some<|f x y)=some r->∃x y s t,u=.int x s/\v=.int y t/\f x y=r:=λe=>(bc e).elim λx e=>(bc e.2).elim λy h=>(ha.toI e.1).elim λs h1=>(hb.toI h.1).elim λt h2=>rE x y s t h1 h2<|aE h.2
 induction op with
 |Eq=>induction a using V.casesOn with
  |int x=>refine aA (bc e) λy h1 h2=>?_;obtain rfl:=aE h2;obtain⟨_,rfl⟩:=ha.int;obtain⟨_,rfl⟩:=hb.toI h1;rw[uC] at q0;exact eq_int q0
  |str x=>refine aA (bc e) λy h1 h2=>?_;obtain rfl:=aE h2;obtain⟨_,rfl⟩:=ha.str;obtain⟨_,rfl⟩:=hb.toS h1;rw[<-uO] at q0;exact eq_str q0
  |tup x=>induction b using V.casesOn with
   |tup y=>have h:=cW (show bK (kU (gY 300) x y) (some true)=some r from e);cases h.2;refine ez (ha.tup R) λl is1 n1 q3 g1 v1=>?_;subst q3;refine ez (hb.tup R) λl2 is2 n2 q4 g2 v2=>?_;subst q4;have un:=Rm.un;obtain⟨i1,i2⟩:=Ez (A:=A) (s:=w.s) (λe ha hb=>QJ R 300 (A:=A.in1) e (by simp only[Around.in1_units];lia) ha hb) h.1 v1 v2;refine SeqAt.eq_tupleAt (e:=λ_=>true) (lG g1) (lG g2) (by lia) (λj h1 h2=>i2 j h1 h2) ?_;rw[z3];simpa[i1] using q0
   |_=>exact ng e
  |_=>exact ng e
 |NotEq=>induction a using V.casesOn with
  |int x=>refine aA (bc e) λy h1 h2=>?_;obtain rfl:=aE h2;obtain⟨_,rfl⟩:=ha.int;obtain⟨_,rfl⟩:=hb.toI h1;rw[uC] at q0;exact ne_int q0
  |str x=>refine aA (bc e) λy h1 h2=>?_;obtain rfl:=aE h2;obtain⟨_,rfl⟩:=ha.str;obtain⟨_,rfl⟩:=hb.toS h1;rw[<-uO] at q0;exact ne_str q0
  |_=>exact ng e
 |Lt=>refine me (two e) λx y s t q5 q6 h=>?_;subst q5;subst q6;exact lt_int<|qC (qD x y) decide_eq_true_iff▸h.symm▸q0
 |LtE=>induction a using V.casesOn with
  |int x=>refine aA (bc e) λy h1 h2=>?_;obtain rfl:=aE h2;obtain⟨_,rfl⟩:=ha.int;obtain⟨_,rfl⟩:=hb.toI h1;exact le_int<|qC (fg x y) decide_eq_true_iff▸q0
  |str x=>refine aA (bc e) λy h1 h2=>?_;obtain rfl:=aE h2;obtain⟨_,rfl⟩:=ha.str;obtain⟨_,rfl⟩:=hb.toS h1;rw[Pw] at q0;exact PySem.P.le_str<|by simpa using q0
  |_=>exact ng e
 |Gt=>refine me (two e) λx y s t q7 q8 h=>?_;subst q7;subst q8;exact gt_int<|qC (qD y x) decide_eq_true_iff▸h.symm▸q0
 |GtE=>refine me (two e) λx y s t q9 q10 h=>?_;subst q9;subst q10;exact ge_int<|qC (fg y x) decide_eq_true_iff▸h.symm▸q0
 |Is=>have h:=cW e;cases h.2;cases V.zO h.1;rw[hb.none];exact is_none (by rw[ha.isNone];exact q0)
 |IsNot=>have h:=cW e;cases h.2;cases V.zO h.1;rw[hb.none];exact isNot_none (by rw[ha.isNone];exact q0)
 |In=>exact GA (neg:=false) e R ha hb q
 |NotIn=>refine aA (bc e) λr' h1 h2=>?_;obtain rfl:=aE h2;exact GA (neg:=true) h1 R ha hb q
structure bY(W:Wd)(A:Around)(env:Env)(d:dC)(e:Expr):Prop where
 t:k5 W A env d.t<|eval e env
 b:tD W A env d.b<|isTrue e env<|eval e env
def FL(ht:k5 W A env d m):ow (yP d ρ σ) λq=>q.2.P->σ.P/\∀B w,aI W w σ.c->FR W B env ρ w->wpAny W.M A m (λv s=>wpAny W.M A (truthy v) (Po W w q.2.c λw' u=>u=q.1) Ff s) Ff w.s:=bE (ht ρ σ) λx aY k=>iE λb e hP=>⟨(k hP).1,λB w R F=>Po.use ((k hP).2 B w R F) λu ac az aJ ak=>(vP ak e).symm▸wpAny_truthy_bool (Po.mk az aJ rfl)⟩
def gH(ht:k5 W A env d<|eval e env)(he:∀whole,isTrue e env whole=(do let v<-whole;standAt e.pos;holding [v]<|truthy v)):bY W A env (df d) e:=⟨ht,λρ σ q hq hP=>⟨(FL ht q hq hP).1,λB w R F=>wpAny_isTrue_value ((FL ht q hq hP).2 B w R F)<|he _⟩⟩
def qF{α β:Type}{m:Sem β}{R:Wo->Wo->α->β->Prop}:jS W A env no m R:=λρ σ q e=>ng e
def z9:bY W A env gE e:=⟨qF,λρ σ q e=>ng e⟩
def o8{β:Type}{k:Lo->St->Option β}{Q:β->Prop}(h:∀σ',σ'.c=σ.c->(σ'.P->(∀q,p=some q->q)/\σ.P)->ow (k ρ σ') Q):ow (iP p k ρ σ) Q:=match p,h with
 |none,h=>h σ rfl λhP=>⟨(λ_=>ng),hP⟩
 |some p,h=>h ⟨σ.c,σ.sc,p/\σ.P⟩ rfl λhP=>⟨λq e=>aE e▸hP.1,hP.2⟩
def o0{β:Type}{x y:Lo->St->Option β}{Q:β->Prop}(h:b=true->ow (x ρ σ) Q)(k:b=false->ow (y ρ σ) Q):ow ((bif b then x else y) ρ σ) Q:=match b,h,k with
 |true,h,_=>h rfl
 |false,_,k=>k rfl
def uL(h:∀t σ',σ'.c=σ.c->(σ'.P->o σ.c=some t/\σ.P)->Q (t,σ')):ow (oV o ρ σ) Q:=by
 have d:∀sc,ow ((o σ.c).bind λx=>some (x,(⟨σ.c,sc,σ.P⟩:St))) Q:=λsc=>ij λt e=>bD<|h t _ rfl λhP=>⟨e,hP⟩;obtain⟨c,sc,P⟩:=σ;induction sc using bx with
 |nil=>exact d _
 |cons a r=>induction a with
  |ov n t=>induction n using Nat.casesAuxOn with
   |zero=>exact bD<|h t _ rfl λhP=>hP
   |succ n=>exact d _
  |_=>exact d _
def Sn(h:∀v σ',σ'.c=σ.c->(σ'.P->b=v/\σ.P)->Q (v,σ')):ow (iN b ρ σ) Q:=by
 obtain⟨c,sc,P⟩:=σ;have d:∀sc,ow (some (b,(⟨c,sc,P⟩:St))) Q:=λsc=>bD<|h b _ rfl λhP=>⟨rfl,hP⟩;induction sc using bx with
 |nil=>exact d _
 |cons a r=>induction a with
  |br n t=>induction n using Nat.casesAuxOn with
   |zero=>exact bD<|h t _ rfl λhP=>hP
   |succ n=>exact d _
  |_=>exact d _
def qP{β:Type}{f:Bool->Lo->St->Option β}{Q:β->Prop}(h:∀v σ',σ'.c=σ.c->(σ'.P->b=v/\σ.P)->ow (f v ρ σ') Q):ow (ar (iN b) f ρ σ) Q:=bE (Sn (Q:=λq=>ow (f q.1 ρ q.2) Q) h) λ_ _ h=>h
variable{w:Wo} in
def F4{α β:Type}{m:Sem Bool}{a b:M α}{x y:Sem β}{RR:Wo->Wo->α->β->Prop}{z:Sem β}(hd:tD W A env d m)(ha:jS W A env a x RR)(hb:jS W A env b y RR)(mono:∀{w w' gC v u},aQ w w'->RR w' gC v u->RR w gC v u)(hz:∀{s:Shared} {Q:β->Shared->Prop},wpAny W.M A m (λt ai=>if t=true then wpAny W.M A x Q Ff ai else wpAny W.M A y Q Ff ai) Ff s->wpAny W.M A z Q Ff s):jS W A env (ty d a b) z RR:=
 λρ σ=>bE (hd ρ σ) λv aY k=>qP λv' cg h1 h2=>by
  induction v' with
  |true=>exact fB (ha ρ cg) λq ih hP=>⟨(k (h2 (ih hP).1).2).1,λB w R F=>hz (Po.use ((k (h2 (ih hP).1).2).2 B w R F) λu ac az aJ ak=>by rw[if_pos<|ak.trans (h2 (ih hP).1).1];exact Po.use ((ih hP).2 B ac (h1.symm▸aJ)<|F.step az) λu an aN bG aC=>Po.mk (az.trans aN) bG<|mono az aC)⟩
  |false=>exact fB (hb ρ cg) λq ih hP=>⟨(k (h2 (ih hP).1).2).1,λB w R F=>hz (Po.use ((k (h2 (ih hP).1).2).2 B w R F) λu ac az aJ ak=>by rw[if_neg<|Bool.not_eq_true _▸(ak.trans (h2 (ih hP).1).1)];exact Po.use ((ih hP).2 B ac (h1.symm▸aJ)<|F.step az) λu an aN bG aC=>Po.mk (az.trans aN) bG<|mono az aC)⟩
def TR.up(x:aQ w w')(r:TR W w' gC t u):TR W w gC t u:=r.le x
def Po.tr(x:aQ w w')(q:Po W w' c (λgC u=>TR W w' gC t u) u s):Po W w c (λgC u=>TR W w gC t u) u s:=q.after x λ_ _ r=>r.le x
def FJ{α:Type}{f:TV->TV->M α}{Z:Lo->St->α×St->Prop}(ha:k5 W A env a m)(hb:k5 W A env b m')(k:∀x y aY,(aY.P->σ.P/\∀(B:Addr->Prop) w (Q:Value->Shared->Prop) (T:Value->Value->Sem Value),aI W w σ.c->FR W B env ρ w->
 (∀u v ac,aQ w ac->aI W ac aY.c->VT W ac x.v u->VT W ac y.v v->wpAny W.M A (T u v) Q Ff ac.s)->wpAny W.M A m (λu ai=>wpAny W.M A m' (λv af=>wpAny W.M A (T u v) Q Ff af) Ff ai) Ff w.s)->ow (f x y ρ aY) (Z ρ σ)):
    ow (ar a (λx=>ar b λy=>f x y) ρ σ) (Z ρ σ):=
 bE (ha ρ σ) λx aY cC=>bE (hb ρ aY) λy cg aL=>k x y cg λhP=>
  have IV:=aL hP;have Ja:=cC IV.1
  ⟨Ja.1,λB w Q T R F q=>Po.use (Ja.2 B w R F) λu ac az aJ ak=>Po.use (IV.2 B ac aJ<|F.step az) λv an aN bG aC=>q u v an (az.trans aN) bG (aN.tr ak).vt aC.vt⟩
def OL(h:Hx op):op=.Add:=by
 induction op with
 |Add=>rfl
 |_=>exact nj h
def Po.DU(x:aQ w w')(h:wpAny W.M A m (Po W w' c λgC u=>TR W w' gC t u) Ff w'.s):wpAny W.M A m (Po W w c λgC u=>TR W w gC t u) Ff w'.s:=Po.use h λz an aN bG de=>Po.mk (x.trans aN) bG<|de.le x
def QC(cC:bY W A env d₁ l)(aL:bY W A env ym r):bY W A env (df<|Ir op d₁ ym)<|.BinOp l op r pos:=by
 refine gH (λρ σ=>?_) λ_=>rfl;refine FJ (Z:=Pq W A env _<|TR W) cC.t aL.t λx y aY h=>o0 (λe=>?_) λ_=>uL λt σ' hc hp hP=>?_
 ·refine zc (OL e) ?_;exact cN λq e=>o8 λσ' hc hp=>bD λhP=>⟨(h (hp hP).2).1,λB w R F=>wpAny_BinOp<|(h (hp hP).2).2 B w _ _ R F λu v ac az aJ ak aC=>Po.DU az<|Os e (hp hP).1 (hc.symm▸aJ) ak aC⟩
 ·exact⟨(h (hp hP).2).1,λB w R F=>wpAny_BinOp<|(h (hp hP).2).2 B w _ _ R F λu v ac az aJ ak aC=>Po.DU az<|NE (hp hP).1 (hc.symm▸aJ) ak aC⟩
def Pb(W:Wd)(A:Around)(env:Env)(m:(Value->Shared->Prop)->(Shared->Prop)->Shared->Prop)(ρ:Lo)(σ:St)(q:Bool×St):Prop:=q.2.P->σ.P/\∀(B:Addr->Prop) w (Q:Value->Shared->Prop) (Qf:Shared->Prop),aI W w σ.c->FR W B env ρ w->(∀ac,aQ w ac->aI W ac q.2.c->Q (.bool q.1) ac.s/\(q.1=false->Qf ac.s))->m Q Qf w.s
def FH(hd:∀ρ σ,ow (d ρ σ)<|Pb W A env m ρ σ)(ht:∀{Q s},m Q (Q<|.bool false) s->wpAny W.M A (eval e env) Q Ff s)(hb:∀{Q s},m (λv ai=>wpAny W.M A (truthy v) Q Ff ai) (Q false) s->wpAny W.M A (isTrue e env<|eval e env) Q Ff s):bY W A env (df<|bB d) e:=by
 have main:∀ρ σ,ow (bB d ρ σ) λq=>∃b,q.1=.p (.bool b)/\Pb W A env m ρ σ (b,q.2):=λρ σ=>bE (hd ρ σ) λb aY k=>bD<|au b rfl k;refine⟨λρ σ=>fB (main ρ σ) λq h hP=>?_,λρ σ=>bE (main ρ σ) λt aY h=>iE λb e hP=>?_⟩
 ·refine aA h λb h1 k=>?_;rw[h1];exact⟨(k hP).1,λB w R F=>ht<|(k hP).2 B w _ _ R F λac az aJ=>⟨Po.mk az aJ<|.bool b,λe=>Po.mk az aJ<|(show b=false from e)▸.bool _⟩⟩
 ·refine aA h λb' h1 k=>?_;subst h1;cases e;exact⟨(k hP).1,λB w R F=>hb<|(k hP).2 B w _ _ R F λac az aJ=>⟨wpAny_truthy_bool<|Po.mk az aJ rfl,λe=>Po.mk az aJ e.symm⟩⟩
def QN(Rm:dJ A){d:Expr->dC}(cC:bY W A env (d l) l)(aL:bY W A env (d r) r)(hm:behindInMarks op r=false):
    bY W A env (df<|bB<|ar (d l).t λx=>ar (d r).t λy=>ra op x y) (.Compare l [op] [r] pos):=
 FH (m:=λQ _ s=>wpAny W.M A (eval l env) (λa ai=>wpAny W.M A (eval r env) (λb af=>wpAny W.M A (compareOp op a b) Q Ff af) Ff ai) Ff s)
  (λρ σ=>FJ (Z:=Pb W A env _) cC.t aL.t λx y aY h=>iE (ρ:=ρ) (o:=vA aY.c op x.v y.v) λb e hP=>⟨(h hP).1,λB w Q Qf R F q=>(h hP).2 B w Q _ R F λu v ac az aJ ak aC=>z2 Rm e aJ ak aC λtk=>(q (ac.tk tk) (az.trans<|aQ.tk _ _)<|aJ.tk _).1⟩)
  (λh=>wpAny_Compare1 h hm) λh=>wpAny_isTrue_Compare1 h hm
def Q6(h:bY W A env d e):bY W A env (DT .Not d)<|.UnaryOp .Not e pos:=by
 refine⟨λρ σ=>?_,λρ σ=>?_⟩
 ·show ow (ar (ar (ar d.t λt=>aS<|jP t) λb=>aS<|some !b) (λb=>vT<|.bool b) ρ σ) _;refine bE (P:=Pq W A env (eval (.UnaryOp .Not e pos) env) (λ_ _ b u=>u=.bool b) ρ σ) (bE (P:=λq:Bool×St=>∃t,jP t=some q.1/\Pq W A env (eval e env) (TR W) ρ σ (t,q.2)) (bE (h.t ρ σ) λt aY k=>iE λb e=>(au t e k)) λb aY k=>bD λhP=>?_) λb aY k=>bD λhP=>?_
  ·exact k.elim λt k=>⟨(k.2 hP).1,λB w R F=>wpAny_UnaryOp<|Po.use ((k.2 hP).2 B w R F) λu ac az aJ ak=>(vP ak k.1).symm▸not_of (wpAny_truthy_bool<|Po.mk az aJ rfl)⟩
  ·exact⟨(k hP).1,λB w R F=>Po.use ((k hP).2 B w R F) λu ac az aJ ak=>Po.mk az aJ<|ak▸.bool b⟩
 ·show ow (ar d.b (λb=>aS<|some !b) ρ σ) _;exact bE (h.b ρ σ) λb aY k=>bD λhP=>⟨(k hP).1,λB w R F=>wpAny_isTrue_Not (Po.use ((k hP).2 B w R F) λu ac az aJ ak=>Po.mk az aJ (congrArg (!·) ak))⟩
def PO(h:bY W A env d e):bY W A env (DT .USub d)<|.UnaryOp .USub e pos:=by refine gH (λρ σ=>bE (h.t ρ σ) λt aY k=>cN λi e=>bD λhP=>?_) λ_=>rfl;exact⟨(k hP).1,λB w R F=>wpAny_UnaryOp<|Po.use ((k hP).2 B w R F) λu ac az aJ ak=>(kG ak e).elim λk h=>h.symm▸neg_int (Po.tr az<|Po.jH aJ<|.int _ _)⟩
def Qw(iY:bY W A env d₀ c)(cC:bY W A env d₁ l)(aL:bY W A env ym r):bY W A env ⟨ty d₀.b d₁.t ym.t,ty d₀.b d₁.b ym.b,s⟩<|.IfExp c l r pos:=⟨F4 iY.b cC.t aL.t (λx r=>r.le x) λh=>wpAny_IfExp h,F4 iY.b cC.b aL.b (λ_ r=>r) λh=>isTrue_IfExp h⟩
def fQ(W:Wd)(A:Around)(env:Env)(d:Expr->dC)(es:List Expr):Prop:=∀e∈es,bY W A env (d e) e
theorem fQ.hd(h:fQ W A env d<|e::es):bY W A env (d e) e:=h e<|.head _
def fQ.tl(h:fQ W A env d<|e::es):fQ W A env d es:=λx hx=>h x<|.tail _ hx
noncomputable def rd(k:Bool):BoolOp:=if k then .And else .Or
def Mx(op:BoolOp):rd (sX op)=op:=by cases op<;>rfl
def adc{k:Bool}(h:(b==k)):b=k:=beq_iff_eq.mp h
def adi(h:(b==k)=false):b= !k:=by cases b<;>cases k<;>first|rfl|exact nk h
def ch.vt(x:aQ w w')(r:VT W w v u):VT W w' v u:=match r with
 |.of r=>.of<|x.vr r
 |.ap r=>.ap<|x.AA r
def MF:∀{es:List Expr},fQ W A env d es->k5 W A env (sP k<|es.map d) (eval (.BoolOp (rd k) es pos) env):=by
 intro es;induction es with
 |nil=>intro _ ρ σ q e;exact ng e
 |cons e es ih=>
  intro h ρ σ;induction es using bx with
  |nil=>exact λq hq hP=>⟨(h.hd.t ρ σ q hq hP).1,λB w R F=>BoolOp_one<|(h.hd.t ρ σ q hq hP).2 B w R F⟩
  |cons e' es=>
   show ow (ar (d e).t (λt=>ar (aS<|jP t) λb=>ar (iN b) λb=>bif b==k then sP k ((e'::es).map d) else vT (.bool b)) ρ σ) _;refine bE (h.hd.t ρ σ) λt aY k₁=>cN λb e1=>qP λv cg hc hb=>?_;have go:∀{q:TV×St},(q.2.P->cg.P)->(q.2.P->∀(B:Addr->Prop) w ac,FR W B env ρ w->aQ w ac->aI W ac cg.c->bif v==k then wpAny W.M A (eval (.BoolOp (rd k) (e'::es) pos) env) (Po W w q.2.c λw' u=>TR W w w' q.1 u) Ff ac.s else Po W w q.2.c (λw' u=>TR W w w' q.1 u) (.bool v) ac.s)->Pq W A env (eval (.BoolOp (rd k) (e::e'::es) pos) env) (TR W) ρ σ q:=λ{q} hp hk hP=>by
    have hb:=hb<|hp hP;refine⟨(k₁ hb.2).1,λB w R F=>?_⟩;have main:∀{Q:Value->Bool->Shared->Prop},(∀ac,aQ w ac->aI W ac cg.c->Q (.bool v) v ac.s)->wpAny W.M A (eval e env) (λu ai=>wpAny W.M A (truthy u) (λz af=>Q u z af) Ff ai) Ff w.s:=λq=>Po.use ((k₁ hb.2).2 B w R F) λu ac az aJ ak=>by rw[vP ak e1,hb.1];exact wpAny_truthy_bool<|q ac az<|hc.symm▸aJ
    clear ih;induction k with
    |true=>exact BoolOp_and (main λac az aJ=>by have:=hk hP B w ac F az aJ;cases v<;>exact this)
    |false=>exact BoolOp_or (main λac az aJ=>by have:=hk hP B w ac F az aJ;cases v<;>exact this)
   refine o0 (λev=>?_) λev=>bD (go (λhP=>hP) λhP B w ac F az aJ=>by rw[ev];exact Po.mk az aJ<|.bool _);exact fB (ih h.tl ρ cg) λq ih=>go (λhP=>(ih hP).1) λhP B w ac F az aJ=>by rw[ev];exact Po.DU az<|(ih hP).2 B ac aJ<|F.step az
def Nz:∀{es:List Expr},fQ W A env d es->tD W A env (uP k<|es.map d) (allTrue (rd k) es env):=by
 intro es;induction es with
 |nil=>
  intro _ ρ σ;refine bD λhP=>⟨hP,λB w R F=>?_⟩;cases k
  ·exact wpAny_allTrue_Or_nil<|Po.here R rfl
  ·exact wpAny_allTrue_And_nil<|Po.here R rfl
 |cons e es ih=>
  intro h ρ σ;show ow (ar (d e).b (λb=>ar (iN b) λb=>bif b==k then uP k (es.map d) else aS (some b)) ρ σ) _;refine bE (h.hd.b ρ σ) λb aY k₁=>qP λv cg hc hb=>?_;have go:∀{q:Bool×St},(q.2.P->cg.P)->(q.2.P->∀(B:Addr->Prop) w ac,FR W B env ρ w->aQ w ac->aI W ac cg.c->bif v==k then wpAny W.M A (allTrue (rd k) es env) (Po W w q.2.c λw' u=>u=q.1) Ff ac.s else Po W w q.2.c (λw' u=>u=q.1) v ac.s)->Pq W A env (allTrue (rd k) (e::es) env) J4 ρ σ q:=λ{q} hp hk hP=>by
   have hb:=hb<|hp hP;refine⟨(k₁ hb.2).1,λB w R F=>?_⟩;have main:∀{Q:Bool->Shared->Prop},(∀ac,aQ w ac->aI W ac cg.c->Q v ac.s)->wpAny W.M A (isTrue e env<|eval e env) Q Ff w.s:=λq=>Po.use ((k₁ hb.2).2 B w R F) λu ac az aJ ak=>by rw[show u=v from ak.trans hb.1];exact q ac az<|hc.symm▸aJ
   clear ih;induction k with
   |true=>exact wpAny_allTrue_And_cons (main λac az aJ=>by have:=hk hP B w ac F az aJ;cases v<;>exact this)
   |false=>exact wpAny_allTrue_Or_cons (main λac az aJ=>by have:=hk hP B w ac F az aJ;cases v<;>exact this)
  refine o0 (λev=>?_) λev=>bD (go (λhP=>hP) λhP B w ac F az aJ=>by rw[ev];exact Po.mk az aJ rfl);exact fB (ih h.tl ρ cg) λq ih=>go (λhP=>(ih hP).1) λhP B w ac F az aJ=>by rw[ev];exact Po.use ((ih hP).2 B ac aJ<|F.step az) λu an aN bG aC=>Po.mk (az.trans aN) bG aC
def Qo(h:fQ W A env d es):bY W A env ⟨sP (sX op)<|es.map d,uP (sX op)<|es.map d,s⟩<|.BoolOp op es pos:=by
 have e:=Mx op
 generalize sX op=k at e
 subst e;exact⟨MF h,λρ σ=>fB (Nz h ρ σ) λq k hP=>⟨(k hP).1,λB w R F=>wpAny_isTrue_BoolOp<|(k hP).2 B w R F⟩⟩
abbrev GS(W:Wd)(A:Around)(env:Env)(o o':CmpOp)(l b b':Expr)(Q:Value->Shared->Prop)(Qf:Shared->Prop)(s:Shared):Prop:=
 wpAny W.M A (eval l env) (λa ai=>wpAny W.M A (eval b env) (λv af=>wpAny W.M A (compareOp o a v) (λc aH=>wpAny W.M A (truthy c) (λt a5=>bif t then wpAny W.M A (eval b' env) (λv' bR=>wpAny W.M A (compareOp o' v v') Q Ff bR) Ff a5 else(Qf a5/\c=.bool false)) Ff aH) Ff af) Ff ai) Ff s
def Ou(Rm:dJ A){d:Expr->dC}(iY:bY W A env (d l) l)(cC:bY W A env (d b) b)(aL:bY W A env (d b') b')(hm:lastMarks [o,o'] [b,b']=false):
    bY W A env (df<|bB<|ar (d l).t λx=>ar (d b).t λy=>ar (ra o x y) λq=>ar (iN q) λq=>bif q then(ar (d b').t λz=>ra o' y z) else aS (some false)) (.Compare l [o,o'] [b,b'] pos):=by
 refine FH (m:=GS W A env o o' l b b') (λρ σ=>?_)
  (λh=>Compare_chain (wpAny_mono h (λa ai k₁=>chain_link<|wpAny_mono k₁ (λb af ay=>wpAny_mono ay (λc aH ba=>wpAny_mono ba (λv a5 cL=>?_) λ_ _ z=>z.elim) λ_ _ z=>z.elim) λ_ _ z=>z.elim) λ_ _ z=>z.elim) hm)
  λh=>isTrue_chain (wpAny_mono h (λa ai k₁=>test_link<|wpAny_mono k₁ (λb af ay=>wpAny_mono ay (λc aH ba=>wpAny_mono ba (λv a5 cL=>?_) λ_ _ z=>z.elim) λ_ _ z=>z.elim) λ_ _ z=>z.elim) λ_ _ z=>z.elim) hm
 ·refine bE (iY.t ρ σ) λx aY k₀=>bE (cC.t ρ aY) λy cg k₁=>?_;show ow (ar (aS<|vA cg.c o x.v y.v) (λq=>ar (iN q) λq=>bif q then(ar (d b').t λz=>ra o' y z) else aS (some false)) ρ cg) _;refine cN λr e1=>qP λv gK hc hb=>?_;have go:∀{q:Bool×St},(q.2.P->gK.P)->(q.2.P->∀(B:Addr->Prop) w ac (Q:Value->Shared->Prop) (Qf:Shared->Prop) z,FR W B env ρ w->aQ w ac->aI W ac gK.c->VT W ac y.v z->(∀ac,aQ w ac->aI W ac q.2.c->Q (.bool q.1) ac.s/\(q.1=false->Qf ac.s))->bif v then wpAny W.M A (eval b' env) (λv' bR=>wpAny W.M A (compareOp o' z v') Q Ff bR) Ff ac.s else(Qf ac.s/\Value.bool v=.bool false))->Pb W A env (GS W A env o o' l b b') ρ σ q:=λ{q} hp hk hP=>by have hb:=hb<|hp hP;have k₁:=k₁ hb.2;have k₀:=k₀ k₁.1;refine⟨k₀.1,λB w Q Qf R F q=>Po.use (k₀.2 B w R F) λu ac az aJ ak=>Po.use (k₁.2 B ac aJ<|F.step az) λz an aN bG aC=>z2 Rm e1 bG (aN.tr ak).vt aC.vt λtk=>wpAny_truthy_bool ?_⟩;rw[hb.1];exact hk hP B w (an.tk tk) Q Qf z F ((az.trans aN).trans<|aQ.tk _ _) (hc.symm▸bG.tk tk) ((aQ.tk an tk).tr aC).vt q
  refine o0 (λev=>?_) λev=>bD (go (λhP=>hP) λhP B w ac Q Qf z F az aJ _ q=>by rw[ev];exact⟨(q ac az aJ).2 rfl,rfl⟩);refine bE (aL.t ρ gK) λz BF ay=>iE (ρ:=ρ) (o:=vA BF.c o' y.v z.v) λr' e2=>go (λhP=>(ay hP).1) λhP B w ac Q Qf u F az aJ hu q=>?_;rw[ev];exact Po.use ((ay hP).2 B ac aJ<|F.step az) λu' an aN bG aC=>z2 Rm e2 bG (aN.vt hu) aC.vt λtk=>(q (an.tk tk) ((az.trans aN).trans<|aQ.tk _ _)<|bG.tk tk).1
 ·induction v with
  |true=>rw[if_pos rfl];exact chain_last cL
  |false=>rw[if_neg Bool.false_ne_true];exact cL.2▸cL.1
 ·induction v with
  |true=>rw[if_pos rfl];exact test_last cL
  |false=>rw[if_neg Bool.false_ne_true];exact cL.1
theorem nL(hs:eq e):starEach (e::r) env=(false,eval e env)::starEach r env:=by induction e using Expr.casesOn<;>first|rfl|exact nj hs
theorem zE:∀{es:List Expr},es.all eq=true->(backTo pos<|starEach es env).any (·.1)=false/\(backTo pos<|starEach es env).all (λx=> !x.1)=true:=by
 intro es;induction es with
 |nil=>exact λ_=>⟨rfl,rfl⟩
 |cons e r ih=>exact λh=>by rw[nL (bp h).1];exact ih (bp h).2
inductive cr(W:Wd)(n w:Wo):List TV->List Value->Prop
 |nil:cr W n w [] []
 |cons {t:TV} {u:Value} {ts:List TV} {us:List Value} (q:TR W n w t u) (r:cr W n w ts us):cr W n w (t::ts) (u::us)
theorem cr.map(h:∀{t u},TR W n w t u->TR W n' w' t u)(h':cr W n w ts us):cr W n' w' ts us:=by
 induction h' with
 |nil=>exact .nil
 |cons q _ ih=>exact .cons (h q) ih
def ch.Dz(x:aQ w w')(h:cr W n w ts us):cr W n w' ts us:=h.map x.tr
theorem cr.le(x:ch B n n')(h:cr W n' w ts us):cr W n w ts us:=h.map<|TR.le x
theorem cr.length(h:cr W n w ts us):ts.length=us.length:=by
 induction h with
 |nil=>rfl
 |cons _ _ ih=>exact congrArg (· +1) ih
def Zj(W:Wd)(n w:Wo)(ts:List TV)(us:List Value):Prop:=List.casesOn (motive:=λ_=>Prop) ts (us=[]) λt ts=>∃u v5,us=u::v5/\TR W n w t u/\cr W n w ts v5
theorem cr.i(h:cr W n w ts us):Zj W n w ts us:=by
 cases h with
 |nil=>exact rfl
 |cons h r=>exact dA _ _ rfl h r
noncomputable abbrev mv(env:Env)(pos:Pos)(es:List Expr):Sem<|List Value:=spliced<|backTo pos<|starEach es env
def wV:∀{es:List Expr},fQ W A env d es->∀ρ σ,ow (kH d es ρ σ) λq=>es.all eq=true/\q.1.length=es.length/\Pq W A env (mv env pos es) (cr W) ρ σ q:=by
 intro es;induction es with
 |nil=>exact λ_ ρ σ=>bD ⟨rfl,rfl,λhP=>⟨hP,λB w R F=>wpAny_items_nil<|Po.here R .nil⟩⟩
 |cons e es ih=>
  intro h ρ σ;refine eJ λhs=>bE (h.hd.t ρ σ) λt aY k₁=>bE (ih h.tl ρ aY) λts cg ay=>bD ⟨?_,congrArg (· +1) ay.2.1,λhP=>?_⟩
  ·rw[List.all_cons,hs];exact ay.1
  ·have ay:=ay.2.2 hP;have k₁:=k₁ ay.1;exact⟨k₁.1,λB w R F=>wpAny_items_cons (Po.use (k₁.2 B w R F) λu ac az aJ ak=>Po.use (ay.2 B ac aJ<|F.step az) λus an aN bG aC=>Po.mk (az.trans aN) bG<|.cons (aN.tr ak)<|aC.le az)<|nL hs⟩
theorem aQ.ne(x:aQ n w)(y:ch (· ≠a) w w')(hf:dI n a):aQ n w':=⟨λb o e=>y.le b o<|x.le b o e,x.pre.trans y.pre,λb o _ p=>y.kp b o (λz=>nh<|(z▸p.o).symm.trans hf)<|x.keep p,λb o e=>(x.al b o e).elim λo' e'=>y.al b o' e',by rw[y.sm,x.sm]⟩
def Hy(R:aI W w c)(p:cO w a o):∃w',w'.s=w.s/\w'.φ=w.φ/\w'.G a=some o/\kF w.G w'.G/\ch (· ≠a) w w'/\aI W w' c:=by
 have le:kF w.G λb=>if b=a then some o else w.G b:=λb ob e=>(if_neg λz:b=a=>nh<|(z▸e).symm.trans p.g).trans e;refine ZU ⟨λb=>if b=a then some o else w.G b,w.φ,w.s⟩ rfl rfl (if_pos rfl) le ⟨le,eZ _,λb ob q e=>⟨e.o,(if_neg q).trans e.g,e.n⟩,λb o e=>⟨o,e⟩,rfl⟩ ⟨λb ob e=>?_,λb ob e=>le b ob<|R.base b ob e,R.len,R.nodup,R.live,λi ob e=>?_⟩
 ·by_cases q:b=a
  ·subst q;exact(show some o=some ob from(if_pos rfl).symm.trans e)▸p.o
  ·exact R.g b ob<|(if_neg q).symm.trans e
 ·exact(R.cells i ob e).imp λas h=>⟨h.1,h.2.keep le (eZ _) (λ_ _ _ e=>e) λ_ b hb e'=>(if_neg λq:b=a=>p.n<|q▸List.mem_flatten.mpr (au as (List.mem_of_getElem? h.1) hb)).trans e'⟩
def I5(x:aQ n w)(R:aI W w c)(p:cO w a o)(hn:dI n a):∃w',w'.s=w.s/\w'.φ=w.φ/\w'.G a=some o/\kF w.G w'.G/\aQ n w'/\aI W w' c:=(Hy R p).imp λw' h=>⟨h.1,h.2.1,h.2.2.1,h.2.2.2.1,x.ne h.2.2.2.2.1 hn,h.2.2.2.2.2⟩
def jR(t:TV)(u:Value)(b:Addr):Prop:=(∃xs,t=.f xs)/\u=.ref b
def TR.keep(x:aQ n w)(R:aI W w c)(q:TR W n w t u)(e:t.keep=some v):∃w',w'.s=w.s/\w'.φ=w.φ/\aQ n w'/\aI W w' c/\VR W w'.G w'.φ v u:=by
 induction t with
 |p v'=>cases e;exact fc w rfl rfl x R q
 |b xs=>exact ng e
 |f xs=>refine zb (aE e) ?_;refine fz q λa q1 o1 hn=>?_;clear q;subst q1;refine bJ o1 λitems m p hv=>?_;exact Dy (I5 x R p hn) λw' h1 h2 h3 h4 h5 h6=>fc w' h1 h2 h5 h6<|.lst h3<|hv.mono h4<|h2▸eZ _
def MA(h:qR (t::ts)=some vs):∃v dM,t.keep=some v/\qR ts=some dM/\vs=v::dM:=wL h λv dM h1 h2 h3=>dA v dM h1 h2 h3
def Fd:∀{es:List Expr},fQ W A env d es->∀ρ σ,ow (kH d es ρ σ) λq=>es.all eq=true/\∀vs,qR q.1=some vs->Pq W A env (mv env pos es) (λ_ w' _ us=>be W w'.G w'.φ vs us) ρ σ q:=by
 intro es;induction es with
 |nil=>exact λ_ ρ σ=>bD ⟨rfl,λvs e hP=>⟨hP,λB w R F=>wpAny_items_nil<|Po.here R<|aE e▸.nil⟩⟩
 |cons e es ih=>
  intro h ρ σ;refine eJ λhs=>bE (h.hd.t ρ σ) λt aY k₁=>bE (ih h.tl ρ aY) λts cg ay=>bD ⟨?_,λvs ek hP=>?_⟩
  ·rw[List.all_cons,hs];exact ay.1
  ·refine dW (MA ek) λv dM e1 e2 q2=>?_;refine zc q2 ?_;have ay:=ay.2 dM e2 hP;have k₁:=k₁ ay.1;exact⟨k₁.1,λB w R F=>wpAny_items_cons (Po.use (k₁.2 B w R F) λu ac az aJ ak=>by refine i8 (ak.keep az aJ e1) λW8 h1 _ HK VS fj=>?_;rw[<-h1];exact Po.use (ay.2 B W8 VS<|F.step HK) λus an aN bG aC=>Po.mk (HK.trans aN) bG<|.cons (aN.vr fj) aC) (nL hs)⟩
def NR(h:rF vs=some ws):ws=vs/\vs.length<=1000:=⟨(aE (cW h).2).symm,(gu _ _).mp (cW h).1⟩
def ux(h:fQ W A env d es)(ρ:Lo)(σ:St):ow (mG d es ρ σ) λq=>es.all eq=true/\Pq W A env (mv env pos es) (λ_ w' vs us=>us.length<=sizeLine/\be W w'.G w'.φ vs us) ρ σ q:=
 bE (Fd (pos:=pos) h ρ σ) λts aY k=>iE λvs e=>by refine aA (bc e) λws e1 e2=>?_;obtain⟨rfl,hl⟩:=NR e2;exact⟨k.1,λhP=>⟨(k.2 _ e1 hP).1,λB w R F=>Po.use ((k.2 _ e1 hP).2 B w R F) λus ac az aJ ak=>Po.mk az aJ ⟨by rw[<-ak.length,sizeLine_eq];exact ju hl,ak⟩⟩⟩
def N4(h:fQ W A env d es):bY W A env (df<|ar (mG d es) λvs=>jK<|.f vs)<|.List es pos:=gH (λρ σ=>bE (ux (pos:=pos) h ρ σ) λvs aY k=>bD λhP=>⟨(k.2 hP).1,λB w R F=>wpAny_List<|Po.use ((k.2 hP).2 B w R F) λus ac az aJ ak=>⟨ak.1,Po.tr az<|wM aJ ak.2⟩⟩) λ_=>rfl
def cO.fresh{o:Obj}(R:aI W w c)(hn:dI w a)(ha:h.get? a=some o):cO (w.hp h k) a o:=⟨ha,(R.fresh hn).1,(R.fresh hn).2⟩
def eQ{h:Heap}:∀b ob,h.get? b=some ob->(h.push o).get? b=some ob:=λ_ _ e=>Heap.get?_push_of_some _ e
def PU{A:Around}{es:List Expr}(h:fQ W A env d es):bY W A env (df<|ar (mG d es) λvs=>vT<|.tup vs)<|.Tuple es k pos:=
 gH (λρ σ=>bE (ux (pos:=pos) h ρ σ) λvs aY k=>bD λhP=>⟨(k.2 hP).1,λB w R F=>wpAny_Tuple (Po.use ((k.2 hP).2 B w R F) λus ac az aJ ak=>⟨ak.1,by have hn:=az.old<|iB ac;refine Dy (I5 (az.trans<|aQ.grown (k:=ac.s.toks) eQ) (aJ.grown eQ) (cO.fresh aJ (iB ac)<|Heap.get?_push_size ac.s.heap (o:=lQ us 0) rfl) hn) λw' h1 h2 h3 h4 h5 h6=>?_;exact(js w' h1.symm h5 h6<|.tup h3<|ak.2.mono h4<|h2▸eZ _)⟩)⟩) λ_=>rfl
def mI(W:Wd)(A:Around)(fa:Nat->Addr)(C:Ca):Prop:=∀f vs σ,ow (C f vs σ) λq=>q.2.P->σ.P/\rR W A (fa f) vs σ.c q.1 q.2.c
def LN(h:wpAny W.M A (spliced []) (λvs s'=>Q ⟨vs,[]⟩ s') E s):wpAny W.M A (evalArgs f true [] []) Q E s:=by unfold evalArgs;show wpAny W.M A (spliced []>>=_) Q E s;refine wpAny_bind<|wpAny_mono h (λvs s' h'=>?_) λ_ _ x=>x;exact wpAny_holding<|wpAny_bind<|wpAny_pure<|wpAny_bind<|wpAny_pure<|wpAny_pure h'
def D6(hs:es.all eq)(h:wpAny W.M A (mv env pos es) (λvs s'=>Q ⟨vs,[]⟩ s') E s):wpAny W.M A (evalArgs f true (backTo pos<|starEach es env) []) Q E s:=by
 unfold mv at h;induction es using bx with
 |nil=>exact LN h
 |cons e r=>rw[nL (bp hs).1] at h⊢;exact evalArgs_plain h
def wI(hk:keepIn K f)(hs:es.all eq)(main:wpAny W.M A (mv env pos es) (Po W w c' R') Ff w.s)(q:∀us w',aQ w w'->aI W w' c'->R' w' us->wpAny W.M A (call f<|first++us) Q E w'.s):wpAny W.M A (callWith pos f first (backTo pos<|starEach es env) []) Q E w.s:=callWith_of (by rw[(zE (env:=env) (pos:=pos) hs).1];rfl) (keeps_K hk) (D6 hs<|Po.use main λus w' x' R' h=>⟨R'.X,q us w' x' R' h⟩)
def uu(hf:(∃i,f=.builtin i)\/∃T,f=.type T)(hs:es.all eq)(main:wpAny W.M A (mv env pos es) (Po W w c' R') Ff w.s)(q:∀us w',aQ w w'->aI W w' c'->R' w' us->wpAny W.M A (call f<|first++us) Q E w'.s):wpAny W.M A (callWith pos f first (backTo pos<|starEach es env) []) Q E w.s:=by
 have hp:=(zE (env:=env) (pos:=pos) hs).1;have h:=D6 (E:=E) (f:=f) hs (Q:=λa ai=>wpAny W.M A (call f (first++a.pos) a.kw) Q E ai)<|Po.use main λus w' x' R' h=>q us w' x' R' h;rcases hf with⟨i,rfl⟩|⟨T,rfl⟩
 ·exact Calls.callWith_builtin hp h
 ·exact PySem.callWith_type hp h
def r7(h:wpAny W.M A (eval (.Name x gQ) env) (λf ai=>wpAny W.M A (callWith pos f [] (backTo pos<|starEach es env) []) Q E ai) E s):wpAny W.M A (eval (.Call (.Name x gQ) es [] pos) env) Q E s:=by have:eval (.Call (.Name x gQ) es [] pos) env=(do callWith pos (<-eval (.Name x gQ) env) [] (backTo pos<|starEach es env) (backToKw pos<|keywordEach [] env)):=rfl;rw[this];exact wpAny_bind h
def OK(hC:mI W A fa C)(X:CxOk env cx)(h1:gV x)(h2:gr .globalImplicit<|aU x cx)(hg:gT x=some (.fn i))(h:fQ W A env d es):
    bY W A env (df<|ar (mG d es) λvs=>ar (oS C i vs) vT) (.Call (.Name x gQ) es [] pos):=
 gH (λρ σ=>bE (ux (pos:=pos) h ρ σ) λvs aY k=>bE (hC i vs aY) λv cg g=>bD λhP=>⟨(k.2 (g hP).1).1,λB w R F=>r7 (nN X.toEnvOk h1 (X.kd _ _<|iU h2) R (.inl (Y.fn x i hg).1)<|wI (Y.fn x i hg).2 k.1 ((k.2 (g hP).1).2 B w R F) λus ac az aJ ak=>zW ((g hP).2 ac us aJ ak.2) λu an aN bG aC=>Po.mk (az.trans aN) bG aC)⟩) λ_=>rfl
def yg:∀{φ:Ft},φ.flatten.Nodup->∀{i j:Nat} {as bs:List Addr},φ[i]? =some as->φ[j]? =some bs->i≠j->∀a∈as,a∉bs:=by
 intro φ;induction φ with
 |nil=>intro _ i j as bs hi;exact ng hi
 |cons x φ ih=>
  intro hn i j as bs hi hj Ki a ha hb;rw[List.flatten_cons,List.nodup_append] at hn;induction i using Nat.casesAuxOn with
  |zero=>induction j using Nat.casesAuxOn with
   |zero=>exact Ki rfl
   |succ j=>obtain rfl:=aE hi;exact hn.2.2 a ha a (List.mem_flatten.mpr<|au bs (List.mem_of_getElem? hj) hb) rfl
  |succ i=>induction j using Nat.casesAuxOn with
   |zero=>obtain rfl:=aE hj;exact hn.2.2 a hb a (List.mem_flatten.mpr<|au as (List.mem_of_getElem? hi) ha) rfl
   |succ j=>exact ih hn.2.1 hi hj (λe=>Ki (congrArg (· +1) e)) a ha hb
def aI.setCell(R:aI W w c)(hi:w.φ[i]? =some as)(same:∀b,b∉as->h.get? b=w.h.get? b)(live:∀b∈as,∃o,h.get? b=some o)(ho:OR W w.G w.φ h o as)(hG:∀b∈as,w.G b=none):aI W (w.hp h k) (c.set i o)/\aQ w (w.hp h k):=by
 have C6:∀b∈as,b∈w.φ.flatten:=λb hb=>List.mem_flatten.mpr<|au as (List.mem_of_getElem? hi) hb;refine⟨⟨λa ob e=>(same a λq=>nomatch(hG a q).symm.trans e).trans<|R.g a ob e,R.base,R.len.trans (List.length_set).symm,R.nodup,λa e=>?_,λj ob e=>?_⟩,
  ⟨λ_ _ e=>e,eZ _,λb ob _ e=>⟨(same b λq=>e.n<|C6 b q).trans e.o,e.g,e.n⟩,λb ob e=>?_,rfl⟩⟩
 ·by_cases q:a∈as
  ·exact live a q
  ·exact(R.live a e).imp λo e=>(same a q).trans e
 ·by_cases q:i=j
  ·subst q;rw[List.getElem?_set_self'] at e;induction z:c[i]? with
   |none=>rw[z] at e;exact ng e
   |some w=>rw[z] at e;exact zb (aE e)<|au as hi ho
  ·rw[List.getElem?_set_ne q] at e;exact(R.cells j ob e).imp λbs h=>⟨h.1,h.2.keep (λ_ _ e=>e) (eZ _) (λb hb KN e'=>(same b λz=>yg R.nodup hi h.1 q b z hb).trans e') λ_ _ _ e=>e⟩
 ·by_cases q:b∈as
  ·exact live b q
  ·exact⟨ob,(same b q).trans e⟩
def Ej(items:List Value)(n:Nat)(f:Array Value->Array Value)(out:List Value)(e:f items.toArray=out.toArray):∃n',(dq items n).mapSeq f=dq out n':=⟨if(f items.toArray).size==items.toArray.size then n else n+1,by simp only[Obj.mapSeq,dq,<-e]⟩
def zH(R:aI W w c)(hi:w.φ[i]? =some [a])(ha:w.h.get? a=some (dq items n))(hg:w.G a=none)(e:f items.toArray=out.toArray)(hv:be W w.G w.φ ys out)(hl:ys.length<=ae):aI W (w.hp (w.h.update a<|Obj.mapSeq f) k) (c.set i<|.lst ys)/\aQ w (w.hp (w.h.update a<|Obj.mapSeq f) k):=by
 obtain⟨n',e'⟩:=Ej items n f out e;have ge:(w.h.update a<|Obj.mapSeq f).get? a=some (dq out n'):=by rw[Heap.get?_update_self _ ha (by rw[e'];rfl),e']
 refine R.setCell hi (λb hb=>Heap.get?_update_ne _ _ _ _ λz=>hb<|z▸.head _) (λb hb=>?_) (oU a out n' rfl ge hv hg hl) λb hb=>?_
 ·exact zc (fo hb) ⟨_,ge⟩
 ·exact zc (fo hb) hg
noncomputable def rG:Mt->Str
 |.append=>"append"|.pop=>"pop"|.get=>"get"|.startswith=>"startswith"|.join=>"join"|.lower=>"lower"|.lstrip=>"lstrip"
def qE(h:(bif nq m s then some k' else r)=some k)(e:s=rG k')(g:r=some k->m=rG k):m=rG k:=by
 induction q:nq m s with
 |true=>rw[q] at h;cases h;exact(gJ.mp q).trans e
 |false=>rw[q] at h;exact g h
def PQ(h:mK m=some k):m=rG k:=qE h rfl λh=>qE h rfl λh=>qE h rfl λh=>qE h rfl λh=>qE h rfl λh=>qE h rfl λh=>qE h rfl λh=>ng h
def zZ{α:Type}{l:List α}{x:α}(h:jV l=some x):l=[x]:=by
 induction l using bx with
 |nil=>exact ng h
 |cons a r=>induction r using bx with
  |nil=>exact congrArg (· ::[])<|aE h
  |cons=>exact ng h
def cr.one(r:cr W n w [t] us):∃u,us=[u]/\TR W n w t u:=dW r.i λu _ e h r=>au u (e.trans (congrArg (u::·) r.i)) h
def cr.two(r:cr W n w [t,t'] us):∃u u',us=[u,u']/\TR W n w t u/\TR W n w t' u':=dW r.i λu _ e h r=>aA r.one λu' e' h'=>dA u u' (e.trans (congrArg (u::·) e')) h h'
def cr.one?(r:cr W n w ts us)(e:jV ts=some t):∃u,us=[u]/\TR W n w t u:=cr.one<|zZ e▸r
theorem EG:∀a s:List Nat,c9 a s=(decide (a.length<=s.length)&&(s.take a.length==a)):=by
 intro a;induction a with
 |nil=>intro s;simp[c9]
 |cons a r ih=>
  intro s;induction s using bx with
  |nil=>simp[c9]
  |cons b t=>show(Nat.beq a b&&c9 r t)=_;rw[ih t,Bool.eq_iff_iff];simp only[cS,beq_iff_eq,decide_eq_true_eq,ec,List.take_succ_cons,List.cons.injEq,Nat.add_le_add_iff_right,Nat.beq_eq];exact⟨λ⟨h0,h1,h2⟩=>⟨h1,h0.symm,h2⟩,λ⟨h1,h0,h2⟩=>⟨h0.symm,h1,h2⟩⟩
theorem LX(s a:List Nat):Txt.startswith ⟨s.toArray⟩ ⟨a.toArray⟩=c9 a s:=by
 unfold Txt.startswith
 rw[StrLaws.subAt_eq,EG];simp[Str.length]
theorem LM(s a:List Nat)(i:Int)(h0:0<=i)(h1:i<=s.length)(hs:s.length<2^62):Txt.startswith3 ⟨s.toArray⟩ ⟨a.toArray⟩ i=c9 a (s.drop i.toNat):=by
 have hf:fromIndex (⟨s.toArray⟩:Str).length i=i.toNat:=by unfold fromIndex;simp[Str.length];lia
 unfold Txt.startswith3;rw[hf,StrLaws.subAt_eq,EG];simp only[Str.length,List.size_toArray,List.length_drop];congr 1;rw[decide_eq_decide];lia
def Nx(h:be W G φ xs us):mM V.f7 xs=some l->∃q:List<|Str×Tok,us=strValues q/\q.map (·.1)=l.map λx=>(⟨x.toArray⟩:Str):=by revert l;show∀l,_;refine h.ind (λl e=>by exact zb (aE e)<|au [] rfl rfl) λx u r us h t ih l e=>wL e λb l' h1 h2 h3=>?_;obtain⟨tk,rfl⟩:=VR.toS<|uI h1▸h;refine aA (ih l' h2) λq e3 h4=>?_;rw[h3];exact au ((⟨b.toArray⟩,tk)::q) (e3▸rfl) (congrArg ((⟨b.toArray⟩:Str)::·) h4)
theorem QY(sep:List Nat):∀ls:List<|List Nat,Txt.join ⟨sep.toArray⟩ (ls.map λx=>(⟨x.toArray⟩:Str))=⟨(cf sep ls).toArray⟩:=by
 have key:∀(r:List<|List Nat) (a:List Nat),((r.map λx=>(⟨x.toArray⟩:Str)).foldl (λbN p=>bN++sep.toArray++p.cps) a.toArray)=(cf sep<|a::r).toArray:=by
  intro r;induction r with
  |nil=>intro a;rfl
  |cons b r ih=>
   intro a;have:=ih<|a++sep++b;rw[List.map_cons,List.foldl_cons];show(r.map λx=>(⟨x.toArray⟩:Str)).foldl (λbN p=>bN++sep.toArray++p.cps) (a.toArray++sep.toArray++b.toArray)=_;rw[List.append_toArray,List.append_toArray,this];clear ih this;induction r using bx with
   |nil=>rfl
   |cons c r=>simp[cf]
 intro ls;induction ls using bx with
 |nil=>rfl
 |cons a r=>exact congrArg Str.mk<|key r a
theorem Mn(sep a b:List Nat)(r:List<|List Nat):(cf sep<|a::b::r).length=a.length+sep.length+(cf sep<|b::r).length:=by show(a++sep++cf sep (b::r)).length=_;rw[bO,bO]
def Nw(sep:List Nat)(ls:List<|List Nat)(h1:(cf sep ls).length<=ae)(h2:sep.length<=100):JoinOk ⟨sep.toArray⟩<|ls.map λx=>(⟨x.toArray⟩:Str):=by
 have key:∀(r:List<|List Nat) (bN:Nat),(r.map λx=>(⟨x.toArray⟩:Str)).foldl (λ(x1:Nat) (x2:Str)=>x1+x2.length+sep.length) bN<=bN+(cf sep r).length+sep.length:=by
  intro r;induction r with
  |nil=>intro bN;exact bh _ _
  |cons b r ih=>
   intro bN;rw[List.map_cons,List.foldl_cons];have e:(⟨b.toArray⟩:Str).length=b.length:=rfl;rw[e];induction r using bx with
   |nil=>exact aV _
   |cons c r=>refine aG (ih _) ?_;rw[Mn];lia
 unfold JoinOk;simp only[List.foldl_toArray,dg,Builtin.Str.tooLong,decide_eq_false_iff_not];have:=key ls 0;have e:(⟨sep.toArray⟩:Str).length=sep.length:=rfl;rw[e,sizeLine_eq];unfold ae at h1;lia
abbrev mZ(W:Wd)(A:Around)(n w:Wo)(f:String)(us:List Value)(c':List O)(t:TV):Prop:=wpAny W.M A (call (.builtin f) us) (Po W n c' λw' u=>TR W n w' t u) Ff w.s
def Po.kQ{β:Type}{R:Wo->β->Prop}{u:β}(x:aQ n w)(r:aI W w c)(q:R (w.tk k) u):Po W n c R u {w.s with toks:=k}:=Po.after x (Po.jH r q) λ_ _ r=>r
def Po.xH{β:Type}{R:Wo->β->Prop}{u:β}(x:aQ n w)(r:aI W w c)(q:R w u):Po W n c R u w.s:=Po.mk x r q
noncomputable def J3:Mt->String
 |.startswith=>"str.startswith"|.join=>"str.join"|.lower=>"str.lower"|.lstrip=>"str.lstrip"|_=>""
def TI(e:ol l k ts=some q)(h:Q (.builtin<|J3 k,[.str ⟨l.toArray⟩ tk]) s):wpAny W.M A (getMethod (.str ⟨l.toArray⟩ tk) (rG k) pl) Q E s:=by
 induction k with
 |startswith=>exact PySem.GM.startswith h
 |join=>exact PySem.GM.join h
 |lower=>exact PySem.GM.lower h
 |lstrip=>exact PySem.GM.lstrip h
 |_=>cases e
def LP(e:ol l .startswith ts=some q)(hp:∀p,q.2=some p->p)(x:aQ n w)(R:aI W w c)(r:cr W n w ts us):mZ W A n w "str.startswith" (.str ⟨l.toArray⟩ tk::us) c q.1:=by
 cases r with
 |nil=>exact ng e
 |cons r1 r=>cases r with
  |nil=>refine aA (bc e) λa h1 h2=>?_;refine zb (aE h2) ?_;obtain⟨_,rfl⟩:=yN r1 h1;exact SC.startswith (by rw[LX];exact Po.xH x R<|.bool _)
  |cons r2 r=>cases r with
   |cons=>exact ng e
   |nil=>refine aA (bc e) λa h1 h2=>?_;refine aA (bc h2) λi h3 h4=>?_;obtain rfl:=aE h4;obtain⟨_,rfl⟩:=yN r1 h1;obtain⟨_,rfl⟩:=kG r2 h3;have qq:=hp _ rfl;exact SC.startswith3 (by rw[LM _ _ _ qq.1 qq.2.1<|eP qq.2.2<|by ext];exact Po.xH x R<|.bool _)
def PF(e:ol l .join ts=some q)(hp:∀p,q.2=some p->p)(x:aQ n w)(R:aI W w c)(r:cr W n w ts us):mZ W A n w "str.join" (.str ⟨l.toArray⟩ tk::us) c q.1:=by
 refine aA (bc e) λt h1 h2=>?_;refine aA (r.one? h1) λu q1 r1=>?_;refine zc q1 ?_;have r1:=r1.vt
 generalize t.v=v at h2 r1
 induction v using V.casesOn with
 |lst xs=>refine aA (bc h2) λls h3 h4=>?_;have h5:=cW h4;cases h5.2;refine ez (r1.lst R) λa items m q2 ha hv=>?_;subst q2;refine aA (Nx hv h3) λqs q3 e2=>?_;subst q3;exact SC.join (fN ha) e2 (Nw _ _ (hp _ rfl)<|(gu _ _).mp h5.1) λt' k=>by rw[QY];exact Po.kQ x R<|.str _ _
 |_=>exact ng h2
def Oz(e:ol l .lower ts=some q)(x:aQ n w)(R:aI W w c)(r:cr W n w ts us):mZ W A n w "str.lower" (.str ⟨l.toArray⟩ tk::us) c q.1:=by
 cases r with
 |cons=>exact ng e
 |nil=>
  refine aA (bc e) λr h1 h2=>?_;refine zb (aE h2) ?_;obtain⟨e1,e2⟩:=Y.lows _ _ h1;refine SC.lower ?_ ?_
  ·rw[e1];have:(⟨r.toArray⟩:Str).length=r.length:=rfl;simp only[Builtin.Str.tooLong,this,sizeLine_eq,decide_eq_false_iff_not];lia
  ·rw[e1];exact Po.kQ x R<|.str _ _
def Nv(e:ol l .lstrip ts=some q)(x:aQ n w)(R:aI W w c)(r:cr W n w ts us):mZ W A n w "str.lstrip" (.str ⟨l.toArray⟩ tk::us) c q.1:=by
 refine aA (bc e) λt h1 h2=>?_;refine aA (r.one? h1) λu q4 r1=>?_;refine zc q4 ?_;refine aA (bc h2) λa h3 h4=>?_;have h5:=cW h4;refine aA (bc h5.2) λr h6 h7=>?_;refine zb (aE h7) ?_;cases(dR _ _).mp h5.1;obtain⟨_,rfl⟩:=yN r1 h3;obtain⟨e1,e2⟩:=Y.Iy _ _ h6;refine SC.lstripChars (λt' k=>?_) ?_
 ·have e3:(⟨[48].toArray⟩:Str)=⟨#[48]⟩:=rfl;rw[e3,e1];exact Po.kQ x R<|.str _ _
 ·have:(⟨l.toArray⟩:Str).length=l.length:=rfl;rw[this,sizeLine_eq];exact ju e2
def Tz(e:ol l k ts=some q)(hp:∀p,q.2=some p->p)(x:aQ n w)(R:aI W w c)(r:cr W n w ts us):mZ W A n w (J3 k) (.str ⟨l.toArray⟩ tk::us) c q.1:=by
 induction k with
 |startswith=>exact LP e hp x R r
 |join=>exact PF e hp x R r
 |lower=>exact Oz e x R r
 |lstrip=>exact Nv e x R r
 |_=>exact ng e
def EQ(e:oq aO k ts=some t):k=.get:=by
 induction k with
 |get=>rfl
 |_=>exact ng e
def Gi(hT:∃es n,s.heap.get? a=some (dictOf es n))(q:Q (.builtin "dict.get",[.ref a]) s):wpAny W.M A (getMethod (.ref a) "get" pl) Q E s:=hT.elim λes h=>h.elim λm ho=>getMethod_builtin ((au _ ho rfl):s.TypeIs (.ref a) "dict") PySem.F.plainAttrs_dict PySem.F.slot_dict_get PySem.F.type_dict_get (λa' e=>by cases e;exact(au _ ho rfl)) q
variable{c:List O} in
def GC{Key:Type} [DecidableEq Key]{knd:PySem.KeyKind P0 W.w Key}{kk:Key}{mm:Key->Option Value}{key Dw:Value}{a:Addr}{rr:Option V}{d:TV}{dv:V}(x:aQ n w)(R:aI W w c)(hs:(a==sysModules)=false)(XU:knd.is kk key)(t9:w.h.MapOf knd a mm)(hr:oA W w.G w.φ rr<|mm kk)(r2:TR W n w d Dw)(hd:d.keep=some dv):
    mZ W A n w "dict.get" [.ref a,key,Dw] c (.p<|rr.getD dv):=by
 refine call_meetsIn PySem.F.slot_dict_get t9.typeIs PySem.F.entry_dict_get (PySem.F.args_dict_get_3 _ _ _) (meets_dict_get_default knd a XU hs Dw)<|au mm t9 ?_;induction rr with
 |none=>refine i8 (r2.keep x R hd) λw' hs _ x' R' hd=>?_;have hr:mm kk=none:=hr;rw[hr];exact Po.after x' (Po.jH (k:=w.s.toks+1) R' hd) (λ_ _ r=>r)|>λh=>by rw[hs] at h;exact h
 |some rv=>refine aA hr λy hy hyv=>?_;rw[hy];exact Po.kQ x R hyv
def GH(e:oq aO .get ts=some t)(x:aQ n w)(R:aI W w c)(D:xx W w aO a)(r:cr W n w ts us):mZ W A n w "dict.get" (.ref a::us) c t:=by
 cases r with
 |nil=>exact ng e
 |cons r1 r=>cases r with
  |nil=>exact ng e
  |cons r2 r=>cases r with
   |cons=>exact ng e
   |nil=>
    refine aA (bc e) λkv h1 h2=>?_;refine aA (bc h2) λdv h3 h4=>?_;refine aA (bc h4) λrr h5 h6=>?_;refine zb (aE h6) ?_;have ID:=D.choose_spec.choose_spec.2.2;rcases z1 h5 (.of<|jO r1 h1) D with⟨x',tk,mm,rfl,t9,hr⟩|⟨x',tk,mm,rfl,t9,hr⟩
    ·exact GC x R ID (strKind_is P0 W.w x' tk) t9 hr r2 h3
    ·exact GC x R ID (intKind_is P0 W.w x' tk) t9 hr r2 h3
noncomputable def Kk:Mt->String
 |.append=>"list.append"|_=>"list.pop"
def R9(e:vj xs k ts=some q)(ho:s.heap.get? a=some (dq items n))(h:Q (.builtin<|Kk k,[.ref a]) s):
    wpAny W.M A (getMethod (.ref a) (rG k) pl) Q E s:=by
 induction k with
 |append=>exact getMethod_list_of PySem.F.slot_list_append PySem.F.type_list_append (fN ho) (au _ ho rfl) h
 |pop=>exact getMethod_list_of PySem.F.slot_list_pop PySem.F.type_list_pop (fN ho) (au _ ho rfl) h
 |_=>exact ng e
def vB(hv:be W G φ xs items)(hl:xs.length<=ae):items.toArray.size<=sizeLine:=by rw[List.size_toArray,<-hv.length];exact aG hl lI
def FY(x:aQ n w)(R:aI W w c)(hi:w.φ[i]? =some [a])(ho:w.h.get? a=some (dq items m))(hg:w.G a=none)(e:items.toArray.eraseIdxIfInBounds j=out.toArray)(hv:be W w.G w.φ ys out)(hl:ys.length<=ae)(hu:VR W w.G w.φ v u)(h:∀{Q:Value->Shared->Prop},Q u {w.s with heap:=w.s.heap.update a<|Obj.mapSeq λzs=>zs.eraseIdxIfInBounds j}->wpAny W.M A (call (.builtin "list.pop") us) Q Ff w.s):mZ W A n w "list.pop" us (c.set i<|.lst ys)<|.p v:=by obtain⟨eU,dx⟩:=zH (k:=w.s.toks) (f:=λzs=>zs.eraseIdxIfInBounds j) R hi ho hg e hv hl;exact h<|Po.mk (x.trans dx) eU<|dx.vr hu
def Tl(e:vj xs k ts=some q)(hp:∀p,q.2.2=some p->p)(x:aQ n w)(R:aI W w c)(hi:w.φ[i]? =some [a])(hc:hH c i=some xs)(r:cr W n w ts us):mZ W A n w (Kk k) (.ref a::us) (c.set i<|.lst q.2.1) q.1:=by
 induction k with
 |append=>refine aA (bc e) λt h1 h2=>?_;refine aA (bc h2) λv h3 h4=>?_;obtain rfl:=aE h4;refine aA (r.one? h1) λu q5 r1=>?_;subst q5;refine i8 (r1.keep x R h3) λw' hs eV x' R' hu=>?_;rw[<-eV] at hi;refine oE (R'.cell (zG hc) hi) λa' items m z ho hv hg hl=>?_;cases z;obtain⟨eU,dx⟩:=zH (k:=w'.s.toks) (ys:=xs++[v]) (out:=items++[u]) (f:=λzs=>zs.push u) R' hi ho hg (by simp) (be.append (.cons hu .nil) hv) (by have:=hp _ rfl;rw[bO];exact this);show wpAny _ _ _ _ _ _;rw[<-hs];exact call_meets PySem.F.slot_list_append (au _ ho rfl) PySem.F.entry_list_append (PySem.F.args_list_append_2 _ _) (list_append a items.toArray m u<|vB hv hl) ⟨ho,Po.mk (x'.trans dx) eU .none⟩
 |pop=>
  refine oE (R.cell (zG hc) hi) λa' items m z ho hv hg hl=>?_;cases z;cases r with
  |nil=>
   refine aA (bc e) λv h1 h2=>?_;obtain rfl:=aE h2;rw[List.getLast?_eq_getElem?] at h1;refine aA (hv.get h1) λu hu yF=>?_;have kc:=hv.length;refine FY (out:=items.dropLast) (j:=items.toArray.size-1) x R hi ho hg ?_ ?_ ?_ yF λh=>call_meets PySem.F.slot_list_pop (au _ ho rfl) PySem.F.entry_list_pop (PySem.F.args_list_pop_1 _) (PySem.MeetsSeq.list_pop_last a items.toArray m u (by simpa[kc] using hu)<|vB hv hl) ⟨ho,h⟩
   ·apply Array.toList_inj.mp;rw[Array.toList_eraseIdxIfInBounds];simp[List.eraseIdx_eq_dropLast,List.dropLast_eq_take,List.eraseIdx_length_sub_one]
   ·rw[List.dropLast_eq_take,List.dropLast_eq_take,kc];exact hv.take _
   ·rw[List.length_dropLast];lia
  |cons r1 r=>cases r with
   |cons=>exact ng e
   |nil=>
    refine aA (bc e) λi' h1 h2=>?_;have h3:=cW h2;cases(wZ _ _).mp h3.1;clear hc e h2;induction xs using bx with
    |nil=>exact ng h3.2
    |cons v xs=>refine dW hv.i λu yU eu yF nt=>?_;subst eu;cases h3.2;obtain⟨tk,rfl⟩:=kG r1 h1;refine FY (out:=yU) (j:=0) x R hi ho hg ?_ nt (Nat.le_of_succ_le hl) yF λh=>call_meets PySem.F.slot_list_pop (au _ ho rfl) PySem.F.entry_list_pop (PySem.F.args_list_pop_2 _ _) (PySem.MeetsSeq.list_pop_at a (u::yU).toArray m 0 tk 0 u (by ext) (by simp[seqIndex?]) (by simp)<|vB (.cons yF nt) hl) ⟨ho,h⟩;apply Array.toList_inj.mp;rw[Array.toList_eraseIdxIfInBounds];rfl
 |_=>exact ng e
def PD{β:Type}{o:Option β}{P Q:β->Prop}(h:ow o P)(k:ow o Q):ow o λq=>P q/\Q q:=λq e=>⟨h q e,k q e⟩
def Aj(hb:qA o)(rF:Nat.blt es.length 30)(line:Nat.beq gx.endLine pos.line)(hs:es.all eq)(q:wpAny W.M A (eval o env) (λov ai=>wpAny W.M A (getMethod ov name (do return(<-importBound o env).getD true)) (λp af=>wpAny W.M A (callWith pos p.1 p.2 (backTo pos<|starEach es env) []) Q E af) E ai) E s):
    wpAny W.M A (eval (.Call (.Attribute o name gx) es [] pos) env) Q E s:=by
 have vR:eval (.Call (.Attribute o name gx) es [] pos) env=(do
  let ov<-attributeBase o name env<|eval o env
  standAt gx.atName
  methodCall o name gx pos env ov (es.length+([]:List Keyword).length) (backTo pos<|starEach es env) (backToKw pos<|keywordEach [] env)):=rfl
 rw[vR,Fj hb];refine wpAny_bind<|wpAny_mono q (λov ai cC=>wpAny_bind<|wpAny_standAt ?_) λ_ _ z=>z;have V5:methodCallForm (es.length+([]:List Keyword).length) (backTo pos<|starEach es env)<|backToKw pos<|keywordEach [] env:=by unfold methodCallForm;rw[(zE hs).2];have:=Z.blt_iff.mp rF;rw[show backToKw pos (keywordEach [] env)=[] from rfl];simp[this]
 have hl:(gx.endLine==pos.line):=beq_iff_eq.mpr<|fy line;unfold methodCall calleeOf methodCallPos;rw[V5];simp only[hl,if_true,Bool.not_true,Bool.false_or];refine wpAny_bind<|wpAny_holding<|wpAny_mono cC (λp af aL=>?_) λ_ _ z=>z;obtain⟨f,first⟩:=p;exact wpAny_bind<|wpAny_pure aL
def LI(R:aI W w c)(I:Bb W w k fs a)(hm:mT k m=some f)(q:Q (.ref<|fa f,[.ref a]) w.s):wpAny W.M A (getMethod (.ref a) m pl) Q E w.s:=by
 refine fH I λd es n h1 h2 h3 h4=>?_;refine rP (Y.met k m f hm) λm1 m2 m3 m4=>?_;have hl:aU m fs=none:=by
  induction e:aU m fs with
  |none=>rfl
  |some v=>exact nomatch((Y.gn k m<|h4 _<|zT e).2.symm.trans m1)
 exact method_fn (R.X) (⟨h1,rfl,rfl,h2⟩:InstAt w.s.heap a (instObj (W.cls k) d) (W.cls k)<|some<|dictOf es n) m4.ga m4.gt m1 (beq_iff_eq.mp m2) (by show(lookIn m<|dictOf es n).map _=_;rw[lookIn_dict,h3.KH hl];rfl) q
def sB{β:Type}{k:List O->Lo->St->Option β}{Q:β->Prop}(h:ow (k σ.c ρ σ) Q):ow (i5 k ρ σ) Q:=h
inductive tZ(mt:Mt)(ts:List TV)(c:List O):V->TV->List O->Prop
 |str {l:List Nat} {q:TV×Option Prop} (e:ol l mt ts=some q) (hp:∀p,q.2=some p->p):tZ mt ts c (.str l) q.1 c
 |fq {aO:List (V×V)} {t:TV} (e:oq aO mt ts=some t):tZ mt ts c (.fq aO) t c
 |cell {i:Nat} {aO:List (V×V)} {t:TV} (h:gv c i=some aO) (e:oq aO mt ts=some t):tZ mt ts c (.ptr i) t c
 |lst {i:Nat} {xs:List V} {q:TV×List V×Option Prop} (h0:gv c i=none) (h:hH c i=some xs) (e:vj xs mt ts=some q) (hp:∀p,q.2.2=some p->p):tZ mt ts c (.ptr i) q.1 (c.set i (.lst q.2.1))
def PC{mt:Mt}(h:∀t σ',(σ'.P->σ.P/\tZ mt ts σ.c o t σ'.c)->Q (t,σ')):ow (Bf o mt ts ρ σ) Q:=by
 induction o using V.casesOn with
 |str l=>exact cN (o:=ol l mt ts) λq e=>o8 λσ' hc hp=>iE (o:=some q.1) λt et=>aE et▸h q.1 _ λhP=>⟨(hp hP).2,hc.symm▸.str e (hp hP).1⟩
 |fq aO=>exact uL (ρ:=ρ) (o:=λ_=>oq aO mt ts) λt σ' hc hp=>h _ _ λhP=>⟨(hp hP).2,hc.symm▸.fq (hp hP).1⟩
 |ptr i=>
  show ow ((match gv σ.c i with
   |some es=>oV λ_=>oq es mt ts
   |none=>ar (aS<|hH σ.c i) λxs=>ar (aS<|vj xs mt ts) λq=>iP q.2.2<|pu (σ.c.set i<|.lst q.2.1)<|jK q.1) ρ σ) Q
  induction e:gv σ.c i with
  |some aO=>exact uL (o:=λ_=>oq aO mt ts) λt σ' hc hp=>h _ _ λhP=>⟨(hp hP).2,hc.symm▸.cell e (hp hP).1⟩
  |none=>exact cN λxs e1=>cN λq e2=>o8 λσ' hc hp=>show ow (jK q.1 ρ (⟨σ.c.set i<|.lst q.2.1,σ'.sc,σ'.P⟩:St)) Q from bD<|h q.1 ⟨σ.c.set i<|.lst q.2.1,σ'.sc,σ'.P⟩ λhP=>⟨(hp hP).2,.lst e e1 e2 (hp hP).1⟩
 |_=>exact f8
def EI(hk:o9 cE (.ptr i)=o9 iG (.ptr i)):(hH cE i).isSome=(hH iG i).isSome/\(gv cE i).isSome=(gv iG i).isSome:=by
 have key:∀(a b:Option<|List V) (p q:Option<|List<|V×V),(a.elim 0 λ_=>1)+(p.elim 0 λ_=>2)=(b.elim 0 λ_=>1)+(q.elim 0 λ_=>2)->a.isSome=b.isSome/\p.isSome=q.isSome:=by intro a b p q h;cases a<;>cases b<;>cases p<;>cases q<;>first|exact⟨rfl,rfl⟩|exact absurd (show _=_ from h) (by simp only[Option.elim];decide)
 exact key _ _ _ _ hk
def Re{mt:Mt}(aJ:aI W ac cE)(hu:VR W ac.G ac.φ o u)(hk:o9 cE o=o9 iG o)(h:tZ mt ts iG o t c')(q:∀f,(∀n an us,aQ n an->aQ ac an->aI W an iG->cr W n an ts us->mZ W A n an f (u::us) c' t)->Q (.builtin f,[u]) ac.s):wpAny W.M A (getMethod u (rG mt) pl) Q Ff ac.s:=by
 cases h with
 |str e hp=>obtain⟨tk,rfl⟩:=hu.toS;exact TI e<|q _ λn an us x _ R r=>Tz e hp x R r
 |fq e=>cases EQ e;refine fH hu.i λ_ _ _ eu g1 g2 g3=>?_;subst eu;exact Gi (bT _ _<|aJ.g _ _ g1)<|q _ λn an us x az R r=>GH e x R (dA _ _ (R.g _ _<|az.le _ _ g1) (g2.mono az.le az.pre) g3) r
 |cell h0 e=>
  cases EQ e;obtain⟨adr,h1⟩:=Option.isSome_iff_exists.mp<|(EI hk).2.trans<|Option.isSome_iff_exists.mpr ⟨_,h0⟩;exact uy aJ hu h1 λa r es n z _ _ g1 _ _ _ _ _=>by subst z;exact Gi (bT _ _ g1) (q _ λn an us x az R r=>uy R (az.vr hu) h0 λa r' es n z _ _ g1 g2 _ g4 _ _=>by cases z;exact GH e x R (dA es n g1 g2 g4) r)
 |lst h0 h1 e hp=>
  obtain⟨dH,h2⟩:=Option.isSome_iff_exists.mp<|(EI hk).1.trans<|Option.isSome_iff_exists.mpr ⟨_,h1⟩;exact uz aJ hu h2 λa r yU n z eV hr g1 _ _ _=>by subst z;subst hr;exact R9 e g1<|q _ λn an us x az R r=>Tl e hp x R (uE az.pre eV) h1 r
def L0(h:zA c o=some k):∃i fs,o=.ptr i/\jG c i=some (k,fs):=by
 induction o using V.casesOn with
 |ptr i=>exact(bc h).elim λq h=>aW i q.2 rfl<|h.1.trans<|congrArg some<|Prod.ext (aE h.2) rfl
 |_=>exact ng h
def Ol(hC:mI W A fa C)(hb:qA o)(rF:Nat.blt es.length 30)(line:Nat.beq gx.endLine pos.line)(ho:bY W A env (d o) o)(h:fQ W A env d es):
    bY W A env (df<|HJ C (d o) m<|kH d es) (.Call (.Attribute o m gx) es [] pos):=by
 refine gH (λρ σ=>bE (ho.t ρ σ) λt aY k₁=>cN λov e1=>?_) λ_=>rfl;refine sB<|bE (PD (wV (pos:=pos) h ρ aY)<|Fd (pos:=pos) h ρ aY) λts cg ay=>sB ?_;refine fp ay λo1 _ kK=>?_;refine fp o1 λhs _ ay=>?_;show ow ((zA aY.c ov).elim (gd (Nat.beq (o9 aY.c ov)<|o9 cg.c ov)<|ar (aS<|mK m) λk=>Bf ov k ts) (λk=>ar (aS<|mT k m) λf=>ar (aS<|qR ts) λvs=>ar (oS C f<|ov::vs) vT) ρ cg) _;induction hc:zA aY.c ov with
 |none=>
  refine eJ λhk=>cN λmt e2=>PC λt' gK hm hP=>?_;have hm:=hm hP;have ay:=ay hm.1;have k₁:=k₁ ay.1;refine zc (PQ e2) ?_;exact⟨k₁.1,λB w R F=>Aj hb rF line hs (Po.use (k₁.2 B w R F) λu ac az aJ ak=>Re aJ (jO ak e1) (fy hk) hm.2 λf g=>uu (.inl ⟨_,rfl⟩) hs (ay.2 B ac aJ<|F.step az) λus an aN bG aC=>Po.use (g ac an us aN aN bG aC) λz a9 dx eU de=>Po.mk (az.trans dx) eU<|de.le az)⟩
 |some k=>
  show ow (ar (aS<|mT k m) (λf=>ar (aS<|qR ts) λvs=>ar (oS C f<|ov::vs) vT) ρ cg) _;refine cN λf e2=>cN λvs e3=>?_;refine bE (hC f _ cg) λv gK g=>bD λhP=>?_;have g:=g hP;have kK:=kK vs e3 g.1;have k₁:=k₁ kK.1;refine bJ (L0 hc) λi fs q1 hi=>?_;subst q1;exact⟨k₁.1,λB w R F=>Aj hb rF line hs (Po.use (k₁.2 B w R F) λu ac az aJ ak=>(zF aJ (jO ak e1) (o:=.ptr i) hi).elim λa I=>I.1.symm▸LI aJ I.2 e2
   (wI (Y.met k m f e2).2.2.1 hs (kK.2 B ac aJ<|F.step az) λus an aN bG aC=>zW (g.2 an _ bG<|.cons (I.1▸aN.vr (jO ak e1)) aC) λz a9 dx eU de=>Po.mk ((az.trans aN).trans dx) eU de))⟩
theorem Mg(i:Int):Str.ofString (toString i)=⟨(FG i).toArray⟩:=by
 have hn:∀n:Nat,(Nat.repr n).toList=Nat.toDigits 10 n:=λn=>by simp[Nat.repr]
 unfold Str.ofString;rw[cpsOfBytes_string];induction i with
 |ofNat n=>show(⟨((Nat.repr n).toList.map Char.toNat).toArray⟩:Str)=⟨(Am n).toArray⟩;rw[hn];rfl
 |negSucc n=>have e2:(toString<|Int.negSucc n).toList= '-' ::(Nat.repr<|n+1).toList:=String.toList_append;rw[e2,hn];rfl
abbrev wm(W:Wd)(A:Around)(n w:Wo)(f:Value)(us:List Value)(c':List O)(t:TV):Prop:=wpAny W.M A (call f us) (Po W n c' λw' u=>TR W n w' t u) Ff w.s
def R6(e:IL c t=some q)(hp:∀p,q.2=some p->p)(x:aQ n w)(R:aI W w c)(r:VT W w t.v u):wm W A n w (.builtin "len") [u] c q.1:=by
 have cb:∀{xs:List V} {items:List Value},be W w.G w.φ xs items->∀{tk k:Nat},Po W n c (λw' u=>TR W n w' (.p<|.int (xs.length:Nat)) u) (.int (items.toArray.size:Nat) tk) {w.s with toks:=k}:=λhv tk k=>by rw[List.size_toArray,<-hv.length];exact Po.kQ x R<|.int _ _
 have sz:∀{xs:List V} {items:List Value},be W w.G w.φ xs items->xs.length<=ae->(items.toArray.size:Int)<2^63:=λhv h=>by rw[List.size_toArray,<-hv.length];exact Int.lt_of_le_of_lt (Int.ofNat_le.mpr h)<|by ext
 replace e:(match t.v with
  |.str s=>some (TV.p<|.int s.length,some<|s.length<=ae)
  |.lst xs=>some (.p<|.int xs.length,some<|xs.length<=ae)
  |.tup xs=>some (.p<|.int xs.length,some<|xs.length<=ae)
  |.ptr i=>(hH c i).bind λxs=>some (.p<|.int xs.length,none)
  |_=>none)=some q:=e
 generalize t.v=v at e r
 induction v using V.casesOn with
 |str l=>obtain rfl:=aE e;obtain⟨tk,rfl⟩:=r.str;exact PySem.P.len_str (Int.not_le.mpr (show(l.length:Int)<2^63 from Int.lt_of_le_of_lt (Int.ofNat_le.mpr<|hp _ rfl)<|by ext))<|Po.kQ x R<|.int _ _
 |lst xs=>obtain rfl:=aE e;refine ez (r.lst R) λa items m q1 ha hv=>?_;subst q1;exact call_len_list (fN ha) (sz hv<|hp _ rfl)<|cb hv
 |tup xs=>obtain rfl:=aE e;refine ez (r.tup R) λa items m q2 ha hv=>?_;subst q2;exact PySem.P.len_tuple ha (Int.not_le.mpr<|sz hv<|hp _ rfl)<|cb hv
 |ptr i=>refine aA (bc e) λxs h1 h2=>?_;obtain rfl:=aE h2;exact uz R (r.val rfl) h1 λa _ items m z _ _ ha hv _ hl=>by subst z;exact call_len_list (fN ha) (sz hv hl)<|cb hv
 |_=>exact ng e
def Qt(e:vN .list [t] c=some q)(x:aQ n w)(R:aI W w c)(r:VT W w t.v u):wm W A n w (.type "list") [u] c q.1:=by
 replace e:(match t.v with
  |.lst xs=>bK (dF xs.length ae)<|some (TV.f xs,none)
  |.tup xs=>bK (dF xs.length ae)<|some (.f xs,none)
  |_=>none)=some q:=e
 generalize t.v=v at e r
 induction v using V.casesOn with
 |lst xs=>have h:=cW e;refine zm h.2 ?_;refine ez (r.lst R) λa items m q3 ha hv=>?_;refine zc q3 ?_;exact call_list_seq a (.inl rfl) ha rfl rfl (λh' c' hk hl=>Po.tr x<|zM R hv hk hl<|iB _)<|vB hv<|(gu _ _).mp h.1
 |tup xs=>have h:=cW e;refine zm h.2 ?_;refine ez (r.tup R) λa items m q4 ha hv=>?_;refine zc q4 ?_;exact call_list_seq a (.inr rfl) ha rfl rfl (λh' c' hk hl=>Po.tr x<|zM R hv hk hl<|iB _)<|vB hv<|(gu _ _).mp h.1
 |_=>exact ng e
def Up(e:vN .str [t] c=some q)(x:aQ n w)(R:aI W w c)(r:TR W n w t u):wm W A n w (.type "str") [u] c q.1:=by
 refine aA (bc (show(dY t).bind _=some q from e)) λv h1 h2=>?_;have r:=jO r h1;clear h1;induction v using V.casesOn with
 |int i=>
  have h:=cW h2;refine zm h.2 ?_;obtain⟨tk,rfl⟩:=r.toI;refine PySem.P.str_of_int ?_ (by rw[Mg];exact Po.kQ x R<|.str _ _);by_cases z:i.natAbs=0
  ·rw[z];decide
  ·rw[Nat.log2_lt z];exact Nat.lt_trans ((gu _ _).mp h.1)<|by decide+kernel
 |str l=>refine zb (aE h2) ?_;obtain⟨tk,rfl⟩:=r.toS;exact PySem.P.str_of_str<|Po.xH x R<|.str _ _
 |_=>exact ng h2
def UE(Rm:dJ A)(e:vN .max ts c=some q)(x:aQ n w)(R:aI W w c)(r:cr W n w ts us):wm W A n w (.builtin "max") us c q.1:=by
 cases r with
 |nil=>exact ng e
 |cons r1 r=>cases r with
  |nil=>exact ng e
  |cons r2 r=>cases r with
   |cons=>exact ng e
   |nil=>
    refine aA (bc e) λi h1 h2=>?_;refine aA (bc h2) λj h3 h4=>?_;refine zb (aE h4) ?_;obtain⟨V2,rfl⟩:=kG r1 h1;obtain⟨uj,rfl⟩:=kG r2 h3;refine max_two_ints Rm.hd λh' tk hk=>?_;have:∃nY,(if j>i then Value.int j uj else Value.int i V2)=.int (bif bQ i j then j else i) nY:=by
     induction q:bQ i j with
     |true=>exact⟨_,if_pos<|(qD i j).mp q⟩
     |false=>exact⟨_,if_neg λz=>nj<|q.symm.trans<|(qD i j).mpr z⟩
    obtain⟨nY,e⟩:=this;rw[e];exact Po.after x (Po.mk (aQ.grown hk) (R.grown hk)<|VR.int _ _) λ_ _ r=>r
def Qc(Rm:dJ A)(e:vN b ts c=some q)(hp:∀p,q.2=some p->p)(x:aQ n w)(R:aI W w c)(r:cr W n w ts us):wm W A n w (t4 b) us c q.1:=by
 have one:∀{P:Prop} {f:TV->Option (TV×Option Prop)},(jV ts).bind f=some q->(∀t u,ts=[t]->us=[u]->f t=some q->TR W n w t u->P)->P:=λe k=>(bc e).elim λt h=>(r.one? h.1).elim λu h'=>k t u (zZ h.1) h'.1 h.2 h'.2;induction b with
 |ord=>
  exact one e λt u _ hu e1 r1=>by refine aA (bc e1) λs h1 h2=>?_;refine aA (bc h2) λy h3 h4=>?_;obtain rfl:=aE h4;cases zZ h3;subst hu;obtain⟨tk,rfl⟩:=yN r1 h1;exact PySem.P.ord_of_char<|Po.kQ x R<|.int _ _
 |chr=>
  exact one e λt u _ hu e1 r1=>by refine aA (bc e1) λi h1 h2=>?_;have h:=cW h2;refine zm h.2 ?_;refine zc hu ?_;obtain⟨tk,rfl⟩:=kG r1 h1;have g:=bp h.1;have g1:=(fg _ _).mp g.1;have g2:=(fg _ _).mp g.2;exact PySem.P.chr_of_int (by simp;lia)<|Po.kQ x R<|.str [_] _
 |len=>exact one e λt u _ hu e1 r1=>hu▸R6 e1 hp x R r1.vt
 |str=>exact one e λt u _ hu e1 r1=>hu▸Up e1 x R r1
 |int=>
  exact one e λt u _ hu e1 r1=>by refine aA (bc e1) λb h1 h2=>?_;refine zb (aE h2) ?_;refine zc hu ?_;refine zc (vP r1 h1) ?_;cases b<;>exact call_int_bool<|Po.kQ x R<|.int _ _
 |abs=>
  exact one e λt u _ hu e1 r1=>by
   refine aA (bc e1) λi h1 h2=>?_;refine zb (aE h2) ?_;refine zc hu ?_;obtain⟨tk,rfl⟩:=kG r1 h1;refine call_abs_int λu tk=>?_;have:(if i<0 then-i else i)=(i.natAbs:Int):=by lia
   rw[this];exact Po.kQ x R<|.int _ _
 |max=>exact UE Rm e x R r
 |list=>exact one e λt u _ hu e1 r1=>hu▸Qt e1 x R r1.vt
def Oo(b:Bi):(∃i,t4 b=.builtin i)\/∃T,t4 b=.type T:=by cases b<;>first|exact .inl ⟨_,rfl⟩|exact .inr ⟨_,rfl⟩
def TW(Rm:dJ A)(X:CxOk env cx)(h1:gV x)(h2:gr .globalImplicit<|aU x cx)(hg:gT x=some (.bi b))(h:fQ W A env d es):
    bY W A env (df<|Ko b<|kH d es) (.Call (.Name x gQ) es [] pos):=by
 refine gH (λρ σ=>bE (wV (pos:=pos) h ρ σ) λts aY k=>sB<|cN λq e=>o8 λσ' hc hp=>iE λt et hP=>?_) λ_=>rfl;refine zb (aE et) ?_;refine fp k λhs _ k=>?_;have k:=k (hp hP).2;exact⟨k.1,λB w R F=>r7<|nN X.toEnvOk h1 (X.kd _ _<|iU h2) R (.inr<|Y.bi x b hg)<|uu (Oo b) hs (k.2 B w R F) λus ac az aJ ak=>hc.symm▸Qc Rm e (hp hP).1 az aJ ak⟩
def zQ{α:Type}{xs:List α}{x:α}(e:ir xs k=some x):(0<=k/\xs[k.toNat]? =some x)\/(k<0/\0<=k+xs.length/\xs[(k+xs.length).toNat]? =some x):=by
 replace e:(bif dQ 0 k then xs[k.toNat]? else bif dQ 0 (k+xs.length) then xs[(k+xs.length).toNat]? else none)=some x:=e;induction q:dQ 0 k with
 |true=>rw[q] at e;exact .inl ⟨(fg _ _).mp q,e⟩
 |false=>
  rw[q] at e;induction q2:dQ 0 (k+xs.length) with
  |true=>rw[q2] at e;exact .inr ⟨Int.not_le.mp λz=>nj<|q.symm.trans<|(fg _ _).mpr z,(fg _ _).mp q2,e⟩
  |false=>rw[q2] at e;exact ng e
def Fk{α:Type}{xs:List α}{x:α}(e:ir xs k=some x):∃j,seqIndex? k xs.length=some j/\xs[j]? =some x/\-(xs.length:Int)<=k/\k<xs.length:=by
 rcases zQ e with⟨h0,h1⟩|⟨h0,h1,h2⟩
 ·have:=(List.getElem?_eq_some_iff.mp h1).1;refine js k.toNat ?_ h1 (by lia)<|by lia
  unfold seqIndex?;rw[if_neg<|Int.not_lt.mpr h0,if_pos (by simp;lia)]
 ·have:=(List.getElem?_eq_some_iff.mp h2).1;refine js ((k+xs.length).toNat) ?_ h2 (by lia)<|by lia
  unfold seqIndex?;rw[if_pos h0,if_pos (by simp;lia)]
def be.ir(r:be W G φ xs us)(e:Mine.ir xs k=some v):∃u,VR W G φ v u/\Mine.ir us k=some u:=by
 have hl:=r.length;rcases zQ e with⟨h0,h1⟩|⟨h0,h1,h2⟩
 ·exact(r.get h1).imp λu h=>⟨h.2,by unfold Mine.ir;rw[(fg _ _).mpr h0];exact h.1⟩
 ·exact(r.get h2).imp λu h=>⟨h.2,by unfold Mine.ir;rw[<-hl,(fg _ _).mpr h1,show dQ 0 k=false from Bool.not_eq_true _▸λz=>Int.not_le.mpr h0<|(fg _ _).mp z];exact h.1⟩
def Nd(ha:s.heap.get? a=some (dq items m))(hl:items.length<=ae)(e:ir items k=some u)(q:Q u s):
    wpAny W.M A (getItem (.ref a)<|.int k t) Q E s:=by
 unfold ae at hl;rcases zQ e with⟨h0,h1⟩|⟨h0,h1,h2⟩
 ·have:=(List.getElem?_eq_some_iff.mp h1).1;exact wpAny_getItem_list (fN ha) h0 (by lia) (by simpa using h1) q
 ·exact wpAny_getItem_list_neg (fN ha) h0 (by simp;lia) (by lia) (by simpa using h2) q
def tJ(W:Wd)(A:Around)(o i:Value)(Q:Value->Shared->Prop)(s:Shared):Prop:=∃T id,typeLookup (.type T) "__getitem__"=pure (some<|.builtin id)/\s.TypeIs o T/\wpAny W.M A (getItem o i) Q Ff s
def AQ{cU:Expr}(h:wpAny W.M A (eval value env) (λo ai=>wpAny W.M A (eval cU env) (λi af=>tJ W A o i Q af) Ff ai) Ff s):wpAny W.M A (eval (.Subscript value cU pos) env) Q Ff s:=by
 rw[eval_Subscript];refine wpAny_bind<|wpAny_mono h (λo ai cC=>wpAny_bind<|wpAny_holding<|wpAny_mono cC (λi af aL=>wpAny_bind<|wpAny_standAt ?_) λ_ _ x=>x) λ_ _ x=>x;refine dW aL λT id hl hT hg=>?_;have hs:∃ops,subscripted cU false o i=operate ops (getItem o i):=by
  clear h cC;induction cU using Expr.casesOn with
  |Slice a b st p=>cases st<;>exact⟨_,rfl⟩
  |_=>exact⟨_,rfl⟩
 obtain⟨ops,hs⟩:=hs;refine wpAny_bind ?_;rw[getitemInPython_of_ne hT.not_modules];refine wpAny_bind<|wpAny_specialOf hT hl ?_;have cb:wpAny W.M A (subscripted cU false o i) (λr aH=>wpAny W.M A (letTemporaryGo value o r>>=λ_=>pure r) Q Ff aH) Ff af:=by rw[hs];exact wpAny_operating<|wpAny_mono hg (λr aH bW=>wpAny_bind<|wpAny_letTemporaryGo<|wpAny_pure bW) λ_ _ x=>x
 first
  |exact wpAny_pure (wpAny_bind cb)
  |exact wpAny_bind (wpAny_pure (wpAny_bind cb))
  |exact wpAny_bind cb
def wS{α:Type}{xs:List α}{x:α}(h:rD xs k=some x):xs.length<=ae/\ir xs k=some x:=⟨(gu _ _).mp (cW h).1,(cW h).2⟩
def FK(e:(k.cw.bind λi=>rD xs i)=some v)(hk:VT W w k z)(ha:w.h.get? a=some (dq items m))(hv:be W w.G w.φ xs items)(q:∀u tk,VR W w.G w.φ v u->Q u {w.s with toks:=tk}):tJ W A (.ref a) z Q w.s:=by refine aA (bc e) λi h1 h2=>?_;obtain⟨t,rfl⟩:=hk.toI h1;exact aA (hv.ir (wS h2).2) λu h3 h4=>dA _ _ list_getitem_lookup ((fN ha).typeIs)<|Nd ha (hv.length▸(wS h2).1) h4<|q u w.s.toks h3
def FV(e:(mB k aO).bind id=some v)(hk:VT W w k z)(D:xx W w aO a)(q:∀u tk,VR W w.G w.φ v u->Q u {w.s with toks:=tk}):tJ W A (.ref a) z Q w.s:=by
 refine aA (bc e) λr h1 h2=>?_;have h2:r=some v:=h2;subst h2;rcases z1 h1 hk D with⟨x,t,m,rfl,hm,y,hy,hv⟩|⟨x,t,m,rfl,hm,y,hy,hv⟩
 ·exact dA _ _ slot_dict_getitem.lookup hm.typeIs<|wpAny_getItem_of (strKind_is P0 W.w x t) hm hy<|q _ _ hv
 ·exact dA _ _ slot_dict_getitem.lookup hm.typeIs<|wpAny_getItem_of (intKind_is P0 W.w x t) hm hy<|q _ _ hv
def EL(e:pF c a k=some v)(R:aI W w c)(ha:VT W w a u)(hk:VT W w k z)(q:∀u tk,VR W w.G w.φ v u->Q u {w.s with toks:=tk}):tJ W A u z Q w.s:=by
 induction a using V.casesOn with
 |lst xs=>refine ez (ha.lst R) λa items m q1 ho hv=>?_;exact zc q1<|FK e hk ho hv q
 |tup xs=>refine ez (ha.tup R) λa items m q3 ho hv=>?_;refine zc q3 ?_;refine aA (bc e) λi h1 h2=>?_;obtain⟨t,rfl⟩:=hk.toI h1;have h3:=wS h2;refine aA (hv.ir h3.2) λu h4 h5=>?_;refine lD (Fk h5) λj j1 j2 j3 j4=>?_;have h6:=hv.length▸h3.1;unfold ae at h6;exact dA _ _ slot_tuple_getitem.lookup ((lG ho).typeIs)<|PyProof.Rows.getItem_tuple (lG ho) (by lia) (by lia) j1 (by simpa using j2)<|q u w.s.toks h4
 |str l=>refine aA (bc e) λi h1 h2=>?_;obtain⟨t,rfl⟩:=hk.toI h1;obtain⟨t',rfl⟩:=ha.str;refine aA (bc h2) λy h3 h4=>?_;obtain rfl:=aE h4;have h5:=wS h3;refine lD (Fk h5.2) λj j1 j2 j3 j4=>?_;have h6:=h5.1;unfold ae at h6;refine dA _ _ slot_str_getitem.lookup (typeIs_str _ _ _)<|PyProof.Rows.getItem_str (c:=y) (by simp;lia) ?_<|q _ _<|.str [y] _;have:(⟨l.toArray⟩:Str).length=l.length:=rfl;rw[this,j1];simpa using j2
 |fq es=>refine fH (ha.val rfl).i λ_ _ _ eu ho hd hs=>?_;exact zc eu<|FV e hk (dA _ _ (R.g _ _ ho) hd hs) q
 |ptr i=>
  replace e:(match gv c i with
   |some es=>(mB k es).bind id
   |none=>(hH c i).bind λxs=>k.cw.bind λj=>rD xs j)=some v:=e
  induction h:gv c i with
  |some aO=>rw[h] at e;exact uy R (ha.val rfl) h λx r es n h0 _ _ g1 g2 _ g4 _ _=>h0.symm▸FV e hk (dA es n g1 g2 g4) q
  |none=>rw[h] at e;exact aA (bc e) λxs h1 h2=>uz R (ha.val rfl) h1 λx r yU n h0 _ _ g1 g2 _ _=>h0.symm▸FK h2 hk g1 g2 q
 |_=>exact ng e
def cl(n:Nat)(d:Int):Option Int->Int
 |none=>d
 |some i=>max 0<|min (if i<0 then i+n else i) n
def Fb(n:Nat)(k d:Int):cl n d (some k)=(g9 n k:Nat)/\g9 n k<=n:=⟨(Int.toNat_of_nonneg<|Int.le_max_left ..).symm,Int.toNat_le.mpr<|Int.max_le.mpr ⟨Int.natCast_nonneg n,Int.min_le_right ..⟩⟩
def HU(n:Nat)(v:Option Int):cl n 0 v=(v.elim 0 (g9 n):Nat)/\v.elim 0 (g9 n)<=n:=by
 induction v with
 |none=>exact⟨rfl,Nat.zero_le _⟩
 |some k=>exact Fb n k 0
def Hn(n:Nat)(v:Option Int):cl n n v=(v.elim n (g9 n):Nat)/\v.elim n (g9 n)<=n:=by
 induction v with
 |none=>exact⟨rfl,aV _⟩
 |some k=>exact Fb n k n
theorem HM(a b:Nat):sliceRange (a:Int) (b:Int) 1=(List.range<|b-a).map (λk=>a+k):=by
 unfold sliceRange;simp only[show((1:Int)>0)=True from by simp,if_true];by_cases eW:(a:Int)<b
 ·have e3:(((b:Int)-a+1-1)/1).toNat=b-a:=by rw[Int.add_sub_cancel,Int.ediv_one];exact Int.toNat_sub ..
  simp only[eW,if_true,e3];refine List.map_congr_left λk _=>?_;lia
 ·have:b-a=0:=by lia
  simp[eW,this]
theorem Fo{α:Type}(xs:List α)(lo hi:Option Int):(sliceRange (cl xs.length 0 lo) (cl xs.length xs.length hi) 1).filterMap (xs[·]?)=cU xs lo hi:=by
 obtain⟨a1,a2⟩:=HU xs.length lo;obtain⟨b1,b2⟩:=Hn xs.length hi;rw[a1,b1,HM];unfold cU;rw[List.drop_take];by_cases h:lo.elim 0 (g9 xs.length)<=hi.elim xs.length (g9 xs.length)
 ·exact StrLaws.picks xs _ _<|by lia
 ·rw[Nat.sub_eq_zero_of_le<|Nat.le_of_not_le h];rfl
def LD{α:Type}(xs:List α)(lo hi:Option Int):(cU xs lo hi).length<=xs.length:=by unfold cU;rw[List.length_drop];exact aG (Nat.sub_le _ _)<|List.length_take_le' ..
theorem Mz{α:Type}(xs:List α)(lo hi:Option Int)(e:(sliceRange (cl xs.length 0 lo) (cl xs.length xs.length hi) 1).length=xs.length):cU xs lo hi=xs:=by
 obtain⟨a1,a2⟩:=HU xs.length lo;obtain⟨b1,b2⟩:=Hn xs.length hi;rw[a1,b1,HM,List.length_map,List.length_range] at e;unfold cU
 generalize lo.elim 0 (g9 xs.length)=p at*
 generalize hi.elim xs.length (g9 xs.length)=q at*
 by_cases h:xs.length=0
 ·rw[List.length_eq_zero_iff.mp h];simp
 ·rw[show p=0 by lia,show q=xs.length by lia,List.take_length];rfl
theorem L5(items:List Value)(lo hi:Option Int):slicePick items.toArray lo hi none=(cU items lo hi).toArray:=by
 rw[<-Fo];unfold slicePick;have e:sliceBounds lo hi none items.toArray.size=(cl items.length 0 lo,cl items.length items.length hi,1):=by cases lo<;>cases hi<;>simp[sliceBounds,cl]
 rw[e];simp
theorem D5(l:List Nat)(lo hi:Option<|Int×Tok):slicePicked ⟨l.toArray⟩ lo hi none=sliceRange (cl l.length 0 (lo.map (·.1))) (cl l.length l.length (hi.map (·.1))) 1:=by unfold slicePicked Builtin.Str.strSliceIndices;have e:(⟨l.toArray⟩:Str).length=l.length:=rfl;rw[e];cases lo<;>cases hi<;>simp[cl]
def LJ(l:List Nat)(lo hi:Option<|Int×Tok):((slicePicked ⟨l.toArray⟩ lo hi none).filterMap (l.toArray[·]?))=cU l (lo.map (·.1)) (hi.map (·.1)):=by rw[<-Fo,D5];simp
theorem be.slice(r:be W G φ xs us)(lo hi:Option Int):be W G φ (Mine.cU xs lo hi)<|Mine.cU us lo hi:=by unfold Mine.cU;rw[r.length];exact(r.take _).drop _
def PV(o:Option Int)(u:Value):Prop:=match o with
 |none=>u=.none
 |some i=>∃t,u=.int i t
def PV.opt(r:PV o u):∃q:Option<|Int×Tok,u=partValue q/\o=q.map (·.1):=match o,r with
 |none,r=>au none r rfl
 |some i,r=>r.elim λt h=>au (some (i,t)) h rfl
def PV.part(r:PV o u):IsPart u o:=match o,r with
 |none,r=>r▸.none
 |some i,r=>r.elim λt h=>h▸.int i t
def E0(h:∀x,e=some x->bY W A env (d x) x):jS W A env (vC d e) (evalPart e env) λ_ _ o u=>PV o u:=by
 intro ρ σ;induction e with
 |none=>exact bD λhP=>⟨hP,λB w R F=>wpAny_pure<|Po.here R rfl⟩
 |some x=>exact bE ((h x rfl).t ρ σ) λt aY k=>cN λi e=>bD λhP=>⟨(k hP).1,λB w R F=>by rw[evalPart_some];exact Po.use ((k hP).2 B w R F) λu ac az aJ ak=>Po.mk az aJ<|kG ak e⟩
def QP{lo:Option<|Int×Tok}(x:aQ n w)(R:aI W w c)(hs:w.h.get? a=some {cls:=.type "slice",data:=.fields #[partValue lo,partValue hi,.none]})(hl:l.length<=ae):
    tJ W A (.str ⟨l.toArray⟩ tk) (.ref a) (Po W n c λw' u=>TR W n w' (.p (.str (cU l (lo.map (·.1)) (hi.map (·.1))))) u) w.s:=by
 refine dA _ _ PySem.F.slot_str_getitem.lookup (typeIs_str _ _ _)<|wpAny_getItem_str_slice (l:=lo) (u:=hi) (st:=none) (fA _ hs rfl rfl) rfl ?_;have es:=LJ l lo hi;unfold sliceMade;split
 ·rename_i c;have kc:(slicePicked ⟨l.toArray⟩ lo hi none).length=l.length:=by simp only[cS,beq_iff_eq] at c;exact c.2
  rw[D5] at kc;rw[Mz l _ _ kc];exact Po.xH x R<|VR.str _ _
 ·refine⟨?_,?_⟩
  ·rw[es];show(Mine.cU l _ _).toArray.size<=_;rw[List.size_toArray];exact aG (LD ..)<|aG hl lI
  ·rw[es];exact Po.kQ x R<|VR.str _ _
def OS{lo:Option Int}(x:aQ n w)(R:aI W w c)(ho:w.h.get? a=some (dq items m))(hv:be W w.G w.φ xs items)(hs:w.h.IsSliceOf b vl vu .none)(p1:PV lo vl)(p2:PV hi vu)(hl:xs.length<=ae):
    tJ W A (.ref a) (.ref b) (Po W n c λw' u=>TR W n w' (.f<|cU xs lo hi) u) w.s:=by
 have h2:=hv.length▸hl;have:=lI;refine dA _ _ list_getitem_lookup ((fN ho).typeIs)<|wpAny_getItem_list_slice (fN ho) hs p1.part p2.part .none (by simp) ?_ (by rw[List.size_toArray];exact aG h2 this);rw[L5];exact Po.tr x<|wM R<|hv.slice _ _
def Q3{lo:Option Expr}(cC:bY W A env (d l) l)(aL:∀x,lo=some x->bY W A env (d x) x)(bW:∀x,hi=some x->bY W A env (d x) x):
    bY W A env (df<|pO d l<|.Slice lo hi none p) (.Subscript l (.Slice lo hi none p) pos):=by
 refine gH (λρ σ=>?_) λ_=>rfl;show ow (ar (d l).t (λx=>ar (vC d lo) λl=>ar (vC d hi) λh=>ar (aS<|I2 x.v l h) λq=>iP q.2<|jK q.1) ρ σ) _;refine bE (cC.t ρ σ) λx aY k₁=>bE (E0 aL ρ aY) λlv cg ay=>bE (E0 bW ρ cg) λhv gK ba=>cN λq e=>o8 λσ' hc hp=>iE λt et hP=>?_;obtain rfl:=aE et;have ba:=ba (hp hP).2;have ay:=ay ba.1;have k₁:=k₁ ay.1;refine⟨k₁.1,λB w R F=>AQ<|Po.use (k₁.2 B w R F) λu ac az aJ ak=>wpAny_Slice<|Po.use (ay.2 B ac aJ<|F.step az) λvl an aN bG aC=>Po.use (ba.2 B an bG<|F.step<|az.trans aN) λvu a9 dx eU de=>wpAny_pure ?_⟩;have dK:=((az.trans aN).trans dx).trans<|aQ.grown (k:=a9.s.toks)<|eQ (h:=a9.s.heap) (o:={cls:=.type "slice",data:=.fields #[vl,vu,.none]});have kB:=eU.grown (k:=a9.s.toks)<|eQ (h:=a9.s.heap) (o:={cls:=.type "slice",data:=.fields #[vl,vu,.none]});have ak:=(dx.tr<|aN.tr ak).vt;rw[hc]
 generalize x.v=v at e ak
 induction v using V.casesOn with
 |str s=>cases e;obtain⟨tk,rfl⟩:=ak.str;refine aA (PV.opt aC) λql q1 q2=>?_;subst q1;subst q2;refine aA (PV.opt de) λqh q3 q4=>?_;subst q3;subst q4;exact QP dK kB (Heap.get?_push_size _ rfl)<|(hp hP).1 _ rfl
 |lst xs=>cases e;refine ez (ak.lst eU) λa items m q5 ho hv=>?_;subst q5;exact OS dK kB (eQ _ _ ho) hv (Heap.IsSliceOf.new ..) aC de<|(hp hP).1 _ rfl
 |_=>exact ng e
def PL(hr:∀a b c p,r≠.Slice a b c p)(cC:bY W A env (d l) l)(aL:bY W A env (d r) r):bY W A env (df<|pO d l r)<|.Subscript l r pos:=by
 refine gH (λρ σ=>?_) λ_=>rfl;have e:pO d l r=ar (d l).t λx=>ar (d r).t λk=>ar (aS<|dY k) λk=>oV λc=>(pF c x.v k).bind λv=>some<|.p v:=by
  induction r using Expr.casesOn with
  |Slice=>exact absurd rfl<|hr _ _ _ _
  |_=>rfl
 rw[e];refine bE (cC.t ρ σ) λx aY k₁=>bE (aL.t ρ aY) λy cg ay=>cN λk e1=>uL λt σ' hc hp hP=>?_;refine aA (bc (hp hP).1) λv e2 e3=>?_;refine zb (aE e3) ?_;have ay:=ay (hp hP).2;have k₁:=k₁ ay.1;exact⟨k₁.1,λB w R F=>AQ<|Po.use (k₁.2 B w R F) λu ac az aJ ak=>Po.use (ay.2 B ac aJ<|F.step az) λz an aN bG aC=>EL e2 bG (aN.tr ak).vt (.of<|jO aC e1) λu tk hu=>hc.symm▸Po.after (az.trans aN) (Po.jH bG hu) λ_ _ r=>r⟩
def yA(W:Wd)(k:Nat)(v:Value)(h:Heap):Prop:=(k=0/\v=.ref (W.cls 0))\/(k=1/\∃tp n,v=.ref tp/\h.get? tp=some (lQ [.type "list",.type "tuple"] n))\/(k=2/\v=.type "bool")
def qI(I:A2 W K)(R:aI W w c)(Z:KitX K x t H)(X:K.In w.h)(p:H w.h)(hm:(t,b)∈BN (W.cls 0))(hx:x≠.builtin "__main__.__loader__#opaque")(hc:yA W k v w.h):
    wpAny W.M A (call (.builtin "isinstance") [x,v]) (Po W w c λ_ u=>u=.bool (yb k b)) Ff w.s:=by
 refine fp (I.KC _ hm) λa0 a1 a2=>?_;rcases hc with⟨rfl,rfl⟩|⟨rfl,tp,n,rfl,htp⟩|⟨rfl,rfl⟩
 ·exact kia_one Z X p a0 hx λtk=>Po.jH R rfl
 ·exact kia_tup Z X p htp a1 hx λtk=>Po.jH R rfl
 ·exact kia_one Z X p a2 hx λtk=>Po.jH R rfl
def MO(e:Dj v=some t)(R:aI W w c)(hv:VR W w.G w.φ v u)(hc:yA W k d w.h):
    wpAny W.M A (call (.builtin "isinstance") [u,d]) (Po W w c λ_ u=>u=.bool (yb k t)) Ff w.s:=by
 have X:=R.X;cases hv with
 |none=>exact zm e<|qI Y.ins R kitx_none X trivial (.tail _<|.tail _<|.tail _<|.tail _<|.tail _<|.tail _<|.head _) nofun hc
 |bool y=>exact zb (aE e)<|qI Y.ins R kitx_bool X trivial (.tail _<|.tail _<|.tail _<|.head _) nofun hc
 |int i t=>exact zb (aE e)<|qI Y.ins R kitx_int X trivial (.tail _<|.tail _<|.tail _<|.tail _<|.head _) nofun hc
 |str l t=>exact zb (aE e)<|qI Y.ins R kitx_str X trivial (.tail _<|.tail _<|.tail _<|.tail _<|.tail _<|.head _) nofun hc
 |lst ho hv=>exact zb (aE e)<|qI Y.ins R kitx_list X (au _ (R.g _ _ ho) rfl) (.tail _<|.head _) nofun hc
 |tup ho hv=>exact zb (aE e)<|qI Y.ins R kitx_tuple X (au _ (R.g _ _ ho) rfl) (.tail _<|.tail _<|.head _) nofun hc
 |inst ho hd hf hk'=>have h:=cW (show bK (Nat.beq _ 0) (some (true,false,false))=some t from e);cases fy h.1;cases h.2;exact qI Y.ins R (Y.ins.own _ _ _) X (⟨R.g _ _ ho,rfl,rfl,R.g _ _ hd⟩:InstAt w.s.heap _ (instObj (W.cls 0) _) (W.cls 0)<|some<|dictOf _ _) (.head _) nofun hc
 |_=>exact ng e
def Ea(h:qH e=some x):∃p,e=.Name x p:=by
 induction e using Expr.casesOn with
 |Name y p=>exact zn h ⟨p,rfl⟩
 |_=>exact ng h
def My(h:G7 e=some es):∃k p,e=.Tuple es k p:=by
 induction e using Expr.casesOn with
 |Tuple y k p=>exact zn h<|bT k p rfl
 |_=>exact ng h
def wK(X:CxOk env cx)(hx:qH e=some x)(h:pd cx x y)(h1:gV y)(R:aI W w c)(hu:mg y=some u\/mg y=none/\mb y=some u)(q:Q u w.s):wpAny W.M A (eval e env) Q E w.s:=by obtain⟨p,rfl⟩:=Ea hx;have h:=bp h;cases gJ.mp h.1;exact nN X.toEnvOk h1 (X.kd _ _<|iU h.2) R hu q
def Ed(h:qH e=some x):eq e:=(Ea h).elim λp h=>h▸rfl
def Ni{f:Expr->Expr->Option Nat}(h:(match es with|[a,b]=>f a b|_=>none)=some k):∃a b,es=[a,b]/\f a b=some k:=by
 induction es using bx with
 |nil=>exact ng h
 |cons a r=>induction r using bx with
  |nil=>exact ng h
  |cons b r=>induction r using bx with
   |nil=>exact aW a b rfl h
   |cons=>exact ng h
def Op{w:Wo}(X:CxOk env cx)(h:yl cx e=some k)(R:aI W w c):wpAny W.M A (eval e env) (Po W w c λw' v=>yA W k v w'.h) Ff w.s:=by
 unfold yl at h;induction hx:qH e with
 |some x=>
  rw[hx] at h;replace h:(bif pd cx x "Node" then some 0 else bK (pd cx x "bool") (some 2))=some k:=h;induction q:pd cx x "Node" with
  |true=>rw[q] at h;exact zb (aE h)<|wK X hx q (by decide+kernel) R (.inl Y.tys.2.2.2)<|Po.here R<|.inl ⟨rfl,rfl⟩
  |false=>rw[q] at h;have h:=cW h;exact zm h.2<|wK X hx h.1 (by decide+kernel) R (.inr Y.tys.2.2.1)<|Po.here R<|.inr<|.inr ⟨rfl,rfl⟩
 |none=>rw[hx] at h;refine aA (bc h) λes h1 h2=>?_;refine bJ (Ni h2) λa b q1 h2=>?_;subst q1;refine aA (bc h2) λx h3 h4=>?_;refine aA (bc h4) λy h5 h6=>?_;have h7:=cW h6;cases h7.2;refine cX (My h1) λj p q2=>?_;subst q2;refine wpAny_Tuple<|wpAny_items_cons (wK X h3 (bp h7.1).1 (by decide+kernel) R (.inr Y.tys.1)<|wpAny_items_cons (wK X h5 (bp h7.1).2 (by decide+kernel) R (.inr Y.tys.2.1)<|wpAny_items_nil ⟨by ext,?_⟩)<|nL<|Ed h5)<|nL<|Ed h3;exact Po.mk (w':=w.hp (w.s.heap.push<|lQ [.type "list",.type "tuple"] 0) w.s.toks) (aQ.grown eQ) (R.grown eQ)<|.inr<|.inl ⟨rfl,(aW _ 0 rfl<|Heap.get?_push_size _ rfl)⟩
def Py(X:CxOk env cx){d:Expr->dC}(h1:gV x)(h2:gr .globalImplicit<|aU x cx)(hg:gT x=some .m6)(hd:bY W A env (d e) e):
    bY W A env (df<|gd (eq e&&eq q)<|ar (aS<|yl cx q) λk=>ar (d e).t λt=>ar (aS<|dY t) λv=>ar (aS<|G9 k v) λb=>vT<|.bool b) (.Call (.Name x gQ) [e,q] [] pos):=by
 refine gH (λρ σ=>eJ λhs=>cN λk e1=>bE (hd.t ρ σ) λt aY k₁=>cN λv e2=>cN λb e3=>bD λhP=>⟨(k₁ hP).1,λB w R F=>?_⟩) λ_=>rfl;have hs:=bp hs;have tE:[e,q].all eq:=by rw[List.all_cons,hs.1,List.all_cons,hs.2];rfl
 have main:wpAny W.M A (mv env pos [e,q]) (Po W w aY.c λw' us=>∃u d,us=[u,d]/\VR W w'.G w'.φ v u/\yA W k d w'.h) Ff w.s:=wpAny_items_cons (Po.use ((k₁ hP).2 B w R F) λu ac az aJ ak=>wpAny_items_cons (Po.use (Op X e1 aJ) λd an aN bG aC=>wpAny_items_nil<|Po.mk (az.trans aN) bG<|dA u d rfl (aN.vr<|jO ak e2) aC)<|nL hs.2) (nL hs.1)
 exact r7 (nN X.toEnvOk h1 (X.kd _ _<|iU h2) R (.inr<|Y.m6 x hg) (uu (.inl ⟨_,rfl⟩) tE main λus ac az aJ ak=>by refine dW ak λu d q3 hu hc=>?_;clear ak;subst q3;refine aA (bc (show(Dj v).bind (λt=>some<|yb k t)=some b from e3)) λt' g1 g2=>?_;refine zb (aE g2) ?_;exact Po.use (MO g1 aJ hu hc) λz an aN bG aC=>Po.mk (az.trans aN) bG<|aC▸.bool _))
abbrev Wo.cell(w:Wo)(as:List Addr):Wo:=⟨w.G,w.φ++[as],w.s⟩
def aI.sf(R:aI W w c)(hn:as.Nodup)(hd:∀a∈as,a∉w.φ.flatten)(hl:∀a∈as,∃ob,w.h.get? a=some ob)(ho:OR W w.G (w.φ++[as]) w.h o as):aI W (w.cell as) (c++[o]) where
 g:=R.g
 base:=R.base
 len:=by rw[bO,bO,R.len];rfl
 nodup:=by rw[List.flatten_append,List.nodup_append];refine⟨R.nodup,by simpa using hn,λa ha b hb e=>hd b (by simpa using hb)<|e▸ha⟩
 live:=λa ha=>by rw[List.flatten_append] at ha;exact(List.mem_append.mp ha).elim (R.live a) λq=>hl a<|by simpa using q
 cells:=λi ob e=>by
  rw[List.getElem?_append] at e;split at e
  ·exact(R.cells i ob e).imp λbs h=>⟨uE (List.prefix_append ..) h.1,h.2.keep (λ_ _ e=>e) (List.prefix_append ..) (λ_ _ _ e=>e) λ_ _ _ e=>e⟩
  ·rename_i q;have hi:i=c.length:=by have:=(List.getElem?_eq_some_iff.mp e).1;simp at this;lia
   subst hi;simp at e;subst e;refine au as ?_ ho;rw[List.getElem?_append_right<|R.len▸aV _,R.len];simp
def aQ.sf(x:aQ n w)(hf:∀a∈as,dI n a):aQ n<|w.cell as:=
 ⟨x.le,x.pre.trans<|List.prefix_append ..,λb o q e=>⟨(x.keep e).o,(x.keep e).g,λz=>by rw[List.flatten_append] at z;exact(List.mem_append.mp z).elim (x.keep e).n λq=>nomatch e.o.symm.trans (hf b<|by simpa using q)⟩,x.al,x.sm⟩
def Ap(R:aI W w c):VR W G (w.φ++[a::r]) (.ptr c.length)<|.ref a:=.ptr (r:=r) (by rw[List.getElem?_append_right<|R.len▸aV _,R.len];simp)
def Od(R:aI W w c)(p:cO w a o)(ho:OR W w.G (w.φ++[[a]]) w.h ob [a]):ch (· ≠a) w (w.cell [a])/\aI W (w.cell [a]) (c++[ob]):=
 have sg:∀b∈[a],b=a:=λb hb=>fo hb
 ⟨⟨λ_ _ e=>e,List.prefix_append ..,λb o q e=>⟨e.o,e.g,λz=>by rw[List.flatten_append] at z;exact(List.mem_append.mp z).elim e.n λz=>q<|sg b<|by simpa using z⟩,λb o e=>⟨o,e⟩,rfl⟩,R.sf (by simp) (λb hb=>sg b hb▸p.n) (λb hb=>⟨_,sg b hb▸p.o⟩) ho⟩
def TR.KY(R:aI W w c)(r:TR W n w t u)(e:rH c.length t=some q)(hp:∀p,q.2.2=some p->p):∃w',w'.s=w.s/\ch (λb=>¬jR t u b) w w'/\aI W w' (c++q.2.1)/\VR W w'.G w'.φ q.1 u:=by
 induction t with
 |p v=>exact zb (aE e)<|js w rfl (.refl _ _) ((List.append_nil c).symm▸R) r
 |b xs=>exact ng e
 |f xs=>cases e;refine fz r λa q4 o1 hf=>?_;clear r;subst q4;refine bJ o1 λitems m p hv=>?_;have y:=Od (ob:=.lst xs) R p<|oU a items m rfl p.o (hv.mono (λ_ _ e=>e)<|List.prefix_append ..) p.g<|hp _ rfl;exact js (w.cell [a]) rfl ⟨y.1.le,y.1.pre,λb o q=>y.1.kp b o λz=>q ⟨⟨xs,rfl⟩,z▸rfl⟩,y.1.al,y.1.sm⟩ y.2<|Ap R
def TR.VC(R:aI W w c)(q:TR W n w t u)(e:t.keep=some v):∃w',w'.s=w.s/\ch (λb=>¬jR t u b) w w'/\aI W w' c/\VR W w'.G w'.φ v u:=by
 induction t with
 |p v'=>cases e;exact js w rfl (.refl _ _) R q
 |b xs=>exact ng e
 |f xs=>refine zb (aE e) ?_;refine fz q λa q5 o2 hn=>?_;clear q;subst q5;refine bJ o2 λitems m p hv=>?_;exact Dy (Hy R p) λw' h1 h2 h3 h4 y h6=>js w' h1 ⟨y.le,y.pre,λb o q=>y.kp b o λz=>q ⟨⟨xs,rfl⟩,z▸rfl⟩,y.al,y.sm⟩ h6<|.lst h3<|hv.mono h4<|h2▸eZ _
def TR.fresh(r:TR W n w t u)(h:jR t u b):dI n b:=by obtain⟨⟨xs,rfl⟩,rfl⟩:=h;refine fz r λa e _ f=>?_;cases e;exact f
def aQ.nw(x:aQ n w)(r:TR W n w t u)(y:ch (λb=>¬jR t u b) w w'):aQ n w':=⟨λb o e=>y.le b o<|x.le b o e,x.pre.trans y.pre,λb o _ p=>y.kp b o (λz=>nomatch p.o.symm.trans (r.fresh z))<|x.keep p,λb o e=>(x.al b o e).elim λo' e'=>y.al b o' e',by rw[y.sm,x.sm]⟩
theorem TR.hp(x:aQ n w)(R:aI W w c)(r:TR W n w t u)(e:rH c.length t=some q)(hp:∀p,q.2.2=some p->p):∃w',w'.s=w.s/\aQ n w'/\aI W w' (c++q.2.1)/\VR W w'.G w'.φ q.1 u:=(TR.KY R r e hp).imp λw' h=>⟨h.1,x.nw r h.2.1,h.2.2⟩
abbrev toStr(l:List Nat):Str:=⟨l.toArray⟩
def Et(e:toStr a=toStr b):a=b:=by simpa using congrArg (λs:Str=>s.cps.toList) e
inductive gR(W:Wd)(G:GM)(φ:Ft):List (V×V)->List (Str×Value)->Prop
 |nil:gR W G φ [] []
 |cons {l:List Nat} {v:V} {u:Value} {aO:List (V×V)} {q:List (Str×Value)} (h:VR W G φ v u) (r:gR W G φ aO q):gR W G φ ((.str l,v)::aO) ((toStr l,u)::q)
theorem gR.length:∀{aO:List<|V×V} {q:List<|Str×Value},gR W G φ aO q->q.length=aO.length:=by
 intro aO;induction aO with
 |nil=>intro q r;cases r;rfl
 |cons p aO ih=>intro q r;cases r with|cons h r=>exact congrArg (· +1)<|ih r
theorem u6(h:(!b)):b=false:=(dg _).mp h
def gR.Wh:∀{aO:List<|V×V} {q:List<|Str×Value},gR W G φ aO q->(aO.all λp=> !eO p.1 (.str l))=true->∀p∈q,p.1≠toStr l:=by
 intro aO;induction aO with
 |nil=>intro q r _ p hp;cases r;cases hp
 |cons p aO ih=>
  intro q r e p hp;cases r with|cons h r=>
  cases hp with
  |head=>exact λz=>nj<|(u6 (show(!lq _ _)=true from(bp e).1)).symm.trans<|(dR _ _).mpr<|Et z
  |tail _ hp=>exact ih r (bp e).2 p hp
def gR.nodup:∀{aO:List<|V×V} {q:List<|Str×Value},gR W G φ aO q->jC aO=true->(q.map (·.1)).Nodup:=by
 intro aO;induction aO with
 |nil=>intro q r _;cases r;exact List.nodup_nil
 |cons p aO ih=>
  intro q r e;cases r with|cons h r=>
  exact List.nodup_cons.mpr ⟨λz=>(List.mem_map.mp z).elim λp hp=>r.Wh (bp (bp e).1).2 p hp.1 hp.2,ih r (bp e).2⟩
def Mi{k:Str}(h:∀p∈bN,p.1≠k):stored bN k v=bN++[(k,v)]:=by unfold stored;rw[if_neg];exact λz=>(List.any_eq_true.mp z).elim λp hp=>h p hp.1<|of_decide_eq_true hp.2
theorem LY:∀(q bN:List<|Str×Value),((bN++q).map (·.1)).Nodup->merged bN q=bN++q:=by
 intro q;induction q with
 |nil=>exact λbN _=>(List.append_nil bN).symm
 |cons p q ih=>
  intro bN hn;have h1:stored bN p.1 p.2=bN++[p]:=Mi λr hr e=>by rw[List.map_append,List.nodup_append] at hn;exact hn.2.2 r.1 (List.mem_map.mpr<|au r hr rfl) p.1 (.head _) e
  have h2:bN++[p]++q=bN++p::q:=by rw[bz];rfl
  show merged (stored bN p.1 p.2) q=_;rw[h1,ih _<|h2▸hn,h2]
set_option tactic.hygienic true in
def gR.store(hv:VR W G φ v u):∀{aO:List<|V×V} {q:List<|Str×Value},gR W G φ aO q->(q.map (·.1)).Nodup->gR W G φ (km (.str l) v aO) (stored q (toStr l) u):=by
 intro aO;induction aO with
 |nil=>intro q r _;cases r;exact .cons hv .nil
 |cons p aO ih=>
  intro q r hn;cases r with|cons h r=>
  rename_i l' v' u' q;have hn:=List.nodup_cons.mp hn;show gR W G φ (bif lq l' l then(.str l',v)::aO else(.str l',v')::km (.str l) v aO) _;induction e:lq l' l with
  |true=>
   cases(dR _ _).mp e;have h1:stored ((toStr l,u')::q) (toStr l) u=(toStr l,u)::q:=by unfold stored;rw[List.any_cons,decide_eq_true rfl,Bool.true_or,if_pos rfl,List.map_cons,if_pos rfl,map_store_of_not_mem q _ u hn.1]
   rw[h1];exact .cons hv r
  |false=>
   have ne:toStr l'≠toStr l:=λz=>nk<|((dR _ _).mpr<|Et z).symm.trans e;have h1:stored ((toStr l',u')::q) (toStr l) u=(toStr l',u')::stored q (toStr l) u:=by unfold stored;rw[List.any_cons,decide_eq_false ne,Bool.false_or,List.map_cons,if_neg ne];split<;>rfl
   rw[h1];exact .cons h<|ih r hn.2
def N5:∀{aO:List<|V×V},(aO.all λq=> !eO q.1 k)=true->eO (.str l) k=false->((km (.str l) v aO).all λq=> !eO q.1 k)=true:=by
 intro aO;induction aO with
 |nil=>intro _ e;show(!eO (.str l) k&&true)=true;rw[e];rfl
 |cons p r ih=>
  intro h e;have h:=bp h;show((bif eO p.1 (.str l) then(p.1,v)::r else p::km (.str l) v r).all λq=> !eO q.1 k)=true;cases eO p.1 (.str l) with
  |true=>exact(cS _ _).mpr h
  |false=>exact(cS _ _).mpr ⟨h.1,ih h.2 e⟩
def On(h:eO a (.str l)=false)(ha:sM a):eO (.str l) a=false:=by
 induction a using V.casesOn with
 |str l'=>
  induction e:lq l l' with
  |true=>exact nk<|((dR _ _).mpr ((dR _ _).mp e).symm).symm.trans h
  |false=>exact e
 |_=>exact nj ha
def Q5:∀{aO:List<|V×V},jC aO=true->jC (km (.str l) v aO)=true:=by
 intro aO;induction aO with
 |nil=>exact λ_=>rfl
 |cons p r ih=>
  intro h;have h:=bp h;show jC (bif eO p.1 (.str l) then(p.1,v)::r else p::km (.str l) v r)=true;induction e:eO p.1 (.str l) with
  |true=>exact(cS _ _).mpr h
  |false=>exact(cS _ _).mpr ⟨(cS _ _).mpr ⟨(bp h.1).1,N5 (bp h.1).2<|On e (bp h.1).1⟩,ih h.2⟩
def L6:∀(aO:List<|V×V),(km k v aO).length<=aO.length+1:=by
 intro aO;induction aO with
 |nil=>exact aV _
 |cons p r ih=>
  show(bif eO p.1 k then(p.1,v)::r else p::km k v r).length<=_;cases eO p.1 k with
  |true=>exact Nat.le_succ _
  |false=>exact Nat.succ_le_succ ih
def cZ.Zz:∀{aO:List<|V×V} {es:List DictEntry},cZ W G φ aO es->(aO.all λq=>sM q.1)=true->∃q,gR W G φ aO q/\Pairs (strKind P0 W.w) es q:=by
 intro aO;induction aO with
 |nil=>intro es r _;cases r;exact au [] .nil .nil
 |cons p aO ih=>
  intro es r e;cases r with
  |str hv r=>exact aA (ih r (bp e).2) λq h1 h2=>au _ (.cons hv h1)<|.cons (strKind_is P0 W.w (toStr _) _) rfl h2
  |int hv r=>exact nj e
set_option tactic.hygienic true in
def gR.y1:∀{aO:List<|V×V} {q:List<|Str×Value} {es:List DictEntry},gR W G φ aO q->Pairs (strKind P0 W.w) es q->(∀e∈es,∃k,(strKind P0 W.w).is k e.key=true/\e.hash=(strKind P0 W.w).hash k)->cZ W G φ aO es:=by
 intro aO;induction aO with
 |nil=>intro q es r p _;cases r;cases p;exact .nil
 |cons p aO ih=>
  intro q es r p hk;cases r with|cons hv r=>
  cases p with|cons h1 h2 r2=>
  rename_i l v u q en es;refine aA (hk en<|.head _) λk k1 k2=>?_;obtain⟨t,ht⟩:=Value.isStrOf_shape (show Value.isStrOf (toStr l) en.key=true from h1);obtain⟨t',ht'⟩:=Value.isStrOf_shape (show Value.isStrOf k en.key=true from k1);obtain⟨hsh,key,val⟩:=en;subst ht;cases ht';cases h2;cases(show hsh=hashStr W.w (toStr l) from k2);exact .str hv<|ih r r2 λe he=>hk e<|.tail _ he
def E7:∀{aO:List<|V×V},jC aO=true->(aO.all λq=>sM q.1)=true:=by
 intro aO;induction aO with
 |nil=>exact λ_=>rfl
 |cons p r ih=>exact λh=>(cS _ _).mpr ⟨(bp (bp h).1).1,ih (bp h).2⟩
variable{h:Heap} in
def cZ.dictOf(ha:h.get? a=some (dictOf es n))(r:cZ W G φ aO es)(e:jC aO):∃q,gR W G φ aO q/\h.DictOf (strKind P0 W.w) a q:=by refine aA (r.Zz<|E7 e) λq h1 h2=>?_;refine au q h1<|JR _ es.toArray n ha ⟨rfl,rfl,rfl⟩ rfl (λen he=>?_) (by simpa using h2)<|h1.nodup e;exact bJ (r.strs (E7 e) en<|Array.mem_toList_iff.mpr he) λx t k1 k2=>au x (by rw[k1];exact strKind_is P0 W.w x t) k2
variable{h:Heap} in
def Em(r:gR W G φ aO q)(D:h.DictOf (strKind P0 W.w) a q):∃es n,h.get? a=some (dictOf es n)/\cZ W G φ aO es:=by refine Z5 D λo1 es ep ho o2 hd hk hp _=>?_;clear D;obtain⟨c,d,dt,sl⟩:=o1;refine fp o2 λh1 h2 h3=>?_;subst h1;subst h2;subst h3;subst hd;exact aW es.toList ep ho<|r.y1 hp λe he=>hk e<|Array.mem_toList_iff.mp he
inductive t5(W:Wd)(G:GM)(φ:Ft):List (V×V)->List (Value×Value)->Prop
 |nil:t5 W G φ [] []
 |cons {k v:V} {x y:Value} {l:List (V×V)} {r:List (Value×Value)} (cC:VR W G φ k x) (aL:VR W G φ v y) (h:t5 W G φ l r):t5 W G φ ((k,v)::l) ((x,y)::r)
def t5.PY:∀{l:List<|V×V} {r:List<|Value×Value},t5 W G φ l r->jC l=true->∃q,gR W G φ l q/\Carries (strKind P0 W.w) r q:=by
 intro l;induction l with
 |nil=>intro r p _;cases p;exact au [] .nil trivial
 |cons p l ih=>
  intro r p e;cases p with|cons cC aL h=>
  refine aA (ih h (bp e).2) λq i1 i2=>?_;cases cC with
  |str l t=>exact⟨_,.cons aL i1,strKind_is P0 W.w (toStr l) t,rfl,i2⟩
  |_=>exact nj e
def Fi{β:Type}{k:Lo->St->Option β}{Q:β->Prop}(h:ow (k ρ ⟨c,σ.sc,σ.P⟩) Q):ow (pu c k ρ σ) Q:=h
def Ml:∀{ks:List<|Option Expr} {vs:List Expr},(∀k,some k∈ks->bY W A env (d k) k)->fQ W A env d vs->∀ρ σ,
    ow (uM d ks vs ρ σ) λq=>(ks.all (·.isSome)=true/\ks.length=vs.length/\q.1.length=ks.length)/\Pq W A env (evalPairs<|pairTrees ks vs env pos) (λ_ w' l r=>t5 W w'.G w'.φ l r) ρ σ q:=by
 intro ks;induction ks with
 |nil=>
  intro vs _ _ ρ σ;refine eJ λhv=>bD ?_;clear a_1;induction vs using bx with
  |nil=>exact⟨⟨rfl,rfl,rfl⟩,λhP=>⟨hP,λB w R F=>pairTrees_nil_walk<|Po.here R .nil⟩⟩
  |cons=>exact nj hv
 |cons k ks ih=>
  intro vs H₁ I7 ρ σ;induction k with
  |none=>exact f8
  |some k=>
   induction vs using bx with
   |nil=>exact f8
   |cons v vs=>show ow (ar (d k).t (λa=>ar (aS<|dY a) λa=>ar (d v).t λb=>i5 λc=>ar (aS<|rH c.length b) λq=>iP q.2.2<|pu (c++q.2.1)<|ar (uM d ks vs) λl=>aS<|some<|(a,q.1)::l) ρ σ) _;refine bE ((H₁ k<|.head _).t ρ σ) λt aY k₁=>cN λa da=>bE (I7.hd.t ρ aY) λaD cg ay=>sB ?_;refine cN λq bj=>o8 λgK hc hp=>Fi<|bE (ih (λk hk=>H₁ k<|.tail _ hk) I7.tl ρ _) λl BF ba=>bD ?_;refine⟨⟨ba.1.1,congrArg (· +1) ba.1.2.1,congrArg (· +1) ba.1.2.2⟩,λhP=>?_⟩;have ba:=ba.2 hP;have hp:=hp ba.1;have ay:=ay hp.2;have k₁:=k₁ ay.1;refine⟨k₁.1,λB w R F=>pairTrees_cons_walk<|Po.use (k₁.2 B w R F) λu ac az aJ ak=>Po.use (ay.2 B ac aJ<|F.step az) λtL an aN bG aC=>?_⟩;refine lD (aC.hp aN bG bj hp.1) λWL h1 Bp WG eT=>?_;rw[<-h1];exact Po.use (ba.2 B WL WG<|(F.step az).step Bp) λr a9 dx eU de=>Po.mk ((az.trans Bp).trans dx) eU<|.cons ((Bp.trans dx).vr<|jO ak da) (dx.vr eT) de
variable{h:Heap} in
def L4(e:h.get? d=some {cls:=.type "dict",data:=.dict #[]}):h.DictOf (strKind P0 W.w) d []:=(JR _ (#[]) 0 e ⟨rfl,rfl,rfl⟩ rfl (λ_ he=>by simp at he) .nil List.nodup_nil)
def aI.but(R:aI W w c)(same:∀b o,b≠d->w.h.get? b=some o->h'.get? b=some o)(hG:w.G d=none)(eV:d∉w.φ.flatten):aI W (w.hp h' k) c:=⟨λa ob e=>same a ob (λz=>nh<|(z▸e).symm.trans hG)<|R.g a ob e,R.base,R.len,R.nodup,λa e=>(R.live a e).imp λo e'=>same a o (λz=>eV<|z▸e) e',λi ob e=>(R.cells i ob e).imp λas h=>⟨h.1,h.2.keep (λ_ _ e=>e) (eZ _) (λb hb KN e'=>same b KN (λz=>eV<|z▸List.mem_flatten.mpr (au as (List.mem_of_getElem? h.1) hb)) e') λ_ _ _ e=>e⟩⟩
def sO(x:aQ lT w)(R:aI W w c)(same:∀b o,b≠d->w.h.get? b=some o->h'.get? b=some o)(hf:dI lT d)(hG:w.G d=none)(eV:d∉w.φ.flatten):aQ lT (w.hp h' k)/\aI W (w.hp h' k) c:=
 ⟨⟨x.le,x.pre,λb o q e=>⟨same b o (λz=>nh<|(z▸e.o).symm.trans hf) (x.keep e).o,(x.keep e).g,(x.keep e).n⟩,λb o e=>(x.al b o e).imp λo' e'=>same b o' (λz=>nh<|(z▸e).symm.trans hf) e',by have:=x.sm;show {w.s with heap:=h',toks:=k}=_;rw[this]⟩,
   R.but same hG eV⟩
def E9(R₀:aI W lT c₀)(x:aQ lT w)(R:aI W w c)(hf:dI lT d)(hg:w.G d=none)(hn:d∉w.φ.flatten)(hd:w.h.get? d=some (dictOf es m))(D:cZ W w.G w.φ aO es)(sk:jC aO)(hl:aO.length<=1000):Po W lT (c++[.dict aO]) (λw' u=>TR W lT w' (.p<|.ptr c.length) u) (.ref d) w.s:=by
 have ne:(d==sysModules)=false:=by
  induction q:d==sysModules with
  |false=>rfl
  |true=>exact Y.sys.elim λo ho=>nh<|(beq_iff_eq.mp q▸R₀.vD _ _ ho).symm.trans hf
 have sg:∀b∈[d],b=d:=λb hb=>fo hb;exact js (w.cell [d]) rfl (x.sf λb hb=>sg b hb▸hf) (R.sf (by simp) (λb hb=>sg b hb▸hn) (λb hb=>⟨_,sg b hb▸hd⟩)<|yC d es m rfl hd (D.mono (λ_ _ e=>e)<|List.prefix_append ..) hg ne sk hl)<|Ap R
variable{env:Env} in
def Ov{vs:List Expr}(cC:∀k,some k∈ks->bY W A env (d k) k)(aL:fQ W A env d vs):bY W A env (df<|HF d ks vs)<|.Dict ks vs pos:=by
 refine gH ?_ λ_=>rfl;have g0:∀w:Wo,(w.s.heap.push {cls:=.type "dict",data:=.dict #[]}).get? w.h.objs.size=some {cls:=.type "dict",data:=.dict #[]}:=λw=>Heap.get?_push_size _ rfl;induction ks using bx with
 |nil=>refine λρ σ=>eJ λtS=>bE (P:=λq=>vs=[]/\q=([],σ)) (eJ λhv=>bD ⟨List.isEmpty_iff.mp hv,rfl⟩) λl aY k=>eJ λsk=>bD λhP=>?_;obtain⟨rfl,k⟩:=k;cases k;exact⟨hP,λB w R F=>wpAny_Dict_empty (have hf:=iB w;have p:=cO.fresh (k:=w.s.toks) R hf (g0 w);E9 (w:=w.hp _ w.s.toks) R (aQ.grown eQ) (R.grown eQ) hf p.g p.n (g0 w) .nil rfl<|Nat.zero_le _)⟩
 |cons k0 ks=>refine λρ σ=>eJ λtS=>bE (Ml (pos:=pos) cC aL ρ σ) λl aY k=>eJ λsk=>bD λhP=>⟨(k.2 hP).1,λB w R F=>?_⟩;obtain⟨⟨k1,k2,k3⟩,k⟩:=k;have hl:l.length<=1000:=k3▸aG ((gu _ _).mp tS) (by ext);have hf:=iB w;have td:=aQ.grown (w:=w) (k:=w.s.toks)<|eQ (o:={cls:=.type "dict",data:=.dict #[]});refine wpAny_Dict_walk (knd:=strKind P0 W.w) k1 k2 (List.cons_ne_nil _ _) ((gu _ _).mp tS) ?_;refine Po.use ((k hP).2 B _ (R.grown eQ)<|F.step td) λr ac az aJ ak=>?_;refine aA (ak.PY sk) λq i1 i2=>?_;have cR:=az.keep<|cO.fresh R hf<|g0 w;refine fA q i2 (L4 cR.o) λh' D' S'=>?_;rw[LY q []<|i1.nodup sk,List.nil_append] at D';refine bJ (Em i1 D') λes m d1 d2=>?_;have o:=sO (k:=ac.s.toks+r.length) (td.trans az) aJ (λb o hb e=>(S'.2 b hb).trans e) hf cR.g cR.n;exact E9 R o.1 o.2 hf cR.g cR.n d1 d2 sk hl
abbrev TT:Wo->Unit->Prop:=λ_ _=>True
def QF{k:Int}(ho:s.heap.get? a=some (dq items n))(h0:0<=k)(Je:k<2^63)(hn:k<items.toArray.size)(q:Q () {s with heap:=s.heap.update a (Obj.mapSeq (·.setIfInBounds k.toNat v))}):wpAny W.M A (PySem.setItem (.ref a) (.int k t) v) Q E s:=by
 have hl:=fN ho;unfold PySem.setItem
 try with_reducible refine wpAny_holding ?_
 first|refine wpAny_bind (wpAny_pure ?_)|skip
 refine wpAny_bind<|wpAny_sequenceKey hl.typeIs (by ext) ?_;refine wpAny_bind (wpAny_callSpecial?_slot (name:=Str.ofString "__setitem__") hl.typeIs slot_list_setitem
  (wpAny_call_entry slot_list_setitem hl.typeIs entry_list_setitem ?_<|args_list_setitem _ _ _))
 show wpAny _ _ (Builtin.List.listSubscript? (.int k t)>>=_) _ _ s;refine wpAny_bind<|wpAny_listSubscript_int (fitsIndex_of h0 Je) ?_;clear Je;obtain⟨j,rfl⟩:=Int.eq_ofNat_of_zero_le h0;have hj:j<items.toArray.size:=by lia
 have hx':items.toArray[j]? =some items.toArray[j]:=Array.getElem?_eq_getElem hj;show wpAny _ _ ((seqItemAt a j>>=λr=>pure (r.map (j,·)))>>=_) _ _ s;refine wpAny_bind<|wpAny_bind<|wpAny_seqItemAt ho rfl<|wpAny_pure ?_;rw[hx'];show wpAny _ _ (setSeqItemAt a j v>>=_) _ _ s;refine wpAny_bind<|wpAny_setSeqItemAt ho rfl ?_
 first
  |exact wpAny_bind (wpAny_pure (wpAny_pure (au .none rfl (wpAny_pure q))))
  |exact wpAny_pure (au .none rfl (wpAny_pure q))
def Qn(R:aI W w c)(ho:VR W w.G w.φ (.ptr i) x)(hk:VR W w.G w.φ (.str l) y)(hv:VR W w.G w.φ v z)(h1:gv c i=some es)(h2:es.length<=100):
    wpAny W.M A (PySem.setItem x y z) (Po W w (c.set i<|.dict<|km (.str l) v es) TT) Ff w.s:=
 uy R ho h1 λa r ens m h0 hp hr g1 g2 g3 g4 g5 g6=>by
  subst h0;subst hr;obtain⟨t,rfl⟩:=hk.toS;refine aA (g2.dictOf g1 g5) λq i1 i2=>?_;refine wpAny_setItem_pairs (knd:=strKind P0 W.w) (k:=toStr l) (strKind_is P0 W.w (toStr l) t) i2 (λh' D' S'=>?_) (by rw[i1.length,sizeLine_eq];exact ju h2);refine bJ (Em (i1.store hv<|i1.nodup g5) D') λrW n' d1 d2=>?_;have sg:∀b∈[a],b=a:=λb hb=>fo hb;have s:=R.setCell (k:=w.s.toks+1) (o:=.dict<|km (.str l) v es) hp (λb hb=>S'.2 b λz=>hb<|z▸.head _) (λb hb=>⟨_,sg b hb▸d1⟩)
   (yC a rW n' rfl d1 d2 g3 g4 (Q5 g5)<|aG (L6 es)<|aG (Nat.succ_le_succ h2)<|by ext) λb hb=>sg b hb▸g3
  exact Po.mk s.2 s.1 trivial
variable{φ:Ft} in
def Oy(R:aI W w c)(ho:VR W w.G w.φ (.ptr i) x)(hk:VR W w.G w.φ (.int j) y)(hv:VR W w.G w.φ v z)(h1:hH c i=some xs)(h2:0<=j)(h3:j<xs.length):
    wpAny W.M A (PySem.setItem x y z) (Po W w (c.set i<|.lst<|xs.set j.toNat v) TT) Ff w.s:=
 uz R ho h1 λa r items m h0 hp hr g1 g2 g3 g4=>by
  subst h0;subst hr;obtain⟨t,rfl⟩:=hk.toI;obtain⟨m',rfl⟩:=Int.eq_ofNat_of_zero_le h2;have hl:=g2.length;have s:=zH (k:=w.s.toks) (ys:=xs.set m' v) (out:=items.set m' z) (f:=λw=>w.setIfInBounds m' z) R hp g1 g3 (by simp) (be.set hv m' g2) (by rw[List.length_set];exact g4);have h4:(m':Int)<2^63:=by
   have:ae<2^63:=by ext
   lia
  exact QF g1 h2 h4 (by rw[List.size_toArray,<-hl];exact h3)<|Po.mk s.2 s.1 trivial
def Mb(e:zB c k v o=some c')(R:aI W w c)(ho:VR W w.G w.φ o x)(hk:VR W w.G w.φ k y)(hv:VR W w.G w.φ v z):wpAny W.M A (PySem.setItem x y z) (Po W w c' TT) Ff w.s:=by
 induction o using V.casesOn with
 |ptr i=>
  replace e:(match gv c i with
   |some es=>k.f7.bind λ_=>bK (DE k es&&dF es.length 100)<|some<|c.set i<|.dict<|km k v es
   |none=>(hH c i).bind λxs=>k.cw.bind λj=>bK (dQ 0 j&&bQ j xs.length)<|some<|c.set i<|.lst<|xs.set j.toNat v)=some c':=e
  induction h:gv c i with
  |some es=>rw[h] at e;refine aA (bc e) λl e1 e2=>?_;have e3:=cW e2;cases uI e1;cases e3.2;exact Qn R ho hk hv h<|(gu _ _).mp (bp e3.1).2
  |none=>rw[h] at e;refine aA (bc e) λxs e0 e=>?_;refine aA (bc e) λj e1 e2=>?_;have e3:=cW e2;cases uG e1;cases e3.2;exact Oy R ho hk hv e0 ((fg _ _).mp (bp e3.1).1)<|(qD _ _).mp (bp e3.1).2
 |_=>exact ng e
def dh.putL(hv:VR W G φ v u)(r:dh W G φ fs es):dh W G φ (db f v fs)<|PySem.W.putL f hsh (.str f t) u es:=by
 refine r.ind (.cons hv .nil) λp adq t' u' fs es h r ih=>?_;show dh W G φ (bif nq p.1 f then(p.1,v)::fs else p::db f v fs) (if(p.1==f)=true then _ else _);induction q:nq p.1 f with
 |true=>rw[if_pos<|beq_iff_eq.mpr<|gJ.mp q];exact .cons hv r
 |false=>rw[if_neg λz=>uT q<|beq_iff_eq.mp z];exact .cons h ih
theorem dh.length(r:dh W G φ fs es):fs.length=es.length:=r.ind rfl λ_ _ _ _ _ _ _ _ ih=>congrArg (· +1) ih
def Mw{α:Type}{v:α}:∀(fs:List<|Str×α),(db f v fs).length<=fs.length+1:=by
 intro fs;induction fs with
 |nil=>exact aV _
 |cons p r ih=>
  show(bif nq p.1 f then(p.1,v)::r else p::db f v r).length<=_;cases nq p.1 f with
  |true=>exact Nat.le_succ _
  |false=>exact Nat.succ_le_succ ih
def PM{α:Type}{v:α}{P:Str->Prop}(hf:P f):∀{fs:List<|Str×α},(∀q∈fs,P q.1)->∀q∈db f v fs,P q.1:=by
 intro fs;induction fs with
 |nil=>intro _ q hq;exact zc (fo hq) hf
 |cons p r ih=>
  intro h q hq;replace hq:q∈bif nq p.1 f then(p.1,v)::r else p::db f v r:=hq;induction e:nq p.1 f with
  |true=>rw[e] at hq;exact(dZ hq).elim (λz=>z▸h p (.head _)) λz=>h q<|.tail _ z
  |false=>rw[e] at hq;exact(dZ hq).elim (λz=>z▸h p (.head _)) λz=>ih (λq hq=>h q<|.tail _ hq) q z
def Md(name:Str)(hsh:Int)(key u:Value):∀es:List DictEntry,(PySem.W.putL name hsh key u es).length<=es.length+1:=by
 intro es;induction es with
 |nil=>exact aV _
 |cons e r ih=>
  show(if e.key.isStr name=true then {e with val:=u}::r else e::PySem.W.putL name hsh key u r).length<=_;split
  ·exact Nat.le_succ _
  ·exact Nat.succ_le_succ ih
theorem dh.getL(r:dh W G φ fs es):∃q,PySem.W.getL f es=some q:=by
 induction e:aU f fs with
 |none=>exact⟨_,r.KH e⟩
 |some v=>exact(r.find e).elim λu h=>⟨_,h.1⟩
set_option tactic.hygienic true in
def NM(R:aI W w c)(h1:w.s.heap.get? a=some (instObj (W.cls k) d))(h2:w.s.heap.get? d=some (dictOf es m))(h3:dh W w.G w.φ fs es)(hf:gn k f)(hz:fs.length<900)(q:Q () {w.s with heap:=w.s.heap.update d<|Obj.putName f (PyData.keyHash W.w.params f) (.str f<|w.s.toks+1) u,toks:=w.s.toks+1+1}):wpAny W.M A (setAttr (.ref a) f u) Q E w.s:=by
 obtain⟨hc,hn⟩:=Y.gn k f hf;have X:=R.X;have I:InstAt w.s.heap a (instObj (W.cls k) d) (W.cls k)<|some<|dictOf es m:=⟨h1,rfl,rfl,h2⟩;have ht:takerIn K (W.cls k) f=some none:=by unfold takerIn;rw[hn];rfl
 obtain⟨r,hr⟩:=h3.getL (f:=f);have kc:=h3.length;refine aA (any_some hc.hd) λcd zv li=>?_;refine set_plain X I hc.sa<|osa_open (s:={w.s with toks:=w.s.toks+1}) X I hc.po ht λb=>?_;obtain⟨G,φ,hh,g,dr,tt,os⟩:=w;dsimp only at h1 h2;have X:K.In hh:=X;refine wpAny_bind<|wpAny_pure<|wpAny_bind<|wpAny_bind<|wpAny_loadPart h1<|wpAny_bind<|(looks_clsIn X zv).here ?_;rw[li];refine wpAny_pure (a:=some d)<|wpAny_bind<|wpAny_pure<|wpAny_bind ?_;unfold nsSet;refine wpAny_bind<|wpAny_bind<|wpAny_askSetting<|wpAny_pure<|wpAny_bind<|wpAny_mkText<|wpAny_bind<|wpAny_loadPart h2 ?_;have c':(!es.toArray.any (·.key.isStr f)&&es.toArray.any (·.refKey))=false:=by
  rw[<-Array.any_toList,<-Array.any_toList];unfold PySem.W.getL at hr;split at hr
  ·rename_i en he;rw[List.any_eq_true.mpr<|au en (List.mem_of_find?_eq_some he)<|List.find?_some he];rfl
  ·split at hr
   ·exact ng hr
   ·rename_i z;rw[Bool.not_eq_true] at z;rw[z,Bool.and_false]
 dsimp only;rw[aRefKeyMayBeTheName_at,c'];refine wpAny_updatePart h2 ?_;have D':(hh.update d<|Obj.putName f (PyData.keyHash W.w.params f) (.str f<|tt+1) u).get? d=some (dictOf (PySem.W.putL f (PyData.keyHash W.w.params f) (.str f<|tt+1) u es)<|putN f es m):=by rw[Heap.get?_update_self _ h2 (by rw[putName_dict];rfl),putName_dict]
 have adf:=Md f (PyData.keyHash W.w.params f) (.str f<|tt+1) u es;refine wpAny_bind<|wpAny_lookBehind D' (pastItsLine_dict (by rw[List.size_toArray,sizeLine_eq];lia)) ?_;exact wpAny_pure q
def D9(e:lH c f v o=some c')(R:aI W w c)(ho:VR W w.G w.φ o x)(hv:VR W w.G w.φ v z):wpAny W.M A (setAttr x f z) (Po W w c' TT) Ff w.s:=by
 induction o using V.casesOn with
 |ptr i=>
  refine aA (bc (show(jG c i).bind _=some c' from e)) λo1 e1 e2=>?_;obtain⟨k,fs⟩:=o1;have e3:=cW e2;refine zm e3.2 ?_;have hh:=bp e3.1;refine ES R ho e1 λa d es m h0 hp g1 g2 g3 g4 g5 g6 g7=>?_;refine zc h0 ?_;have hz:=(gu _ _).mp hh.2;refine NM R g1 g2 g3 hh.1 (eP hz<|by ext) ?_;have D':=Heap.get?_update_self (h:=w.s.heap) (Obj.putName f (PyData.keyHash W.w.params f) (.str f<|w.s.toks+1) z) g2 (by rw[putName_dict];rfl);rw[putName_dict] at D';have iM:∀b,b≠d->(w.s.heap.update d<|Obj.putName f (PyData.keyHash W.w.params f) (.str f<|w.s.toks+1) z).get? b=w.s.heap.get? b:=λb hb=>Heap.get?_update_ne _ _ _ _ hb;have yO:a≠d:=λz=>by cases z;exact nomatch g1.symm.trans g2
  have Js:=g3.putL (f:=f) (hsh:=PyData.keyHash W.w.params f) (t:=w.s.toks+1) hv;have two:∀{P:Addr->Prop},P a->P d->∀b∈[a,d],P b:=λha hd b hb=>(dZ hb).elim (λz=>z▸ha) λhb=>fo hb▸hd;have s:=R.setCell (k:=w.s.toks+1+1) (o:=.inst k<|db f v fs) hp (λb hb=>iM b λz=>hb<|z▸.tail _ (.head _)) (two ⟨_,(iM _ yO).trans g1⟩ ⟨_,D'⟩)
   (tY a d _ _ rfl ((iM _ yO).trans g1) D' Js g4 g5 (PM (P:=λq=>gn k q=true) hh.1 g6)<|Js.length▸aG (Mw fs) (aG (Nat.succ_le_succ hz)<|by ext)) (two g4 g5)
  exact Po.mk s.2 s.1 trivial
 |_=>exact ng e
def sA{P:Addr->Prop}(ha:P a)(hd:P d):∀b∈[a,d],P b:=λb hb=>(dZ hb).elim (λz=>z▸ha) λhb=>fo hb▸hd
def Ee(x:aQ n w)(R:aI W w c)(hi:w.φ[i]? =some (a::r))(hc:c[i]? =some (.inst k fs)):
    ∃w',w'.s=w.s/\w'.φ=w.φ/\aQ n w'/\aI W w' (c.set i .dead)/\VR W w'.G w'.φ (.inst k fs) (.ref a):=by
 refine wq (R.cell hc hi) λa' d es m e1 h1 h2 h3 h4 h5 h6 h7=>?_;obtain⟨rfl,rfl⟩:=List.cons.inj e1;have C6:∀b∈[a,d],b∈w.φ.flatten:=λb hb=>List.mem_flatten.mpr<|au _ (List.mem_of_getElem? hi) hb;have yO:d≠a:=λz=>by cases z;exact nomatch h1.symm.trans h2
 let G':GM:=λb=>if b=a then some (instObj (W.cls k) d) else if b=d then some (dictOf es m) else w.G b;have ga:G' a=some (instObj (W.cls k) d):=if_pos rfl;have gd:G' d=some (dictOf es m):=(if_neg yO).trans<|if_pos rfl;have go:∀b,b∉[a,d]->G' b=w.G b:=λb q=>(if_neg λz:b=a=>q<|z▸.head _).trans (if_neg λz:b=d=>q<|z▸.tail _ (.head _));have out:∀b,w.G b≠none->b∉[a,d]:=λb e hb=>e<|sA (P:=λb=>w.G b=none) h4 h5 b hb;have le:kF w.G G':=λb o e=>(go b<|out b λz=>nomatch z.symm.trans e).trans e;have DD:∀b o,G' b=some o->w.h.get? b=some o:=λb o e=>by
  by_cases q:b∈[a,d]
  ·exact sA (P:=λb=>G' b=some o->w.h.get? b=some o) (λe=>aE (ga.symm.trans e)▸h1) (λe=>aE (gd.symm.trans e)▸h2) b q e
  ·exact R.g b o<|(go b q).symm.trans e
 refine fc ⟨G',w.φ,w.s⟩ rfl rfl ⟨λb o e=>le b o<|x.le b o e,x.pre,λb o q e=>?_,x.al,x.sm⟩ ⟨DD,λb o e=>le b o<|R.base b o e,by rw[List.length_set];exact R.len,R.nodup,R.live,λj ob e=>?_⟩<|.inst ga gd (h3.mono le<|eZ _) h6
 ·have p:=x.keep e;exact⟨p.o,(go b λz=>p.n<|C6 b z).trans p.g,p.n⟩
 ·by_cases q:i=j
  ·subst q;rw[List.getElem?_set_self',hc] at e;exact zb (aE e)<|au _ hi trivial
  ·rw[List.getElem?_set_ne q] at e;exact(R.cells j ob e).imp λbs k=>⟨k.1,k.2.keep le (eZ _) (λ_ _ _ e=>e) λ_ b hb e=>(go b λz=>yg R.nodup hi k.1 q b z hb).trans e⟩
def Ph{ψ:Ft}{i:Nat}(h:φ[i]? =some (a::r))(h':(φ++ψ)[i]? =some (a'::r')):φ[i]? =some (a'::r'):=h.trans<|(uE (List.prefix_append φ ψ) h).symm.trans h'
def VR.low{φ ψ:Ft}(h:VR W G φ v u):∀{G':GM} {u':Value},VR W G' (φ++ψ) v u'->VR W G' φ v u':=
 h.rec (motive_1:=λv _ _=>∀{G':GM} {u':Value},VR W G' (φ++ψ) v u'->VR W G' φ v u') (motive_2:=λv _ _=>∀{G':GM} {u':List Value},be W G' (φ++ψ) v u'->be W G' φ v u')
  (motive_3:=λv _ _=>∀{G':GM} {u':List DictEntry},dh W G' (φ++ψ) v u'->dh W G' φ v u') (motive_4:=λv _ _=>∀{G':GM} {u':List DictEntry},cZ W G' (φ++ψ) v u'->cZ W G' φ v u')
  (λh=>h.i▸.none) (λ_ _ _ h=>h.i▸.bool _) (λ_ _ _ _ h=>h.i.elim λ_ e=>e▸.int _ _) (λ_ _ _ _ h=>h.i.elim λ_ e=>e▸.str _ _)
  (λ_ _ k _ _ h=>ez h.i λ_ _ _ e ho h=>e▸.lst ho (k h)) (λ_ _ k _ _ h=>ez h.i λ_ _ _ e ho h=>e▸.tup ho (k h))
  (λ_ _ _ k _ _ h=>fH h.i λ_ _ _ e ho h hs=>e▸.fq ho (k h) hs) (λ_ _ _ _ k _ _ h=>v4 h.i λ_ _ _ _ e ho hd h hf=>e▸.inst ho hd (k h) hf)
  (λe _ _ h=>bJ h.i λ_ _ eu h=>eu▸.ptr (Ph e h))
  (λh=>h.i▸.nil) (λ_ _ k k' _ _ h=>dW h.i λ_ _ e h r=>e▸.cons (k h) (k' r))
  (λh=>h.i▸.nil) (λ_ _ k k' _ _ h=>me h.i λ_ _ _ _ e h r=>e▸.cons (k h) (k' r))
  (by intro G' u' h;cases h;exact .nil) (by intro _ _ _ _ _ _ _ _ k k' G' u' h;cases h with|str h r=>exact .str (k h)<|k' r) (by intro _ _ _ _ _ _ _ _ k k' G' u' h;cases h with|int h r=>exact .int (k h)<|k' r)
def Lw(W:Wd)(φ ψ:Ft)(v:V):Prop:=∀{G':GM} {u':Value},VR W G' (φ++ψ) v u'->VR W G' φ v u'
def be.low(k:∀v∈vs,Lw W φ ψ v)(h:be W G (φ++ψ) vs us):be W G φ vs us:=by revert k;exact h.ind (λ_=>.nil) λ_ _ _ _ h _ ih k=>.cons (k _ (.head _) h)<|ih λv hv=>k v<|.tail _ hv
def dh.low(k:∀v∈vs,Lw W φ ψ v.2)(h:dh W G (φ++ψ) vs us):dh W G φ vs us:=by revert k;exact h.ind (λ_=>.nil) λ_ _ _ _ _ _ h _ ih k=>.cons (k _ (.head _) h)<|ih λv hv=>k v<|.tail _ hv
def cZ.low(k:∀v∈vs,Lw W φ ψ v.2)(h:cZ W G (φ++ψ) vs us):cZ W G φ vs us:=by revert k;exact h.ind (λ_=>.nil) (λ_ _ _ _ _ _ h _ ih k=>.str (k _ (.head _) h)<|ih λv hv=>k v<|.tail _ hv) λ_ _ _ _ _ _ h _ ih k=>.int (k _ (.head _) h)<|ih λv hv=>k v<|.tail _ hv
noncomputable def O.vals:O->List V
 |.dead=>[]
 |.lst xs=>xs
 |.dict es=>es.map (·.2)
 |.inst _ fs=>fs.map (·.2)
def OR.low(k:∀v∈o.vals,Lw W φ ψ v)(r:OR W G (φ++ψ) h o as):OR W G φ h o as:=by
 induction o with
 |dead=>trivial
 |lst xs=>refine fH r λa items n q1 ho hv hl=>?_;clear r;subst q1;exact jE a items n rfl ho (hv.low k) hl
 |dict aO=>refine fH r λa es n q2 ho hv hl=>?_;clear r;subst q2;exact jE a es n rfl ho (hv.low λv hv=>k _<|List.mem_map.mpr<|au v hv rfl) hl
 |inst c fs=>refine v4 r λa d es n q3 ho hd hv hl=>?_;clear r;subst q3;exact Kl a d es n rfl ho hd (hv.low λv hv=>k _<|List.mem_map.mpr<|au v hv rfl) hl
def be.lows:∀{us:List Value},be W G φ vs us->∀v∈vs,Lw W φ ψ v:=by
 induction vs with
 |nil=>exact λ_ _ hv=>nomatch hv
 |cons x r ih=>
  intro us h v hv;cases h with|cons h r=>
  cases hv with
  |head=>exact h.low
  |tail _ hv=>exact ih r v hv
def dh.lows:∀{us:List DictEntry},dh W G φ vs us->∀v∈vs.map (·.2),Lw W φ ψ v:=by
 induction vs with
 |nil=>exact λ_ _ hv=>nomatch hv
 |cons x r ih=>
  intro us h v hv;cases h with|cons h r=>
  cases hv with
  |head=>exact h.low
  |tail _ hv=>exact ih r v hv
def cZ.lows:∀{us:List DictEntry},cZ W G φ vs us->∀v∈vs.map (·.2),Lw W φ ψ v:=by
 induction vs with
 |nil=>exact λ_ _ hv=>nomatch hv
 |cons x r ih=>
  intro us h v hv;cases h with
  |str h r=>cases hv with
   |head=>exact h.low
   |tail _ hv=>exact ih r v hv
  |int h r=>cases hv with
   |head=>exact h.low
   |tail _ hv=>exact ih r v hv
def OR.lows(r:OR W G φ h o as):∀v∈o.vals,Lw W φ ψ v:=by
 induction o with
 |dead=>exact λ_ hv=>nomatch hv
 |lst xs=>exact fH r λa items n _ _ hv _=>hv.lows
 |dict aO=>exact fH r λa es n _ _ hv _=>hv.lows
 |inst c fs=>exact v4 r λa d es n _ _ _ hv _=>hv.lows
def aI.drop(R:aI W w<|c'++ds)(e:w.φ=φ++ψ)(hl:φ.length=c'.length)(k:∀o∈c',∀v∈o.vals,Lw W φ ψ v):aI W ⟨w.G,φ,w.s⟩ c' where
 g:=R.g
 base:=R.base
 len:=hl
 nodup:=by have:=R.nodup;rw[e,List.flatten_append,List.nodup_append] at this;exact this.1
 live:=λa ha=>R.live a (by rw[e,List.flatten_append];exact gq _ ha)
 cells:=λi o h=>by have hi:=(List.getElem?_eq_some_iff.mp h).1;refine aA (R.cells i o<|(List.getElem?_append_left hi).trans h) λas h1 h2=>?_;rw[e] at h1 h2;exact au as ((List.getElem?_append_left<|hl▸hi).symm.trans h1)<|h2.low<|k o<|List.mem_of_getElem? h
def aQ.drop(x:aQ n w)(e:w.φ=φ++ψ)(h:n.φ<+:φ):aQ n ⟨w.G,φ,w.s⟩:=⟨x.le,h,λb o q p=>⟨(x.keep p).o,(x.keep p).g,λz=>(x.keep p).n (by rw[e,List.flatten_append];exact gq _ z)⟩,x.al,x.sm⟩
def aI.lows(R:aI W w c):∀o∈c,∀v∈o.vals,Lw W w.φ ψ v:=λo ho=>by obtain⟨i,hi,rfl⟩:=List.getElem_of_mem ho;exact(R.cells i _<|List.getElem?_eq_getElem hi).elim λas h=>h.2.lows
def Gw(N:Hb W K k<|fa f)(hC:∀a,rR W (A.under<|.builtin "type.__call__" a) (fa f) (.ptr c.length::vs) (c++[.inst k []]) .none c')(R:aI W w c)(hv:be W w.G w.φ vs us)(q:∀a d w',(w.φ++[[a,d]])<+:w'.φ->aQ w w'->aI W w' c'->Q (.ref a) w'.s):wpAny W.M A (call (.ref<|W.cls k) us) Q E w.s:=by
 have X:=R.X;refine wpAny_call<|make_core (makes_of X N.makes) (looks_findIn X N.init) (λself=>bind_fn X self N.fn) (.inl rfl) ?_;have f1:=iB w;have f2:dI w<|w.h.objs.size+1:=by unfold dI Heap.get?;simp
 have n1:=R.fresh f1;have n2:=R.fresh f2;have k1:((w.h.push emptyDict).push<|instObj (W.cls k) w.h.objs.size).get? w.h.objs.size=some (dictOf [] 0):=Heap.get?_push_of_some _<|Heap.get?_push_size _ rfl;have k2:((w.h.push emptyDict).push<|instObj (W.cls k) w.h.objs.size).get? (w.h.objs.size+1)=some (instObj (W.cls k) w.h.objs.size):=by have:=Heap.get?_push_size (w.h.push emptyDict) (o:=instObj (W.cls k) w.h.objs.size) rfl;rwa [Heap.size_push] at this
 have old:∀b o,w.h.get? b=some o->((w.h.push emptyDict).push<|instObj (W.cls k) w.h.objs.size).get? b=some o:=λb o e=>eQ b o<|eQ b o e;have aJ:=(R.grown (k:=w.s.toks) old).sf (as:=[w.h.objs.size+1,w.h.objs.size]) (o:=.inst k []) (by simp) (sA n2.2 n1.2) (sA ⟨_,k2⟩ ⟨_,k1⟩)<|tY _ _ [] 0 rfl k2 k1 .nil n2.1 n1.1 (λ_ h=>nomatch h)<|Nat.zero_le _;have az:=(aQ.grown (k:=w.s.toks) old).sf (as:=[w.h.objs.size+1,w.h.objs.size])<|sA f2 f1;refine codeAny_mono (hC _ _ _ aJ<|.cons (Ap<|R.grown (k:=w.s.toks) old)<|az.ma hv) λr s' z=>?_;refine aA z λu q5 o1=>?_;refine lD o1 λan q6 aN bG aC=>?_;clear o1;refine zc q5 ?_;refine zc q6 ?_;exact⟨by cases aC;rfl,q _ _ an aN.pre (az.trans aN) bG⟩
def M0(h:xY v=some x):v=.none:=V.zO (cW h).1
def Pd(hC:∀a,mI W (A.under<|.builtin "type.__call__" a) fa C)(X:CxOk env cx)(h1:gV x)(h2:gr .globalImplicit<|aU x cx)(hg:gT x=some (.cls k))(hk:Nat.beq k 0=false)(h:fQ W A env d es):
    bY W A env (df<|ar (mG d es) λvs=>yj C k vs) (.Call (.Name x gQ) es [] pos):=by
 refine gH (λρ σ=>bE (ux (pos:=pos) h ρ σ) λvs aY kv=>?_) λ_=>rfl;unfold yj;rw[hk];show ow (ar (aS<|mT k "__init__") (λf=>ar (yf<|.inst k []) λp=>ar (oS C f<|p::vs) λu=>ar (aS<|xY u) λ_=>vT p) ρ aY) _;refine cN λf e1=>?_;show ow (ar (oS C f<|.ptr aY.c.length::vs) (λu=>ar (aS<|xY u) λ_=>vT<|.ptr aY.c.length) ρ ⟨aY.c++[.inst k []],aY.sc,aY.P⟩) _;have both:ow (oS C f (.ptr aY.c.length::vs) ρ ⟨aY.c++[.inst k []],aY.sc,aY.P⟩) λq=>∀a,q.2.P->aY.P/\rR W (A.under<|.builtin "type.__call__" a) (fa f) (.ptr aY.c.length::vs) (aY.c++[.inst k []]) q.1 q.2.c:=λq e a=>hC a f _ _ q e;refine bE both λu gK g=>cN λz e3=>bD λhP=>?_;cases M0 e3;have Ld:=kv.2 (g ⟨[],[]⟩ hP).1;exact⟨Ld.1,λB w R F=>r7 (nN X.toEnvOk h1 (X.kd _ _<|iU h2) R (.inl<|Y.cls x k hg) (wI (Y.init k f e1).keep kv.1 (Ld.2 B w R F) λus ac az aJ ak=>Gw (Y.init k f e1) (λa=>(g a hP).2) aJ ak.2 λa d an pr aN bG=>Po.mk (az.trans aN) bG<|.ptr (r:=[d])<|uE pr (by rw[List.getElem?_append_right<|aJ.len▸aV _,aJ.len];simp)))⟩
def NH(h:Bg vs=some v):∃k l p,vs=[k,l,p]/\v=.inst 0 [("kind",k),("line",l),("parts",p),("scope",.none)]:=by
 induction vs using bx with
 |nil=>exact ng h
 |cons k r=>induction r using bx with
  |nil=>exact ng h
  |cons l r=>induction r using bx with
   |nil=>exact ng h
   |cons p r=>induction r using bx with
    |nil=>exact zm h<|fK k l p rfl rfl
    |cons=>exact ng h
def Aw(W:Wd)(A:Around)(fa:Nat->Addr):Prop:=∀f,mT 0 "__init__"=some f->∀c k l p a,rR W (A.under<|.builtin "type.__call__" a) (fa f) [.ptr c.length,k,l,p] (c++[.inst 0 []]) .none<|c++[.inst 0 [("kind",k),("line",l),("parts",p),("scope",.none)]]
def Ow(h0:mT 0 "__init__"=some CH)(hN:Aw W A fa)(X:CxOk env cx)(h1:gV x)(h2:gr .globalImplicit<|aU x cx)(hg:gT x=some (.cls 0))(h:fQ W A env d es):
    bY W A env (df<|ar (mG d es) λvs=>yj C 0 vs) (.Call (.Name x gQ) es [] pos):=by
 refine gH (λρ σ=>bE (ux (pos:=pos) h ρ σ) λvs aY kv=>?_) λ_=>rfl;refine cN (o:=Bg vs) λv e1=>bD λhP=>⟨(kv.2 hP).1,λB w R F=>?_⟩;refine gz (NH e1) λk l p q7 q8=>?_;subst q7;subst q8;refine r7 (nN X.toEnvOk h1 (X.kd _ _<|iU h2) R (.inl<|Y.cls x 0 hg) (wI (Y.init 0 CH h0).keep kv.1 ((kv.2 hP).2 B w R F) λus ac az aJ ak=>Gw (Y.init 0 CH h0) (λa=>hN CH h0 aY.c k l p a) aJ ak.2 λa d an pr aN bG=>?_))
 have eV:an.φ=ac.φ++[[a,d]]:=(List.IsPrefix.eq_of_length pr (by rw[bG.len,bO,bO,aJ.len];rfl)).symm;have hi:an.φ[aY.c.length]? =some [a,d]:=by rw[eV,List.getElem?_append_right<|aJ.len▸aV _,aJ.len];simp
 refine i8 (Ee aN bG hi (k:=0) (fs:=[("kind",k),("line",l),("parts",p),("scope",.none)])<|by simp) λa9 aH VH dx eU kZ=>?_;rw[List.set_append_right _ _<|aV _] at eU;have AR:=VH.trans eV;have lw:=ak.2.lows (ψ:=[[a,d]]);have kB:=aI.drop eU AR aJ.len aJ.lows;have dK:=dx.drop AR<|eZ _;rw[<-aH];refine Po.mk (w':=⟨a9.G,ac.φ,a9.s⟩) (az.trans dK) kB ?_;rw[AR] at kZ;cases kZ with|inst ho hd hf hk=>
 exact .inst ho hd (hf.low (λq hq=>by
  rcases dZ hq with rfl|hq
  ·exact lw _<|.head _
  rcases dZ hq with rfl|hq
  ·exact lw _<|.tail _<|.head _
  rcases dZ hq with rfl|hq
  ·exact lw _<|.tail _<|.tail _<|.head _
  cases fo hq;exact λz=>by cases z;exact .none)) hk
structure pQ(W:Wd)(A:Around)(G:GM)(φ:Ft)(I:Addr)(ax:Option Addr)(xs:List V)(P:Nat->Value->Prop)(St:Nat->Heap->Prop):Prop where
 walks:Walks P0 W.w A I (I::ax.toList) [I] xs.length P St
 vals:∀i v,P i v->∃x,xs[i]? =some x/\VR W G φ x v
 live:∀i h,St i h->∃o,h.get? I=some o
 cls:∀i h,St i h->∃o n,h.get? I=some o/\o.cls=.type n/\(["enumerate","zip","dict_itemiterator","dict_reverseitemiterator","odict_iterator","itertools.zip_longest","itertools.pairwise"].contains n)=false
 size:xs.length<=sizeLine
 ne:∀a,ax=some a->a≠I
def qv(m:Nat)(n w:Wo)(a:Addr)(o:Obj):Prop:=w.h.get? a=some o/\((cO w a o/\(m≠0\/dI n a))\/w.G a=some o\/m=2)
def iy(W:Wd)(A:Around)(m:Nat)(n w:Wo)(xs:List V)(u:Value):Prop:=∃I ax P St,u=.ref I/\dI n I/\w.G I=none/\I∉w.φ.flatten/\pQ W A w.G w.φ I ax xs P St/\St 0 w.h/\∀a,ax=some a->∃o,qv m n w a o
def vh(W:Wd)(A:Around)(env:Env)(d:dC)(e:Expr):Prop:=∀m ρ σ,ow (d.s m ρ σ) λq=>q.2.P->σ.P/\∀B w,aI W w σ.c->FR W B env ρ w->wpAny W.M A (eval e env) (λxv ai=>wpAny W.M A (pyIter xv) (Po W w q.2.c λw' u=>iy W A m w w' q.1 u) Ff ai) Ff w.s
def iy.of{St:Nat->Heap->Prop}(x:aQ n w)(R:aI W w c)(hf:dI w I)(g:∀b o,w.h.get? b=some o->h.get? b=some o)(it:pQ W A w.G w.φ I ax xs P St)(st:St 0 h)(l7:∀a,ax=some a->∃o,qv m n w a o):
    Po W n c (λw' u=>iy W A m n w' xs u) (.ref I) {w.s with heap:=h,toks:=k}:=
 have f:=R.fresh hf
 Po.mk (w':=w.hp h k) (x.trans<|aQ.grown g) (R.grown g) (KQ I ax P St rfl (x.old hf) f.1 f.2 it st λa e=>(l7 a e).imp λo q=>⟨g _ _ q.1,q.2.imp (λq=>⟨⟨g _ _ q.1.o,q.1.g,q.1.n⟩,q.2⟩) id⟩)
def EU(hv:be W G φ xs items)(i:Nat)(v:Value)(e:items.toArray[i]? =some v):∃x,xs[i]? =some x/\VR W G φ x v:=by
 have e':items[i]? =some v:=by simpa using e
 have hi:=(List.getElem?_eq_some_iff.mp e').1;refine aA (hv.get (j:=i)<|List.getElem?_eq_getElem<|hv.length.symm▸hi) λu h1 h2=>?_;cases e'.symm.trans h1;exact au _ (List.getElem?_eq_getElem _) h2
def MR(Rm:dJ A)(iM:a≠I)(hv:be W G φ xs items)(hl:xs.length<=ae):
    pQ W A G φ I (some a) xs (λi v=>items.toArray[i]? =some v) (λi h=>h.IsListIter I a i/\h.IsList a items.toArray) where
 walks:=by have:=Walks.list (prog:=P0) (w:=W.w) Rm.hd I a iM items.toArray;rw[List.size_toArray,<-hv.length] at this;exact this
 vals:=EU hv
 live:=λi h st=>st.1.imp λo e=>e.1
 cls:=λi h st=>by exact fz st.1 λo e c _=>dA o _ e c<|by ext
 size:=aG hl lI
 ne:=λa' e=>aE e▸iM
def OM(Rm:dJ A)(iM:a≠I)(hv:be W G φ xs items)(hl:xs.length<=ae):
    pQ W A G φ I (some a) xs (λi v=>items.toArray[i]? =some v) (λi h=>h.IsTupleIter I a i/\h.IsTuple a items.toArray) where
 walks:=by have:=Walks.tuple (prog:=P0) (w:=W.w) Rm.hd I a iM items.toArray;rw[List.size_toArray,<-hv.length] at this;exact this
 vals:=EU hv
 live:=λi h st=>st.1.imp λo e=>e.1
 cls:=λi h st=>by exact fz st.1 λo e c _=>dA o _ e c<|by ext
 size:=aG hl lI
 ne:=λa' e=>aE e▸iM
def Mc(e:SignAt (toStr l) i v):∃x,(l.map λc=>V.str [c])[i]? =some x/\VR W G φ x v:=by
 refine bJ e λc u h1 q1=>?_;clear e;subst q1;have h1:l[i]? =some c:=by simpa using h1
 exact au (.str [c]) (by simp[h1])<|.str [c] u
def EJ(Rm:dJ A)(hl:l.length<=ae)(hn:n="str_ascii_iterator"\/n="str_iterator"):pQ W A G φ I none (l.map λc=>V.str [c]) (SignAt<|toStr l) (λi h=>h.IsStrIter I n (toStr l) t i) where
 walks:=by
  have e:(l.map λc=>V.str [c]).length=(toStr l).cps.size:=by simp
  rw[e];rcases hn with rfl|rfl
  ·exact Walks.strAscii (prog:=P0) (w:=W.w) Rm.hd I (toStr l) t
  ·exact Walks.strWide (prog:=P0) (w:=W.w) Rm.hd I (toStr l) t
 vals:=λi v e=>Mc e
 live:=λi h st=>st.imp λo e=>e.1
 cls:=λi h st=>by exact fz st λo e c _=>dA o _ e c (by rcases hn with rfl|rfl<;>decide)
 size:=by rw[List.length_map];exact aG hl lI
 ne:=λa' e=>nomatch e
def qB(hb:dI w b)(ha:w.h.get? a=some o):a≠b:=λz=>nomatch(z▸ha).symm.trans hb
def wQ(Rm:dJ A)(x:aQ n w)(R:aI W w c)(ha:w.h.get? a=some (dq items j))(hv:be W w.G w.φ xs items)(hl:xs.length<=ae)(l7:(cO w a (dq items j)/\(m≠0\/dI n a))\/w.G a=some (dq items j)\/m=2):
    wpAny W.M A (pyIter<|.ref a) (Po W n c λw' u=>iy W A m n w' xs u) Ff w.s:=
 wpAny_pyIter_list (fN ha) (iy.of (k:=w.s.toks) x R (iB w) eQ (MR Rm (qB (iB w) ha) hv hl) ⟨(fA _ (Heap.get?_push_size _ rfl) rfl rfl),(fN ha).push _⟩ λb e=>aE e▸(au _ ha l7))
def QX(Rm:dJ A)(x:aQ n w)(R:aI W w c)(hg:w.G a=some (lQ items j))(hv:be W w.G w.φ xs items)(hl:xs.length<=ae):
    wpAny W.M A (pyIter<|.ref a) (Po W n c λw' u=>iy W A m n w' xs u) Ff w.s:=
 have ha:=R.g _ _ hg;have hT:w.s.heap.IsTuple a items.toArray:=fA _ ha rfl ⟨j,rfl⟩
 wpAny_pyIter_tuple hT (iy.of (k:=w.s.toks) x R (iB w) eQ (OM Rm (qB (iB w) ha) hv hl) ⟨(fA _ (Heap.get?_push_size _ rfl) rfl rfl),hT.push _⟩ λb e=>aE e▸(au _ ha<|.inr<|.inl hg))
def Q7(Rm:dJ A)(x:aQ n w)(R:aI W w c)(hl:l.length<=ae):wpAny W.M A (pyIter<|.str (toStr l) t) (Po W n c λw' u=>iy W A m n w' (l.map λc=>V.str [c]) u) Ff w.s:=by
 cases ha:(toStr l).cps.all (· <128)
 ·exact wpAny_pyIter_wide ha<|iy.of (k:=w.s.toks) x R (iB w) eQ (EJ (t:=t) Rm hl<|.inr rfl) (fA _ (Heap.get?_push_size _ rfl) rfl rfl) λ_ e=>nomatch e
 ·exact wpAny_pyIter_ascii ha<|iy.of (k:=w.s.toks) x R (iB w) eQ (EJ (t:=t) Rm hl<|.inl rfl) (fA _ (Heap.get?_push_size _ rfl) rfl rfl) λ_ e=>nomatch e
def zK(h:vv c m (.p v)=some xs)(hv:∀i,v≠.ptr i):AG v=some xs/\xs.length<=ae:=by
 have h:((AG v).bind λxs=>bK (dF xs.length ae)<|some xs)=some xs:=by
  induction v using V.casesOn with
  |ptr i=>exact absurd rfl<|hv i
  |_=>exact h
 refine aA (bc h) λys e1 e2=>?_;have e3:=cW e2;cases e3.2;exact⟨e1,(gu _ _).mp e3.1⟩
def NV(Rm:dJ A)(e:vv c m x=some xs)(y:aQ n w)(R:aI W w c)(q:TR W n w x xv):wpAny W.M A (pyIter xv) (Po W n c λw' u=>iy W A m n w' xs u) Ff w.s:=by
 induction x with
 |f ys=>refine fz q λa q2 o1 hf=>?_;clear q;subst q2;refine bJ o1 λitems j p hv=>?_;have e:=cW (show bK (dF ys.length ae) (some ys)=some xs from e);cases e.2;exact wQ Rm y R p.o hv ((gu _ _).mp e.1)<|.inl ⟨p,.inr hf⟩
 |b ys=>refine aA q λa q3 o2=>?_;refine bJ o2 λitems j p hv=>?_;clear o2;subst q3;have e:=cW (show bK (!Nat.beq m 0&&dF ys.length ae) (some ys)=some xs from e);cases e.2;exact wQ Rm y R p.o hv ((gu _ _).mp (bp e.1).2)<|.inl ⟨p,.inl λz=>nomatch(u6 (bp e.1).1).symm.trans (Nat.beq_eq.mpr z)⟩
 |p v=>
  induction v using V.casesOn with
  |ptr i=>have e:=cW (show bK (Nat.beq m 2) (hH c i)=some xs from e);exact uz R (show VR W w.G w.φ (.ptr i) xv from q) e.2 λa r items j h0 hp hr g1 g2 g3 g4=>h0.symm▸wQ Rm y R g1 g2 g4 (.inr<|.inr<|fy e.1)
  |lst ys=>have i:=zK e nofun;cases i.1;refine ez (VR.i q) λ_ _ _ eu ho hv=>?_;subst eu;exact wQ Rm y R (R.g _ _ ho) hv i.2<|.inr<|.inl ho
  |tup ys=>have i:=zK e nofun;cases i.1;refine ez (VR.i q) λ_ _ _ eu ho hv=>?_;subst eu;exact QX Rm y R ho hv i.2
  |str l=>have i:=zK e nofun;cases i.1;obtain⟨t,rfl⟩:=VR.toS q;exact Q7 Rm y R (by have:=i.2;rwa [List.length_map] at this)
  |_=>exact ng e
def uJ(Rm:dJ A)(h:k5 W A env d<|eval e env):vh W A env ⟨d,yP d,C4 d⟩ e:=λm ρ σ=>show ow (ar d (λx=>i5 λc=>aS<|vv c m x) ρ σ) _ from bE (h ρ σ) λx aY k=>sB (show ow (aS (vv aY.c m x) ρ aY) _ from iE λxs e2 hP=>⟨(k hP).1,λB w R F=>Po.use ((k hP).2 B w R F) λu ac az aJ ak=>NV Rm e2 az aJ ak⟩)
def Fh:vh W A env ⟨t,b,λ_=>no⟩ e:=λm ρ σ q e=>nomatch e
def MB(Rm:dJ A)(hl:(b-a).toNat<=ae):pQ W A G φ I none (jX a b) (λi v=>i<(jX a b).length/\∃t,v=.int (a+(i:Int)*1) t) (λi h=>IsRangeIter h I (a+(i:Nat)*1) (((jX a b).length:Int)-(i:Nat)) 1) where
 walks:=(Walks.range (prog:=P0) (w:=W.w) Rm.hd I a 1 (jX a b).length).bound
 vals:=λi v e=>by
  obtain⟨hi,o3⟩:=e;obtain⟨t,q4⟩:=o3;subst q4;refine au (.int<|a+i) ?_ (by rw[Int.mul_one];exact .int _ _);have:i<(b-a).toNat:=by simpa[jX] using hi
  simp[jX,this]
 live:=λi h st=>⟨_,st⟩
 cls:=λi h st=>dA _ _ st rfl<|by ext
 size:=by rw[jX,List.length_map,List.length_range];exact aG hl lI
 ne:=λa' e=>nomatch e
theorem uv(h1: -16777216<=i)(h2:i<=33554432):Builtin.Range.rangeFitsLong i:=by unfold Builtin.Range.rangeFitsLong;rw[cS,decide_eq_true_eq,decide_eq_true_eq];exact⟨by lia,by lia⟩
def EM(Rm:dJ A)(x:aQ n w)(R:aI W w c)(hr:IsRange w.s.heap r a b 1 t u v)(ha:0<=a/\a<=ae)(hb: -8388608<=b/\b<=ae):wpAny W.M A (pyIter<|.ref r) (Po W n c λw' u=>iy W A m n w' (jX a b) u) Ff w.s:=by
 unfold ae at ha hb;have kc:(jX a b).length=(b-a).toNat:=by rw[jX,List.length_map,List.length_range]
 have hl:(b-a).toNat<=ae:=by unfold ae;lia
 have hsz:Builtin.Range.rangeSize a b 1=((jX a b).length:Int):=by rw[rangeSize_one,kc];split<;>lia
 refine wpAny_pyIter_range hr ?_<|iy.of (k:=w.s.toks) x R (iB _) eQ (MB Rm hl) (by show IsRangeIter _ _ _ _ _;rw[hsz];simpa using Heap.get?_push_size _ rfl) λ_ e=>nomatch e;unfold Builtin.Range.small;rw[hsz,kc,uv (i:=a) (by lia)<|by lia,uv (i:=b) (by lia)<|by lia,uv (i:=1) (by lia)<|by lia,uv (i:=((b-a).toNat:Int)) (by lia) (by unfold ae at hl;lia)];simp only[Bool.true_and,show((1:Int)>0)=True from by simp,if_true];rw[uv (by lia)<|by lia];simp
def NT(Rm:dJ A)(e:BV ts=some q)(hp:∀p,q.2=some p->p)(x:aQ n w)(R:aI W w c)(r:cr W n w ts us):wpAny W.M A (call (.type "range") us) (λxv ai=>wpAny W.M A (pyIter xv) (Po W n c λw' u=>iy W A m n w' q.1 u) Ff ai) Ff w.s:=by
 induction ts using bx with
 |nil=>exact ng e
 |cons t ts=>induction ts using bx with
  |nil=>refine aA (bc (show(cw t).bind _=some q from e)) λi e1 e2=>?_;obtain rfl:=aE e2;refine aA r.one λu q5 h1=>?_;subst q5;obtain⟨tk,rfl⟩:=kG h1 e1;exact call_range_1<|EM Rm (w:=w.hp _ _) (x.trans<|aQ.grown eQ) (R.grown eQ) (IsRange.new ..) ⟨by ext,by ext⟩<|hp _ rfl
  |cons t' ts=>induction ts using bx with
   |nil=>refine aA (bc (show(cw t).bind _=some q from e)) λi e1 e2=>?_;refine aA (bc e2) λj e3 e4=>?_;obtain rfl:=aE e4;refine dW r.two λu u' q6 h1 h2=>?_;subst q6;obtain⟨tk,rfl⟩:=kG h1 e1;obtain⟨uj,rfl⟩:=kG h2 e3;have:=hp _ rfl;exact call_range_2<|EM Rm (w:=w.hp _ _) (x.trans<|aQ.grown eQ) (R.grown eQ) (IsRange.new ..) ⟨this.1,this.2.1⟩ this.2.2
   |cons=>exact ng e
def OC(Rm:dJ A)(X:CxOk env cx)(h1:gV x)(h2:gr .globalImplicit<|aU x cx)(hg:gT x=some .mW)(h:fQ W A env d es):
    vh W A env ⟨no,no,λ_=>IK<|kH d es⟩ (.Call (.Name x gQ) es [] pos):=
 λm ρ σ=>show ow (ar (kH d es) (λts=>ar (aS<|BV ts) λq=>iP q.2<|aS<|some q.1) ρ σ) _ from bE (wV (pos:=pos) h ρ σ) λts aY k=>cN λq e=>o8 λcg hc hp=>bD λhP=>⟨(k.2.2 (hp hP).2).1,λB w R F=>r7<|nN X.toEnvOk h1 (X.kd _ _<|iU h2) R (.inr<|Y.mW x hg)<|uu (.inr ⟨_,rfl⟩) k.1 ((k.2.2 (hp hP).2).2 B w R F) λus ac az aJ ak=>hc.symm▸NT Rm e (hp hP).1 az aJ ak⟩
def Nh{α:Type}{l:α}:∀ρ:List<|Str×α,aU x (db x l ρ)=some l:=by
 intro ρ;induction ρ with
 |nil=>show(bif nq x x then some l else none)=_;rw[FB];rfl
 |cons p r ih=>
  show aU x (bif nq p.1 x then(p.1,l)::r else p::db x l r)=_;induction q:nq p.1 x with
  |true=>show(bif nq p.1 x then some l else _)=_;rw[q];rfl
  |false=>show(bif nq p.1 x then some p.2 else _)=_;rw[q];exact ih
def PG{α:Type}{l:α}(h:x≠y):∀ρ:List<|Str×α,aU y (db x l ρ)=aU y ρ:=by
 intro ρ;induction ρ with
 |nil=>
  show(bif nq x y then some l else none)=none;induction q:nq x y with
  |true=>exact absurd (gJ.mp q) h
  |false=>rfl
 |cons p r ih=>
  show aU y (bif nq p.1 x then(p.1,l)::r else p::db x l r)=(bif nq p.1 y then some p.2 else aU y r);induction q:nq p.1 x with
  |true=>
   have q':nq p.1 y=false:=by
    induction z:nq p.1 y with
    |true=>exact absurd ((gJ.mp q).symm.trans<|gJ.mp z) h
    |false=>rfl
   show(bif nq p.1 y then some l else aU y r)=_;rw[q'];rfl
  |false=>show(bif nq p.1 y then some p.2 else aU y (db x l r))=_;rw[ih]
def nM{α:Type}{y:Str}{l v:α}{ρ:List<|Str×α}(h:aU y (db x l ρ)=some v):(x=y/\l=v)\/(x≠y/\aU y ρ=some v):=by
 by_cases q:x=y
 ·subst q;exact .inl ⟨rfl,aE<|(Nh ρ).symm.trans h⟩
 ·exact .inr ⟨q,(PG q ρ).symm.trans h⟩
structure nU(env:Env)(scope:Scope)(cl:List<|Str×Addr)(x:Str):Prop where
 IE:closureFor scope env=pure cl
 cell:∀y∈scope.names,y.2≠.cell
 kind:scope.kind=.function
 names:∀y∈scope.names,y.2=.local->scope.names.lookup y.1=some .local
 hx:scope.names.lookup x=some .local
 only:∀y,scope.names.lookup y=some .local->y=x\/y=(".0":Str)
 free:∀y,scope.names.lookup y=some .free->∃c,(env.kindOf y=some .cell\/env.kindOf y=some .free)/\env.cells.lookup y=some c/\cl.lookup y=some c
 sub:∀p∈cl,p.2∈env.cells.map (·.2)
def LH(env:Env)(y:Str):∀names:List<|Str×NameKind,
    (names.map λ(n,k)=>if(k==NameKind.free&&env.scope.kind==.function&&env.kindOf n==some .cell) then(n,NameKind.cell) else(n,k)).lookup y=
     (names.lookup y).map λk=>if(k==NameKind.free&&env.scope.kind==.function&&env.kindOf y==some .cell) then .cell else k:=by
 intro names;induction names with
 |nil=>rfl
 |cons p r ih=>
  rw[List.map_cons];have e:∀z:Str×NameKind,z.1=p.1->List.lookup y (z::(r.map λ(n,k)=>if(k==NameKind.free&&env.scope.kind==.function&&env.kindOf n==some .cell) then(n,NameKind.cell) else(n,k)))=bif y==p.1 then some z.2 else List.lookup y (r.map λ(n,k)=>if(k==NameKind.free&&env.scope.kind==.function&&env.kindOf n==some .cell) then(n,NameKind.cell) else(n,k)):=by intro z hz;rw[List.lookup_cons,hz];cases y==p.1<;>rfl
  rw[e _ (by dsimp only;split<;>rfl),ih,List.lookup_cons];induction hx:y==p.1 with
  |true=>
   refine zc (beq_iff_eq.mp hx) ?_;show some (Prod.snd (if _ then _ else _))=some (if _ then _ else _);by_cases hc:(p.2==NameKind.free&&env.scope.kind==.function&&env.kindOf p.1==some .cell)=true
   ·rw[if_pos hc,if_pos hc]
   ·rw[if_neg hc,if_neg hc]
  |false=>rfl
theorem wJ{cl:List<|Str×Addr}(y:Str):(compEnvC scope cl C env).kindOf y=(scope.names.lookup y).map λk=>if(k==NameKind.free&&env.scope.kind==.function&&env.kindOf y==some .cell) then .cell else k:=LH env y scope.names
def nU.var{scope:Scope}{cl:List<|Str×Addr}(H:nU env scope cl x)(iM:x≠y)(hd:y≠(".0":Str))(hi:jZ (compEnvC scope cl C env) y):
    jZ env y=true/\∃c,(env.kindOf y=some .cell\/env.kindOf y=some .free)/\env.cells.lookup y=some c/\cl.lookup y=some c/\((compEnvC scope cl C env).kindOf y=some .cell\/(compEnvC scope cl C env).kindOf y=some .free):=by
 have e:=wJ (env:=env) (scope:=scope) (cl:=cl) (C:=C) y;unfold jZ at hi⊢;rw[e] at hi;induction hl:scope.names.lookup y with
 |none=>rw[hl] at hi;exact nj hi
 |some k=>
  rw[hl] at hi e;induction k with
  |«local»=>exact((H.only _ hl).elim (λz=>absurd z.symm iM) λz=>absurd z hd)
  |free=>
   refine fz (H.free _ hl) λc h1 h2 h3=>?_;refine⟨by rcases h1 with h1|h1<;>rw[h1]<;>rfl,(js c h1 h2 h3 ?_)⟩;rw[e,Option.map_some];split
   ·exact .inl rfl
   ·exact .inr rfl
  |cell=>exact absurd rfl<|H.cell _<|hY hl
  |_=>exact nj hi
def eH.comp(hk:env.kindOf y=some .cell\/env.kindOf y=some .free)(h2:env.cells.lookup y=some c)(h3:AV.cells.lookup y=some c)(h4:AV.kindOf y=some .cell\/AV.kindOf y=some .free)(q:eH env h y u):eH AV h y u:=by
 rcases q with⟨q,_⟩|⟨_,c',h5,h6⟩
 ·exact hk.elim (λk=>nomatch k.symm.trans q) λk=>nomatch k.symm.trans q
 ·cases h2.symm.trans h5;exact .inr ⟨h4,(au c h3 h6)⟩
def AP{α:Type}{l:α}{ρ:List<|Str×α}(hd:aU (".0":Str) ρ=none)(h:aU y ρ=some l):y≠(".0":Str):=λz=>nh<|(z▸h).symm.trans hd
variable{B:Addr->Prop}{w:Wo} in
def FR.comp{scope:Scope}{cl:List<|Str×Addr}(H:nU env scope cl x)(hd:aU (".0":Str) ρ=none)(F:FR W B env ρ w)(hC:w.h.Ns C m)(hm:m x=some u)(hv:VR W w.G w.φ v u)(pC:∃o,cO w C o)(bC:¬B C)(hω:∀y a,dj env ρ w.h y a->a≠C):FR W B (compEnvC scope cl C env) (db x (.val v) ρ) w:=by
 have kx:(compEnvC scope cl C env).kindOf x=some .local:=by rw[wJ,H.hx];rfl
 have ow:∀y a,dj (compEnvC scope cl C env) (db x (.val v) ρ) w.h y a->dj env ρ w.h y a:=λy a ⟨⟨xs,e⟩,i,q⟩=>by
  rcases nM e with e|⟨ne,e⟩
  ·injection e.2
  ·obtain⟨i',o1⟩:=H.var ne (AP hd e) i;refine lD o1 λc h1 h2 h3 h4=>?_;exact⟨⟨xs,e⟩,i',q.comp h4 h3 h2 h1⟩
 have sub:∀b∈fP (compEnvC scope cl C env),b=C\/b∈fP env:=λb hb=>(dZ hb).imp id λq=>(List.mem_map.mp (show b∈cl.map (·.2) from q)).elim λz hz=>.tail _<|hz.2▸H.sub z hz.1;exact {
  vals:=λy l e i=>by
   rcases nM e with e|⟨ne,e⟩
   ·cases e.2;exact zb e.1<|au u (.inl ⟨kx,(au m hC hm)⟩) hv
   ·obtain⟨i',o2⟩:=H.var ne (AP hd e) i;refine lD o2 λc h1 h2 h3 h4=>?_;exact(F.vals _ _ e i').imp λ_ p=>⟨p.1.comp h1 h2 h3 h4,p.2⟩
  gb:=λy xs e i=>by
   rcases nM e with e|⟨ne,e⟩
   ·injection e.2
   ·obtain⟨i',o3⟩:=H.var ne (AP hd e) i;refine lD o3 λc h1 h2 h3 h4=>?_;exact(F.gb _ _ e i').imp λ_ p=>⟨p.1.comp h1 h2 h3 h4,p.2⟩
  apart:=λy a o=>⟨λhb=>(sub a hb).elim (hω y a<|ow y a o) (F.apart y a<|ow y a o).1,(F.apart y a<|ow y a o).2⟩
  diff:=λy z a o o'=>F.diff y z a (ow y a o)<|ow z a o'
  d4:=λb hb=>(sub b hb).elim (λz=>z▸⟨pC,bC⟩)<|F.d4 b
  ns:=⟨m,hC⟩
  cells:=λp hp=>(List.mem_map.mp<|H.sub p hp).elim λz hz=>hz.2▸F.cells z hz.1
  i0:=F.i0}
def KA(m:Nat)(w w':Wo):Prop:=m=2->∀b o,w.h.get? b=some o->w'.h.get? b=some o
noncomputable abbrev w9(ifs:List Expr)(env:Env):Sem Bool:=forIn ifs true λc r=>if r=true then do let ok<-isTrue c env (eval c env);pure (ForInStep.yield ok) else pure (ForInStep.yield r)
abbrev BD(W:Wd)(A:Around)(m:Nat)(env:Env)(cn:M Bool)(ifs:List Expr):Prop:=jS W A env cn (w9 ifs env) λw w' b u=>u=b/\KA m w w'
abbrev Ij(W:Wd)(A:Around)(m:Nat)(env:Env)(el:M TV)(e:Expr):Prop:=jS W A env el (eval e env) λw w' t u=>TR W w w' t u/\KA m w w'
def yZ(W:Wd)(A:Around)(m:Nat)(ce:Addr->Env)(ρ:Lo)(ifs:List Expr)(b:Bool)(c cE:List O):Prop:=∀C B w,aI W w c->FR W B (ce C) ρ w->wpAny W.M A (w9 ifs<|ce C) (Po W w cE λw' u=>u=b/\KA m w w') Ff w.s
def CtE(W:Wd)(A:Around)(m:Nat)(ce:Addr->Env)(ρ:Lo)(e:Expr)(t:TV)(c cE:List O):Prop:=∀C B w,aI W w c->FR W B (ce C) ρ w->wpAny W.M A (eval e<|ce C) (Po W w cE λw' u=>TR W w w' t u/\KA m w w') Ff w.s
def CT(W:Wd)(A:Around)(m:Nat)(ce:Addr->Env)(ρ:Lo)(x:Str)(ifs:List Expr)(e:Expr)(xs:List V):List O->List V->List O->Prop:=xs.rec (λc ys c'=>ys=[]/\c=c') λv _ ct c ys c'=>∀P:Prop,(∀cE,yZ W A m ce (db x (.val v) ρ) ifs false c cE->ct cE ys c'->P)->(∀y zs t cE iG,ys=y::zs->yZ W A m ce (db x (.val v) ρ) ifs true c cE->CtE W A m ce (db x (.val v) ρ) e t cE iG->t.keep=some y->ct iG zs c'->P)->P
def ME(hc:∀C,BD W A m (ce C) cn ifs)(he:∀C,Ij W A m (ce C) el e):∀xs σ,ow (qQ (kR x el) (kR x cn) xs ρ σ) λq=>q.2.P->σ.P/\CT W A m ce ρ x ifs e xs σ.c q.1 q.2.c:=by
 intro xs;induction xs with
 |nil=>exact λσ=>bD λhP=>⟨hP,rfl,rfl⟩
 |cons v r ih=>
  intro σ;have h1:ow (kR x cn v ρ σ) λq=>∀C,Pq W A (ce C) (w9 ifs<|ce C) (λw w' b u=>u=b/\KA m w w') (db x (.val v) ρ) σ q:=λq e C=>hc C _ _ q e;refine bE h1 λb aY k₁=>qP λb' cg KJ hb=>?_;induction b' with
  |false=>refine fB (ih cg) λq k hP=>?_;have k:=k hP;have hb:=hb k.1;cases hb.1;exact⟨(k₁ 0 hb.2).1,λ_ f _=>f _ (λC=>((k₁ C) hb.2).2)<|KJ▸k.2⟩
  |true=>have h2:ow (kR x el v ρ cg) λq=>∀C,Pq W A (ce C) (eval e<|ce C) (λw w' t u=>TR W w w' t u/\KA m w w') (db x (.val v) ρ) cg q:=λq e C=>he C _ _ q e;show ow (ar (kR x el v) (λt=>ar (aS t.keep) λx'=>ar (qQ (kR x el) (kR x cn) r) λxs=>aS<|some<|x'::xs) ρ cg) _;refine bE h2 λt gK ba=>cN λy ey=>bE (ih gK) λys BF k=>bD λhP=>?_;have k:=k hP;have hb:=hb (ba 0 k.1).1;cases hb.1;exact⟨(k₁ 0 hb.2).1,λ_ _ f=>f _ _ _ _ _ rfl (λC=>((k₁ C) hb.2).2) (λC=>KJ▸((ba C) k.1).2) ey k.2⟩
section
variable{A:Around}{env:Env}{B:Addr->Prop}{w w' n:Wo}{c c':List O}
theorem qv.step(q:qv m n w a o)(x:ch B w w')(hB:B a)(g:∀a o,w'.G a=some o->w'.h.get? a=some o)(ka:m=2->w'.h.get? a=some o):qv m n w' a o:=q.2.elim (λp=>⟨(x.kp a o hB p.1).o,.inl ⟨x.kp a o hB p.1,p.2⟩⟩) λq=>q.elim (λe=>⟨g _ _<|x.le _ _ e,.inr<|.inl<|x.le _ _ e⟩) λh=>⟨ka h,.inr<|.inr h⟩
def CK(x:aQ n w)(R:aI W w c)(p:cO w b o)(hf:dI n b)(ext:∀a ob,a≠b->w.h.get? a=some ob->h'.get? a=some ob)(e:h'.get? b=some o'):
    ch (· ≠b) w (w.hp h' k)/\aQ n (w.hp h' k)/\aI W (w.hp h' k) c/\cO (w.hp h' k) b o':=
 have q:=sO (k:=k) x R ext hf p.g p.n
 ⟨⟨λ_ _ e=>e,eZ _,λa ob hb q=>⟨ext a ob hb q.o,q.g,q.n⟩,λa ob e'=>by
   by_cases z:a=b
   ·exact⟨o',z▸e⟩
   ·exact⟨ob,ext a ob z e'⟩,rfl⟩,q.1,q.2,⟨e,p.g,p.n⟩⟩
def FR.EO(x:aQ n w)(F:FR W B env ρ n)(o:dj env ρ w.h y a):∃ob,cO n a ob:=by
 refine fp o λo1 i q=>?_;clear o;obtain⟨xs,e⟩:=o1;refine aA (F.gb y xs e i) λa' v o2=>?_;refine bJ o2 λitems k p _=>?_;have v':=v.to (h':=w.h) λb hb o e=>(F.d4 b hb).1.elim λo' p=>by cases p.o.symm.trans e;exact(x.keep p).o
 cases v'.uniq q;exact⟨_,p⟩
structure CS(W:Wd)(m:Nat)(n:Wo)(xs:List V)(P:Nat->Value->Prop)(St:Nat->Heap->Prop)(D C I:Addr)(ax:Option Addr)(w:Wo)(i:Nat)(dv:List V)(c:List O):Prop where
 x:aQ n w
 R:aI W w c
 vals:∀i v,P i v->∃y,xs[i]? =some y/\VR W w.G w.φ y v
 d:∃dn k,cO w D (dq dn k)/\be W w.G w.φ dv dn/\dn.length<=i
 ns:∃m',w.h.Ns C m'
 pc:∃o,cO w C o
 pi:∃o,cO w I o
 st:St i w.h
 a:∀a,ax=some a->∃o,qv m n w a o
section
variable{m:Nat}{xs ys dv:List V}{P:Nat->Value->Prop}{St:Nat->Heap->Prop}{D C I:Addr}{ax:Option Addr}{i:Nat}
structure rC(n:Wo)(D C I:Addr)(ax:Option Addr):Prop where
 fD:dI n D
 fC:dI n C
 fI:dI n I
 dc:D≠C
 id:I≠D
 ic:I≠C
 a:∀a,ax=some a->a≠D/\a≠C/\a≠I
 fr:∀i h h',St i h->(∀b∈I::ax.toList,∀o,h.get? b=some o->h'.get? b=some o)->St i h'
def CS.xC(S:CS W m n xs P St D C I ax w i dv c)(y:ch B w w'):∀i v,P i v->∃z,xs[i]? =some z/\VR W w'.G w'.φ z v:=λi v h=>(S.vals i v h).imp λz q=>⟨q.1,y.vr q.2⟩
def CS.frame(S:CS W m n xs P St D C I ax w i dv c)(fr:∀i h h',St i h->(∀b∈I::ax.toList,∀o,h.get? b=some o->h'.get? b=some o)->St i h')(kI:∀o,w.h.get? I=some o->h'.get? I=some o)(kA:∀a,ax=some a->∀o,w.h.get? a=some o->h'.get? a=some o):St i h':=fr i w.h h' S.st λb hb o e=>(dZ hb).elim (λz=>by cases z;exact kI o e) λhb=>kA b (by clear S fr kA;induction ax with|none=>cases hb|some a=>cases fo hb;rfl) o e
def CS.elt(S:CS W m n xs P St D C I ax w i dv c)(N:rC (St:=St) n D C I ax)(y:aQ w w')(R':aI W w' c')(ka:KA m w w'):CS W m n xs P St D C I ax w' i dv c':=
 have a':∀a,ax=some a->∃o,qv m n w a o/\qv m n w' a o:=λa e=>(S.a a e).imp λo q=>⟨q,q.step y trivial R'.g λh=>ka h _ _ q.1⟩;have kp:∀{b:Addr},(∃o,cO w b o)->∀o,w.h.get? b=some o->w'.h.get? b=some o:=λp o e=>p.elim λo' p=>by cases p.o.symm.trans e;exact(y.keep p).o
 ⟨S.x.trans y,R',S.xC y,S.d.imp λdn q=>q.imp λk q=>⟨y.keep q.1,y.ma q.2.1,q.2.2⟩,S.ns.imp λm' h=>h.at'<|kp S.pc,S.pc.imp λo p=>y.keep p,S.pi.imp λo p=>y.keep p,
  S.frame N.fr (kp S.pi) (λa e o e'=>(a' a e).elim λo' q=>by cases q.1.1.symm.trans e';exact q.2.1),λa e=>(a' a e).imp λo q=>q.2⟩
def CS.iter(S:CS W m n xs P St D C I ax w i dv c)(N:rC (St:=St) n D C I ax)(ext:∀a o,a≠I->w.h.get? a=some o->h'.get? a=some o)(st:St (i+1) h')(lv:∃o,h'.get? I=some o):CS W m n xs P St D C I ax (w.hp h' k) (i+1) dv c:=by
 obtain⟨o,p⟩:=S.pi;obtain⟨o',e⟩:=lv;have y:=CK (k:=k) S.x S.R p N.fI ext e;exact⟨y.2.1,y.2.2.1,S.xC y.1,S.d.imp λdn q=>q.imp λk q=>⟨y.1.kp _ _ N.id.symm q.1,q.2.1,Nat.le_succ_of_le q.2.2⟩,S.ns.imp λm' h=>h.at' λo e=>ext _ o N.ic.symm e,S.pc.imp λo p=>y.1.kp _ _ N.ic.symm p,⟨o',y.2.2.2⟩,st,
  λa e=>(S.a a e).imp λo q=>q.step y.1 (N.a a e).2.2 y.2.2.1.g λ_=>ext _ _ (N.a a e).2.2 q.1⟩
def CS.name(S:CS W m n xs P St D C I ax w i dv c)(N:rC (St:=St) n D C I ax)(ext:∀a o,a≠C->w.h.get? a=some o->h'.get? a=some o)(ns:h'.Ns C m'):CS W m n xs P St D C I ax (w.hp h' k) i dv c:=by
 obtain⟨o,p⟩:=S.pc;refine gz (id ns) λo' _ _ e _=>?_;have y:=CK (k:=k) S.x S.R p N.fC ext e;exact⟨y.2.1,y.2.2.1,S.xC y.1,S.d.imp λdn q=>q.imp λk q=>⟨y.1.kp _ _ N.dc q.1,q.2⟩,⟨m',ns⟩,⟨o',y.2.2.2⟩,S.pi.imp λo p=>y.1.kp _ _ N.ic p,S.frame N.fr (λo e=>ext _ o N.ic e) λa e o e'=>ext _ o (N.a a e).2.1 e',
  λa e=>(S.a a e).imp λo q=>q.step y.1 (N.a a e).2.1 y.2.2.1.g λ_=>ext _ _ (N.a a e).2.1 q.1⟩
def CS.app(S:CS W m n xs P St D C I ax w (i+1) dv c)(N:rC (St:=St) n D C I ax){dn:List Value}(hv:be W w.G w.φ dv dn)(hz:VR W w.G w.φ z u)(hl:dn.length<=i)(ext:∀a o,a≠D->w.h.get? a=some o->h'.get? a=some o)(e:h'.get? D=some (dq (dn++[u]) j)):CS W m n xs P St D C I ax (w.hp h' k) (i+1) (dv++[z]) c:=by
 refine bJ S.d λ_ _ p _=>?_;have y:=CK (k:=k) S.x S.R p N.fD ext e;exact⟨y.2.1,y.2.2.1,S.xC y.1,(dA _ _ y.2.2.2 (be.append (.cons hz .nil) hv) (by rw[bO];exact Nat.succ_le_succ hl)),S.ns.imp λm' h=>h.at' λo e=>ext _ o N.dc.symm e,S.pc.imp λo p=>y.1.kp _ _ N.dc.symm p,S.pi.imp λo p=>y.1.kp _ _ N.id p,S.frame N.fr (λo e=>ext _ o N.id e) λa e o e'=>ext _ o (N.a a e).1 e',
  λa e=>(S.a a e).imp λo q=>q.step y.1 (N.a a e).1 y.2.2.1.g λ_=>ext _ _ (N.a a e).1 q.1⟩
end
abbrev lB(scope:Scope)(cl:List<|Str×Addr)(env:Env):Addr->Env:=λC=>compEnvC scope cl C env
def KI(W:Wd)(A:Around)(elt:Expr)(env:Env)(D:Addr)(E':Value->Shared->Prop)(I':Shared->Prop)(s:Shared):Prop:=wpAny W.M A (eval elt env) (λx s=>wpAny W.M A (call (.builtin "list.append") [.ref D,x]) (λ_ s=>I' s) E' s) E' s
def qf(W:Wd)(A:Around)(ifs:List Expr)(elt:Expr)(env:Env)(D:Addr)(E':Value->Shared->Prop)(I':Shared->Prop)(s:Shared):Prop:=wpAny W.M A (w9 ifs env) (λok s=>if ok=true then KI W A elt env D E' I' s else I' s) E' s
def JV(W:Wd)(A:Around)(x:Str)(px:Pos)(ifs:List Expr)(elt:Expr)(env:Env)(D:Addr)(E':Value->Shared->Prop)(I' Rn:Shared->Prop)(r:Option Value)(s:Shared):Prop:=match r with
 |none=>Rn s
 |some v=>wpAny W.M A (assign (.Name x px) env v) (λ_ s=>qf W A ifs elt env D E' I' s) E' s
section
variable{scope:Scope}{cl:List (Str×Addr)}{x:Str}{elt:Expr}{ifs:List Expr}{px:Pos}{m:Nat}{ρ:Lo}{xs ys:List V}{D C I:Addr}{ax:Option Addr}{P:Nat->Value->Prop}{St:Nat->Heap->Prop}{G:GM}{φ:Ft}{E':Value->Shared->Prop}{I' Rn:Shared->Prop}{i:Nat}{dv rest:List V}{ci:List O}
theorem Qe{α:Type}{xs:List α}{y:α}(e:xs[i]? =some y):xs.drop i=y::xs.drop (i+1):=
 have h:i<xs.length:=(List.getElem?_eq_some_iff.mp e).1
 (List.drop_eq_getElem_cons h).trans (congrArg (· ::_)<|aE<|(List.getElem?_eq_getElem h).symm.trans e)
def CI(W:Wd)(A:Around)(m:Nat)(ce:Addr->Env)(ρ:Lo)(x:Str)(ifs:List Expr)(elt:Expr)(n:Wo)(xs ys:List V)(P:Nat->Value->Prop)(St:Nat->Heap->Prop)(D C I:Addr)(ax:Option Addr)(c':List O)(i:Nat)(s:Shared):Prop:=∃w dv ci rest,s=w.s/\CS W m n xs P St D C I ax w i dv ci/\CT W A m ce ρ x ifs elt (xs.drop i) ci rest c'/\dv++rest=ys
def qf.no(h:yZ W A m ce ρ ifs false c cE)(R:aI W w c)(F:FR W B (ce C) ρ w)(k:∀w',aQ w w'->aI W w' cE->KA m w w'->I' w'.s):qf W A ifs elt (ce C) D E' I' w.s:=Po.use (h C B w R F) λok w' y R' q=>q.1▸k w' y R' q.2
def qf.yes(h:yZ W A m ce ρ ifs true c cE)(R:aI W w c)(F:FR W B (ce C) ρ w)(k:∀w',aQ w w'->aI W w' cE->KA m w w'->KI W A elt (ce C) D E' I' w'.s):qf W A ifs elt (ce C) D E' I' w.s:=Po.use (h C B w R F) λok w' y R' q=>(if_pos q.1).mpr<|k w' y R' q.2
def M7(H:nU env scope cl x)(hd:aU (".0":Str) ρ=none)(N:rC (St:=St) n D C I ax)(it:pQ W A G φ I ax xs P St)(F:FR W B env ρ n)(bC:¬B C)(T:CT W A m (lB scope cl env) ρ x ifs elt (xs.drop i) ci rest c')(we:dv++rest=ys)(k1:∀s,i<xs.length->CI W A m (lB scope cl env) ρ x ifs elt n xs ys P St D C I ax c' (i+1) s->I' s){v:Value}(ru:xs[i]? =some xv)(wy:VR W w.G w.φ xv v)(om:CS W m n xs P St D C I ax w (i+1) dv ci)(hl:dv.length<=i):JV W A x px ifs elt (compEnvC scope cl C env) D E' I' Rn (some v) w.s:=by
 have eW:i<xs.length:=(List.getElem?_eq_some_iff.mp ru).1;rw[Qe ru] at T;obtain⟨B8,U4⟩:=om.ns;refine wpAny_assign_Name<|wpAny_storeName_local (by rw[wJ,H.hx];rfl) U4 (λbW Gg Sj=>?_)<|by simp[compEnvC,relabel,H.kind]
 have ou:=om.name (k:=w.s.toks+1) N (λb o hb e=>Sj.extBut b o hb e) Gg;have vp:=(F.step ou.x).comp H hd Gg (if_pos rfl) wy ou.pc bC λy a o z=>(F.EO ou.x o).elim λob p=>nh<|(z▸p.o).symm.trans N.fC;refine T (qf W A ifs elt (compEnvC scope cl C env) D E' I' (w.hp bW _).s) (λcE h t=>qf.no (ce:=lB scope cl env) h ou.R vp λbm y kB ka=>k1 _ eW<|wj bm dv _ rest rfl (ou.elt N y kB ka) t we) λy zs t' cE iG q1 h g k t=>qf.yes (ce:=lB scope cl env) h ou.R vp λbm eB kB ka=>?_;have YD:=ou.elt N eB kB ka;refine Po.use (g C B bm kB<|vp.step eB) λu eA kr tK II=>?_;refine i8 (II.1.keep kr tK k) λya rp _ Yg Zy Y3=>?_;have IX:=YD.elt N Yg Zy λh b o e=>(congrArg (λs=>s.heap.get? b) rp).trans<|II.2 h b o e;refine dW IX.d λdn j pD hv _=>?_;rw[<-rp];exact append_at (hsz:=by rw[List.size_toArray,<-hv.length];exact aG hl<|aG (Nat.le_of_lt eW) it.size) pD.o λZk TH VK=>k1 _ eW (wj (ya.hp Zk ya.s.toks) _ _ _ rfl (IX.app N (j:=j+1) hv Y3 (hv.length▸hl) (λb o hb e=>TH.extBut b o hb e) (by rw[VK];simp[dq])) t ((bz dv [y] zs).trans ((congrArg (dv++·) q1).symm.trans we)))
end
def MX(Rm:dJ A){cl:List<|Str×Addr}(H:nU env scope cl x)(hd:aU (".0":Str) ρ=none){St:Nat->Heap->Prop}{RR:Value->Addr->Result->Shared->Prop}(N:rC (St:=St) n D C I ax)(it:pQ W A G φ I ax xs P St)(F:FR W B env ρ n)(S:CS W m n xs P St D C I ax w 0 [] c)(T:CT W A m (lB scope cl env) ρ x ifs elt xs c ys c')(q:∀w' dn j m' oC,aQ n w'->aI W w' c'->cO w' D (dq dn j)->be W w'.G w'.φ ys dn->cO w' C oC->w'.h.Ns C m'->RR (.ref D) C (.ok .next) w'.s):
    codeAny W.M A (.compLoop (.ListComp elt [⟨.Name x px,iter,ifs,0⟩] scope pos) 0 (.ref I) (.ref D)<|compEnvC scope cl C env) (RR (.ref D) C) w.s:=by
 have bC:¬B C:=λz=>(F.i0 C z).elim λo p=>nh<|p.o.symm.trans N.fC;refine codeAny_compLoop_tests (λk s'=>∃i,i<=xs.length/\k=xs.length+1-i/\CI W A m (lB scope cl env) ρ x ifs elt n xs ys P St D C I ax c' i s') ?_ (xs.length+1)
  ⟨0,Nat.zero_le _,rfl,wj w [] c ys rfl S T rfl⟩
 intro k s' o
 suffices key:∀E',wpAny W.M A (pyNext<|.ref I) (λr s=>JV W A x px ifs elt (compEnvC scope cl C env) D E' (λs=>∃k',k'<k/\∃i,i<=xs.length/\k'=xs.length+1-i/\CI W A m (lB scope cl env) ρ x ifs elt n xs ys P St D C I ax c' i s) (RR (.ref D) C<|.ok .next) r s) E' s' from key _
 intro E';refine fz o λi hi q2 o'=>?_;clear o;refine J7 o' λw dv ci rest q1 S T we=>?_;clear o';subst q1;by_cases eW:i<xs.length
 ·refine it.walks.item i _ _ _ eW S.st λv aL nY CR xo Ba=>?_;exact aA (S.vals _ _ CR) λxv ru wy=>M7 (w:=w.hp aL nY) H hd N it F bC T we (λs eW c=>⟨_,q2▸Nat.sub_lt_sub_left (Nat.lt_succ_of_lt eW) (Nat.lt_succ_self i),i+1,eW,rfl,c⟩) ru wy (S.iter (k:=nY) N (λb o hb e=>Ba b o (λz=>hb<|fo z) e) xo<|it.live _ _ xo)<|dW S.d λdn j pD hv hl=>hv.length▸hl
 ·have T:CT W A m (lB scope cl env) ρ x ifs elt [] ci rest c':=List.drop_eq_nil_of_le (Nat.not_lt.mp eW)▸T;refine it.walks.done _ _ _ (Nat.le_antisymm hi (Nat.not_lt.mp eW)▸S.st) λaL nY Ba=>?_;show RR (.ref D) C (.ok .next) (w.hp aL nY).s;refine S.pi.elim λo p=>dW S.d λdn j pD hv _=>S.ns.elim λm' hm=>S.pc.elim λoC pC=>?_;have ext:∀b o,b≠I->w.s.heap.get? b=some o->aL.get? b=some o:=λb o hb e=>Ba b o (λz=>hb<|fo z) e;have y:=sO (k:=nY) S.x S.R ext N.fI p.g p.n;exact q (w.hp aL nY) dn j m' oC y.1 (T.2▸y.2) ⟨ext _ _ N.id.symm pD.o,pD.g,pD.n⟩ (((List.append_nil dv).symm.trans ((congrArg (dv++·) T.1).symm.trans we))▸hv) ⟨ext _ _ N.ic.symm pC.o,pC.g,pC.n⟩<|hm.at' λo e=>ext _ o N.ic.symm e
end
section
variable{A:Around}{env:Env}{B:Addr->Prop}{w w' n:Wo}{c c':List O}{E:Value->Shared->Prop}
def FM(Rm:dJ A){cl:List<|Str×Addr}(H:nU env scope cl x)(hd:aU (".0":Str) ρ=none){RR:Value->Addr->Result->Shared->Prop}(F:FR W B env ρ n)(td:aQ n w)(R:aI W w c)(S:iy W A m n w xs u)(T:CT W A m (lB scope cl env) ρ x ifs elt xs c ys c')(q:∀D C w' dn j m' oC,dI n D->dI n C->D≠C->aQ n w'->aI W w' c'->cO w' D (dq dn j)->be W w'.G w'.φ ys dn->cO w' C oC->w'.h.Ns C m'->RR (.ref D) C (.ok .next) w'.s):
    wpAny W.M A (newList []) (λbN aH=>wpAny W.M A (newFunctionEnv scope env.globals cl [] env.qual none .none<|some env) (λJo a5=>codeAny W.M A (.compStart (.ListComp elt [⟨.Name x px,iter,ifs,0⟩] scope pos) 0 u bN {Jo with scope:=relabel scope env}) (RR bN Jo.locals) a5) E aH) E w.s:=by
 refine yE S λI ax P St q1 fI gI nI it st l7=>?_;clear S;subst q1;refine wpAny_newObj_type<|wpAny_newFunctionEnv H.cell (by intro y hy;simp at hy) (λcC w6 AS=>?_) H.kind;dsimp only at w6 AS⊢;have hCs:(w.h.push {cls:=.type "list",dict:=none,data:=.seq ([]:List Value).toArray}).objs.size=w.h.objs.size+1:=Heap.size_push ..;rw[hCs] at w6 AS⊢;have fD:=iB w;have fC:dI w<|w.h.objs.size+1:=by unfold dI Heap.get?;simp
 have ext:∀b o,b≠w.h.objs.size+1->(w.h.push {cls:=.type "list",dict:=none,data:=.seq ([]:List Value).toArray}).get? b=some o->cC.get? b=some o:=λb o hb e=>AS.extBut b o hb<|Heap.get?_push_of_some _ e;have old:∀b o,w.h.get? b=some o->cC.get? b=some o:=λb o e=>ext b o (qB fC e)<|Heap.get?_push_of_some _ e;have Zh:cC.get? w.h.objs.size=some (dq [] 0):=ext _ _ (Nat.ne_of_lt<|Nat.lt_succ_self _)<|Heap.get?_push_size _ rfl;refine gz (id w6) λoC _ _ eC _=>?_;obtain⟨oI,eI⟩:=it.live _ _ st;have nD:=R.fresh fD;have nC:=R.fresh fC;have N:rC (St:=St) n w.h.objs.size (w.h.objs.size+1) I ax:=⟨td.old fD,td.old fC,fI,Nat.ne_of_lt<|Nat.lt_succ_self _,qB fD eI,qB fC eI,λa e=>(l7 a e).elim λo q=>⟨qB fD q.1,qB fC q.1,it.ne a e⟩,it.walks.frame⟩;have g:=λk=>aQ.grown (k:=k) old;have lS:∀k,CS W m n xs P St w.h.objs.size (w.h.objs.size+1) I ax (w.hp cC k) 0 [] c:=λk=>⟨td.trans<|g k,R.grown old,it.vals,(dA [] 0 ⟨Zh,nD.1,nD.2⟩ .nil<|aV _),⟨_,w6⟩,⟨oC,eC,nC.1,nC.2⟩,⟨oI,old _ _ eI,gI,nI⟩,
  it.walks.frame _ _ _ st λb _ o e=>old b o e,λa e=>(l7 a e).imp λo q=>q.step (g k) trivial (R.grown (k:=k) old).g λ_=>old _ _ q.1⟩
 have loop:=MX (w:=w.hp cC<|w.s.toks+([]:List<|Str×Value).length) (elt:=elt) (iter:=iter) (px:=px) (pos:=pos) Rm H hd N it F (lS _) T (RR:=RR) λw' dn j m' oC a b p v p' n'=>q _ _ w' dn j m' oC N.fD N.fC N.dc a b p v p' n';exact codeAny_compStart_list loop<|it.walks.self 0 _ _ _ (lS<|w.s.toks+([]:List<|Str×Value).length).st loop
def MD(Rm:dJ A){cl:List<|Str×Addr}(H:nU env scope cl x)(hd:aU (".0":Str) ρ=none)(hf:∀x,foldedSetIterable iter env x=pure x)(F:FR W B env ρ w)(hi:wpAny W.M A (eval iter env) (λxv ai=>wpAny W.M A (pyIter xv) (Po W w cE λw' u=>iy W A m w w' xs u) Ff ai) Ff w.s)(T:CT W A m (lB scope cl env) ρ x ifs elt xs cE ys c'):
    wpAny W.M A (eval (.ListComp elt [⟨.Name x px,iter,ifs,0⟩] scope pos) env) (Po W w c' λw' u=>TR W w w' (.f ys) u) Ff w.s:=by
 rw[eval_ListComp];refine wpAny_comprehension_free (use:=none) rfl hf H.IE H.kind H.names<|wpAny_mono hi (λxv ai cC=>Po.use cC λu ac az aJ lS=>?_) λ_ _ z=>z.elim;refine FM (RR:=λbN C=>compPost W.M A Ff none (Po W w c' λw' u=>TR W w w' (.f ys) u) bN C) Rm H hd F az aJ lS T λD C w' dn j m' oC fD fC ne x' R' pD v pC hn=>au m' hn λyz hs=>?_;have y:=sO (k:=w'.s.toks) x' R' (λb o hb e=>hs.extBut b o hb e) fC pC.g pC.n;exact Po.mk (w':=w'.hp yz w'.s.toks) y.1 y.2<|fA D rfl (aW dn j ⟨hs.extBut _ _ ne pD.o,pD.g,pD.n⟩ v) fD
end
def kz(env:Env):List (Str×NameKind)->List (Str×Addr)
 |[]=>[]
 |(n,q)::r=>kz env r++(if q==.free then [(n,(env.cells.lookup n).getD 0)] else [])
theorem Mk(env:Env)(f:Str×NameKind->List (Str×Addr)->Sem (ForInStep<|List<|Str×Addr))(hf:∀n q cs,f (n,q) cs=if q==.free then(do let a<-cellOf env n;pure<|.yield<|(n,a)::cs) else pure (.yield cs)):
 ∀(names:List<|Str×NameKind) (bN:List<|Str×Addr),(∀n,(n,NameKind.free)∈names->∃c,env.cells.lookup n=some c)->forIn names bN f=(pure (kz env names++bN):Sem _):=by
 intro names;induction names with
 |nil=>intro bN h;rw[List.forIn_nil];rfl
 |cons p r ih=>
  intro bN h;obtain⟨n,q⟩:=p;have ih:=λbN=>ih bN λm hm=>h m<|.tail _ hm;rw[List.forIn_cons,hf];show _=pure ((kz env r++_)++bN);induction hq:q==NameKind.free with
  |true=>
   cases beq_iff_eq.mp hq;obtain⟨c,hc⟩:=h n<|.head _;have e:cellOf env n=pure c:=by unfold cellOf;rw[hc]
   rw[if_pos rfl,e,if_pos rfl,hc,bz];exact ih<|(n,c)::bN
  |false=>rw[if_neg Bool.noConfusion,if_neg Bool.noConfusion,List.append_nil];exact ih bN
def Mo(h:∀n,(n,NameKind.free)∈scope.names->∃c,env.cells.lookup n=some c):closureFor scope env=pure (kz env scope.names):=by
 unfold closureFor;show(forIn scope.names [] _>>=λs=>pure s)=_;rw[Mk env _ _ scope.names [] h]
 ·rw[List.append_nil];rfl
 ·intro n q cs;cases hq:q==NameKind.free<;>simp[hq]
theorem z0:∀{names:List<|Str×NameKind},p∈kz env names->(p.1,NameKind.free)∈names/\p.2=(env.cells.lookup p.1).getD 0:=by
 intro names;induction names with
 |nil=>exact λh=>nomatch h
 |cons z r ih=>
  intro h;obtain⟨n,q⟩:=z;rcases List.mem_append.mp (show p∈kz env r++(if q==.free then [(n,(env.cells.lookup n).getD 0)] else []) from h) with g|g
  ·exact⟨.tail _ (ih g).1,(ih g).2⟩
  ·induction hq:q==NameKind.free with
   |true=>rw[if_pos hq] at g;refine zc (beq_iff_eq.mp hq) ?_;exact zc (fo g) ⟨.head _,rfl⟩
   |false=>rw[if_neg (by rw[hq];exact Bool.noConfusion)] at g;cases g
def EB(hc:env.cells.lookup n=some c)(h:(n,NameKind.free)∈names):(kz env names).lookup n=some c:=by
 have ex:∃d,(kz env names).lookup n=some d:=by
  induction names with
  |nil=>cases h
  |cons p r ih=>
   obtain⟨m,q⟩:=p;show∃d,(kz env r++_).lookup n=some d;rw[List.lookup_append];induction e:(kz env r).lookup n with
   |some d=>exact⟨d,rfl⟩
   |none=>
    rcases dZ h with z|h
    ·obtain⟨rfl,rfl⟩:=Prod.mk.inj z;exact⟨(env.cells.lookup n).getD 0,by show([(n,(env.cells.lookup n).getD 0)]:List<|Str×Addr).lookup n=_;rw[List.lookup_cons,beq_self_eq_true]⟩
    ·exact(ih h).elim λd q=>nh<|q.symm.trans e
 obtain⟨d,hd⟩:=ex;have e:d=(env.cells.lookup n).getD 0:=(z0<|hY hd).2;rw[hd,e,hc];rfl
def Eu(h:xQ c scope x):scope.kind=.function/\∀y∈scope.names,(y.2≠.cell)/\(y.2=.local->aU y.1 scope.names=some .local/\(y.1=x\/y.1=".0"))/\(y.2=.free->aU y.1 c=some .cell):=by
 have h:=bp h;refine⟨beq_iff_eq.mp h.1,λy hy=>?_⟩;have q:=cp h.2 y hy;obtain⟨y,k⟩:=y;clear hy;induction k with
 |cell=>exact nj q
 |«local»=>have q:=bp (show(gr .local (aU y scope.names)&&(nq y x||nq y ".0"))=true from q);exact⟨nofun,λ_=>⟨iU q.1,((Bool.or_eq_true _ _).mp q.2).imp gJ.mp gJ.mp⟩,nofun⟩
 |free=>exact⟨nofun,nofun,λ_=>iU q⟩
 |_=>exact⟨nofun,nofun,nofun⟩
def PP(X:CxOk env c)(hx:aU x scope.names=some .local)(h:xQ c scope x):nU env scope (kz env scope.names) x:=by
 obtain⟨hk,h⟩:=Eu h;have free:∀n,(n,NameKind.free)∈scope.names->env.kindOf n=some .cell/\∃a,env.cells.lookup n=some a:=λn hn=>have q:=(h _ hn).2.2 rfl;⟨X.kd _ _ q,X.cl _ q⟩;exact⟨Mo λn hn=>(free n hn).2,λy hy=>(h y hy).1,hk,λy hy e=>(oY _).symm.trans ((h y hy).2.1 e).1,(oY _).symm.trans hx,λy e=>((h _<|hY e).2.1 rfl).2,
  λy e=>(free y<|hY e).2.imp λa ha=>⟨.inl (free y<|hY e).1,ha,EB ha<|hY e⟩,
  λp hp=>(free _ (z0 hp).1).2.elim λa ha=>List.mem_map.mpr<|au (p.1,a) (hY ha) (by rw[(z0 hp).2,ha];rfl)⟩
theorem Ny:∀{l:Cx},aU y (oi l)=(aU y l).map λk=>if k==.free then .cell else k:=by
 intro l;induction l with
 |nil=>rfl
 |cons p r ih=>
  show(bif nq p.1 y then some (if p.2==.free then NameKind.cell else p.2) else aU y (oi r))=(bif nq p.1 y then some p.2 else aU y r).map _;cases nq p.1 y with
  |true=>rfl
  |false=>exact ih
def Rc(X:CxOk env c)(h:xQ c scope x)(C:Addr):CxOk (compEnvC scope (kz env scope.names) C env)<|oi scope.names:=by
 obtain⟨hk,h⟩:=Eu h;have key:∀y q,aU y (oi scope.names)=some q->∃k,scope.names.lookup y=some k/\q=if k==.free then .cell else k:=λy q e=>by
  rw[Ny,oY] at e;induction e':scope.names.lookup y with
  |none=>rw[e'] at e;exact ng e
  |some k=>rw[e'] at e;exact au k rfl<|(aE e).symm
 refine {kind:=hk,glob:=X.glob,blt:=X.blt,kd:=λy q e=>?_,cl:=λy e=>?_}
 ·refine aA (key y q e) λk e1 q1=>?_;refine zc q1 ?_;rw[wJ,e1,Option.map_some];by_cases hf:k=.free
  ·subst hf;rw[X.kd _ _<|(h _<|hY e1).2.2 rfl,X.kind];rfl
  ·have:(k==NameKind.free)=false:=beq_eq_false_iff_ne.mpr hf;rw[this];rfl
 ·refine aA (key y _ e) λk e1 e2=>?_;by_cases hf:k=.free
  ·subst hf;exact(X.cl _<|(h _<|hY e1).2.2 rfl).imp λa ha=>EB ha<|hY e1
  ·have:(k==NameKind.free)=false:=beq_eq_false_iff_ne.mpr hf;rw[this] at e2;exact absurd e2.symm (h _<|hY e1).1
abbrev RK(W:Wd)(w w':Wo)(t:TV)(u:Value):Prop:=TR W w w' t u/\KA 2 w w'
structure XI(W:Wd)(A:Around)(env:Env)(d:dC)(e:Expr):Prop where
 x:bY W A env d e
 i:vh W A env d e
 p:jY e=true->jS W A env d.t (eval e env) (RK W)/\d.b=yP d.t
def NL(X:CxOk env cx):jS W A env (pj cx x) (eval (.Name x pos) env)<|RK W:=
 λρ σ=>eJ λh1=>ph
  (λhv=>ij λl e=>bD λhP=>⟨hP,λB w R F=>wpAny_Name (F.load X.toEnvOk e (EZ X hv) (o7 h1).2 λu _ h=>Po.here R ⟨h,λ_ _ _ e=>e⟩) (o7 h1).1⟩)
  λhv=>ph (λhg=>iE λt e hP=>⟨hP,λB w R F=>(bc e).elim λg e=>(bc e.2).elim λv e2=>by
   induction g with
   |tab _=>cases e2.1;cases e2.2;exact(Y.tab x v e.1).elim λu h=>nN X.toEnvOk h1 (X.kd _ _<|iU hg) R (.inl h.1)<|Po.here R ⟨h.2.mono R.base List.nil_prefix,λ_ _ _ e=>e⟩
   |_=>exact ng e2.1⟩) λ_=>f8
def OB(cC:jS W A env (d l).t (eval l env)<|RK W)(aL:(d<|.Constant (.int i) k q).t=aS (some<|.p<|.int i)):
    jS W A env (pO d l<|.Constant (.int i) k q) (eval (.Subscript l (.Constant (.int i) k q) pos) env) (RK W):=by
 intro ρ σ;show ow (ar (d l).t (λx=>ar (d<|.Constant (.int i) k q).t λk=>ar (aS<|dY k) λk=>oV λc=>(pF c x.v k).bind λv=>some<|.p v) ρ σ) _;rw[aL];refine bE (cC ρ σ) λx aY k₁=>uL (ρ:=ρ) (σ:=aY) (o:=λc=>(pF c x.v<|.int i).bind λv=>some<|.p v) λt σ' hc hp hP=>?_;refine aA (bc (hp hP).1) λv e2 e3=>?_;refine zb (aE e3) ?_;have k₁:=k₁ (hp hP).2;exact⟨k₁.1,λB w R F=>AQ<|Po.use (k₁.2 B w R F) λu ac az aJ ak=>wpAny_Constant_int<|EL (w:=ac.tk _) e2 (aJ.tk _) ((aQ.tk ac _).vt ak.1.vt) (.of<|.int i _) λu tk hu=>hc.symm▸Po.mk (w':=(ac.tk _).tk tk) ((az.trans<|aQ.tk ..).trans<|aQ.tk ..) ((aJ.tk _).tk _) ⟨hu,λh b o e=>ak.2 h b o e⟩⟩
def MC(h:jY<|.Subscript a i pos):jY a=true/\∃j k p,i=.Constant (.int j) k p:=by
 induction i using Expr.casesOn with
 |Constant q k p=>induction q with
  |int j=>exact⟨h,(gp j k p rfl)⟩
  |_=>exact nj h
 |_=>exact nj h
def HP(h:KA 2 w w'):KA m w w':=λ_=>h rfl
def BY(b:Bool):((if b then 2 else 1)=2->b=true):=by cases b<;>simp
def Uv{ce:Addr->Env}(h:∀C,XI W A (ce C) d e)(hm:m=2->jY e=true)(C:Addr):Ij W A m (ce C) d.t e:=by
 by_cases ne:m=2
 ·exact λρ σ=>fB (((h C).p<|hm ne).1 ρ σ) λq k hP=>⟨(k hP).1,λB w R F=>Po.use ((k hP).2 B w R F) λu w' x R' r=>Po.mk x R' ⟨r.1,HP r.2⟩⟩
 ·exact λρ σ=>fB ((h C).x.t ρ σ) λq k hP=>⟨(k hP).1,λB w R F=>Po.use ((k hP).2 B w R F) λu w' x R' r=>Po.mk x R' ⟨r,λz=>absurd z ne⟩⟩
def L8(h:jY e)(whole:Sem Value):isTrue e env whole=(do let v<-whole;standAt e.pos;holding [v]<|truthy v):=by induction e using Expr.casesOn<;>first|rfl|exact nj h
def O0{ce:Addr->Env}(h:∀C,XI W A (ce C) d e)(hm:m=2->jY e=true)(C:Addr):BD W A m (ce C) d.b [e]:=by
 by_cases ne:m=2
 ·have hp:=hm ne;rw[((h C).p hp).2];exact λρ σ=>bE (((h C).p hp).1 ρ σ) λx aY k=>iE λb e hP=>⟨(k hP).1,λB w R F=>wpAny_tests_one<|wpAny_isTrue_value (Po.use ((k hP).2 B w R F) λu ac az aJ ak=>(vP ak.1 e).symm▸wpAny_truthy_bool (Po.mk az aJ ⟨rfl,HP ak.2⟩))<|L8 hp _⟩
 ·exact λρ σ=>fB ((h C).x.b ρ σ) λq k hP=>⟨(k hP).1,λB w R F=>wpAny_tests_one<|Po.use ((k hP).2 B w R F) λu w' x R' r=>Po.mk x R' ⟨r,λz=>absurd z ne⟩⟩
def EC(h:w8 e)(env:Env)(x:Value):foldedSetIterable e env x=pure x:=by induction e using Expr.casesOn<;>first|rfl|exact nj h
def xB(W:Wd)(A:Around)(env:Env)(e iter:Expr)(ifs:List Expr)(scope:Scope)(x:Str)(ρ:Lo)(σ:St)(q:TV×St):Prop:=∃cl m xs ys cE,q.1=.f ys/\nU env scope cl x/\aU (".0":Str) ρ=none/\(∀y,foldedSetIterable iter env y=pure y)/\(∀B w,aI W w σ.c->FR W B env ρ w->wpAny W.M A (eval iter env) (λxv ai=>wpAny W.M A (pyIter xv) (Po W w cE λw' u=>iy W A m w w' xs u) Ff ai) Ff w.s)/\CT W A m (lB scope cl env) ρ x ifs e xs cE ys q.2.c
def EF{env:Env}(ih:∀env c,CxOk env c->∀e,XI W A env (r c e) e)(X:CxOk env c)(ρ:Lo)(σ:St):ow (Ho r c e iter ifs scope x ρ σ) λq=>q.2.P->σ.P/\xB W A env e iter ifs scope x ρ σ q:=by
 refine eJ λhg=>ph (λhd=>?_) λ_=>f8;have hg:=bp hg;have eh:=bp hg.1;have hd:=Option.isNone_iff_eq_none.mp hd;have H:=PP X (iU eh.1) eh.2;have he:=λe C=>ih _ _ (Rc X eh.2 C) e;have go:∀(m:Nat) (cn:M Bool),(m=2->jY e=true)->(∀C,BD W A m (lB scope (kz env scope.names) env C) cn ifs)->ow (ar ((r c iter).s m) (λvs=>ar (qQ (kR x (r (oi scope.names) e).t) (kR x cn) vs) λxs=>jK<|.f xs) ρ σ) (λq=>q.2.P->σ.P/\xB W A env e iter ifs scope x ρ σ q):=λm cn h1 h2=>bE ((ih env c X iter).i m ρ σ) λvs aY k₁=>bE (ME h2 (Uv (he e) h1) vs aY) λxs cg ay=>bD λhP=>⟨(k₁ (ay hP).1).1,(ui _ m vs xs aY.c rfl H hd (EC hg.2 env) ((k₁ (ay hP).1).2)<|(ay hP).2)⟩
 induction ifs using bx with
 |nil=>exact go _ (aS<|some true) (BY _) λC ρ σ=>bD λhP=>⟨hP,λB w R F=>wpAny_tests_nil<|Po.here R ⟨rfl,λ_ _ _ e=>e⟩⟩
 |cons d ds=>induction ds using bx with
  |nil=>exact go _ (r (oi scope.names) d).b (λq=>(bp<|BY _ q).1)<|O0 (he d) λq=>(bp<|BY _ q).2
  |cons=>exact f8
def MV(Rm:dJ A)(ih:∀env c,CxOk env c->∀e,XI W A env (r c e) e)(X:CxOk env c):
    k5 W A env (xE r c e gs scope) (eval (.ListComp e gs scope pos) env):=by
 induction gs using bx with
 |nil=>exact qF
 |cons g gs=>induction gs using bx with
  |cons=>exact qF
  |nil=>
   obtain⟨t,iter,ifs,a⟩:=g;induction t using Expr.casesOn with
   |Name x px=>
    exact λρ σ=>eJ λha=>by
     cases beq_iff_eq.mp ha;exact fB (EF ih X ρ σ) λq k hP=>⟨(k hP).1,λB w R F=>by refine wn ((k hP).2) λcl m xs ys cE e H hd hf hi T=>?_;rw[e];exact MD Rm H hd hf F (hi B w R F) T⟩
   |_=>exact qF
def iJ(Rm:dJ A)(h:bY W A env (df d) e)(np:jY e=false):XI W A env (df d) e:=⟨h,uJ Rm h.t,λp=>nj<|np.symm.trans p⟩
def f9(Rm:dJ A):XI W A env gE e:=⟨z9,uJ Rm qF,λ_=>⟨qF,rfl⟩⟩
structure sC(W:Wd)(A:Around)(fa:Nat->Addr)(C:Ca):Prop where
 room:dJ A
 c:mI W A fa C
 u:∀a,mI W (A.under<|.builtin "type.__call__" a) fa C
 node:Aw W A fa
 n0:∃f,mT 0 "__init__"=some f
def Qm(H:sC W A fa C)(ih:∀env c,CxOk env c->∀e,XI W A env (r c e) e)(X:CxOk env c)(h1:gV x)(h2:gr .globalImplicit<|aU x c):
    XI W A env (Bx C r c x es) (.Call (.Name x gQ) es [] pos):=by
 have hE:fQ W A env (r c) es:=λe _=>(ih env c X e).x;unfold Bx;induction hg:gT x with
 |none=>exact f9 H.room
 |some g=>
  induction g with
  |fn i=>exact iJ H.room (OK H.c X h1 h2 hg hE) rfl
  |cls k=>
   induction hk:Nat.beq k 0 with
   |true=>cases fy hk;exact H.n0.elim λf hf=>iJ H.room (Ow (C:=C) hf H.node X h1 h2 hg hE) rfl
   |false=>exact iJ H.room (Pd H.u X h1 h2 hg hk hE) rfl
  |bi b=>exact iJ H.room (TW H.room X h1 h2 hg hE) rfl
  |mW=>exact⟨⟨qF,λρ σ q e=>ng e⟩,OC H.room X h1 h2 hg hE,λp=>nj p⟩
  |m6=>
   clear hE;induction es using bx with
   |nil=>exact f9 H.room
   |cons e es=>induction es using bx with
    |nil=>exact f9 H.room
    |cons q es=>induction es using bx with
     |nil=>exact iJ H.room (Py X h1 h2 hg (ih env c X e).x) rfl
     |cons=>exact f9 H.room
  |tab v=>exact f9 H.room
def wO{α:Type}{P:α->Prop}{x y:α}(h:b=true->P x)(k:b=false->P y):P<|bif b then x else y:=by
 induction b with
 |true=>exact h rfl
 |false=>exact k rfl
def PB(H:sC W A fa C)(ih:∀env c,CxOk env c->∀e,XI W A env (r c e) e)(X:CxOk env c):
    XI W A env (Hk C r c f es ks pos) (.Call f es ks pos):=by
 induction ks using bx with
 |cons=>exact f9 H.room
 |nil=>
  induction f using Expr.casesOn with
  |Name x gQ=>exact wO (P:=λd=>XI W A env d _) (λh=>Qm H ih X (bp h).1 (bp h).2) λ_=>f9 H.room
  |Attribute o m gx=>exact wO (P:=λd=>XI W A env d _) (λh=>iJ H.room (Ol H.c (d:=r c) (bp (bp h).1).1 (bp (bp h).1).2 (bp h).2 (ih env c X o).x λe _=>(ih env c X e).x) rfl) λ_=>f9 H.room
  |_=>exact f9 H.room
def Tc(Rm:dJ A){d:Expr->dC}(ih:∀e,bY W A env (d e) e){l:Expr}{os:List CmpOp}:XI W A env (Jg l d os rs)<|.Compare l os rs pos:=by
 induction os using bx with
 |nil=>exact f9 Rm
 |cons o os=>induction os using bx with
  |nil=>induction rs using bx with
   |nil=>exact f9 Rm
   |cons b rs=>induction rs using bx with
    |nil=>exact wO (P:=λd=>XI W A env d _) (λ_=>f9 Rm) λh=>iJ Rm (QN Rm (ih l) (ih b) h) rfl
    |cons=>exact f9 Rm
  |cons o' os=>induction os using bx with
   |cons=>exact f9 Rm
   |nil=>induction rs using bx with
    |nil=>exact f9 Rm
    |cons b rs=>induction rs using bx with
     |nil=>exact f9 Rm
     |cons b' rs=>induction rs using bx with
      |cons=>exact f9 Rm
      |nil=>exact wO (P:=λd=>XI W A env d _) (λ_=>f9 Rm) λh=>iJ Rm (Ou Rm (ih l) (ih b) (ih b') h) rfl
noncomputable def W3:Expr->Bool
 |.Slice .. =>true
 |_=>false
def QL(h:W3 e=false):∀a b c p,e≠.Slice a b c p:=λ_ _ _ _ z=>by subst z;exact nk h
def Si(Rm:dJ A)(ih:∀e,XI W A env (d e) e)(hc:∀i k q,(d<|.Constant (.int i) k q).t=aS (some<|.p<|.int i)\/∀e,d e=gE):XI W A env (df<|pO d a i)<|.Subscript a i pos:=by
 have hp:jY (.Subscript a i pos)=true->jS W A env (pO d a i) (eval (.Subscript a i pos) env) (RK W):=λh=>by
  obtain⟨h1,o1⟩:=MC h;refine m5 o1 λj k p q1=>?_;clear o1;refine zc q1 ?_;rcases hc j k p with h2|h2
  ·exact OB ((ih a).p h1).1 h2
  ·intro ρ σ q e;replace e:ar (d a).t (λx=>ar (d<|.Constant (.int j) k p).t λk=>ar (aS<|dY k) λk=>oV λc=>(pF c x.v k).bind λv=>some<|.p v) ρ σ=some q:=e;rw[h2] at e;exact ng e
 have hx:bY W A env (df<|pO d a i)<|.Subscript a i pos:=by
  clear hp;induction i using Expr.casesOn with
  |Slice lo hi st p=>
   induction st with
   |none=>exact Q3 (ih a).x (λx _=>(ih x).x) λx _=>(ih x).x
   |some s=>exact z9
  |_=>exact PL (QL rfl) (ih a).x (ih _).x
 exact⟨hx,uJ Rm hx.t,λp=>⟨hp p,rfl⟩⟩
def TK(i:Int)(k:Nat)(q:Pos):(dn C n c<|.Constant (.int i) k q).t=aS (some<|.p<|.int i)\/∀e,dn C n c e=gE:=by
 induction n using Nat.casesAuxOn with
 |zero=>exact .inr λ_=>rfl
 |succ n=>exact .inl rfl
def xk(H:sC W A fa C):∀n env c,CxOk env c->∀e,XI W A env (dn C n c e) e:=by
 intro n;have Rm:=H.room;induction n with
 |zero=>exact λenv c X e=>f9 Rm
 |succ n ih=>
  intro env c X e;have ix:=ih env c X;show XI W A env (Hm C (dn C n) c e) e;induction e using Expr.casesOn with
  |Constant q k pos=>exact iJ Rm (gH FP λ_=>rfl) rfl
  |Name x pos=>exact⟨gH (zU X) λ_=>rfl,uJ Rm<|zU X,λ_=>⟨NL X,rfl⟩⟩
  |Attribute o f pos=>exact iJ Rm (gH (NW (ix o).x.t) λ_=>rfl) rfl
  |Call f es ks pos=>exact PB H ih X
  |BinOp a op b pos=>exact iJ Rm (QC (ix a).x (ix b).x) rfl
  |UnaryOp op a pos=>
   induction op with
   |Not=>exact⟨Q6 (ix a).x,Fh,λp=>nj p⟩
   |USub=>exact iJ Rm (PO (ix a).x) rfl
   |_=>exact f9 Rm
  |BoolOp op es pos=>exact⟨Qo λe _=>(ix e).x,Fh,λp=>nj p⟩
  |Compare l os rs pos=>exact Tc Rm λe=>(ix e).x
  |IfExp q a b pos=>exact have h:=Qw (s:=_) (pos:=pos) (ix q).x (ix a).x (ix b).x;⟨h,uJ Rm h.t,λp=>nj p⟩
  |List es pos=>exact iJ Rm (N4 λe _=>(ix e).x) rfl
  |Tuple es k pos=>exact iJ Rm (PU λe _=>(ix e).x) rfl
  |Dict ks vs pos=>exact iJ Rm (Ov (λk _=>(ix k).x) λe _=>(ix e).x) rfl
  |ListComp e gs scope pos=>exact iJ Rm (gH (MV Rm ih X) λ_=>rfl) rfl
  |Subscript a i pos=>exact Si Rm ix TK
  |_=>exact f9 Rm
structure eS(env:Env)(c:Cx):Prop extends CxOk env c where
 pn:(fP env).Nodup
def xN(R:aI W w c)(p:cO w b o)(ext:∀a ob,a≠b->w.h.get? a=some ob->h'.get? a=some ob)(e:h'.get? b=some o'):
    ch (· ≠b) w (w.hp h' k)/\aI W (w.hp h' k) c/\cO (w.hp h' k) b o':=
 ⟨⟨λ_ _ e=>e,eZ _,λa ob hb q=>⟨ext a ob hb q.o,q.g,q.n⟩,λa ob e'=>by
   by_cases z:a=b
   ·exact⟨o',z▸e⟩
   ·exact⟨ob,ext a ob z e'⟩,rfl⟩,R.but ext p.g p.n,⟨e,p.g,p.n⟩⟩
def ch.sub(x:ch B' w w')(h:∀a,B a->B' a):ch B w w':=⟨x.le,x.pre,λb o q=>x.kp b o<|h b q,x.al,x.sm⟩
structure F6(env:Env)(h h':Heap)(x:Str)(u:Value):Prop where
 one:∃d∈fP env,(∀b o,b≠d->h.get? b=some o->h'.get? b=some o)/\∃o,h'.get? d=some o
 here:eH env h' x u
 there:∀z w,z≠x->eH env h z w->eH env h' z w
 ns:∃m,h'.Ns env.locals m
 cells:∀p∈env.cells,∃v,h'.IsCell p.2 v
def ND:∀{l:List<|Str×Addr},(l.map (·.2)).Nodup->∀{x z:Str} {c:Addr},l.lookup x=some c->l.lookup z=some c->x=z:=by
 intro l;induction l with
 |nil=>intro _ x z c e;exact ng e
 |cons p r ih=>
  intro hn x z c e e';have hn:=List.nodup_cons.mp hn;rw[List.lookup_cons] at e e';induction q:x==p.1 with
  |true=>
   rw[q] at e;induction q':z==p.1 with
   |true=>exact(beq_iff_eq.mp q).trans (beq_iff_eq.mp q').symm
   |false=>rw[q'] at e';exact absurd (List.mem_map.mpr<|au _ (hY e')<|(aE e).symm) hn.1
  |false=>
   rw[q] at e;induction q':z==p.1 with
   |true=>rw[q'] at e';exact absurd (List.mem_map.mpr<|au _ (hY e)<|(aE e').symm) hn.1
   |false=>rw[q'] at e';exact ih hn.2 e e'
def Ad(H:eS env c)(F:FR W B env ρ w)(hx:gN<|aU x c)(q:∀h' k,F6 env w.s.heap h' x u->Q () {w.s with heap:=h',toks:=k}):wpAny W.M A (storeName env x u) Q E w.s:=by
 have pn:=List.nodup_cons.mp H.pn;induction hl:aU x c with
 |none=>rw[hl] at hx;exact nj hx
 |some k=>
  rw[hl] at hx;have hk:=H.kd _ _ hl;induction k with
  |«local»=>
   obtain⟨m,hm⟩:=F.ns;refine wpAny_storeName_local hk hm (λh' uq hs=>?_)<|by simp[H.kind]
   refine q h' _ ⟨(fA env.locals (.head _) (λb o hb e=>hs.extBut b o hb e) ?_),.inl ⟨hk,(au _ uq<|if_pos rfl)⟩,λz w hz v=>?_,⟨_,uq⟩,λp hp=>?_⟩
   ·exact gz uq λo _ _ ho _=>⟨o,ho⟩
   ·rcases v with⟨hk,B8,my,e⟩|⟨hk,c,hc,hv⟩
    ·refine .inl ⟨hk,(au _ uq<|(if_neg hz).trans ?_)⟩;refine fH hm λo es ep h1 h2 _ h3=>?_;refine fH my λo' rW K8 wD rU _ CX=>?_;cases h1.symm.trans wD;cases h2.symm.trans rU;rw[<-h3,CX];exact e
    ·exact .inr ⟨hk,(au c hc<|hv.sameBut hs λz=>pn.1<|List.mem_map.mpr<|au _ (hY hc) z)⟩
   ·exact(F.cells p hp).imp λv hv=>hv.sameBut hs λz=>pn.1<|List.mem_map.mpr<|au p hp z
  |cell=>
   obtain⟨a,ha⟩:=H.cl _ hl;have JX:=hY ha;obtain⟨adn,Wb⟩:=F.cells _ JX;refine wpAny_storeName_cell H.kind hk ha Wb λh' nt hs=>?_;have zv:a≠env.locals:=λz=>pn.1<|List.mem_map.mpr<|au _ JX z;refine q h' w.s.toks ⟨(fA a (EH ha) (λb o hb e=>hs.extBut b o hb e)<|nt.imp λo q=>q.1),.inr ⟨.inl hk,(au a ha nt)⟩,λz w hz v=>?_,F.ns.imp λm hm=>hm.sameBut hs zv.symm,λp hp=>?_⟩
   ·rcases v with⟨hk,B8,my,e⟩|⟨hk,c',dB,hv⟩
    ·exact .inl ⟨hk,(au B8 (my.sameBut hs zv.symm) e)⟩
    ·exact .inr ⟨hk,(au c' dB<|hv.sameBut hs λq=>hz<|ND pn.2 dB<|q▸ha)⟩
   ·by_cases z:p.2=a
    ·rw[z];exact⟨_,nt⟩
    ·exact(F.cells p hp).imp λv hv=>hv.sameBut hs z
  |_=>exact nj hx
def LR(W:Wd)(B:Addr->Prop)(env:Env)(ρ:Lo)(w:Wo):LV->Value->Prop
 |.val v,u=>VR W w.G w.φ v u
 |.own xs,u=>∃a,u=.ref a/\n6 W w xs a/\a∉fP env/\¬B a/\∀y,¬dj env ρ w.h y a
theorem FR.stored(R:aI W w c)(F:FR W B env ρ w)(S:F6 env w.h h' x u)(hl:LR W B env ρ w l u):
 ch B w (w.hp h' k)/\aI W (w.hp h' k) c/\FR W B env (db x l ρ) (w.hp h' k)/\∀y a,dj env (db x l ρ) h' y a->dj env ρ w.h y a\/u=.ref a/\∃xs,l=.own xs:=by
 refine fz S.one λd hd ext o1=>?_;obtain⟨od,ed⟩:=o1;obtain⟨⟨adt,Zw⟩,nB⟩:=F.d4 d hd;have t:=xN (k:=k) R Zw ext ed;have Kw:∀a,B a->a≠d:=λa hb z=>nB<|z▸hb;have ow:∀y a,x≠y->(∃xs,aU y ρ=some (.own xs))->jZ env y=true->eH env h' y (.ref a)->dj env ρ w.h y a:=λy a ne ⟨xs,e⟩ i v=>by refine aA (F.gb y xs e i) λa' v' _=>?_;cases(S.there y _ (Ne.symm ne) v').uniq v;exact⟨⟨xs,e⟩,i,v'⟩
 have cs:∀y a,dj env (db x l ρ) h' y a->(x=y/\u=.ref a/\∃xs,l=.own xs)\/dj env ρ w.h y a:=λy a ⟨⟨xs,e⟩,i,v⟩=>(nM e).elim (λq=>.inl<|rx q.1 (S.here.uniq<|q.1▸v) ⟨xs,q.2⟩) λq=>.inr<|ow y a q.1 ⟨xs,q.2⟩ i v;have new:∀a,u=.ref a->(∃xs,l=.own xs)->a∉fP env/\¬B a/\∀y,¬dj env ρ w.h y a:=λa e ⟨xs,z⟩=>by subst z;refine fz hl λa' e' _ h=>?_;cases e.symm.trans e';exact h
 refine⟨t.1.sub Kw,t.2.1,?_,λy a o=>(cs y a o).elim (λq=>.inr q.2) .inl⟩;exact {
  vals:=λy v e i=>by
   rcases nM e with e|⟨ne,e⟩
   ·cases e.2;cases e.1;exact au u S.here hl
   ·exact(F.vals y v e i).imp λw q=>⟨S.there _ _ (Ne.symm ne) q.1,q.2⟩
  gb:=λy xs e i=>by
   rcases nM e with e|⟨ne,e⟩
   ·cases e.2;cases e.1;refine lD hl λa q1 ap na _=>?_;clear hl;subst q1;exact au a S.here<|t.1.xi (λz=>na<|z▸hd) ap
   ·exact(F.gb y xs e i).imp λa q=>⟨S.there _ _ (Ne.symm ne) q.1,t.1.xi (λz=>(F.apart y a ⟨⟨xs,e⟩,i,q.1⟩).1<|z▸hd) q.2⟩
  apart:=λy a o=>(cs y a o).elim (λq=>⟨(new a q.2.1 q.2.2).1,(new a q.2.1 q.2.2).2.1⟩)<|F.apart y a
  diff:=λy z a o o'=>(cs y a o).elim (λq=>(cs z a o').elim (λq'=>q.1.symm.trans q'.1) λq'=>absurd q'<|(new a q.2.1 q.2.2).2.2 z) λq=>(cs z a o').elim (λq'=>absurd q<|(new a q'.2.1 q'.2.2).2.2 y)<|F.diff y z a q
  d4:=λb hb=>⟨by
   by_cases z:b=d
   ·subst z;exact⟨_,t.2.2⟩
   ·exact(F.d4 b hb).1.imp λo p=>t.1.kp _ _ z p,(F.d4 b hb).2⟩
  ns:=S.ns
  cells:=S.cells
  i0:=λb hb=>(F.i0 b hb).imp λo p=>t.1.kp _ _ (Kw b hb) p}
def k9(B:Addr->Prop)(env:Env)(ρ:Lo)(w:Wo)(t:TV)(u:Value):Prop:=∀b,jR t u b->b∉fP env/\¬B b/\∀y,¬dj env ρ w.h y b
def mq(W:Wd)(B:Addr->Prop)(env:Env)(ρ:Lo)(w:Wo)(t:TV)(u:Value)(q:Lo×St)(s':Shared):Prop:=∃w',s'=w'.s/\ch (λb=>b∉fP env/\¬jR t u b) w w'/\aI W w' q.2.c/\FR W B env q.1 w'/\∀y a,dj env q.1 w'.h y a->dj env ρ w.h y a\/jR t u a
abbrev StQ(W:Wd)(A:Around)(env:Env)(te:Expr)(t:TV)(ρ:Lo)(σ:St)(q:Lo×St):Prop:=q.2.P->σ.P/\∀B n w u,aI W w σ.c->FR W B env ρ w->TR W n w t u->k9 B env ρ w t u->wpAny W.M A (assign te env u) (λ_=>mq W B env ρ w t u q) Ff w.s
def Ak(h:∀v σ',(σ'.P->σ.P/\∀n w u,aI W w σ.c->TR W n w t u->∃w',w'.s=w.s/\ch (λb=>¬jR t u b) w w'/\aI W w' σ'.c/\VR W w'.G w'.φ v u)->ow (k v ρ σ') Q):ow (oy hp t k ρ σ) Q:=by
 induction hp with
 |true=>show ow (ar (aS<|rH σ.c.length t) (λq=>iP q.2.2<|pu (σ.c++q.2.1)<|k q.1) ρ σ) Q;exact cN λq e=>o8 λσ' hc fx=>Fi<|h q.1 ⟨σ.c++q.2.1,σ'.sc,σ'.P⟩ λhP=>⟨(fx hP).2,λn w u R r=>r.KY R e (fx hP).1⟩
 |false=>exact cN (o:=t.keep) λv e=>h v σ λhP=>⟨hP,λn w u R r=>r.VC R e⟩
def FR.nw(F:FR W B env ρ w)(nw:k9 B env ρ w t u)(y:ch (λb=>¬jR t u b) w w'):FR W B env ρ w'/\∀y a,dj env ρ w'.h y a->dj env ρ w.h y a:=F.oT y (λb hb z=>(nw b z).1 hb) (λy a o z=>(nw a z).2.2 y o) λb hb z=>(nw b z).2.1 hb
theorem k9.step(F:FR W B env ρ w)(x:aQ w w')(nw:k9 B env ρ w t u):k9 B env ρ w' t u:=λb z=>⟨(nw b z).1,(nw b z).2.1,λy o=>(nw b z).2.2 y<|(F.oT x (λ_ _=>trivial) (λ_ _ _=>trivial) λ_ _=>trivial).2 y b o⟩
def mq.of(F:FR W B env ρ w)(nw:k9 B env ρ w t u)(x:aQ w ac)(y:ch (λb=>¬jR t u b) ac an)(z:aQ an a9)(R:aI W a9 q.2.c)(e:q.1=ρ):mq W B env ρ w t u q a9.s:=by have f1:=F.oT x (λ_ _=>trivial) (λ_ _ _=>trivial) λ_ _=>trivial;have f2:=f1.1.nw (nw.step F x) y;have f3:=f2.1.oT z (λ_ _=>trivial) (λ_ _ _=>trivial) λ_ _=>trivial;rw[<-e] at f3 f2 f1;exact fc a9 rfl ((x.to _).trans<|(y.sub λb h=>h.2).trans<|z.to _) R f3.1 λv a o=>.inl<|e▸f1.2 v a (f2.2 v a<|f3.2 v a o)
def JM(W:Wd)(A:Around)(env:Env)(x:Str)(m:Value->Sem Unit):Prop:=∀{u:Value} {Q:Unit->Shared->Prop} {s:Shared},wpAny W.M A (storeName env x u) Q Ff s->wpAny W.M A (m u) Q Ff s
def zN(H:eS env cx)(hm:JM W A env x m)(hx:gN<|aU x cx)(F:FR W B env ρ w)(nw:k9 B env ρ w t u)(y:ch (λb=>¬jR t u b) w ac)(hs:ac.s=w.s)(R:aI W ac q.2.c)(hl:LR W B env ρ ac l u)(ht:∀xs,l=.own xs->∀a,u=.ref a->jR t u a)(e:q.1=db x l ρ):
    wpAny W.M A (m u) (λ_=>mq W B env ρ w t u q) Ff w.s:=by
 have f1:=F.nw nw y;rw[<-hs];refine hm<|Ad H f1.1 hx λh' k S=>?_;refine rP (f1.1.stored (k:=k) R S hl) λaN bG i6 d8=>?_;refine fc (ac.hp h' k) rfl ?_ bG (e▸i6) λv a o=>(d8 v a<|e▸o).imp (f1.2 v a) λz=>z.2.elim λxs z'=>ht xs z' a z.1;refine fz S.one λd hd ext o1=>?_;obtain⟨od,ed⟩:=o1;exact(y.sub λb h=>h.2).trans<|(xN (k:=k) R ((f1.1.d4 d hd).1.choose_spec) ext ed).1.sub λb h z=>h.1<|z▸hd
abbrev JN(W:Wd)(A:Around)(env:Env)(x:TV->Xl)(m:Value->Sem Unit):Prop:=∀t ρ σ,ow (x t ρ σ) λq=>q.2.P->σ.P/\∀B n w u,aI W w σ.c->FR W B env ρ w->TR W n w t u->k9 B env ρ w t u->wpAny W.M A (m u) (λ_=>mq W B env ρ w t u q) Ff w.s
def wP(H:eS env cx)(hm:JM W A env x m)(hx:gN<|aU x cx):JN W A env (qU x) m:=by
 intro t ρ σ;induction t with
 |b xs=>exact f8
 |p v=>exact bD λhP=>⟨hP,λB n w u R F r nw=>zN (l:=.val v) H hm hx F nw (.refl _ _) rfl R r (λ_ z=>nomatch z) rfl⟩
 |f xs=>
  show ow ((bif ny x then oy true (.f xs) λv=>kW x (.val v) else kW x (.own xs)) ρ σ) _;exact o0 (λ_=>Ak λv aY k₁=>bD λhP=>⟨(k₁ hP).1,λB n w u R F r nw=>((k₁ hP).2 n w u R r).elim λac h=>zN (l:=.val v) H hm hx F nw h.2.1 h.1 h.2.2.1 h.2.2.2 (λ_ z=>nomatch z) rfl⟩)
   λ_=>bD λhP=>⟨hP,λB n w u R F r nw=>zN (l:=.own xs) H hm hx F nw (.refl _ _) rfl R (r.imp λa q=>⟨q.1,q.2.1,nw a ⟨⟨xs,rfl⟩,q.1⟩⟩) (λ_ _ a e=>⟨⟨xs,rfl⟩,e⟩) rfl⟩
def Fc(H:eS env cx)(ih:∀e,bY W A env (d e) e)(te:Expr)(t:TV)(ρ:Lo)(σ:St):ow (l9 d cx te t ρ σ)<|StQ W A env te t ρ σ:=by
 induction te using Expr.casesOn with
 |Name x pos=>exact eJ λhx=>wP H (λh=>wpAny_assign_Name h) hx t ρ σ
 |Attribute o f pos=>show ow (oy (ny f) t (λv=>ar (d o).t λu=>ar (aS<|dY u) λu=>qk λc=>lH c f v u) ρ σ) _;refine Ak λv aY k₁=>bE ((ih o).t ρ aY) λz cg ay=>cN λov e1=>?_;show ow ((lH cg.c f v ov).bind λc=>some (ρ,(⟨c,cg.sc,cg.P⟩:St))) _;refine ij λc' e2=>bD λhP=>?_;have ay:=ay hP;have k₁:=k₁ ay.1;refine⟨k₁.1,λB n w u R F r nw=>?_⟩;refine lD (k₁.2 n w u R r) λac ai yk aJ fj=>?_;rw[arm_assign_Attribute,<-ai];exact wpAny_bind<|wpAny_holding<|Po.use (ay.2 B ac aJ (F.nw nw yk).1) λz an aN bG aC=>wpAny_bind<|wpAny_standAt<|wpAny_bind<|wpAny_holding<|Po.use (D9 e2 bG (jO aC e1)<|aN.vr fj) λ_ a9 dx eU _=>wpAny_release<|mq.of F nw (.refl _ _) yk (aN.trans dx) eU rfl
 |Subscript o i pos=>show ow (ar (d o).t (λu=>ar (aS<|dY u) λu=>ar (d i).t λk=>ar (aS<|dY k) λk=>oy (Ik k) t λv=>qk λc=>zB c k v u) ρ σ) _;refine bE ((ih o).t ρ σ) λz aY k₁=>cN λov e1=>bE ((ih i).t ρ aY) λz' cg ay=>cN λkv e2=>Ak λv gK ba=>?_;show ow ((zB gK.c kv v ov).bind λc=>some (ρ,(⟨c,gK.sc,gK.P⟩:St))) _;refine ij λc' e3=>bD λhP=>?_;have ba:=ba hP;have ay:=ay ba.1;have k₁:=k₁ ay.1;refine⟨k₁.1,λB n w u R F r nw=>?_⟩;rw[arm_assign_Subscript];refine wpAny_bind<|wpAny_holding<|Po.use (k₁.2 B w R F) λy ac az aJ ak=>?_;refine wpAny_bind<|wpAny_holding<|Po.use (ay.2 B ac aJ<|F.step az) λy' an aN bG aC=>wpAny_bind<|wpAny_standAt<|wpAny_bind<|wpAny_holding ?_;refine lD (ba.2 n an u bG<|(az.trans aN).tr r) λa9 aH xX eU kZ=>?_;rw[<-aH];exact Po.use (Mb e3 eU (xX.vr<|aN.vr<|jO ak e1) (xX.vr<|jO aC e2) kZ) λ_ bm dK kB _=>wpAny_release<|mq.of F nw (az.trans aN) xX dK kB rfl
 |_=>exact f8
def zz(B:Addr->Prop)(env:Env)(ρ:Lo)(n w:Wo):Prop:=∀b,dI n b->b∉fP env/\¬B b/\∀y,¬dj env ρ w.h y b
def FR.um(F:FR W B env ρ n)(x:aQ n w):zz B env ρ n w:=λb f=>⟨λhb=>(F.d4 b hb).1.elim λo p=>(nh<|p.o.symm.trans f),λhb=>(F.i0 b hb).elim λo p=>(nh<|p.o.symm.trans f),λy o=>(F.EO x o).elim λob p=>(nh<|p.o.symm.trans f)⟩
def zz.Dg(f:zz B env ρ n w)(r:TR W n w t u):k9 B env ρ w t u:=λb z=>f b<|r.fresh z
def cr.BJ(x:ch B' w w'):∀{ts:List TV} {us:List Value},cr W n w ts us->ts.all TV.yv=true->cr W n w' ts us:=by
 intro ts;induction ts with
 |nil=>intro us h _;cases h;exact .nil
 |cons t ts ih=>
  intro us h e;cases h with|cons q r=>
  induction t with
  |p v=>exact .cons (x.vr (show VR W w.G w.φ v _ from q))<|ih r (bp e).2
  |_=>exact nj<|(bp e).1
def cr.VY(x:ch B' w w')(f:∀b,dI n b->B' b):∀{ts:List TV} {us:List Value},cr W n w ts us->qW ts=true->cr W n w' ts us:=by
 intro ts;induction ts with
 |nil=>intro us h _;cases h;exact .nil
 |cons t ts ih=>
  intro us h e;cases h with|cons q r=>
  induction t with
  |p v=>exact .cons (x.vr (show VR W w.G w.φ v _ from q))<|ih r e
  |f xs=>exact .cons (q.imp λa q=>⟨q.1,x.xi (f a q.2.2) q.2.1,q.2.2⟩)<|r.BJ x e
  |b xs=>exact nj e
def PA(W:Wd)(B:Addr->Prop)(env:Env)(w:Wo)(q:Lo×St)(s':Shared):Prop:=∃w',s'=w'.s/\ch B w w'/\aI W w' q.2.c/\FR W B env q.1 w'
def mq.sub(F:FR W B env ρ w)(nw:k9 B env ρ w t u):∀b,B b->b∉fP env/\¬jR t u b:=λb hb=>⟨λz=>(F.d4 b z).2 hb,λz=>(nw b z).2.1 hb⟩
abbrev Iu(B:Addr->Prop)(env:Env)(ρ:Lo)(n w:Wo)(ts:List TV):Prop:=ts.all TV.yv=true\/qW ts=true/\zz B env ρ n w
def pK:List (TV->Xl)->List TV->Xl
 |[],ts=>gd ts.isEmpty λρ σ=>some (ρ,σ)
 |x::xs,ts=>match ts with
  |[]=>no
  |t::ts=>mO (x t)<|pK xs ts
inductive ro(W:Wd)(A:Around)(env:Env):List (TV->Xl)->List (Value->Sem Unit)->Prop
 |nil:ro W A env [] []
 |cons {x:TV->Xl} {m:Value->Sem Unit} {xs:List (TV->Xl)} {ms:List (Value->Sem Unit)} (h:JN W A env x m) (r:ro W A env xs ms):ro W A env (x::xs) (m::ms)
set_option tactic.hygienic true in
def zX:∀{xs:List<|TV->Xl} {ms:List<|Value->Sem Unit},ro W A env xs ms->∀ts ρ σ,ow (pK xs ts ρ σ) λq=>xs.length=ts.length/\(q.2.P->σ.P/\∀B n w us,aI W w σ.c->FR W B env ρ w->cr W n w ts us->Iu B env ρ n w ts->wpAny W.M A (assignInOrder ms us) (λ_=>PA W B env w q) Ff w.s):=by
 intro xs ms h;induction h with
 |nil=>
  intro ts ρ σ;refine eJ λht=>bD ?_;induction ts using bx with
  |nil=>exact⟨rfl,λhP=>⟨hP,λB n w us R F r _=>by cases r;exact wpAny_assignInOrder_none<|js w rfl (.refl _ _) R F⟩⟩
  |cons=>exact nj ht
 |cons hx r ih=>
  rename_i x m xs ms;intro ts ρ σ;induction ts using bx with
  |nil=>exact f8
  |cons t ts=>
   refine ij λak da=>fB (ih ts ak.1 ak.2) λq k=>⟨congrArg (· +1) k.1,λhP=>?_⟩;have k:=k.2 hP;have k₁:=hx t ρ σ ak da k.1;refine⟨k₁.1,λB n w us R F rs ok=>?_⟩;cases rs with|cons fT rs=>
   have nw:k9 B env ρ w t _:=λb z=>by
    rcases ok with ok|ok
    ·obtain⟨⟨xs,rfl⟩,_⟩:=z;exact nj<|(bp ok).1
    ·exact ok.2.Dg fT b z
   refine wpAny_assignInOrder_more<|wpAny_mono (k₁.2 B n w _ R F fT nw) (λ_ ai z=>?_) λ_ _ z=>z;refine i8 z λac q1 az aJ k7 Y4=>?_;clear z;subst q1;have WD:=az.sub<|mq.sub F nw;have cb:∀{us},cr W n ac ts us->Iu B env ak.1 n ac ts->wpAny W.M A (assignInOrder ms us) (λ_=>PA W B env w q) Ff ac.s:=λrs ok=>wpAny_mono (k.2 B n ac _ aJ k7 rs ok) (λ_ s' z=>(z.imp λw' z=>⟨z.1,WD.trans z.2.1,z.2.2⟩:PA W B env w q s')) λ_ _ z=>z;rcases ok with ok|⟨ok,ff⟩
   ·exact cb (rs.BJ az (bp ok).2)<|.inl (bp ok).2
   ·clear da k₁ fT nw;induction t with
    |p v=>have nn:∀{b:Addr} {u:Value},¬jR (.p v) u b:=λz=>z.1.elim λ_ z=>nomatch z;exact cb (rs.VY az (λb f=>⟨(ff b f).1,nn⟩) ok)<|.inr ⟨ok,λb f=>⟨(ff b f).1,(ff b f).2.1,λy o=>(Y4 y b o).elim ((ff b f).2.2 y) nn⟩⟩
    |f xs=>exact cb (rs.BJ az ok)<|.inl ok
    |b xs=>exact nj ok
inductive jM(W:Wd)(w:Wo):Fl->Flow->Prop
 |bu:jM W w .bu .next
 |brk:jM W w .brk .brk
 |cnt:jM W w .cnt .cont
 |ret {v:V} {u:Value} (h:VR W w.G w.φ v u):jM W w (.ret v) (.ret u)
noncomputable def Fl.sU:Fl->Bool
 |.ret _=>true
 |_=>false
def Yd(W:Wd)(w:Wo)(fl:Fl)(f:Flow):Prop:=Fl.casesOn (motive:=λ_=>Prop) fl (f=.next) (f=.brk) (f=.cont) λv=>∃u,f=.ret u/\VR W w.G w.φ v u
theorem jM.i(r:jM W w fl f):Yd W w fl f:=by
 cases r with
 |ret h=>exact⟨_,rfl,h⟩
 |_=>exact rfl
@[elab_as_elim] theorem jM.turn{P:Flow->Prop}(r:jM W w fl f)(hr:fl.sU=false)(hb:fl≠.brk)(a:P .next)(b:P .cont):P f:=by
  cases r with
  |bu=>exact a
  |cnt=>exact b
  |brk=>exact absurd rfl hb
  |ret=>exact nk hr
def PS(W:Wd)(B:Addr->Prop)(env:Env)(w:Wo)(q:Fl×Lo×St)(f:Flow)(s':Shared):Prop:=∃w',s'=w'.s/\ch B w w'/\aI W w' q.2.2.c/\jM W w' q.1 f/\(q.1.sU=false->FR W B env q.2.1 w')
abbrev SQ(W:Wd)(A:Around)(env:Env)(m:Sem Flow)(ρ:Lo)(σ:St)(q:Fl×Lo×St):Prop:=q.2.2.P->σ.P/\∀B w,aI W w σ.c->FR W B env ρ w->wpAny W.M A m (PS W B env w q) Ff w.s
def eE(W:Wd)(A:Around)(env:Env)(x:Ex)(m:Sem Flow):Prop:=∀ρ σ,ow (x ρ σ)<|SQ W A env m ρ σ
def PS.after(x:ch B w ac)(h:PS W B env ac q f s'):PS W B env w q f s':=h.imp λw' h=>⟨h.1,x.trans h.2.1,h.2.2⟩
def PS.of(x:aQ w ac)(R:aI W ac σ.c)(F:FR W B env ρ w):PS W B env w (.bu,ρ,σ) .next ac.s:=fc ac rfl (x.to _) R .bu λ_=>F.step x
def PA.ps(x:ch B w ac)(h:PA W B env ac q s'):PS W B env w (.bu,q) .next s':=h.imp λw' h=>⟨h.1,x.trans h.2.1,h.2.2.1,.bu,λ_=>h.2.2.2⟩
def EP(X:EnvOk env):interactive env=false:=by unfold interactive;rw[X.kind];rfl
def D8(h:nW e)(t:Option Expr)(n:Nat):swapsWith e t n env=pure false:=by induction e using Expr.casesOn<;>first|rfl|exact nj h
def GP(X:EnvOk env)(hd:bY W A env (d e) e)(hs:nW e):eE W A env (pb d e)<|exec (.Expr e pos) env:=λρ σ=>bE (hd.t ρ σ) λt aY k=>cN λv e=>bD λhP=>⟨(k hP).1,λB w R F=>wpAny_Expr_any (Po.use ((k hP).2 B w R F) λu ac az aJ ak=>PS.of az aJ F) (EP X)<|D8 hs _ _⟩
def Qa:eE W A env (cb .brk)<|exec (.Break pos) env:=λρ σ=>bD λhP=>⟨hP,λB w R F=>wpAny_Break<|fc w rfl (.refl _ _) R .brk λ_=>F⟩
def QG:eE W A env (cb .cnt)<|exec (.Continue pos) env:=λρ σ=>bD λhP=>⟨hP,λB w R F=>wpAny_Continue<|fc w rfl (.refl _ _) R .cnt λ_=>F⟩
def ON:eE W A env (cb<|.ret .none)<|exec (.Return none pos) env:=λρ σ=>bD λhP=>⟨hP,λB w R F=>wpAny_Return_none<|fc w rfl (.refl _ _) R (.ret .none) λz=>nk z⟩
def zJ{M:Model}(h:wpAny M A (eval value env) (λv ai=>wpAny M A (assign t env v) (λ_=>Q .next) E ai) E s)(ht:eq t)(hs:swapsWithSole [t] value pos.line env=pure false)(hw:swappedStores [t] value env=pure none):wpAny M A (exec (.Assign [t] value pos) env) Q E s:=by
 refine wpAny_Assign_stores (wpAny_mono h (λv ai cC=>?_) λ_ _ x=>x) hs hw;have:(assignEach [t] env).map (·.2)=[assign t env]:=by induction t using Expr.casesOn<;>first|rfl|exact nj ht
 rw[this];exact cC
def Ma(h:sL te):swappedStores [te] e env=pure none:=by induction te using Expr.casesOn<;>first|rfl|exact nj h
def Mf(h:sL e):swappedStores [.Tuple bS k p] e env=pure none:=by induction e using Expr.casesOn<;>first|rfl|exact nj h
def zD(n:Nat):swapsWithSole [.Tuple bS q p] e n env=pure false:=by induction e using Expr.casesOn<;>rfl
def Mm(h:l9 d cx te t ρ σ=some q):eq te=true/\sL te=true:=by induction te using Expr.casesOn<;>first|exact⟨rfl,rfl⟩|exact ng h
def E8(H:eS env cx)(ih:∀e,bY W A env (d e) e)(hs:nW e):eE W A env (bu<|ar (d e).t λt=>l9 d cx te t)<|exec (.Assign [te] e pos) env:=
 λρ σ=>ij λq da=>bD λhP=>(bc da).elim λp bj=>by have ay:=Fc H ih te p.1 ρ p.2 q bj.2 hP;have k₁:=(ih e).t ρ σ p bj.1 ay.1;have ns:=Mm bj.2;exact⟨k₁.1,λB w R F=>zJ (Po.use (k₁.2 B w R F) λu ac az aJ ak=>wpAny_mono (ay.2 B w ac u aJ (F.step az) ak<|(F.um az).Dg ak) (λ_ s' z=>z.elim λw' z=>(fc w' z.1 ((az.to B).trans<|z.2.1.sub<|mq.sub (F.step az)<|(F.um az).Dg ak) z.2.2.1 .bu λ_=>z.2.2.2.1)) λ_ _ z=>z) ns.1 (D8 hs _ _)<|Ma ns.2⟩
def MK(iM:t≠it):∀(n i:Nat) (s:Shared) (Q:List Value->Shared->Prop) (E:Value->Shared->Prop),s.heap.IsListIter it t i->s.heap.IsList t items->i+n<=items.size->
    (∀h',h'.IsListIter it t (i+n)->Heap.SameBut it s.heap h'->Q ((items.toList.drop i).take n) {s with heap:=h'})->wpAny W.M A (draw (.ref it) n) Q E s:=by
 intro n;induction n with
 |zero=>intro i s Q E hit _ _ hQ;show wpAny _ _ (pure []) Q E s;exact wpAny_pure<|hQ s.heap hit<|Heap.SameBut.refl ..
 |succ n ih=>
  intro i s Q E hit ht oD hQ;have eW:i<items.size:=by lia
  show wpAny _ _ (pyNext (.ref it)>>=_) Q E s;refine wpAny_bind<|wpAny_pyNext_list_item hit ht (x:=items[i]) (by simp[eW]) λcC AT uX=>?_;refine wpAny_bind<|wpAny_holding<|ih (i+1) _ _ _ AT (ht.extBut uX.extBut iM) (by lia) λaL Uy ik=>wpAny_pure ?_;have hd:items.toList.drop i=items[i]::items.toList.drop (i+1):=by simp[List.drop_eq_getElem_cons,eW]
  have:=hQ aL (by rw[show i+(n+1)=i+1+n by lia];exact Uy)<|uX.trans ik;rw[hd,List.take_succ_cons] at this;exact this
def Lz(hh:A.handled=none)(ht:s.heap.IsList t items)(hQ:∀h',Heap.ExtBut s.heap.objs.size s.heap h'->Q items.toList {s with heap:=h'}):wpAny W.M A (unpackItems (.ref t) items.size none) Q E s:=by
 have eW:t≠s.heap.objs.size:=by exact aA ht λo ho _=>Nat.ne_of_lt<|Heap.lt_size ho
 unfold unpackItems;refine wpAny_bind ?_
 ·unfold notIterableAtAll;refine wpAny_bind<|wpAny_specialOf ht.typeIs slot_list_iter.lookup ?_;refine wpAny_pure ?_;simp only[Bool.false_eq_true,if_false];refine wpAny_bind<|wpAny_holding<|wpAny_pyIter_list ht ?_;refine wpAny_bind<|wpAny_holding<|MK eW items.size 0 _ _ _ (fA _ (Heap.get?_push_size _ rfl) rfl rfl) (ht.push _) (by lia) λcC AT uX=>?_;have tE:List.take items.size (List.drop 0 items.toList)=items.toList:=by rw[List.drop_zero];exact List.take_of_length_le<|by simp
  rw[tE];rw[if_neg<|by simp];have U7:cC.IsList t items:=(ht.push _).extBut uX.extBut eW;refine wpAny_bind<|wpAny_holding<|wpAny_pyNext_list_end hh AT U7 (by simp) λaL WS=>?_;simp only[Option.isSome_none,Bool.false_eq_true,if_false];refine wpAny_pure<|hQ aL λb o hb e=>WS b o hb<|uX.extBut b o hb<|Heap.get?_push_of_some _ e
abbrev z8(h h':Heap):Prop:=∀b o,h.get? b=some o->h'.get? b=some o
def FE(x:Heap.ExtBut h.objs.size h h'):z8 h h':=λb o e=>x b o (Nat.ne_of_lt<|Heap.lt_size e) e
def yp(h:Heap)(u:Value)(items:List Value):Prop:=∃a n,u=.ref a/\(h.get? a=some (dq items n)\/h.get? a=some (lQ items n))
variable{w:Wo} in
def D3{items:List Value}(hh:A.handled=none)(hu:yp w.h u items)(hk:k=items.length)(hQ:∀h',z8 w.h h'->Q items (w.hp h' w.s.toks).s):wpAny W.M A (unpackItems u k none) Q E w.s:=by
 refine bJ hu λa n q1 o1=>?_;clear hu;subst q1;obtain ha|ha:=o1
 ·rw[hk];exact Lz (A:=A) (E:=E) (Q:=Q) hh (fN ha) λh' e=>hQ h'<|FE e
 ·rw[hk];exact unpackItems_tuple (prog:=P0) (w:=W.w) (A:=A) (E:=E) (Q:=Q) hh (lG ha) λh' e=>hQ h'<|FE e
def LA:∀{bS:List Expr},bS.all eq=true->(assignEach bS env).map (·.2)=bS.map (λte=>assign te env)/\(assignEach bS env).length=bS.length/\(assignEach bS env).findIdx? (·.1)=none:=by
 intro bS;induction bS with
 |nil=>exact λ_=>⟨rfl,rfl,rfl⟩
 |cons te r ih=>
  intro hs;refine fp (ih (bp hs).2) λh1 h2 h3=>?_;have e:assignEach (te::r) env=(false,assign te env)::assignEach r env:=by have:=(bp hs).1;induction te using Expr.casesOn<;>first|rfl|exact nj this
  rw[e,List.map_cons,List.map_cons,h1,ec,h2,List.findIdx?_cons,h3];exact⟨rfl,rfl,rfl⟩
variable{w:Wo} in
def Ep{bS:List Expr}{items:List Value}{Q:Unit->Shared->Prop}(hh:A.handled=none)(hs:bS.all eq)(hu:yp w.h u items)(hl:bS.length=items.length)(q:∀h',z8 w.h h'->wpAny W.M A (assignInOrder (bS.map λte=>assign te env) items) Q E (w.hp h' w.s.toks).s):wpAny W.M A (assign (.Tuple bS k pos) env u) Q E w.s:=by refine fp (LA (env:=env) hs) λh1 h2 h3=>?_;rw[arm_assign_Tuple];refine wpAny_bind<|wpAny_standAt ?_;unfold unpack;rw[h1,h2,h3];exact wpAny_bind<|wpAny_holding<|D3 hh hu hl q
theorem NJ:∀(xs:List Str) (vs:List V),xq xs vs=pK (xs.map qU) (vs.map .p):=by
 intro xs;induction xs with
 |nil=>intro vs;cases vs<;>rfl
 |cons x xs ih=>intro vs;induction vs using bx with
  |nil=>rfl
  |cons v vs=>show mO _ (xq xs vs)=mO _ (pK _ _);rw[ih];rfl
theorem Na:∀(xs:List Str) (ts:List TV),wH xs ts=pK (xs.map qU) ts:=by
 intro xs;induction xs with
 |nil=>intro ts;rfl
 |cons x xs ih=>intro ts;induction ts using bx with
  |nil=>rfl
  |cons t ts=>show mO _ (wH xs ts)=mO _ (pK _ _);rw[ih]
theorem Ng:∀(es:List Expr) (ts:List TV),uR d cx es ts=pK (es.map<|l9 d cx) ts:=by
 intro es;induction es with
 |nil=>intro ts;rfl
 |cons x xs ih=>intro ts;induction ts using bx with
  |nil=>rfl
  |cons t ts=>show mO _ (uR d cx xs ts)=mO _ (pK _ _);rw[ih]
def MY(H:eS env cx)(ih:∀e,bY W A env (d e) e):∀es:List Expr,ro W A env (es.map<|l9 d cx)<|es.map λte=>assign te env:=by
 intro es;induction es with
 |nil=>exact .nil
 |cons e es ih'=>exact .cons (Fc H ih e) ih'
def Nk(H:eS env cx):∀{xs:List Str},(∀x∈xs,gN (aU x cx)=true)->ro W A env (xs.map qU) (xs.map λn=>bindName env n):=by
 intro xs;induction xs with
 |nil=>exact λ_=>.nil
 |cons x xs ih=>exact λh=>.cons (wP H (λh=>wpAny_bindName h)<|h x<|.head _)<|ih λy hy=>h y<|.tail _ hy
def EK:∀{es:List Expr} {xs:List Str},iF cx es=some xs->es.length=xs.length/\es.all eq=true/\(∀x∈xs,gN (aU x cx)=true)/\(∀(H:eS env cx),ro W A env (xs.map qU)<|es.map λte=>assign te env):=by
 intro es;induction es with
 |nil=>intro xs e;exact zb (aE e) ⟨rfl,rfl,(λ_ h=>nomatch h),λ_=>.nil⟩
 |cons e es ih=>
  intro xs h;induction e using Expr.casesOn with
  |Name x pos=>have h:=cW (show bK (gN<|aU x cx) ((iF cx es).bind λl=>some<|x::l)=some xs from h);refine aA (bc h.2) λl e1 e2=>?_;refine zb (aE e2) ?_;exact rP (ih e1) λi1 i2 i3 i4=>⟨congrArg (· +1) i1,i2,λy hy=>(dZ hy).elim (λz=>z▸h.1)<|i3 y,λH=>.cons (wP H (λh=>wpAny_assign_Name h) h.1)<|i4 H⟩
  |_=>exact ng h
def be.ps:∀{vs:List V} {us:List Value},be W w.G w.φ vs us->cr W n w (vs.map .p) us:=by
 intro vs;induction vs with
 |nil=>intro us h;cases h;exact .nil
 |cons v vs ih=>intro us h;cases h with|cons h r=>exact .cons h<|ih r
def OX:∀vs:List V,(vs.map TV.p).all TV.yv=true:=by
 intro vs;induction vs with
 |nil=>rfl
 |cons v vs ih=>exact ih
def N9(e:Cj v=some vs)(R:aI W w c)(hv:VT W w v u):∃items,yp w.h u items/\be W w.G w.φ vs items:=by
 induction v using V.casesOn with
 |tup xs=>cases e;refine ez (hv.tup R) λa items n q2 ho r=>?_;subst q2;exact au items (aW a n rfl<|.inr ho) r
 |lst xs=>cases e;refine ez (hv.lst R) λa items n q3 ho r=>?_;subst q3;exact au items (aW a n rfl<|.inl ho) r
 |_=>exact ng e
def EA(Rm:dJ A)(H:eS env cx)(N:iF cx es=some xs)(v:V)(ρ:Lo)(σ:St):
    ow (xA xs v ρ σ) λq=>q.2.P->σ.P/\∀B w u,aI W w σ.c->FR W B env ρ w->VT W w v u->wpAny W.M A (assign (.Tuple es k pos) env u) (λ_=>PA W B env w q) Ff w.s:=by
 refine cN (o:=Cj v) λvs e=>?_;rw[NJ];refine rP (EK (A:=A) (env:=env) N) λn1 n2 n3 n4=>?_;refine fB (zX (n4 H) (vs.map .p) ρ σ) λq k hP=>⟨(k.2 hP).1,λB w u R F hv=>?_⟩;refine aA (N9 e R hv) λitems hs hr=>?_;have hl:=k.1;rw[List.length_map,List.length_map] at hl;refine Ep Rm.hd n2 hs (by rw[n1,hl,hr.length]) λh' ka=>?_;have x:=aQ.grown (k:=w.s.toks) ka;exact wpAny_mono ((k.2 hP).2 B w _ items (R.grown ka) (F.step x) (x.ma hr).ps<|.inl<|OX vs) (λ_ s' z=>(z.imp λw' z=>⟨z.1,(x.to B).trans z.2.1,z.2.2⟩:PA W B env w q s')) λ_ _ z=>z
def Oj(Rm:dJ A)(H:eS env cx){d:Expr->dC}(ih:∀e,bY W A env (d e) e):
    eE W A env (bu<|ar (aS<|bK (sL e)<|iF cx bS) λxs=>ar (d e).t λt=>xA xs t.v) (exec (.Assign [.Tuple bS k p] e pos) env):=
 λρ σ=>ij λq da=>bD (by refine(cN (o:=bK (sL e)<|iF cx bS) (Q:=SQ W A env _ ρ σ∘λq=>(.bu,q)) λxs bj=>?_) q da;have bj:=cW bj;refine bE ((ih e).t ρ σ) λt aY k₁=>fB (EA (k:=k) (pos:=p) Rm H bj.2 t.v ρ aY) λq ay hP=>?_;have ay:=ay hP;have k₁:=k₁ ay.1;exact⟨k₁.1,λB w R F=>zJ (Po.use (k₁.2 B w R F) λu ac az aJ ak=>wpAny_mono (ay.2 B ac u aJ (F.step az) ak.vt) (λ_ s' z=>z.ps<|az.to B) λ_ _ z=>z) rfl (zD _)<|Mf bj.1⟩)
def E2{d:Expr->dC}{ρ:Lo}{σ:St}{q:List TV×St}(h:wpAny W.M A (mv env pos vs) (Po W w q.2.c λw' us=>cr W w w' q.1 us) Ff w.s)(hl:q.1.length=vs.length)(xu:vs.length<=1000)(k':∀u items w',aQ w w'->aI W w' q.2.c->cr W w w' q.1 items->yp w'.h u items->Q u w'.s):wpAny W.M A (eval (.Tuple vs k pos) env) Q Ff w.s:=wpAny_Tuple (Po.use h λus ac az aJ ak=>⟨by rw[<-ak.length,hl,sizeLine_eq];exact ju xu,k' _ us (ac.hp (ac.s.heap.push<|lQ us 0) ac.s.toks) (az.trans<|aQ.grown eQ) (aJ.grown eQ) ((aQ.grown eQ).Dz ak)<|aW _ 0 rfl<|.inr<|Heap.get?_push_size _ rfl⟩)
def LW{α β:Type}{f:α->Option β}:∀{l:List α},(l.filterMap f).length=l.length->∀a∈l,(f a).isSome=true:=by
 intro l;induction l with
 |nil=>exact λ_ a h=>nomatch h
 |cons b r ih=>
  intro e a h;have oD:=List.length_filterMap_le f r;induction hb:f b with
  |none=>rw[List.filterMap_cons_none hb] at e;exact absurd (show(b::r).length<=r.length from e▸oD)<|Nat.not_succ_le_self _
  |some v=>rw[List.filterMap_cons_some hb] at e;exact(dZ h).elim (λz=>z▸hb▸rfl)<|ih (Nat.succ.inj e) a
theorem I9{a b:Bool}(h:¬(a||b)=true):a=false/\b=false:=Bool.or_eq_false_iff.mp<|(Bool.not_eq_true _).mp h
def xD{α:Type}{c:Prop} [Decidable c]{a b r:α}(h:c->a=r)(k:¬c->b=r):(if c then a else b)=r:=if g:c then(if_pos g).trans (h g) else(if_neg g).trans (k g)
def Sv(X:CxOk env cx)(h:CY cx bS vs):swappedStores [.Tuple bS q p] (.Tuple vs q' p') env=pure none:=by
 unfold swappedStores;dsimp only;refine xD (λ_=>rfl) λh1=>xD (λ_=>rfl) λ_=>xD (λ_=>rfl) λh3=>xD (λ_=>rfl) λh4=>?_;exfalso;rcases(Bool.or_eq_true_iff.mp (show(_||_)=true from h)).imp_left Bool.or_eq_true_iff.mp with(h|h)|h
 ·rw[(Bool.or_eq_false_iff.mp (I9 h1).1).1] at h;exact nj h
 ·exact h4 h
 ·refine aA (List.any_eq_true.mp h) λte hm iM=>?_;have:=LW (bne_eq_false_iff_eq.mp (I9 h3).1) te hm;clear hm;induction te using Expr.casesOn with
  |Name id pos=>dsimp only at this;rw[X.kd _ _<|iU iM] at this;exact nj this
  |_=>exact nj this
def QR:∀{es:List Expr} {xs:List Str},iF cx es=some xs->es.length=xs.length:=by
 intro es;induction es with
 |nil=>intro xs e;refine zb (aE e) ?_;rfl
 |cons e es ih=>
  intro xs h;induction e using Expr.casesOn with
  |Name x pos=>refine aA (bc (cW (show bK (gN<|aU x cx) ((iF cx es).bind λl=>some<|x::l)=some xs from h)).2) λl e1 e2=>?_;exact zb (aE e2) (congrArg (· +1)<|ih e1)
  |_=>exact ng h
def Tu(X:CxOk env cx)(N:iF cx bS=some xs)(hl:bS.length=vs.length)(hs:vs.all eq)(h:zt cx bS vs xs):
    swappedStores [.Tuple bS q p] (.Tuple vs q' p') env=pure (some xs):=by
 simp only[zt,cS,dg,beq_iff_eq,List.all_eq_true (p:=λx=>gr .local<|aU x cx)] at h;obtain⟨⟨⟨⟨⟨⟨h1,h4⟩,h7⟩,h8⟩,mR⟩,h5⟩,h6⟩:=h;have fm:∀(line:Nat) (f:Expr->Option Str),(∀id pos,f (.Name id pos)=if(env.kindOf id==some .local&&pos.line==line)=true then some id else none)->∀{bS:List Expr} {xs:List Str},iF cx bS=some xs->(∀x∈xs,gr .local (aU x cx)=true)->bS.all (F0 line)=true->bS.filterMap f=xs:=by
  intro line f hf bS;induction bS with
  |nil=>intro xs e _ _;refine zb (aE e) ?_;rfl
  |cons te bS ih=>
   intro xs e hl ho;induction te using Expr.casesOn with
   |Name x pos=>refine aA (bc (cW (show bK (gN<|aU x cx) ((iF cx bS).bind λl=>some<|x::l)=some xs from e)).2) λl e1 e2=>?_;obtain rfl:=aE e2;rw[List.filterMap_cons,hf,X.kd _ _<|iU<|hl x<|.head _,show(pos.line==line)=true from(bp ho).1,ih e1 (λy hy=>hl y<|.tail _ hy) (bp ho).2];rfl
   |_=>exact ng e
 have n2:=QR N;unfold swappedStores;dsimp only;rw[if_neg,if_neg,fm _ _ (λ_ _=>rfl) N h7 h4,if_neg,if_neg,if_neg]
 ·rw[h6];decide
 ·rw[h5];decide
 ·simp only[n2,mR];simp
 ·rw[List.any_eq_true];rintro⟨e,he,Dv⟩;have:=cp hs e he;induction e using Expr.casesOn<;>first|exact nj this|exact nj Dv
 ·have:env.blockKind=.function:=by simp[Env.blockKind,X.kind,ScopeKind.isAnnotationScope]
  rw[hl,Bool.or_eq_true,beq_iff_eq,beq_iff_eq] at h1;simp[hl,this];lia
def cr.append(q:cr W n w b ub):cr W n w a ua->cr W n w (a++b) (ua++ub):=by
 intro h;induction a generalizing ua with
 |nil=>cases h;exact q
 |cons t a ih=>cases h with|cons p r=>exact .cons p<|ih r
def cr.rev:∀{a:List TV} {ua:List Value},cr W n w a ua->cr W n w a.reverse ua.reverse:=by
 intro a;induction a with
 |nil=>intro ua h;cases h;exact .nil
 |cons t a ih=>
  intro ua h;cases h with|cons p r=>
  rw[List.reverse_cons,List.reverse_cons];exact cr.append (.cons p .nil)<|ih r
variable{env:Env} in
def Ox(Rm:dJ A)(H:eS env cx)(ih:∀e,bY W A env (d e) e){vs:List Expr}{p' pos:Pos}:
    eE W A env (bu (gd (Nat.beq bS.length vs.length&&dF vs.length 1000&&bS.all eq) (ar (kH d vs) λts=>bif CY cx bS vs then gd (qW ts) (uR d cx bS ts)
     else ar (aS<|iF cx bS) λxs=>gd (zt cx bS vs xs&&qW ts.reverse)<|wH xs.reverse ts.reverse))) (exec (.Assign [.Tuple bS k p] (.Tuple vs k' p') pos) env):=
 λρ σ=>ij λq da=>bD (by
  refine(eJ (Q:=SQ W A env _ ρ σ∘λq=>(.bu,q)) λhg=>?_) q da;have hl:=fy (bp (bp hg).1).1;have xu:=(gu _ _).mp (bp (bp hg).1).2;have Dv:=(bp hg).2;refine bE (wV (pos:=p') (λe _=>ih e) ρ σ) λts aY k₁=>o0 (λhN=>eJ λhf=>?_) λhN=>cN λxs nx=>eJ λhy=>?_
  ·rw[Ng];refine fB (zX (MY H ih bS) ts ρ aY) λq ay hP=>?_;have ay:=ay.2 hP;have ba:=k₁.2.2 ay.1;refine⟨ba.1,λB w R F=>zJ (E2 (q:=(ts,aY)) (ρ:=ρ) (σ:=σ) (d:=d) (ba.2 B w R F) k₁.2.1 xu λu items ac az aJ ak hs=>?_) rfl (zD _)<|Sv H.toCxOk hN⟩;refine Ep Rm.hd Dv hs (by rw[hl,<-ak.length];exact k₁.2.1.symm) λh' ka=>?_;have aN:=aQ.grown (k:=ac.s.toks) ka;have x:=az.trans aN;exact wpAny_mono (ay.2 B w _ items (aJ.grown ka) (F.step x) (aN.Dz ak)<|.inr ⟨hf,F.um x⟩) (λ_ s' z=>z.ps<|x.to B) λ_ _ z=>z
  ·rw[Na];have nm:=EK (A:=A) (env:=env) nx;have own:∀x∈xs.reverse,gN (aU x cx)=true:=λx hx=>nm.2.2.1 x<|List.mem_reverse.mp hx;refine fB (zX (Nk (A:=A) H own) ts.reverse ρ aY) λq ay hP=>?_;have ay:=ay.2 hP;have ba:=k₁.2.2 ay.1;refine⟨ba.1,λB w R F=>Assign_Tuple_swapped (names:=xs) (E2 (q:=(ts,aY)) (ρ:=ρ) (σ:=σ) (d:=d) (ba.2 B w R F) k₁.2.1 xu λu items ac az aJ ak hs=>?_) (zD _)<|Tu H.toCxOk nx hl k₁.1 (bp hy).1⟩;refine D3 Rm.hd hs (by rw[<-nm.1,hl,<-ak.length];exact k₁.2.1.symm) λh' ka=>?_;have aN:=aQ.grown (k:=ac.s.toks) ka;have x:=az.trans aN;exact wpAny_mono (ay.2 B w _ items.reverse (aJ.grown ka) (F.step x) (aN.Dz ak).rev<|.inr ⟨(bp hy).2,F.um x⟩) (λ_ s' z=>z.ps<|x.to B) λ_ _ z=>z)
theorem Eh:∀{ρ:Lo},aU x (nJ ρ)=(aU x ρ).map λl=>.val (match l with|.own xs=>.lst xs|.val v=>v):=by
 intro ρ;induction ρ with
 |nil=>rfl
 |cons p r ih=>
  obtain⟨y,l⟩:=p;show(bif nq (match l with|.own xs=>(y,LV.val<|.lst xs)|.val v=>(y,.val v)).1 x then _ else aU x (nJ r))=_
  cases l<;>(show(bif nq y x then _ else aU x (nJ r))=(bif nq y x then _ else aU x r).map _;cases nq y x<;>first|rfl|exact ih)
open Classical in
def FR.frozen(R:aI W w c)(F:FR W B env ρ w):∃ac,ac.s=w.s/\ch B w ac/\aI W ac c/\FR W B env (Mine.nJ ρ) ac:=by
 let G':GM:=λb=>if∃x,dj env ρ w.h x b then w.h.get? b else w.G b;have own:∀{x b},dj env ρ w.h x b->∃xs items n,aU x ρ=some (.own xs)/\cO w b (dq items n)/\be W w.G w.φ xs items/\G' b=some (dq items n):=λ{x b} o=>by obtain⟨xs,e⟩:=o.1;refine aA (F.gb x xs e o.2.1) λa v o1=>?_;refine bJ o1 λitems n p hv=>?_;cases v.uniq o.2.2;exact jE xs items n e p hv<|(if_pos ⟨x,o⟩).trans p.o
 have go:∀b,(∀x,¬dj env ρ w.h x b)->G' b=w.G b:=λb h=>if_neg λz=>z.elim h;have le:kF w.G G':=λb o e=>by
  by_cases z:∃x,dj env ρ w.h x b
  ·obtain⟨x,z⟩:=z;exact ez (own z) λ_ _ _ _ p _=>ng<|p.g.symm.trans e
  ·exact(if_neg z).trans e
 have DD:∀b o,G' b=some o->w.h.get? b=some o:=λb o e=>by
  by_cases z:∃x,dj env ρ w.h x b
  ·exact(if_pos z).symm.trans e
  ·exact R.g b o<|(if_neg z).symm.trans e
 have cell:∀b∈w.φ.flatten,G' b=w.G b:=λb hb=>go b λx o=>by exact ez (own o) λ_ _ _ _ p _=>p.n hb
 have x:ch B w ⟨G',w.φ,w.s⟩:=⟨le,eZ _,λb o hb p=>⟨p.o,(go b λx o=>(F.apart x b o).2 hb).trans p.g,p.n⟩,λb o e=>⟨o,e⟩,rfl⟩;refine js ⟨G',w.φ,w.s⟩ rfl x ⟨DD,λb o e=>le b o<|R.base b o e,R.len,R.nodup,R.live,λi o e=>(R.cells i o e).imp λas h=>⟨h.1,h.2.keep le (eZ _) (λ_ _ _ e=>e) λ_ b hb e=>(cell b<|List.mem_flatten.mpr<|au as (List.mem_of_getElem? h.1) hb).trans e⟩⟩ ?_;have no:∀{x xs},aU x (Mine.nJ ρ)=some (.own xs)->False:=λ{x xs} e=>by
  rw[Eh] at e;induction z:aU x ρ with
  |none=>rw[z] at e;exact ng e
  |some l=>rw[z] at e;(injection e with q0;injection q0)
 exact {
  vals:=λy v e i=>by
   rw[Eh] at e;induction z:aU y ρ with
   |none=>rw[z] at e;exact ng e
   |some l=>
    rw[z] at e;induction l with
    |val v'=>cases e;exact(F.vals y _ z i).imp λu q=>⟨q.1,q.2.mono le<|eZ _⟩
    |own xs=>cases e;refine aA (F.gb y xs z i) λa va _=>?_;refine fH (own ⟨⟨xs,z⟩,i,va⟩) λdH items n e' p hv hg=>?_;cases z.symm.trans e';exact au _ va<|.lst hg<|hv.mono le<|eZ _
  gb:=λy xs e i=>(no e).elim
  apart:=λy a o=>(o.1.elim λxs e=>no e).elim
  diff:=λy z a o _=>(o.1.elim λxs e=>no e).elim
  d4:=λb hb=>⟨(F.d4 b hb).1.imp λo p=>⟨p.o,(go b λx o=>(F.apart x b o).1 hb).trans p.g,p.n⟩,(F.d4 b hb).2⟩
  ns:=F.ns
  cells:=F.cells
  i0:=λb hb=>(F.i0 b hb).imp λo p=>x.kp b o hb p}
def MW(h:Q (v,σ))(k:∀i fs,v=.ptr i->jG σ.c i=some (1,fs)->Q (.inst 1 fs,⟨σ.c.set i .dead,σ.sc,σ.P⟩)):ow (Av v ρ σ) Q:=by
 induction v using V.casesOn with
 |ptr i=>
  show ow (match jG σ.c i with
   |some (k,fs)=>bif Nat.beq k 1 then some (V.inst k fs,(⟨σ.c.set i .dead,σ.sc,σ.P⟩:St)) else some (.ptr i,σ)
   |none=>some (.ptr i,σ)) Q
  induction e:jG σ.c i with
  |none=>exact bD h
  |some q=>obtain⟨j,fs⟩:=q;exact ph (λz=>by cases fy z;exact bD<|k i fs rfl e) λ_=>bD h
 |_=>exact bD h
def QS(hd:bY W A env (d e) e):eE W A env (IS d e)<|exec (.Return (some e) pos) env:=
 λρ σ=>bE (hd.t (nJ ρ) σ) λt aY k=>cN (o:=t.keep) λv ek=>by
  have start:aY.P->∀B w,aI W w σ.c->FR W B env ρ w->∀{Q:Flow->Shared->Prop},(∀ac an u,ch B w ac->aQ ac an->aI W an aY.c->VR W an.G an.φ v u->Q (.ret u) an.s)->wpAny W.M A (exec (.Return (some e) pos) env) Q Ff w.s:=λhP B w R F Q q=>by refine lD (F.frozen R) λac ai az aJ k7=>?_;rw[<-ai];refine wpAny_Return_some<|Po.use ((k hP).2 B ac aJ k7) λu an aN bG aC=>?_;refine i8 (aC.keep aN bG ek) λa9 aH _ dx eU kZ=>?_;rw[<-aH];exact q ac a9 u az dx eU kZ
  refine bE (MW (ρ:=ρ) (Q:=λq=>ow (cb (.ret q.1) ρ q.2)<|SQ W A env (exec (.Return (some e) pos) env) ρ σ) (bD λhP=>⟨(k hP).1,λB w R F=>start hP B w R F λac an u az aN bG eT=>(fc an rfl (az.trans<|aN.to B) bG (.ret eT) λz=>nomatch z)⟩) λi fs e1 e2=>bD λhP=>⟨(k hP).1,λB w R F=>start hP B w R F λac an u az aN bG eT=>?_⟩) λv' σ' h=>h;subst e1;refine bJ eT.i λ_ _ eu hp=>?_;subst eu;exact i8 (Ee aN bG hp<|Ek e2) λa9 aH _ dx eU kZ=>fc a9 aH.symm (az.trans<|dx.to B) eU (.ret kZ) λz=>nk z
def FR.GU(R:aI W w c)(F:FR W B env ρ w)(e:aU x ρ=some (.own xs))(i:jZ env x)(v:eH env w.h x<|.ref a)(ext:∀b o,b≠a->w.h.get? b=some o->h'.get? b=some o)(ho:h'.get? a=some (dq items j))(hv:be W w.G w.φ ys items):ch B w (w.hp h' k)/\aI W (w.hp h' k) c/\FR W B env (db x (.own ys) ρ) (w.hp h' k):=by
 have o:dj env ρ w.h x a:=⟨⟨xs,e⟩,i,v⟩;refine aA (F.gb x xs e i) λa' v' o1=>?_;refine bJ o1 λac5 j' p _=>?_;cases v.uniq v';have t:=xN (k:=k) R p ext ho;have np:∀b∈fP env,b≠a:=λb hb z=>(F.apart x a o).1<|z▸hb;have nB:∀b,B b->b≠a:=λb hb z=>(F.apart x a o).2<|z▸hb;have kv:∀{y u},eH env w.h y u->eH env h' y u:=λq=>q.to λb hb o e=>ext b o (np b hb) e;have kb:∀{y u},eH env h' y u->eH env w.h y u:=λq=>q.to λb hb o e=>(F.d4 b hb).1.elim λo' p=>by cases(t.1.kp _ _ (np b hb) p).o.symm.trans e;exact p.o
 have ow:∀y b,dj env (db x (.own ys) ρ) h' y b->dj env ρ w.h y b:=λy b ⟨⟨zs,z⟩,i',q⟩=>(nM z).elim (λz=>by cases z.1;exact⟨⟨xs,e⟩,i',kb q⟩) λz=>⟨⟨zs,z.2⟩,i',kb q⟩;refine⟨t.1.sub nB,t.2.1,?_⟩;exact {
  vals:=λy u z i=>(nM z).elim (λz=>nomatch z.2) λz=>(F.vals y u z.2 i).imp λu q=>⟨kv q.1,q.2⟩
  gb:=λy zs z i=>(nM z).elim (λz=>by refine zb z.1 ?_;cases z.2;exact(au a (kv v)<|aW items j t.2.2 hv)) λz=>(F.gb y zs z.2 i).imp λb q=>⟨kv q.1,t.1.xi (λz'=>z.1<|F.diff x y a o ⟨⟨zs,z.2⟩,i,z'▸q.1⟩) q.2⟩
  apart:=λy b o=>F.apart y b<|ow y b o
  diff:=λy z b o o'=>F.diff y z b (ow y b o)<|ow z b o'
  d4:=λb hb=>⟨(F.d4 b hb).1.imp λo p=>t.1.kp _ _ (np b hb) p,(F.d4 b hb).2⟩
  ns:=F.ns.imp λm hm=>hm.at' λo e=>ext _ o (np _<|.head _) e
  cells:=λp hp=>(F.cells p hp).imp λv q=>q.imp λo q=>⟨ext _ o (np _<|.tail _<|List.mem_map.mpr<|au p hp rfl) q.1,q.2⟩
  i0:=λb hb=>(F.i0 b hb).imp λo p=>t.1.kp _ _ (nB b hb) p}
def QU(h:∀xs,aU x ρ=some (.own xs)->ow (k xs ρ σ) Q):ow (B0 x k ρ σ) Q:=by
 unfold B0;induction e:aU x ρ with
 |none=>exact f8
 |some l=>induction l with
  |val v=>exact f8
  |own xs=>exact h xs e
def sy(X:CxOk env cx)(h:gN<|aU x cx):jZ env x:=by
 unfold jZ;induction e:aU x cx with
 |none=>rw[e] at h;exact nj h
 |some k=>rw[X.kd _ _ e];rw[e] at h;cases k<;>first|rfl|exact nj h
def NB(hs:eq e)(h:wpAny W.M A (eval e env) (Po W w c' R) Ff w.s):wpAny W.M A (mv env pos [e]) (Po W w c' λw' us=>∃u,us=[u]/\R w' u) Ff w.s:=wpAny_items_cons (Po.use h λu ac az aJ ak=>wpAny_items_nil<|Po.mk az aJ<|au u rfl ak) (nL hs)
def Fq(X:CxOk env cx)(hx:gN<|aU x cx)(h1:gV x)(line:Nat.beq gx.endLine pos.line)(hs:eq e)(F:FR W B env ρ w)(hl:aU x ρ=some (.own xs))(get:∀{Q:Value×List Value->Shared->Prop} {pl:Sem Bool} {a:Addr} {items:List Value} {j:Nat},w.h.get? a=some (dq items j)->Q (.builtin meth,[.ref a]) w.s->wpAny W.M A (getMethod (.ref a) m pl) Q Ff w.s)(h:wpAny W.M A (eval e env) (Po W w c' R) Ff w.s)(q:∀a ac u,eH env ac.h x (.ref a)->aQ w ac->aI W ac c'->R ac u->wpAny W.M A (call (.builtin meth) [.ref a,u]) (λ_=>Q .next) Ff ac.s):
    wpAny W.M A (exec (.Expr (.Call (.Attribute (.Name x gQ) m gx) [e] [] pos) YG) env) Q Ff w.s:=by
 have tE:[e].all eq:=by rw[List.all_cons,hs];rfl
 refine aA (F.gb x xs hl<|sy X hx) λa v o2=>?_;refine bJ o2 λitems j p _=>?_;refine wpAny_Expr_any (Aj rfl rfl line tE<|wpAny_Name (v.load X.toEnvOk (o7 h1).2<|get p.o ?_) (o7 h1).1) (EP X.toEnvOk) rfl;refine uu (.inl ⟨_,rfl⟩) tE (NB (pos:=pos) hs h) λus ac az aJ ak=>?_;refine aA ak λu q1 hu=>?_;clear ak;subst q1;exact q a ac u (v.to λb hb o e=>(F.d4 b hb).1.elim λo' p=>by cases p.o.symm.trans e;exact(az.keep p).o) az aJ hu
def Og(X:CxOk env cx)(hd:bY W A env (d e) e)(hx:gN<|aU x cx)(h1:gV x)(line:Nat.beq gx.endLine pos.line)(hs:eq e)(ρ:Lo)(σ:St):
    ow (HQ d x m e ρ σ) (SQ W A env (exec (.Expr (.Call (.Attribute (.Name x gQ) m gx) [e] [] pos) YG) env) ρ σ):=by
 refine QU λxs hl=>o0 (λhm=>?_) λ_=>o0 (λhm=>?_) λ_=>f8
 ·refine zc (gJ.mp hm) ?_;refine bE (hd.t ρ σ) λt aY k=>cN (o:=t.keep) λv ek=>bD λhP=>?_;have hP:xs.length<ae/\aY.P:=hP;have k:=k hP.2;refine⟨k.1,λB w R F=>Fq (meth:="list.append") X hx h1 line hs F hl (λha q=>getMethod_list_of PySem.F.slot_list_append PySem.F.type_list_append (fN ha) (au _ ha rfl) q) (k.2 B w R F) λa ac u va az aJ ak=>?_⟩;refine i8 (ak.keep az aJ ek) λan af _ aN bG eT=>?_;have va:eH env an.h x<|.ref a:=show eH env an.s.heap x (.ref a) from af▸va;refine aA ((F.step aN).gb x xs hl<|sy X hx) λa' DG o3=>?_;refine bJ o3 λitems j p hv=>?_;cases va.uniq DG;have hll:=lI;have oD:=hv.length;rw[<-af];refine append_at (hsz:=by rw[List.size_toArray];lia) p.o λh' nG DM=>?_;have q:=(F.step aN).GU (k:=an.s.toks) (ys:=xs++[v]) (items:=items++[u]) (j:=j+1) bG hl (sy X hx) va (λb o hb e=>nG.extBut b o hb e) (by rw[DM];simp[dq])<|be.append (.cons eT .nil) hv;exact fc (an.hp h' an.s.toks) rfl ((aN.to B).trans q.1) q.2.1 .bu λ_=>q.2.2
 ·refine zc (gJ.mp hm) ?_;refine bE (hd.t ρ σ) λt aY k=>?_;induction t with
  |f ys=>
   refine bD λhP=>?_;have hP:xs.length+ys.length<ae/\aY.P:=hP;have k:=k hP.2;refine⟨k.1,λB w R F=>Fq (meth:="list.extend") X hx h1 line hs F hl (λha q=>getMethod_list_of PySem.F.slot_list_extend PySem.F.type_list_extend (fN ha) (au _ ha rfl) q) (k.2 B w R F) λa ac u va az aJ ak=>?_⟩;refine fz ak λb q2 o4 fb=>?_;clear ak;subst q2;refine bJ o4 λr8 Xr ck HL=>?_;refine aA ((F.step az).gb x xs hl<|sy X hx) λa' DG o5=>?_;refine bJ o5 λitems j p hv=>?_;cases va.uniq DG;have hll:=lI;have oD:=hv.length;have ac6:=HL.length;have CG:items.toArray.size+r8.toArray.size<=sizeLine:=by rw[List.size_toArray,List.size_toArray];lia
   refine call_meets PySem.F.slot_list_extend (au _ p.o rfl) PySem.F.entry_list_extend (PySem.F.args_list_extend_2 _ _) (PySem.AutoSeq1.list_extend_list_list_0 a items.toArray j b r8.toArray Xr (extend_door CG) (aG (bh _ _) CG)<|Nat.le_succ_of_le CG) ⟨p.o,ck.o,?_⟩;obtain⟨j',e'⟩:=Ej items j (λz=>z++r8.toArray) (items++r8)<|by simp
   have DM:(ac.h.update a<|Obj.mapSeq λz=>z++r8.toArray).get? a=some (dq (items++r8) j'):=by rw[Heap.get?_update_self _ p.o (by rw[e'];rfl),e']
   have q:=(F.step az).GU (k:=ac.s.toks) (ys:=xs++ys) aJ hl (sy X hx) va (λb o hb e=>(Heap.get?_update_ne _ _ _ _ hb).trans e) DM<|be.append HL hv;exact fc (ac.hp _ ac.s.toks) rfl ((az.to B).trans q.1) q.2.1 .bu λ_=>q.2.2
  |_=>exact f8
def Nj(X:CxOk env cx)(ih:∀e,bY W A env (d e) e):eE W A env (Hc d cx e)<|exec (.Expr e pos) env:=by
 have oth:∀e,eE W A env (gd (nW e)<|pb d e)<|exec (.Expr e pos) env:=λe ρ σ=>eJ λh=>GP X.toEnvOk (ih e) h ρ σ;induction e using Expr.casesOn with
 |Call f es ks Ii=>
  have call:eE W A env (pb d<|.Call f es ks Ii)<|exec (.Expr (.Call f es ks Ii) pos) env:=GP X.toEnvOk (ih _) rfl;induction f using Expr.casesOn with
  |Attribute o m gx=>
   induction o using Expr.casesOn with
   |Name x gQ=>
    induction es using bx with
    |nil=>exact call
    |cons a es=>induction es using bx with
     |cons=>exact call
     |nil=>intro ρ σ;refine ph (λ_=>eJ λh=>?_) λ_=>call ρ σ;have h:=bp h;have h':=bp h.1;have yz:=bp h'.1;have h3:=bp yz.1;exact zc (List.isEmpty_iff.mp h3.1)<|Og X (ih a) h3.2 yz.2 h'.2 h.2 ρ σ
   |_=>exact call
  |_=>exact call
 |_=>exact oth _
def F5(e:yx op a b=some v)(q:∀k,Q (.int v k) {s with toks:=s.toks+1}):wpAny W.M A (inplaceOp op (.int a t)<|.int b u) Q E s:=by
 induction op with
 |Add=>cases e;exact PySem.AutoIntOps.iadd_0<|q _
 |Sub=>cases e;exact PySem.AutoIntOps.isub_0<|q _
 |_=>exact ng e
def AX(h:ow (x ρ σ) λq=>SQ W A env m ρ σ (.bu,q)):ow (bu x ρ σ)<|SQ W A env m ρ σ:=ij λq e=>bD<|h q e
def Qv(H:eS env cx)(ih:∀e,bY W A env (d e) e):eE W A env (bu<|Im d cx te op e)<|exec (.AugAssign te op e pos) env:=by
 intro ρ σ;induction te using Expr.casesOn with
 |Name x gQ=>
  refine AX<|eJ λhg=>?_;have hg:=bp hg;refine bE (P:=λq=>aU x ρ=some (.val<|.int q.1)/\q.2=σ) (bE (P:=λq=>∃l,aU x ρ=some l/\q=(l.tv,σ)) (ij λl e=>bD<|au l e rfl) λt aY k=>iE λa e=>?_) λa aY k=>?_
  ·refine aA k λl e1 e2=>?_;cases e2;clear k;induction l with
   |val v=>cases EW e;exact⟨e1,rfl⟩
   |own xs=>exact ng e
  ·obtain⟨k,rfl⟩:=k;refine bE ((ih e).t ρ aY) λt cg ay=>cN λb e2=>cN λv e3=>bD λhP=>⟨(ay hP).1,λB w R F=>?_⟩;refine aA (F.vals x _ k<|sy H.toCxOk hg.1) λu v1 v2=>?_;obtain⟨t1,rfl⟩:=v2.toI;refine wpAny_AugAssign_Name<|v1.load H.toEnvOk (o7 hg.2).2<|Po.use ((ay hP).2 B w R F) λu ac az aJ ak=>?_;obtain⟨t2,rfl⟩:=kG ak e2;refine F5 e3 λj=>Ad (w:=ac.tk _) H ((F.step az).step<|aQ.tk _ _) hg.1 λh' k' S=>?_;have s:=FR.stored (k:=k') (l:=.val<|.int v) (aJ.tk<|ac.s.toks+1) ((F.step az).step<|aQ.tk _ _) S<|.int v j;exact fc _ rfl (((az.trans<|aQ.tk _ _).to B).trans s.1) s.2.1 .bu λ_=>s.2.2.1
 |Attribute o f gQ=>refine AX ?_;show ow (ar (d o).t (λu=>ar (aS<|dY u) λu=>i5 λcl=>ar (aS<|(u4 cl f u).bind V.cw) λa=>ar (d e).t λt=>ar (aS<|cw t) λb=>ar (aS<|yx op a b) λv=>qk λc=>lH c f (.int v) u) ρ σ) _;refine bE ((ih o).t ρ σ) λt aY k₁=>cN λov e1=>sB ?_;refine cN (o:=(u4 aY.c f ov).bind V.cw) λa e2=>bE ((ih e).t ρ aY) λt' cg ay=>cN λb e3=>cN λv e4=>?_;show ow ((lH cg.c f (.int v) ov).bind λc=>some (ρ,(⟨c,cg.sc,cg.P⟩:St))) _;refine ij λc' e5=>bD λhP=>?_;have ay:=ay hP;have k₁:=k₁ ay.1;refine⟨k₁.1,λB w R F=>wpAny_AugAssign_AttributeAny<|Po.use (k₁.2 B w R F) λu ac az aJ ak=>?_⟩;refine aA (bc e2) λav e6 e7=>?_;cases uG e7;refine aA (bc e6) λz e8 e9=>?_;refine aA (zF aJ (jO ak e1) e8) λad q1 I=>?_;subst q1;refine Es aJ I e9 λu hu=>?_;obtain⟨t1,rfl⟩:=hu.toI;refine Po.use (ay.2 B (ac.tk<|ac.s.toks+1) (aJ.tk _)<|(F.step az).step<|aQ.tk _ _) λu an aN bG aC=>?_;obtain⟨t2,rfl⟩:=kG aC e3;exact F5 e4 λj=>Po.use (w:=an.tk<|an.s.toks+1) (D9 e5 (bG.tk _) (((aQ.tk _ _).trans<|aN.trans<|aQ.tk _ _).vr<|jO ak e1)<|.int v j) λ_ a9 dx eU _=>PS.of (az.trans<|(aQ.tk _ _).trans<|aN.trans<|(aQ.tk _ _).trans dx) eU F
 |_=>exact f8
def Of(Rm:dJ A)(H₀:eS env cx)(hy:gN<|aU y cx)(hsw:swapsWith (.ListComp e [⟨.Name x px,iter,ifs,0⟩] scope pos) (some<|.Name y py) XQ.line env=pure true)(CF:xB W A env e iter ifs scope x ρ σ q)(R:aI W w σ.c)(F:FR W B env ρ w):
    ∃ys,q.1=.f ys/\wpAny W.M A (exec (.Assign [.Name y py] (.ListComp e [⟨.Name x px,iter,ifs,0⟩] scope pos) XQ) env) (PS W B env w (.bu,db y (.own ys) ρ,q.2)) Ff w.s:=by
 refine wn CF λcl m xs ys cE e0 H hd hf hi T=>?_;refine au ys e0 ?_;rw[exec_Assign_Name_used _ _ _ _ hsw];refine wpAny_bind<|wpAny_standAt<|wpAny_bind ?_;show wpAny _ A (do let _<-comprehension (.ListComp e [⟨.Name x px,iter,ifs,0⟩] scope pos) scope env _ (newList []) false (eval iter env)<|some<|assign (.Name y py) env) _ _ _;refine wpAny_bind<|wpAny_mono (wpAny_comprehension_free (use:=some<|assign (.Name y py) env) (Q:=λ_ s'=>PS W B env w (.bu,db y (.own ys) ρ,q.2) .next s') rfl hf H.IE H.kind H.names ?_) (λ_ s' hq=>wpAny_pure<|wpAny_pure hq) λ_ _ e=>e;refine wpAny_mono (hi B w R F) (λxv ai cC=>Po.use cC λu ac az aJ lS=>?_) λ_ _ z=>z.elim;refine FM (RR:=λbN C=>compPost W.M A Ff (some<|assign (.Name y py) env) (λ_ s'=>PS W B env w (.bu,db y (.own ys) ρ,q.2) .next s') bN C) Rm H hd F az aJ lS T λD C an dn j m' oC fD fC ne aN bG pD v pC hn=>?_;have i6:=F.step aN;have fr:=F.um aN;show wpAny _ A (assign (.Name y py) env<|.ref D) _ _ _;refine wpAny_assign_Name<|Ad H₀ i6 hy λbW ba S=>?_;have s:=i6.stored (k:=ba) (l:=.own ys) bG S<|fA D rfl (aW dn j pD v)<|fr D fD;refine fz S.one λd hdp ext _=>?_;have ZI:C≠d:=λz=>(fr C fC).1<|z▸hdp;refine au m' (hn.at' λo e=>ext _ _ ZI e) λd9 VB=>?_;have Au:∀b o,b≠C->bW.get? b=some o->d9.get? b=some o:=λb o hb e=>VB.extBut b o hb e;have kp:∀b o,b≠C->cO (an.hp bW ba) b o->cO (an.hp d9 ba) b o:=λb o hb p=>⟨Au b o hb p.o,p.g,p.n⟩;have XK:∀z a,dj env (db y (.own ys) ρ) bW z a->a≠C:=λz a o=>(s.2.2.2 z a o).elim (λo z'=>(fr C fC).2.2 z<|z'▸o) λe z'=>ne<|Value.ref.inj<|e.1.trans<|congrArg Value.ref z';have Cz:=(FR.BL (B':=λb=>b≠C) (w:=an.hp bW ba) (w':=an.hp d9 ba) (λ_ _ e=>e) (eZ _) kp s.2.2.1 (λb hb (z:b=C)=>(fr C fC).1<|z▸hb) XK λb hb (z:b=C)=>(fr C fC).2.1<|z▸hb).1;have dx:=(aN.to B).trans s.1;have nC:∀{b o},w.h.get? b=some o->b≠C:=λe z=>nh<|(z▸e).symm.trans fC;exact fc (an.hp d9 ba) rfl ⟨dx.le,dx.pre,λb o hb p=>kp b o (nC p.o)<|dx.kp b o hb p,λb o e=>(dx.al b o e).imp λo' e'=>Au b o' (nC e) e',by have:=dx.sm;show {an.s with heap:=d9,toks:=ba}=_;exact congrArg (λs:Shared=>{s with heap:=d9,toks:=ba}) this⟩ (aI.but (w:=an.hp bW ba) s.2.1 Au pC.g pC.n) .bu λ_=>Cz
theorem PS.step(x:aQ w ac)(h:PS W B env ac q f s'):PS W B env w q f s':=h.after<|x.to B
def O5(hc:tD W A env d<|isTrue c env<|eval c env)(ha:eE W A env xa<|execs a env)(hb:eE W A env xb<|execs b env):
    eE W A env (ar d λz=>ar (iN z) λz=>bif z then xa else xb) (exec (.If c a b pos) env):=
 λρ σ=>bE (hc ρ σ) λv aY k=>qP λv' cg h1 h2=>by
  induction v' with
  |true=>exact fB (ha ρ cg) λq i hP=>⟨(k (h2 (i hP).1).2).1,λB w R F=>wpAny_If (Po.use ((k (h2 (i hP).1).2).2 B w R F) λu ac az aJ ak=>by rw[if_pos<|ak.trans (h2 (i hP).1).1];exact wpAny_mono ((i hP).2 B ac (h1.symm▸aJ)<|F.step az) (λf s' z=>z.step az) λ_ _ z=>z)⟩
  |false=>exact fB (hb ρ cg) λq i hP=>⟨(k (h2 (i hP).1).2).1,λB w R F=>wpAny_If (Po.use ((k (h2 (i hP).1).2).2 B w R F) λu ac az aJ ak=>by rw[if_neg<|Bool.not_eq_true _▸(ak.trans (h2 (i hP).1).1)];exact wpAny_mono ((i hP).2 B ac (h1.symm▸aJ)<|F.step az) (λf s' z=>z.step az) λ_ _ z=>z)⟩
def Af:∀{b:List Stmt},(∀s,eE W A env (f s)<|exec s env)->eE W A env (eN f b) (execs b env):=by
 intro b hf;induction b with
 |nil=>exact λρ σ=>bD λhP=>⟨hP,λB w R F=>wpAny_execs_nil<|fc w rfl (.refl _ _) R .bu λ_=>F⟩
 |cons s r ih=>
  intro ρ σ;show ow ((f s ρ σ).bind λq=>_) _;refine ij λq e=>?_;have k:=hf s ρ σ q e;obtain⟨fl,n9,aY⟩:=q;have stop:(∀f w',jM W w' fl f->f≠.next)->ow (some (fl,n9,aY)) (SQ W A env (execs (s::r) env) ρ σ):=λh=>bD λhP=>⟨(k hP).1,λB w R F=>wpAny_execs_cons (wpAny_mono ((k hP).2 B w R F) (λf s' z=>by
   refine i8 z λw' e1 x R' r' F'=>?_;clear z;induction f with
   |next=>exact absurd rfl<|h _ _ r'
   |_=>exact(fc w' e1 x R' r' F')) λ_ _ z=>z)⟩
  clear e;induction fl with
  |bu=>
   exact fB (ih n9 aY) λq i hP=>⟨(k (i hP).1).1,λB w R F=>wpAny_execs_cons (wpAny_mono ((k (i hP).1).2 B w R F) (λf s' z=>by refine i8 z λw' q2 x R' r' F'=>?_;clear z;subst q2;cases r';exact wpAny_mono ((i hP).2 B w' R'<|F' rfl) (λf s' z=>z.after x) λ_ _ z=>z) λ_ _ z=>z)⟩
  |brk=>exact stop λf w' h z=>by cases h;injection z
  |cnt=>exact stop λf w' h z=>by cases h;injection z
  |ret v=>exact stop λf w' h z=>by cases h;injection z
def FR.less(F:FR W B' env ρ w)(h:∀b,B b->B' b):FR W B env ρ w:=⟨F.vals,F.gb,λy a o=>⟨(F.apart y a o).1,λz=>(F.apart y a o).2<|h a z⟩,F.diff,λb hb=>⟨(F.d4 b hb).1,λz=>(F.d4 b hb).2<|h b z⟩,F.ns,F.cells,λb hb=>F.i0 b<|h b hb⟩
def FR.more(F:FR W B env ρ w)(h:∀b,B' b->B b\/(b∉fP env/\(∀y,¬dj env ρ w.h y b)/\∃o,cO w b o)):FR W B' env ρ w:=⟨F.vals,F.gb,λy a o=>⟨(F.apart y a o).1,λz=>(h a z).elim (F.apart y a o).2 λq=>q.2.1 y o⟩,F.diff,λb hb=>⟨(F.d4 b hb).1,λz=>(h b z).elim (F.d4 b hb).2 λq=>q.1 hb⟩,F.ns,F.cells,λb hb=>(h b hb).elim (F.i0 b) λq=>q.2.2⟩
def Bv(n b:Prop)(r:Value->Prop):Flow->Prop
 |.next=>n
 |.cont=>n
 |.brk=>b
 |.ret v=>r v
def D7(turn:wpAny W.M A (isTrue test env<|eval test env) (λb af=>if b=true then wpAny W.M A (execs body env) (λf aH=>Bv (codeAny W.M A (.whileLoop test body [] env) R aH) (R (.ok .next) aH) (λv=>R (.ok<|.ret v) aH) f) Ff af else R (.ok .next) af) Ff s):
    codeAny W.M A (.whileLoop test body [] env) R s:=by
 refine codeAny_of_tree ?_;show wpAny _ _ ((whileTurn test body [] env).onRaise (λx=>do noteFrame x env;theTreesLotGoes x)) _ _ s;refine wpAny_noted ?_;simp only[whileTurn];refine wpAny_bind<|wpAny_mono turn (λb af aL=>?_) λ_ _ h'=>h'.elim;induction b with
 |false=>rw[if_neg Bool.noConfusion] at aL;exact wpAny_bind<|wpAny_execs_nil<|wpAny_pure aL
 |true=>
  rw[if_pos rfl] at aL;refine wpAny_bind<|wpAny_mono aL (λf aH bW=>?_) λ_ _ h'=>h'.elim;induction f with
  |next=>exact wpAny_pure ⟨rfl,bW⟩
  |cont=>exact wpAny_pure ⟨rfl,bW⟩
  |brk=>exact wpAny_pure bW
  |ret v=>exact wpAny_pure bW
def rB(W:Wd)(A:Around)(env:Env)(t:Expr)(b:List Stmt)(ρ:Lo)(c:List O)(fl:Fl)(cj:Lo)(c':List O):Prop:=∀B w,aI W w c->FR W B env ρ w->codeAny W.M A (.whileLoop t b [] env) (λr s'=>∃f,r=.ok f/\PS W B env w (fl,cj,⟨c',[],True⟩) f s') w.s
def Ew(hL:∀ρ c fl cj c',L ρ c fl cj c'->rB W A env nF body ρ c fl cj c')(ht:tD W A env t<|isTrue nF env<|eval nF env)(hb:eE W A env xb<|execs body env):
    ∀n ρ σ,ow (nZ L t xb n ρ σ) λq=>q.2.2.P->σ.P/\rB W A env nF body ρ σ.c q.1 q.2.1 q.2.2.c:=by
 intro n;induction n with
 |zero=>exact λρ σ q e=>ng e
 |succ n ih=>
  intro ρ σ;show ow (match D2 σ.sc with
   |some q=>some (q.1,q.2.1,⟨q.2.2.1,q.2.2.2,L ρ σ.c q.1 q.2.1 q.2.2.1/\σ.P⟩)
   |none=>ar t (λz=>ar (iN z) λz=>bif z then(λρ σ=>(xb ρ σ).bind λq=>uo q.1 (nZ L t xb n q.2.1 q.2.2) (some (.bu,q.2)) λ_=>some q) else cb .bu) ρ σ) _
  cases D2 σ.sc with
  |some q=>exact bD λhP=>⟨hP.2,hL _ _ _ _ _ hP.1⟩
  |none=>
   refine bE (ht ρ σ) λv aY k=>qP λv' cg h1 h2=>?_;induction v' with
   |false=>refine bD λhP=>⟨(k (h2 hP).2).1,λB w R F=>D7<|Po.use ((k (h2 hP).2).2 B w R F) λu ac az aJ ak=>?_⟩;rw[if_neg<|Bool.not_eq_true _▸(ak.trans (h2 hP).1)];exact au .next rfl<|fc ac rfl (az.to B) (h1.symm▸aJ) .bu λ_=>F.step az
   |true=>
    show ow ((xb ρ cg).bind λq=>uo q.1 (nZ L t xb n q.2.1 q.2.2) (some (.bu,q.2)) λ_=>some q) _;refine ij λq e=>?_;have kb:=hb ρ cg q e;obtain⟨fl,n9,gK⟩:=q;have go:gK.P->σ.P/\∀B w,aI W w σ.c->FR W B env ρ w->∀{R:Result->Shared->Prop},(∀f ac,ch B w ac->aI W ac gK.c->jM W ac fl f->(fl.sU=false->FR W B env n9 ac)->Bv (codeAny W.M A (.whileLoop nF body [] env) R ac.s) (R (.ok .next) ac.s) (λv=>R (.ok<|.ret v) ac.s) f)->codeAny W.M A (.whileLoop nF body [] env) R w.s:=λhP=>
     have i:=kb hP
     ⟨(k (h2 i.1).2).1,λB w R F RR q=>D7 (Po.use ((k (h2 i.1).2).2 B w R F) λu ac az aJ ak=>by
       rw[if_pos<|ak.trans (h2 i.1).1];exact wpAny_mono (i.2 B ac (h1.symm▸aJ)<|F.step az) (λf s' z=>by refine i8 z λan q1 aN bG aM i6=>?_;clear z;subst q1;exact q f an ((az.to B).trans aN) bG aM i6) λ_ _ z=>z)⟩
    have again:fl.sU=false->(∀f w',jM W w' fl f->∀{n b r},n->Bv n b r f)->ow (nZ L t xb n n9 gK) λq=>q.2.2.P->σ.P/\rB W A env nF body ρ σ.c q.1 q.2.1 q.2.2.c:=λhr hf=>fB (ih n9 gK) λq i hP=>⟨(go (i hP).1).1,λB w R F=>(go (i hP).1).2 B w R F λf ac az aJ fT k7=>hf f ac fT<|codeAny_mono ((i hP).2 B ac aJ<|k7 hr) λr s' z=>z.imp λf z=>⟨z.1,z.2.after az⟩⟩;clear e kb;induction fl with
    |bu=>exact again rfl λf w' h n b r hn=>h.i▸hn
    |cnt=>exact again rfl λf w' h n b r hn=>h.i▸hn
    |brk=>exact bD λhP=>⟨(go hP).1,λB w R F=>(go hP).2 B w R F λf ac az aJ fT k7=>by rw[show f=.brk from fT.i];exact(au .next rfl<|fc ac rfl az aJ .bu λ_=>k7 rfl)⟩
    |ret v=>exact bD λhP=>⟨(go hP).1,λB w R F=>(go hP).2 B w R F λf ac az aJ fT k7=>aA fT.i λu eu hv=>eu▸au (.ret u) rfl (fc ac rfl az aJ (.ret hv) λz=>nk z)⟩
def Pr(hL:∀ρ c fl cj c',L ρ c fl cj c'->rB W A env nF body ρ c fl cj c')(ht:tD W A env t<|isTrue nF env<|eval nF env)(hb:eE W A env xb<|execs body env)(n:Nat):
    eE W A env (nZ L t xb n) (exec (.While nF body [] pos) env):=
 λρ σ=>fB (Ew hL ht hb n ρ σ) λq k hP=>⟨(k hP).1,λB w R F=>wpAny_While (codeAny_mono ((k hP).2 B w R F) λr s' z=>by obtain⟨f,rfl,z⟩:=z;exact z)⟩
set_option backward.match.sparseCases true in
def NU(hc:∃o n,s.heap.get? I=some o/\o.cls=.type n/\(["enumerate","zip","dict_itemiterator","dict_reverseitemiterator","odict_iterator","itertools.zip_longest","itertools.pairwise"].contains n)=false)(q:Q () s):
    wpAny W.M A (letOwnedTupleGo target (.ref I) v) Q E s:=by
 refine dW hc λo n ho hn hc=>?_;have go:∀(f:Sem Unit),f=(match(Value.ref I,v) with
  |(.ref r,.ref a)=>do
   let o<-load r
   match o.cls,o.data with
   |.type n,.fields vs=>
    if ["enumerate","zip","dict_itemiterator","dict_reverseitemiterator","odict_iterator","itertools.zip_longest","itertools.pairwise"].contains n&&vs[0]? ==some (rawInt a) then
     rule "for.unpacks-the-owned-tuple"
     updateField r 0 .none
   |_,_=>pure ()
  |_=>pure ())->wpAny W.M A f Q E s:=by
  rintro f rfl;induction v with
  |ref a=>
   refine wpAny_bind<|wpAny_load ho ?_;rw[hn];cases o.data with
   |fields vs=>dsimp only;rw[if_neg (by rw[hc,Bool.false_and];simp)];exact wpAny_pure q
   |_=>exact wpAny_pure q
  |_=>exact wpAny_pure q
 induction target using Expr.casesOn with
 |Tuple=>exact go _ (by cases v<;>rfl)
 |List=>exact go _ (by cases v<;>rfl)
 |_=>exact wpAny_pure q
def Jn(W:Wd)(A:Around)(env:Env)(te:Expr)(st:V->Xl):Prop:=∀v ρ σ,ow (st v ρ σ) λq=>q.2.P->σ.P/\∀B w u,aI W w σ.c->FR W B env ρ w->VR W w.G w.φ v u->wpAny W.M A (assign te env u) (λ_=>PA W B env w q) Ff w.s
def Qy(Rm:dJ A)(H:eS env cx)(te:Expr):Jn W A env te<|vz cx te:=by
 intro v ρ σ;induction te using Expr.casesOn with
 |Name x pos=>refine eJ λhx=>bD λhP=>⟨hP,λB w u R F hv=>?_⟩;have nw:k9 B env ρ w (.p v) u:=λb z=>z.1.elim λ_ z=>nomatch z;exact wpAny_mono ((wP (A:=A) H (λh=>wpAny_assign_Name (pos:=pos) h) hx (.p v) ρ σ _ rfl hP).2 B w w u R F hv nw) (λ_ s' z=>z.imp λw' z=>⟨z.1,z.2.1.sub<|mq.sub F nw,z.2.2.1,z.2.2.2.1⟩) λ_ _ z=>z
 |Tuple bS k pos=>exact cN (o:=iF cx bS) λxs e=>fB (EA Rm H e v ρ σ) λq k hP=>⟨(k hP).1,λB w u R F hv=>(k hP).2 B w u R F<|.of hv⟩
 |_=>exact f8
def Er{st:V->Xl}(e:n8 st b (v::r) ρ σ=some q):∃ak aC,st v ρ σ=some ak/\b ak.1 ak.2=some aC/\uo aC.1 (n8 st b r aC.2.1 aC.2.2) (some (.bu,aC.2)) (λ_=>some aC)=some q:=by refine aA (bc (show(st v ρ σ).bind _=some q from e)) λak e1 e=>?_;exact aA (bc e) λaC e2 e=>dA ak aC e1 e2 e
def zR{α:Type}{n b:Option α}{r:V->Option α}{q:α}{P:Prop}(e:uo f n b r=some q)(h1:f.sU=false->f≠.brk->n=some q->P)(h2:f=.brk->b=some q->P)(h3:∀v,f=.ret v->r v=some q->P):P:=by
 induction f with
 |bu=>exact h1 rfl nofun e
 |cnt=>exact h1 rfl nofun e
 |brk=>exact h2 rfl e
 |ret v=>exact h3 v rfl e
def FW{st:V->Xl}{b:Ex}(hs:∀v ρ σ,ow (st v ρ σ) λq=>q.2.P->σ.P)(hb:∀ρ σ,ow (b ρ σ) λq=>q.2.2.P->σ.P):∀vs ρ σ,ow (n8 st b vs ρ σ) λq=>q.2.2.P->σ.P:=by
 intro vs;induction vs with
 |nil=>exact λρ σ=>bD λh=>h
 |cons v r ih=>intro ρ σ q e hP;exact dW (Er e) λak aC e1 e2 e3=>hs v ρ σ ak e1<|hb _ _ aC e2 (zR e3 (λ_ _ e=>ih _ _ q e hP) (λ_ e=>by obtain rfl:=aE e;exact hP) λv _ e=>by cases e;exact hP)
structure FS(W:Wd)(B:Addr->Prop)(xs:List V)(P:Nat->Value->Prop)(St:Nat->Heap->Prop)(I:Addr)(ax:Option Addr)(w:Wo)(i:Nat):Prop where
 vals:∀i v,P i v->∃y,xs[i]? =some y/\VR W w.G w.φ y v
 pi:∃o,cO w I o
 st:St i w.h
 a:∀a,ax=some a->∃o,w.h.get? a=some o/\((cO w a o/\B a)\/w.G a=some o)
variable{St:Nat->Heap->Prop} in
theorem FS.step(S:FS W B xs P St I ax w i)(fr:∀i h h',St i h->(∀b∈I::ax.toList,∀o,h.get? b=some o->h'.get? b=some o)->St i h')(hI:B I)(y:ch B w w')(g:∀a o,w'.G a=some o->w'.h.get? a=some o):FS W B xs P St I ax w' i:=
 have ka:∀a,ax=some a->∃o,w.h.get? a=some o/\w'.h.get? a=some o/\((cO w' a o/\B a)\/w'.G a=some o):=λa e=>(S.a a e).imp λo q=>⟨q.1,q.2.elim (λp=>⟨(y.kp _ _ p.2 p.1).o,.inl ⟨y.kp _ _ p.2 p.1,p.2⟩⟩) λe=>⟨g _ _<|y.le _ _ e,.inr<|y.le _ _ e⟩⟩
 ⟨λi v h=>(S.vals i v h).imp λz q=>⟨q.1,y.vr q.2⟩,S.pi.imp λo p=>y.kp _ _ hI p,fr i w.h w'.h S.st λb hb o e=>(dZ hb).elim (λz=>by cases z;exact S.pi.elim λo' p=>by cases p.o.symm.trans e;exact(y.kp _ _ hI p).o)
  λhb=>(ka b (by clear S fr ka;induction ax with|none=>cases hb|some a=>cases fo hb;rfl)).elim λo' q=>by cases q.1.symm.trans e;exact q.2.1,λa e=>(ka a e).imp λo q=>q.2⟩
def TA(x:ch B n w)(R:aI W w c)(F:FR W B env ρ w)(hf:dI n b)(g:w.G b=none)(nφ:b∉w.φ.flatten)(nP:b∉fP env)(nO:∀y,¬dj env ρ w.h y b)(nB:¬B b)(ext:∀a o,a≠b->w.h.get? a=some o->h'.get? a=some o):
    ch B n (w.hp h' k)/\aI W (w.hp h' k) c/\FR W B env ρ (w.hp h' k):=
 have kp:∀a o,a≠b->cO w a o->cO (w.hp h' k) a o:=λa o ha p=>⟨ext a o ha p.o,p.g,p.n⟩;have ne:∀{a o},n.h.get? a=some o->a≠b:=λe z=>nh<|(z▸e).symm.trans hf
 ⟨⟨x.le,x.pre,λa o ha p=>kp a o (ne p.o)<|x.kp a o ha p,λa o e=>(x.al a o e).imp λo' e'=>ext a o' (ne e) e',by have:=x.sm;show {w.s with heap:=h',toks:=k}=_;exact congrArg (λs:Shared=>{s with heap:=h',toks:=k}) this⟩,R.but ext g nφ,
   (FR.BL (w:=w) (w':=w.hp h' k) (B':=λa=>a≠b) (λ_ _ e=>e) (eZ _) kp F (λa ha (z:a=b)=>nP<|z▸ha) (λy a o (z:a=b)=>nO y<|z▸o) λa ha (z:a=b)=>nB<|z▸ha).1⟩
def Qi{st:V->Xl}(hi:vh W A env d iter)(ht:Jn W A env te st)(hb:eE W A env xb<|execs body env):
    eE W A env (gd (w8 iter)<|ar (d.s 0) λvs=>n8 st xb vs) (exec (.For te iter body [] pos) env):=by
 intro ρ σ;refine eJ λhs=>bE (hi 0 ρ σ) λvs xJ k₀=>λq e hP=>?_;have pS:∀v ρ σ,ow (st v ρ σ) λq=>q.2.P->σ.P:=λv ρ σ q e hP=>(ht v ρ σ q e hP).1;have pB:∀ρ σ,ow (xb ρ σ) λq=>q.2.2.P->σ.P:=λρ σ q e hP=>(hb ρ σ q e hP).1;have k₀:=k₀<|FW pS pB vs ρ xJ q e hP;refine⟨k₀.1,λB w R F=>wpAny_For (wpAny_mono (k₀.2 B w R F) (λxv ai cC=>Po.use cC λade ac az aJ lS=>?_) λ_ _ z=>z.elim)<|EC hs env⟩;refine yE lS λI ax P St q1 fI gI nI it HY l7=>?_;clear lS;subst q1;have fr:=F.um az;have l7:∀a,ax=some a->∃o,ac.h.get? a=some o/\((cO ac a o/\dI w a)\/ac.G a=some o):=λa e=>(l7 a e).imp λo q=>⟨q.1,q.2.elim (λp=>.inl ⟨p.1,p.2.elim (λz=>absurd rfl z) id⟩) λq=>.inr<|q.elim id λz=>nomatch z⟩;let B':Addr->Prop:=λb=>B b\/b=I\/(ax=some b/\ac.G b=none);have hI:B' I:=.inr<|.inl rfl;have sub:∀b,B b->B' b:=λb hb=>.inl hb;have ZP:∀b,B b->b≠I:=λb hb z=>(fr I fI).2.1<|z▸hb;obtain⟨oI,eI⟩:=it.live _ _ HY;have k7:FR W B' env ρ ac:=(F.step az).more λb hb=>hb.imp id λhb=>hb.elim (λz=>z▸⟨(fr I fI).1,(fr I fI).2.2,oI,eI,gI,nI⟩) λz=>(l7 b z.1).elim λo q=>q.2.elim (λp=>(rx ((fr b p.2).1) ((fr b p.2).2.2) ⟨o,p.1⟩)) λe=>nomatch e.symm.trans z.2;have lS:FS W B' vs P St I ax ac 0:=⟨it.vals,⟨oI,eI,gI,nI⟩,HY,λa e=>(l7 a e).imp λo q=>⟨q.1,q.2.imp (λp=>⟨p.1,.inr<|.inr ⟨e,p.1.g⟩⟩) id⟩⟩;refine codeAny_forLoop_any (λk s'=>∃an i mA cg,s'=an.s/\k=vs.length+1-i/\i<=vs.length/\ch B w an/\aI W an cg.c/\FR W B' env mA an/\FS W B' vs P St I ax an i/\n8 st xb (vs.drop i) mA cg=some q) ?_ (vs.length+1)
  (tY ac 0 ρ xJ rfl rfl (Nat.zero_le _) (az.to B) aJ k7 lS e)
 refine λk s' o=>wq o λan i mA cg q1 q2 v6 aN bG i6 om bj=>?_;clear o;subst q1 q2;obtain⟨d8,ck⟩:=om.pi;by_cases eW:i<vs.length
 ·refine it.walks.item i _ _ _ eW om.st λu bW qN CR By A5=>?_;refine aA (om.vals _ _ CR) λxv ru wy=>?_;have ext:∀b o,b≠I->an.h.get? b=some o->bW.get? b=some o:=λb o hb e=>A5 b o (λz=>hb<|fo z) e;obtain⟨pH,cD⟩:=it.live _ _ By;have t:=xN (k:=qN) bG ck ext cD;have oT:=(i6.less (B:=λb=>B' b/\b≠I) λb h=>h.1).oT t.1 (λb hb z=>(i6.d4 b hb).2<|z▸hI) (λy a o z=>(i6.apart y a o).2<|z▸hI) λb h=>h.2;have vp:FR W B' env mA<|an.hp bW qN:=oT.1.more λb hb=>by
   by_cases z:b=I
   ·subst z;exact .inr<|rx (λhp=>(i6.d4 _ hp).2 hI) (λy o=>(i6.apart y _<|oT.2 y _ o).2 hI) ⟨_,t.2.2⟩
   ·exact .inl ⟨hb,z⟩
  have ou:FS W B' vs P St I ax (an.hp bW qN)<|i+1:=⟨λi v h=>(om.vals i v h).imp λz q=>⟨q.1,t.1.vr q.2⟩,⟨_,t.2.2⟩,By,λa e=>(om.a a e).imp λo q=>⟨ext a o (it.ne a e) q.1,q.2.imp (λp=>⟨t.1.kp _ _ (it.ne a e) p.1,p.2⟩) id⟩⟩;refine NU (it.cls _ _ By) ?_;have VX:vs.drop i=xv::vs.drop (i+1):=by rw[List.drop_eq_getElem_cons eW];rw[List.getElem?_eq_getElem eW] at ru;refine zb (aE ru) ?_;rfl
  rw[VX] at bj;refine dW (Er bj) λak aC e4 e5 e6=>?_;have UU:aC.2.2.P:=zR e6 (λ_ _ e=>FW pS pB _ _ _ q e hP) (λ_ e=>by obtain rfl:=aE e;exact hP) λv _ e=>by cases e;exact hP
  have IH:=hb ak.1 ak.2 aC e5 UU;have cL:=ht xv mA cg ak e4 IH.1;refine wpAny_mono (cL.2 B' (an.hp bW qN) u t.2.1 vp<|t.1.vr wy) (λ_ s' z=>?_) λ_ _ z=>z.elim;refine lD z λbm q2 dK kB Cz=>?_;clear z;subst q2;refine wpAny_mono (IH.2 B' bm kB Cz) (λf s' z=>?_) λ_ _ z=>z.elim;refine i8 z λeA q3 jJ tK BQ IT=>?_;clear z;subst q3;have y:=aN.trans<|(t.1.sub ZP).trans<|(dK.trans jJ).sub sub;have YA:=ou.step it.walks.frame hI (dK.trans jJ) tK.g;refine zR e6 (λhr hb e=>?_) (λhb e=>?_) λv hv e=>?_
  ·have turn:∃m,m<vs.length+1-i/\∃an i mA cg,eA.s=an.s/\m=vs.length+1-i/\i<=vs.length/\ch B w an/\aI W an cg.c/\FR W B' env mA an/\FS W B' vs P St I ax an i/\n8 st xb (vs.drop i) mA cg=some q:=(au (vs.length+1-(i+1)) (by omega)<|tY eA (i+1) aC.2.1 aC.2.2 rfl rfl eW y tK (IT hr) YA e)
   exact BQ.turn hr hb turn turn
  ·refine zb (aE e) ?_;obtain rfl:f=.brk:=(hb▸BQ:jM W _ .brk f).i;exact fc eA rfl y tK .bu λ_=>(IT<|hb▸rfl).less sub
  ·refine zb (aE e) ?_;refine aA (hv▸BQ:jM W _ (.ret v) f).i λu eu hw=>?_;subst eu;exact fc eA rfl y tK (hv.symm▸.ret hw) λz=>nk (show Fl.sU (.ret v)=false from hv▸z)
 ·cases Nat.le_antisymm v6 (Nat.not_lt.mp eW);refine it.walks.done _ _ _ om.st λbW qN A5=>?_;rw[List.drop_length] at bj;refine zb (aE bj) ?_;have y:=TA (k:=qN) aN bG (i6.less sub) fI ck.g ck.n (λz=>(i6.d4 _ z).2 hI) (λy o=>(i6.apart y _ o).2 hI) (fr I fI).2.1 λb o hb e=>A5 b o (λz=>hb<|fo z) e;exact wpAny_execs_nil<|fc (an.hp bW qN) rfl y.1 y.2.1 .bu λ_=>y.2.2
def MT(ih:∀env c,CxOk env c->∀e,XI W A env (r c e) e)(X:CxOk env c)(ρ:Lo)(σ:St):
    ow (xE r c e gs scope ρ σ) λq=>∃x px iter ifs,gs=[⟨.Name x px,iter,ifs,0⟩]/\(q.2.P->σ.P/\xB W A env e iter ifs scope x ρ σ q):=by
 induction gs using bx with
 |nil=>exact f8
 |cons g gs=>induction gs using bx with
  |cons=>exact f8
  |nil=>
   obtain⟨t,iter,ifs,a⟩:=g;induction t using Expr.casesOn with
   |Name x px=>
    exact eJ λha=>by cases beq_iff_eq.mp ha;exact fB (EF ih X ρ σ) λq k=>i41 x px iter ifs rfl k
   |_=>exact f8
def NG(X:EnvOk env)(hy:env.kindOf y=some .local)(h1:Nat.beq tp.line lp.line)(h2:(scope.names.any λp=>p.1==y&&(p.2==.local||p.2==.cell))=false)(n:Nat):
    swapsWith (.ListComp e gs scope lp) (some<|.Name y tp) n env=pure true:=by
 have hb:env.blockKind=.function:=by simp[Env.blockKind,X.kind,ScopeKind.isAnnotationScope]
 show pure (env.blockKind==.function&&env.kindOf y==some .local&&tp.line==lp.line&& !(scope.names.any λp=>p.1==y&&(p.2==.local||p.2==.cell)))=_;rw[h2,hb,hy,fy h1,beq_self_eq_true<|lp.line];rfl
def Ga(d:Expr->dC)(r:Cx->Expr->dC)(c:Cx):Prop:=∀e gs scope pos,(d<|.ListComp e gs scope pos).t=xE r c e gs scope
def N6(Rm:dJ A)(H:eS env c)(hr:Ga d r c)(ih:∀env c,CxOk env c->∀e,XI W A env (r c e) e)(hc:w5 c pos.line te e):
    eE W A env (bu<|ar (d e).t λt=>l9 d c te t) (exec (.Assign [te] e pos) env):=by
 induction te using Expr.casesOn with
 |Name y tp=>
  induction e using Expr.casesOn with
  |ListComp elt gs scope lp=>
   replace hc:(gr .local (aU y c)&& !ny y&&Nat.beq tp.line lp.line&& !(scope.names.any λp=>p.1==y&&(p.2==.local||p.2==.cell))):=hc;have hc:=bp hc;have yV:=bp hc.1;have zk:=bp yV.1;have hy:=iU zk.1;have own:gN<|aU y c:=by rw[hy];rfl
   intro ρ σ;rw[hr];refine AX<|bE (MT ih H.toCxOk ρ σ) λt aY k=>?_;obtain⟨x,px,iter,ifs,rfl,k⟩:=k;refine eJ λ_=>λq e hP=>?_;have hs:=NG (e:=elt) (gs:=[⟨.Name x px,iter,ifs,0⟩]) (scope:=scope) H.toEnvOk (H.kd _ _ hy) yV.2 (u6 hc.2) pos.line;have p:aY.P/\∀ys,t=.f ys->q=(db y (.own ys) ρ,aY):=by
    clear k;induction t with
    |f ys=>replace e:(bif ny y then oy true (.f ys) λv=>kW y (.val v) else kW y (.own ys)) ρ aY=some q:=e;rw[u6 zk.2] at e;obtain rfl:=aE e;exact⟨hP,λzs z=>by cases z;rfl⟩
    |p v=>cases e;exact⟨hP,λ_ z=>nomatch z⟩
    |b xs=>exact ng e
   refine⟨(k p.1).1,λB w R F=>?_⟩;obtain⟨ys,e1,m⟩:=Of Rm H own hs (k p.1).2 R F;exact zc (p.2 ys e1) m
  |_=>exact nj hc
 |_=>exact nj hc
def Xs(h:(a||b)):a=true\/b=true:=(Bool.or_eq_true a b).mp h
def QH(Rm:dJ A)(H:eS env c)(hr:Ga d r c)(Dl:∀env c,CxOk env c->∀e,XI W A env (r c e) e)(ih:∀e,bY W A env (d e) e):
    eE W A env (bu<|IC d c te e pos.line) (exec (.Assign [te] e pos) env):=by
 have one:eE W A env (bu<|gd (nW e||w5 c pos.line te e)<|ar (d e).t λt=>l9 d c te t)<|exec (.Assign [te] e pos) env:=λρ σ=>by
  induction q:nW e||w5 c pos.line te e with
  |false=>exact f8
  |true=>exact(Xs q).elim (λh=>E8 H ih h ρ σ) λh=>N6 Rm H hr Dl h ρ σ
 induction te using Expr.casesOn with
 |Tuple bS k p=>clear one;induction e using Expr.casesOn with
  |Tuple vs k' p'=>exact Ox Rm H ih
  |_=>exact Oj Rm H ih
 |_=>exact one
def r9(h:∀ρ σ,x ρ σ=none):eE W A env x m:=λρ σ q e=>ng<|(h ρ σ).symm.trans e
def Gy(HC:sC W A fa C)(H:eS env c)(hL:∀t b pos ρ c fl cj c',L (.While t b [] pos) ρ c fl cj c'->rB W A env t b ρ c fl cj c'):∀n s,eE W A env (xn C L c n s)<|exec s env:=by
 intro n;have Rm:=HC.room;have Dl:=xk HC 29;have ih:=λe=>(xk HC 30 env c H.toCxOk e).x;have ihi:=λe=>(xk HC 30 env c H.toCxOk e).i;induction n with
 |zero=>exact λs=>r9 λ_ _=>rfl
 |succ n rec=>
  intro s;have ex:∀b,eE W A env (eN (xn C L c n) b)<|execs b env:=λb=>Af rec;induction s using Stmt.casesOn with
  |Expr e pos=>exact Nj H.toCxOk ih
  |Assign ts e pos=>induction ts using bx with
   |nil=>exact r9 λ_ _=>rfl
   |cons te ts=>induction ts using bx with
    |nil=>exact QH Rm H (r:=dn C 29) (λ_ _ _ _=>rfl) Dl ih
    |cons=>exact r9 λ_ _=>rfl
  |AugAssign te op e pos=>exact Qv H ih
  |If q a b pos=>exact O5 (ih q).b (ex a)<|ex b
  |While q b o pos=>induction o using bx with
   |nil=>exact Pr (hL q b pos) (ih q).b (ex b) 1000
   |cons=>exact r9 λ_ _=>rfl
  |For te e b o pos=>induction o using bx with
   |nil=>exact Qi (ihi e) (Qy Rm H te)<|ex b
   |cons=>exact r9 λ_ _=>rfl
  |Return e pos=>induction e with
   |none=>exact ON
   |some e=>exact QS<|ih e
  |Break pos=>exact Qa
  |Continue pos=>exact QG
  |_=>exact r9 λ_ _=>rfl
def Mv:∀{names:List Str} {us:List Value},names.length=us.length->∀n∈names,((names.zip us).lookup n).isSome=true:=by
 intro names;induction names with
 |nil=>exact λ_ n h=>nomatch h
 |cons a r ih=>
  intro us hl n h;induction us using bx with
  |nil=>injection hl
  |cons u us=>
   rw[List.zip_cons_cons,List.lookup_cons];induction e:n==a with
   |true=>rfl
   |false=>exact(dZ h).elim (λz=>absurd z<|beq_eq_false_iff_ne.mp e)<|ih (Nat.succ.inj hl) n
def LQ:∀{names:List Str} {us:List Value},names.length=us.length->names.Nodup->names.filterMap (λn=>((names.zip us).lookup n).map (n,·))=names.zip us:=by
 intro names;induction names with
 |nil=>exact λ_ _=>rfl
 |cons a r ih=>
  intro us hl hn;induction us using bx with
  |nil=>injection hl
  |cons u us=>
   have hn:=List.nodup_cons.mp hn;have ih:=ih (Nat.succ.inj hl) hn.2;have key:∀l:List Str,(∀n∈l,n≠a)->l.filterMap (λn=>(((a::r).zip<|u::us).lookup n).map (n,·))=l.filterMap (λn=>((r.zip us).lookup n).map (n,·)):=by
    intro l hl;induction l with
    |nil=>rfl
    |cons n l ihl=>rw[List.filterMap_cons,List.filterMap_cons,ihl λm hm=>hl m<|.tail _ hm,List.zip_cons_cons,List.lookup_cons,beq_eq_false_iff_ne.mpr<|hl n<|.head _]
   rw[List.filterMap_cons,key r λn hm z=>hn.1<|z▸hm,ih,List.zip_cons_cons,List.lookup_cons,beq_self_eq_true];rfl
def GJ{α:Type}{t e y:α}(h:¬c)(h2:e=y): @ite α c d t e=y:=(if_neg h).trans h2
def NP{α β γ:Type}{l:List α}{b:β}{f:α->β->Sem (ForInStep β)}{g:β->Sem γ}{y:Sem γ}(h:l=[])(h2:g b=y):(forIn l b f>>=g)=y:=by subst h;exact h2
def MZ{α:Type}{p:α->Bool}{l:List α}(k:Nat)(h:∀x∈l,p x=false):¬(!(List.filter p<|List.take k l).isEmpty)=true:=by rw[List.filter_eq_nil_iff.mpr λx m=>Bool.eq_false_iff.mp<|h x<|List.mem_of_mem_take m];nofun
def LZ{α β:Type}{l:List α}(k:Nat):l.zip (List.drop k ([]:List β))=[]:=(congrArg _ List.drop_nil).trans List.zip_nil_right
def bp0{fd:FuncData}{names:List Str}{us:List Value}(hl:names.length=us.length)(hn:names.Nodup){args:List Arg}(e:args.map (·.arg)=names):bindArgs {fd with params:=⟨[],args,none,[],[],none,[]⟩,defaults:=.none} ⟨us,[]⟩=pure (names.zip us):=by subst e;exact GJ (λh=>Nat.lt_irrefl _<|hl▸of_decide_eq_true (cK h).1)<|GJ (MZ _ λn m=>Option.isNone_eq_false_iff.mpr<|Mv hl n m)<|NP (LZ _)<|congrArg (pure:List (Str×Value)->Sem _)<|(congrArg (List.filterMap _)<|List.append_nil _).trans<|LQ hl hn
def LL{fd:FuncData}(hp:fd.params=⟨[],args,none,[],[],none,[]⟩)(hd:fd.defaults=.none)(hn:(args.map (·.arg)).Nodup)(hl:args.length=us.length):
    bindArgs fd ⟨us,[]⟩=pure ((args.map (·.arg)).zip us):=
 (congrArg (bindArgs · _) (show fd={fd with params:=_,defaults:=_} from hp▸hd▸rfl)).trans (bp0 ((List.length_map _).trans hl) hn rfl)
def LS(x:Str):∀(names:List<|Str×NameKind) (n:Nat) (bN:List<|Str×Addr),(bN.lookup x).isSome=true->((cellsFrom n names bN).lookup x).isSome=true:=by
 intro names;induction names with
 |nil=>exact λ_ _ h=>h
 |cons p r ih=>
  intro n bN h;unfold cellsFrom;split
  ·refine ih _ _ ?_;rw[List.lookup_cons];split
   ·rfl
   ·exact h
  ·exact ih _ _ h
def zC:∀(names:List<|Str×NameKind) (n:Nat) (bN:List<|Str×Addr),names.lookup x=some .cell->((cellsFrom n names bN).lookup x).isSome=true:=by
 intro names;induction names with
 |nil=>exact λ_ _ h=>nomatch h
 |cons p r ih=>
  intro n bN h;obtain⟨a,k⟩:=p;rw[List.lookup_cons] at h;unfold cellsFrom;induction q:x==a with
  |true=>rw[q] at h;refine zc (aE h) ?_;rw[if_pos<|by rfl];refine LS x r _ _ ?_;rw[List.lookup_cons,q];rfl
  |false=>
   rw[q] at h;split
   ·exact ih _ _ h
   ·exact ih _ _ h
theorem MU:∀{l:List<|Str×Value} {m:Str->Option Value},x∉l.map (·.1)->PySem.bindL kf l m x=m x:=by
 intro l;induction l with
 |nil=>exact λ_=>rfl
 |cons p r ih=>
  intro m h;obtain⟨n,v⟩:=p;have h:=not_or.mp λz=>h<|List.mem_cons.mpr z;unfold PySem.bindL;rw[ih h.2];split
  ·exact if_neg h.1
  ·rfl
theorem M3:∀{l:List<|Str×Value} {m:Str->Option Value},x∉l.map (·.1)->bindC kf l m x=m x:=by
 intro l;induction l with
 |nil=>exact λ_=>rfl
 |cons p r ih=>
  intro m h;obtain⟨n,v⟩:=p;have h:=not_or.mp λz=>h<|List.mem_cons.mpr z;unfold bindC;rw[ih h.2];split
  ·rfl
  ·exact if_neg h.1
def NX:∀{l:List<|Str×Value} {m:Str->Option Value},(l.map (·.1)).Nodup->(x,u)∈l->kf x=some .local->PySem.bindL kf l m x=some u:=by
 intro l;induction l with
 |nil=>exact λ_ h=>nomatch h
 |cons p r ih=>
  intro m hn h hk;have hn:=List.nodup_cons.mp hn;rcases dZ h with e|g
  ·subst e;unfold PySem.bindL;rw[MU hn.1,if_pos hk];exact if_pos rfl
  ·obtain⟨n,v⟩:=p;unfold PySem.bindL;exact ih hn.2 g hk
theorem Oh:∀{l:List<|Str×Value} {m:Str->Option Value},(l.map (·.1)).Nodup->(x,u)∈l->kf x≠some .local->bindC kf l m x=some u:=by
 intro l;induction l with
 |nil=>exact λ_ h=>nomatch h
 |cons p r ih=>
  intro m hn h hk;have hn:=List.nodup_cons.mp hn;rcases dZ h with e|g
  ·subst e;unfold bindC;rw[M3 hn.1,if_neg hk];exact if_pos rfl
  ·obtain⟨n,v⟩:=p;unfold bindC;exact ih hn.2 g hk
def ac2:∀{names:List<|Str×NameKind} {n:Nat} {bN:List<|Str×Addr},x∈cellsFrom n names bN->x∈bN\/x.1∈names.map (·.1):=by
 intro names;induction names with
 |nil=>exact λh=>.inl h
 |cons p r ih=>
  intro n bN h;unfold cellsFrom at h;split at h
  ·exact(ih h).elim (λh=>(dZ h).elim (λz=>.inr<|z▸.head _) .inl) λh=>.inr<|.tail _ h
  ·exact(ih h).imp_right λz=>.tail _ z
def LF:∀{names:List<|Str×NameKind} {n:Nat} {bN:List<|Str×Addr},(names.map (·.1)).Nodup->(bN.map (·.1)).Nodup->(∀p∈bN,p.1∉names.map (·.1))->((cellsFrom n names bN).map (·.1)).Nodup:=by
 intro names;induction names with
 |nil=>exact λ_ h _=>h
 |cons q r ih=>
  intro n bN hn ha hd;have hn:=List.nodup_cons.mp hn;unfold cellsFrom;split
  ·exact ih hn.2 (List.nodup_cons.mpr ⟨λz=>(List.mem_map.mp z).elim λp hp=>hd p hp.1<|hp.2▸.head _,ha⟩) λp hp=>(dZ hp).elim (λz=>z▸hn.1) λhp z=>hd p hp<|.tail _ z
  ·exact ih hn.2 ha λp hp z=>hd p hp<|.tail _ z
def M4(e:pw (x::ps) (v::vs)=some ρ):∃l,pw ps vs=some l/\ρ=(x,.val v)::l:=by exact aA (bc (show(pw ps vs).bind (λl=>some<|(x,LV.val v)::l)=some ρ from e)) λl h1 h2=>au l h1<|(aE h2).symm
set_option tactic.hygienic true in
def M2:∀{ps:List Str} {vs:List V} {us:List Value} {ρ:Lo},pw ps vs=some ρ->be W G φ vs us->ps.length=us.length/\∀x l,aU x ρ=some l->∃v u,l=.val v/\x∈ps/\(x,u)∈ps.zip us/\VR W G φ v u:=by
 intro ps;induction ps with
 |nil=>
  intro vs us ρ e h;induction vs using bx with
  |nil=>refine zb (aE e) ?_;cases h;exact⟨rfl,λ_ _ h=>nomatch h⟩
  |cons=>exact ng e
 |cons p ps ih=>
  intro vs us ρ e h;induction vs using bx with
  |nil=>exact ng e
  |cons v vs=>
   refine aA (M4 e) λl e1 q1=>?_;refine zc q1 ?_;cases h with|cons hv r=>
   rename_i u us;obtain⟨i1,i2⟩:=ih e1 r;refine⟨congrArg (· +1) i1,λx l' h=>?_⟩;replace h:(bif nq p x then some (LV.val v) else aU x l)=some l':=h;induction q:nq p x with
   |true=>rw[q] at h;refine zb (aE h) ?_;exact zb (gJ.mp q)<|t6 v u rfl (.head _) (.head _) hv
   |false=>rw[q] at h;exact wG (i2 x l' h) λv' u' j1 j2 j3 j4=>t6 v' u' j1 (.tail _ j2) (.tail _ j3) j4
variable{A:Around} in
def Gj(O:yn W (fa f) fn fd args)(u3:A.depth<recursionLimit)(hρ:pw fn.ps vs=some ρ){σ:St}(hr:vi q=some (v,σ'))(hb:∀L,eS (callEnvC fd L<|fa f) fn.kd->∀B w,aI W w σ.c->FR W B (callEnvC fd L<|fa f) ρ w->wpAny W.M (A.deeper<|callEnvC fd L<|fa f) (execs fn.body<|callEnvC fd L<|fa f) (PS W B (callEnvC fd L<|fa f) w q) Ff w.s):rR W A (fa f) vs σ.c v σ'.c:=by
 intro w us R oL;refine aA O.obj λo ho W7=>?_;refine J7 O.code λca oc cvs t yV zk hc3 ZJ=>?_;have g0:=R.vD;obtain⟨kc,xy⟩:=M2 hρ oL;have hnd:(args.map (·.arg)).Nodup:=O.names▸O.C7;have HR:=LL (us:=us) O.params O.dflt hnd (by rw[<-O.names,List.length_map] at kc;exact kc);rw[O.names] at HR;have YN:∀x∈fn.ps.zip us,x.1∈fn.ps:=λx hx=>(List.of_mem_zip hx).1;have I6:∀x∈fn.ps,fd.scope.names.lookup x=some .local\/fd.scope.names.lookup x=some .cell:=λx hx=>O.kd.symm▸O.loc x hx;refine codeAny_call_cells u3 (g0 _ _ ho) W7 (Y.nolimit _ g0) (wj ca oc cvs t yV (g0 _ _ zk) hc3 ZJ) O.body HR O.JB (λx hx=>?_) (λai X=>?_) O.co O.gen O.kind
 ·exact(I6 _<|YN x hx).imp id λh=>⟨h,zC _ _ _ h⟩
 ·have F9:((callEnvC fd w.s.heap.objs.size<|fa f).cells.map (·.1)).Nodup:=LF (O.kd.symm▸O.nd) .nil λ_ h=>nomatch h;have K9:((callEnvC fd w.s.heap.objs.size<|fa f).cells.map (·.2)).Nodup:=by have:∀{l:List<|Str×Addr},l.Pairwise (λx y=>x.2≠y.2)->(l.map (·.2)).Nodup:=λh=>List.pairwise_map.mpr h;exact this X.apart
  have fe:eS (callEnvC fd w.s.heap.objs.size<|fa f) fn.kd:=by
   refine {kind:=O.kind,glob:=O.glob,blt:=O.blt,kd:=λy q e=>?_,cl:=λy e=>?_,pn:=?_}
   ·show fd.scope.names.lookup y=_;rw[O.kd,<-oY];exact e
   ·refine Option.isSome_iff_exists.mp (zC _ _ _ ?_);rw[O.kd,<-oY];exact e
   ·refine List.nodup_cons.mpr ⟨λz=>?_,K9⟩;exact aA (List.mem_map.mp z) λp hp e=>Nat.lt_irrefl _<|e▸X.above p.1 p.2 hp
  have oR:=hb w.s.heap.objs.size;have kinds:∀x∈fn.ps,(callEnvC fd w.s.heap.objs.size<|fa f).kindOf x=some .local\/(callEnvC fd w.s.heap.objs.size<|fa f).kindOf x=some .cell:=I6;have cls:∀x,(callEnvC fd w.s.heap.objs.size<|fa f).kindOf x=some .cell->∃a,(callEnvC fd w.s.heap.objs.size<|fa f).cells.lookup x=some a:=λx h=>Option.isSome_iff_exists.mp<|zC _ _ _ h
  generalize callEnvC fd w.s.heap.objs.size (fa f)=env at X F9 K9 fe oR kinds cls
  refine bJ X.done λcC tk q2 hk=>?_;subst q2;have fr:∀a∈fP env,dI w a:=λa ha=>by
   have:w.s.heap.objs.size<=a:=by
    rcases dZ ha with rfl|ha
    ·exact X.toInCall.fresh
    ·refine aA (List.mem_map.mp ha) λp hp q3=>?_;subst q3;exact Nat.le_of_lt<|eP X.toInCall.fresh<|X.above p.1 p.2 hp
   unfold dI Heap.get?;simp[Array.getElem?_eq_none this]
  have az:=aQ.grown (k:=tk) hk;have HI:∀p∈env.cells,cC.IsCell p.2<|bindC env.kindOf (fn.ps.zip us) (λ_=>none) p.1:=λp hp=>X.cell _ _<|lookup_of_mem_nodup F9 hp;have bn:((fn.ps.zip us).map (·.1)).Nodup:=by rw[List.map_fst_zip<|Nat.le_of_eq kc];exact O.C7
  have F:FR W (λb=>∃o,cO w b o) env ρ<|w.hp cC tk:={
   vals:=λx v e hi=>by
    refine wG (xy x _ e) λv' u e1 hx hm hv=>?_;cases e1;refine au u ?_ hv;rcases kinds x hx with hl|hl
    ·exact .inl ⟨hl,(au _ X.toInCall.ns<|NX bn hm hl)⟩
    ·obtain⟨cc,Jw⟩:=cls _ hl;refine .inr ⟨.inl hl,(au cc Jw ?_)⟩;have:=X.cell _ _ Jw;rw[Oh bn hm (by rw[hl];decide)] at this;exact this
   gb:=λx xs e hi=>by refine bJ (xy x _ e) λv' u e1 _=>?_;injection e1
   apart:=λx a o=>by obtain⟨⟨xs,e⟩,_⟩:=o;refine bJ (xy x _ e) λv' u e1 _=>?_;injection e1
   diff:=λx y a o _=>by obtain⟨⟨xs,e⟩,_⟩:=o;refine bJ (xy x _ e) λv' u e1 _=>?_;injection e1
   d4:=λb hb=>by
    have n:=R.fresh<|fr b hb;refine⟨?_,λz=>z.elim λo p=>nomatch p.o.symm.trans (fr b hb)⟩;rcases dZ hb with rfl|hb
    ·exact gz X.toInCall.ns λo _ _ ho _=>⟨o,ho,n.1,n.2⟩
    ·refine aA (List.mem_map.mp hb) λp hp q4=>?_;subst q4;exact aA (HI p hp) λo ho _=>⟨o,ho,n.1,n.2⟩
   ns:=⟨_,X.toInCall.ns⟩
   cells:=λp hp=>⟨_,HI p hp⟩
   i0:=λb hb=>hb.imp λo p=>az.keep p}
  refine wpAny_mono (oR fe _ (w.hp cC tk) (R.grown hk) F) (λfl s' z=>?_) λ_ _ z=>z.elim;refine i8 z λan q5 aN bG r _=>?_;clear z;subst q5;have x:aQ w an:=⟨λb o e=>aN.le b o e,aN.pre,λb o _ p=>aN.kp b o ⟨o,p⟩<|az.keep p,λb o e=>(az.al b o e).elim λo' e'=>aN.al b o' e',by rw[aN.sm]⟩;obtain⟨Vd,W5,xJ⟩:=q;clear hb oR;induction Vd with
  |bu=>obtain⟨rfl,rfl⟩:=Prod.mk.inj (aE hr);obtain rfl:fl=.next:=r.i;exact au _ rfl<|Po.mk x bG .none
  |ret v=>obtain⟨rfl,rfl⟩:=Prod.mk.inj (aE hr);refine aA r.i λu eu h=>?_;subst eu;exact au _ rfl<|Po.mk x bG h
  |_=>exact ng hr
def d0(cx:Cx):Expr->dC
 |.Name x _=>df<|pj cx x
 |.Constant q _ _=>df<|aS<|(tu q).bind λv=>some<|.p v
 |_=>gE
def Tt(X:CxOk env cx)(e:Expr):bY W A env (d0 cx e) e:=by
 induction e using Expr.casesOn with
 |Name x pos=>exact gH (zU X) λ_=>rfl
 |Constant q k pos=>exact gH FP λ_=>rfl
 |_=>exact z9
def vE(cx:Cx)(ρ:Lo):Expr->Option V
 |.Name x _=>bK (gV x&&oH (aU x cx))<|(aU x ρ).bind λl=>dY l.tv
 |.Constant q _ _=>tu q
 |_=>none
theorem GO{α β:Type}{a:M α}{f:α->Lo->St->Option β}{x:α}(h:a ρ σ=some (x,aY)):ar a f ρ σ=f x ρ aY:=by unfold ar;rw[h];rfl
theorem FO(h1:gV x)(h2:oH<|aU x cx)(e:aU x ρ=some l):pj cx x ρ σ=some (l.tv,σ):=by unfold pj gd BS;rw[h1];show(bif oH (aU x cx) then(aU x ρ).bind _ else _)=_;rw[h2,e];rfl
def VP(h:vE cx ρ e=some v):(d0 cx e).t ρ σ=some (.p v,σ)/\nW e=true:=by
 induction e using Expr.casesOn with
 |Name x p=>have h:=cW (show bK (gV x&&oH (aU x cx)) ((aU x ρ).bind λl=>dY l.tv)=some v from h);exact aA (bc h.2) λl e1 e2=>⟨uA e2▸FO (bp h.1).1 (bp h.1).2 e1,rfl⟩
 |Constant q k p=>exact⟨by show((tu q).bind _).bind _=_;rw[show tu q=some v from h];rfl,rfl⟩
 |_=>exact ng h
def Bu(cx:Cx)(ρ:Lo)(fs:List<|Str×V):Stmt->Option (List<|Str×V)
 |.Assign ts e _=>(match ts with
  |[te]=>(match te with
   |.Attribute o f _=>(match o with
    |.Name x _=>bK (nq x "self"&&oH (aU x cx)&& !ny f&&gn 0 f&&dF fs.length 100)<|(vE cx ρ e).bind λv=>some<|db f v fs
    |_=>none)
   |_=>none)
  |_=>none)
 |_=>none
def xG(cx:Cx)(ρ:Lo):List Stmt->List (Str×V)->Option (List<|Str×V)
 |[],fs=>some fs
 |s::r,fs=>(Bu cx ρ fs s).bind<|xG cx ρ r
theorem MI(h:(gn 0 f&&dF fs.length 100)):lH (c++[.inst 0 fs]) f v (.ptr c.length)=some (c++[.inst 0<|db f v fs]):=by
 have e:jG (c++[.inst 0 fs]) c.length=some (0,fs):=by unfold jG;rw[List.getElem?_append_right<|aV _,Nat.sub_self];rfl
 show(jG (c++[.inst 0 fs]) c.length).bind _=_;rw[e];show bK (gn 0 f&&dF fs.length 100) (some<|(c++[O.inst 0 fs]).set c.length<|.inst 0<|db f v fs)=_;rw[h,List.set_append_right _ _<|aV _,Nat.sub_self];rfl
abbrev c0(c:List O)(fs:List<|Str×V):St:=⟨c++[.inst 0 fs],[],True⟩
def MQ(H:eS env cx)(hs:aU (Str.ofString "self") ρ=some (.val<|.ptr c.length))(e:Bu cx ρ fs s=some qg):SQ W A env (exec s env) ρ (c0 c fs) (.bu,ρ,c0 c qg):=by
 induction s using Stmt.casesOn with
 |Assign ts e' pos=>induction ts using bx with
  |nil=>exact ng e
  |cons te ts=>induction ts using bx with
   |cons=>exact ng e
   |nil=>induction te using Expr.casesOn with
    |Attribute o f gx=>induction o using Expr.casesOn with
     |Name x gQ=>
      have h:=cW (show bK (nq x "self"&&oH (aU x cx)&& !ny f&&gn 0 f&&dF fs.length 100) ((vE cx ρ e').bind λv=>some<|db f v fs)=some qg from e);refine aA (bc h.2) λv e1 e2=>?_;refine zb (aE e2) ?_;have h1:=bp h.1;have h2:=bp h1.1;have h3:=bp h2.1;have h4:=bp h3.1;cases gJ.mp h4.1;have ev:=VP (σ:=c0 c fs) e1;refine E8 H (Tt H.toCxOk) (te:=.Attribute (.Name (Str.ofString "self") gQ) f gx) ev.2 ρ (c0 c fs) (.bu,ρ,c0 c<|db f v fs) ?_;have st:l9 (d0 cx) cx (.Attribute (.Name (Str.ofString "self") gQ) f gx) (.p v) ρ (c0 c fs)=some (ρ,c0 c<|db f v fs):=by show oy (ny f) (.p v) (λv=>ar (pj cx<|Str.ofString "self") λu=>ar (aS<|dY u) λu=>qk λc=>lH c f v u) ρ (c0 c fs)=_;rw[u6 h3.2];show ar (pj cx<|Str.ofString "self") (λu=>ar (aS<|dY u) λu=>qk λc=>lH c f v u) ρ (c0 c fs)=_;rw[GO<|FO (by decide+kernel) h4.2 hs];show(lH (c++[.inst 0 fs]) f v<|.ptr c.length).bind _=_;rw[MI<|(cS _ _).mpr ⟨h2.2,h1.2⟩];rfl
      unfold bu;rw[GO ev.1,st];rfl
     |_=>exact ng e
    |_=>exact ng e
 |_=>exact ng e
def Nl(H:eS env cx)(hs:aU (Str.ofString "self") ρ=some (.val<|.ptr c.length)):∀{b:List Stmt} {fs qg:List<|Str×V},xG cx ρ b fs=some qg->∀B w,aI W w (c++[.inst 0 fs])->FR W B env ρ w->wpAny W.M A (execs b env) (PS W B env w (.bu,ρ,c0 c qg)) Ff w.s:=by
 intro b;induction b with
 |nil=>intro fs qg e B w R F;exact zb (aE e)<|wpAny_execs_nil<|fc w rfl (.refl _ _) R .bu λ_=>F
 |cons s r ih=>intro fs qg e B w R F;refine aA (bc (show(Bu cx ρ fs s).bind (xG cx ρ r)=some qg from e)) λadg e1 e2=>?_;refine wpAny_execs_cons<|wpAny_mono ((MQ H hs e1 trivial).2 B w R F) (λf s' z=>?_) λ_ _ z=>z;refine i8 z λac q1 az aJ fT k7=>?_;clear z;subst q1;cases fT;exact wpAny_mono (ih e2 B ac aJ<|k7 rfl) (λf s' z=>z.after az) λ_ _ z=>z
def OF(n:Nat)(k l p:V):(mT 0<|Str.ofString "__init__").bind (λf=>(oM f).bind λfn=>(pw fn.ps [.ptr n,k,l,p]).bind λρ=>(xG fn.kd ρ fn.body []).bind λfs=>some (f,aU (Str.ofString "self") ρ,fs))=some (1088,some<|LV.val<|.ptr n,([("kind",k),("line",l),("parts",p),("scope",.none)]:List<|Str×V)):=by ext
def Nn:mT 0 (Str.ofString "__init__")=some 1088:=by ext
def OV(u3:∀a,(A.under<|.builtin "type.__call__" a).depth<recursionLimit):Aw W A fa:=by intro f hf c k l p a;have r:=OF c.length k l p;rw[hf] at r;refine aA (bc (show(oM f).bind _=some _ from r)) λfn e1 r=>?_;refine aA (bc r) λρ e2 r=>?_;refine aA (bc r) λfs e3 r=>?_;refine cX (Y.defs f fn e1) λfd args O=>?_;have hs:aU (Str.ofString "self") ρ=some (.val<|.ptr c.length):=congrArg (λq=>q.2.1)<|aE r;have hfs:fs=([("kind",k),("line",l),("parts",p),("scope",.none)]:List<|Str×V):=congrArg (λq=>q.2.2)<|aE r;subst hfs;exact Gj O (u3 a) e2 (σ:=c0 c []) (q:=(.bu,ρ,c0 c _)) (v:=.none) (σ':=c0 c _) rfl λL H B w R F=>Nl H hs e3 B w R F
def D4(b:Args):(Code.builtin "type.__call__" b).weight<=1/\(Code.builtin "type.__call__" b).cUnits=1:=by
 have f0:(Code.builtin "type.__call__" b).frames=0:=rfl;have g0:(Code.builtin "type.__call__" b).isGuard=false:=by simp only[Code.isGuard];decide
 have c0:(Code.builtin "type.__call__" b).isCaller=false:=rfl;refine⟨?_,?_⟩
 ·unfold Code.weight;rw[f0,g0,c0];split<;>simp
 ·show 1+3*(Code.builtin "type.__call__" b).frames=1;rw[f0]
def gO.room(R:gO d A):dJ A:=⟨R.hd,by have:=R.un;lia⟩
def gO.deeper(R:gO (d+1) A)(env:Env):gO d (A.deeper env) where
 hd:=R.hd
 dep:=by have:=R.dep;show A.depth+1+2*d+4<=_;lia
 un:=by have:=R.un;show A.units+3+10*d+1100<=_;lia
def gO.under(h:gO (d+1) A)(env:Env)(b:Args):gO d ((A.deeper env).under<|.builtin "type.__call__" b) where
 hd:=h.hd
 dep:=by have:=h.dep;have h:=(D4 b).1;show A.depth+1+(Code.builtin "type.__call__" b).weight+2*d+4<=_;lia
 un:=by have:=h.un;have h:=(D4 b).2;show A.units+3+(Code.builtin "type.__call__" b).cUnits+10*d+1100<=_;lia
def gO.less(R:gO d A)(h:e<=d):gO e A:=⟨R.hd,by have:=R.dep;lia,by have:=R.un;lia⟩
def Sp(d:Nat):Di:=λf vs c v c'=>∀A,gO d A->rR W A (fa f) vs c v c'
def H3(d:Nat)(A:Around):Prop:=gO d A/\∀a,gO d<|A.under<|.builtin "type.__call__" a
def Sl(d:Nat)(cx:Cx):Stmt->Lp
 |.While t b o _=>λρ c fl cj c'=>o=[]/\∀A env,H3 d A->eS env cx->rB W A env t b ρ c fl cj c'
 |_=>λ_ _ _ _ _=>False
theorem Sp.mono(h:d<=e)(s:Sp d f vs c v c'):Sp e f vs c v c':=λA R=>s A<|R.less h
def EX(hd:gO d A)(hg:mI W A fa g):mI W A fa<|BO (Sp d) g:=by
 intro f vs σ;obtain⟨c,sc,P⟩:=σ;induction sc using bx with
 |nil=>exact hg f vs ⟨c,[],P⟩
 |cons a r=>induction a with
  |call n h v c'=>
   show ow (bif Nat.beq f h then(match n with
    |0=>some (v,(⟨c',r,Sp d f vs c v c'/\P⟩:St))
    |n+1=>g f vs ⟨c,.call n h v c'::r,P⟩) else g f vs ⟨c,.call n h v c'::r,P⟩) _
   refine ph (λ_=>?_) λ_=>hg f vs ⟨c,.call n h v c'::r,P⟩;induction n using Nat.casesAuxOn with
   |zero=>exact bD λhP=>⟨hP.2,hP.1 A hd⟩
   |succ n=>exact hg f vs ⟨c,.call n h v c'::r,P⟩
  |_=>exact hg f vs ⟨c,_::r,P⟩
def Mq(O:yn W (fa f) fn fd args):∃env,eS env fn.kd:=by
 refine⟨{callEnvC fd 0 (fa f) with cells:=(fn.kd.map (·.1)).zipIdx 1},{kind:=O.kind,glob:=O.glob,blt:=O.blt,kd:=λy q e=>?_,cl:=λy e=>?_,pn:=?_}⟩
 ·show fd.scope.names.lookup y=_;rw[O.kd,<-oY];exact e
 ·have key:∀(l:List Str) (n:Nat),y∈l->∃a,(l.zipIdx n).lookup y=some a:=by
   intro l;induction l with
   |nil=>exact λ_ h=>nomatch h
   |cons z r ih=>
    intro n h;rw[List.zipIdx_cons,List.lookup_cons];induction q:y==z with
    |true=>exact⟨n,rfl⟩
    |false=>exact ih (n+1)<|(dZ h).elim (λw=>absurd w<|beq_eq_false_iff_ne.mp q) id
  exact key _ 1<|List.mem_map.mpr<|au _ (zT e) rfl
 ·show(0::(((fn.kd.map (·.1)).zipIdx 1).map (·.2))).Nodup;have:((fn.kd.map (·.1)).zipIdx 1).map (·.2)=List.range' 1 (fn.kd.map (·.1)).length:=List.zipIdx_map_snd ..;rw[this];exact List.nodup_cons.mpr ⟨λh=>by have:=(List.mem_range'_1.mp h).1;exact Nat.lt_irrefl _ this,List.nodup_range'⟩
def OH(u3:A.depth<recursionLimit)(HC:∀env,sC W (A.deeper env) fa C)(hL:∀env cx,eS env cx->∀t b pos ρ c fl cj c',L cx (.While t b [] pos) ρ c fl cj c'->rB W (A.deeper env) env t b ρ c fl cj c'):mI W A fa<|Ig C L:=by
 intro f vs σ;refine ij λfn e1=>ij λρ e2=>ij λq e3=>λr e4 hP=>?_;refine cX (Y.defs f fn e1) λfd args O=>?_;have hP:q.2.2.P:=by
  obtain⟨fl,W5,xJ⟩:=q;clear e3;induction fl with
  |bu=>cases e4;exact hP
  |ret v=>cases e4;exact hP
  |_=>exact ng e4
 have body:∀env,eS env fn.kd->SQ W (A.deeper env) env (execs fn.body env) ρ σ q:=λenv H=>Af (Gy (HC _) H (hL _ _ H) 30) ρ σ q e3;exact⟨(Mq O).elim λenv H=>(body env H hP).1,Gj O u3 e2 (v:=r.1) (σ':=r.2) e4 λL' H=>(body _ H hP).2⟩
def FU(h:∀A,gO (d+1) A->mI W A fa C)(R:H3 (d+1) A):sC W A fa C:=⟨R.1.room,h A R.1,λa=>h _<|R.2 a,OV λa=>by have:=(R.2 a).dep;lia,_,Nn⟩
def EE:∀(n:Nat) (A:Around),gO (d+n+1) A->mI W A fa (Bs (Sp d) (λk=>Sl<|d+k+1) n):=by
 intro n;induction n with
 |zero=>exact λA R=>EX (R.less<|bh _ _) λf vs σ=>f8
 |succ n ih=>intro A R;refine EX (R.less<|by lia)<|OH (by have:=R.dep;lia) (λenv=>?_) λenv cx H t b pos ρ c fl cj c' h=>h.2 (A.deeper env) env ⟨R.deeper env,λa=>R.under env a⟩ H;exact FU ih ⟨R.deeper (d:=d+n+1) env,λa=>R.under (d:=d+n+1) env a⟩
abbrev Cn(d n:Nat):Ca:=Bs (Sp d) (λk=>Sl<|d+k+1) n
def go(hP:P)(e:Cn d n f vs ⟨c,sc,True⟩=some (v,⟨c',[],P⟩)):Sp (d+n+1) f vs c v c':=λA R=>(EE n A R f vs ⟨c,sc,True⟩ _ e hP).2
def goL(hP:P)(e:nZ (Sl (d+n+1) cx<|.While t b [] pos) (dn (Cn d n) 30 cx t).b (eN (xn (Cn d n) (Sl (d+n+1) cx) cx 29) b) 1000 ρ ⟨c,sc,True⟩=some (fl,cj,⟨c',[],P⟩)):Sl (d+n+1) cx (.While t b [] pos) ρ c fl cj c':=
 ⟨rfl,λA env R H=>by have HC:=FU (d:=d+n) (EE (d:=d) n) R;have ih:=(xk HC 30 env cx H.toCxOk t).x.b;exact(Ew (λρ c fl cj c' h=>h.2 A env R H) ih (Af<|Gy HC H (λt b pos ρ c fl cj c' h=>h.2 A env R H) 29) 1000 ρ ⟨c,sc,True⟩ _ e hP).2⟩
def Np(n:Nat)(v:V):Prop:=∀φ ψ:Ft,φ.length=n->Lw W φ ψ v
theorem Np.int:Np n<|.int i:=λφ ψ _=>λh=>h.i.elim λ_ e=>e▸.int _ _
theorem Np.str:Np n<|.str s:=λφ ψ _=>λh=>h.i.elim λ_ e=>e▸.str _ _
def Np.bool:Np n<|.bool b:=λφ ψ _=>λh=>h.i▸.bool _
theorem Np.none:Np n .none:=λφ ψ _=>λh=>h.i▸.none
def Np.ptr(hi:i<n):Np n<|.ptr i:=λφ ψ hl=>λh=>bJ h.i λ_ _ e h=>e▸.ptr ((List.getElem?_append_left<|hl▸hi).symm.trans h)
def Np.lst(h:∀v∈xs,Np n v):Np n<|.lst xs:=λφ ψ hl=>λq=>ez q.i λ_ _ _ e ho q=>e▸.lst ho (q.low λv hv=>h v hv φ ψ hl)
def Np.tup(h:∀v∈xs,Np n v):Np n<|.tup xs:=λφ ψ hl=>λq=>ez q.i λ_ _ _ e ho q=>e▸.tup ho (q.low λv hv=>h v hv φ ψ hl)
def Np.inst(h:∀q∈fs,Np n q.2):Np n<|.inst k fs:=λφ ψ hl=>λq=>v4 q.i λ_ _ _ _ e ho hd q hf=>e▸.inst ho hd (q.low λv hv=>h v hv φ ψ hl) hf
def Sp.trim(s:Sp d f vs c v<|c'++ds)(hl:c.length<=c'.length)(hv:Np c'.length v)(hc:∀o∈c',∀v∈o.vals,Np c'.length v):Sp d f vs c v c':=by
 intro A R w us Rw oL;refine codeAny_mono (s A R w us Rw oL) λr s' z=>?_;obtain⟨u,e,w',e',x,R',hu⟩:=z;have lt:(w'.φ.take c'.length).length=c'.length:=by rw[List.length_take,R'.len,bO];lia
 have sp:w'.φ=w'.φ.take c'.length++w'.φ.drop c'.length:=(List.take_append_drop ..).symm;have pre:w.φ<+:w'.φ.take c'.length:=List.prefix_of_prefix_length_le x.pre (List.take_prefix ..) (by rw[lt,Rw.len];exact hl);exact⟨u,e,⟨w'.G,w'.φ.take c'.length,w'.s⟩,e',x.drop sp pre,R'.drop sp lt λo ho v hv=>hc o ho v hv _ _ lt,hv _ _ lt<|sp▸hu⟩
noncomputable def jD(ι:List Nat)(Φ:Ft):Ft:=ι.map λi=>(Φ[i]?).getD []
def su(hb:∀i∈ι,i<Φ.length){j:Nat}(hj:ι[j]? =some i):(jD ι Φ)[j]? =Φ[i]? :=by have:=hb i<|List.mem_of_getElem? hj;rw[jD,List.getElem?_map,hj];show some ((Φ[i]?).getD [])=_;rw[List.getElem?_eq_getElem this];rfl
def Rn(ι:List Nat)(v v':V):Prop:=∀G Φ u,(∀i∈ι,i<Φ.length)->(VR W G (jD ι Φ) v u↔VR W G Φ v' u)
inductive gk(ι:List Nat):List V->List V->Prop
 |nil:gk ι [] []
 |cons {v v':V} {vs dM:List V} (h:Rn ι v v') (r:gk ι vs dM):gk ι (v::vs) (v'::dM)
inductive qn(ι:List Nat):List (Str×V)->List (Str×V)->Prop
 |nil:qn ι [] []
 |cons {x:Str} {v v':V} {vs dM:List (Str×V)} (h:Rn ι v v') (r:qn ι vs dM):qn ι ((x,v)::vs) ((x,v')::dM)
inductive rT(ι:List Nat):List (V×V)->List (V×V)->Prop
 |nil:rT ι [] []
 |cons {k v v':V} {vs dM:List (V×V)} (h:Rn ι v v') (r:rT ι vs dM):rT ι ((k,v)::vs) ((k,v')::dM)
inductive iO(ι:List Nat):O->O->Prop
 |dead:iO ι .dead .dead
 |lst {xs ys:List V} (h:gk ι xs ys):iO ι (.lst xs) (.lst ys)
 |dict {xs ys:List (V×V)} (h:rT ι xs ys) (hs:jC xs=jC ys) (hl:xs.length=ys.length):iO ι (.dict xs) (.dict ys)
 |inst {k:Nat} {xs ys:List (Str×V)} (h:qn ι xs ys):iO ι (.inst k xs) (.inst k ys)
def gk.ma(hb:∀i∈ι,i<Φ.length)(r:gk ι vs dM):be W G (jD ι Φ) vs us↔be W G Φ dM us:=by
 induction r generalizing us with
 |nil=>exact⟨λh=>(show us=[] from h.i)▸.nil,λh=>(show us=[] from h.i)▸.nil⟩
 |cons h _ ih=>exact⟨λq=>dW q.i λ_ _ e a b=>e▸.cons ((h _ _ _ hb).mp a) (ih.mp b),λq=>dW q.i λ_ _ e a b=>e▸.cons ((h _ _ _ hb).mpr a) (ih.mpr b)⟩
def qn.JF(hb:∀i∈ι,i<Φ.length)(r:qn ι vs dM):dh W G (jD ι Φ) vs us↔dh W G Φ dM us:=by
 induction r generalizing us with
 |nil=>exact⟨λh=>(show us=[] from h.i)▸.nil,λh=>(show us=[] from h.i)▸.nil⟩
 |cons h _ ih=>exact⟨λq=>me q.i λ_ _ _ _ e a b=>e▸.cons ((h _ _ _ hb).mp a) (ih.mp b),λq=>me q.i λ_ _ _ _ e a b=>e▸.cons ((h _ _ _ hb).mpr a) (ih.mpr b)⟩
def rT.y1(hb:∀i∈ι,i<Φ.length)(r:rT ι vs dM):cZ W G (jD ι Φ) vs us↔cZ W G Φ dM us:=by
 induction r generalizing us with
 |nil=>exact⟨λh=>by cases h;exact .nil,λh=>by cases h;exact .nil⟩
 |cons h _ ih=>
  exact⟨λq=>by
   cases q with
   |str a b=>exact .str ((h _ _ _ hb).mp a)<|ih.mp b
   |int a b=>exact .int ((h _ _ _ hb).mp a)<|ih.mp b,λq=>by
   cases q with
   |str a b=>exact .str ((h _ _ _ hb).mpr a)<|ih.mpr b
   |int a b=>exact .int ((h _ _ _ hb).mpr a)<|ih.mpr b⟩
def qn.all{P:Str->Prop}:∀{vs dM:List<|Str×V},qn ι vs dM->((∀q∈vs,P q.1)↔∀q∈dM,P q.1):=by
 intro vs;induction vs with
 |nil=>intro dM r;cases r;exact Iff.rfl
 |cons v vs ih=>
  intro dM r;cases r with|cons h r=>
  rw[List.forall_mem_cons,List.forall_mem_cons,ih r]
theorem gk.length:∀{vs dM:List V},gk ι vs dM->vs.length=dM.length:=by
 intro vs;induction vs with
 |nil=>intro dM r;cases r;rfl
 |cons v vs ih=>intro dM r;cases r with|cons h r=>exact congrArg (· +1)<|ih r
def iO.or(hb:∀i∈ι,i<Φ.length)(r:iO ι o o'):OR W G (jD ι Φ) h o as↔OR W G Φ h o' as:=by
 cases r with
 |dead=>exact Iff.rfl
 |lst r=>exact⟨λz=>oE z λa items n e q hv g l=>oU a items n e q ((r.ma hb).mp hv) g<|r.length▸l,λz=>oE z λa items n e q hv g l=>oU a items n e q ((r.ma hb).mpr hv) g<|r.length.symm▸l⟩
 |dict r hs hl=>exact⟨λz=>DH z λa es n e q hv g k s l=>yC a es n e q ((r.y1 hb).mp hv) g k (hs▸s)<|hl▸l,λz=>DH z λa es n e q hv g k s l=>yC a es n e q ((r.y1 hb).mpr hv) g k (hs.symm▸s)<|hl.symm▸l⟩
 |inst r=>exact⟨λz=>wq z λa d es n e q q' hv g g' k l=>tY a d es n e q q' ((r.JF hb).mp hv) g g' ((r.all (P:=λx=>gn _ x=true)).mp k) l,λz=>wq z λa d es n e q q' hv g g' k l=>tY a d es n e q q' ((r.JF hb).mpr hv) g g' ((r.all (P:=λx=>gn _ x=true)).mpr k) l⟩
theorem OR.none(r:OR W G φ h o as)(ho:o≠.dead):∀b∈as,G b=none:=by
 induction o with
 |dead=>exact absurd rfl ho
 |lst xs=>refine oE r λa items n q1 q hv g l=>?_;clear r;subst q1;exact λb hb=>fo hb▸g
 |dict es=>refine oE r λa items n q2 q hv g l=>?_;clear r;subst q2;exact λb hb=>fo hb▸g
 |inst k xs=>refine yE r λa d es n q3 q q' hv g g' l=>?_;clear r;subst q3;exact sA g g'
def As(hs:b∈(jD ι Φ).flatten):∃i as,i∈ι/\Φ[i]? =some as/\b∈as:=by
 refine aA (List.mem_flatten.mp hs) λl hl hb=>?_;refine aA (List.mem_map.mp hl) λi hi q4=>?_;subst q4;induction e:Φ[i]? with
 |none=>rw[e] at hb;cases hb
 |some as=>rw[e] at hb;exact dA i as hi e hb
def NF(hn:Φ.flatten.Nodup):∀{ι:List Nat},ι.Nodup->(jD ι Φ).flatten.Nodup:=by
 intro ι;induction ι with
 |nil=>exact λ_=>List.nodup_nil
 |cons i r ih=>
  intro nd;have nd:=List.nodup_cons.mp nd;show((Φ[i]?).getD []++(jD r Φ).flatten).Nodup;induction e:Φ[i]? with
  |none=>exact ih nd.2
  |some as=>
   refine List.nodup_append.mpr ⟨?_,ih nd.2,λa ha b hb z=>?_⟩
   ·have:∀{Φ:Ft},Φ.flatten.Nodup->∀{i:Nat} {as:List Addr},Φ[i]? =some as->as.Nodup:=by
     intro Φ;induction Φ with
     |nil=>intro _ i as e;exact ng e
     |cons x r ih=>
      intro hn i as e;rw[List.flatten_cons,List.nodup_append] at hn;induction i using Nat.casesAuxOn with
      |zero=>exact zb (aE e) hn.1
      |succ i=>exact ih hn.2.1 e
    exact this hn e
   ·subst z;exact dW (As hb) λi' as' v6 e' oR=>yg hn e e' (λz=>nd.1<|z▸v6) a ha oR
variable{vs:List V} in
def Sp.frame(s:Sp d f vs c v cE)(nd:ι.Nodup)(hl:ι.length=c.length)(Xm:cE.length=c.length)(hb:∀i∈ι,i<C.length)(hc:∀(j i:Nat) (o:O),ι[j]? =some i->c[j]? =some o->∃o',C[i]? =some o'/\iO ι o o')(hd:∀(j i:Nat) (o:O),ι[j]? =some i->cE[j]? =some o->∃o',D[i]? =some o'/\iO ι o o')(hD:D.length=C.length)(out:∀i:Nat,i∉ι->D[i]? =C[i]?)(oL:gk ι vs dM)(hv:Rn ι v v'):Sp d f dM C v' D:=by
 intro A R w us Rw hus;have tW:∀i∈ι,i<w.φ.length:=λi hi=>Rw.len▸hb i hi;have sl:(jD ι w.φ).length=c.length:=(List.length_map ..).trans hl;have sub:∀b∈(jD ι w.φ).flatten,b∈w.φ.flatten:=λb hs=>by exact dW (As hs) λi as _ e hb=>List.mem_flatten.mpr<|au as (List.mem_of_getElem? e) hb
 have at':∀{j:Nat} {cs:List O} {o:O},cs.length=c.length->cs[j]? =some o->∃i,ι[j]? =some i:=λzg e=>by have:=(List.getElem?_eq_some_iff.mp e).1;exact⟨_,List.getElem?_eq_getElem<|by lia⟩
 have Rs:aI W ⟨w.G,jD ι w.φ,w.s⟩ c:=⟨Rw.g,Rw.base,sl,NF Rw.nodup nd,λa ha=>Rw.live a<|sub a ha,λj o e=>by obtain⟨i,hi⟩:=at' rfl e;refine aA (hc j i o hi e) λo' e' r=>?_;exact(Rw.cells i o' e').imp λas q=>⟨(su tW hi).trans q.1,(r.or tW).mpr q.2⟩⟩
 refine codeAny_mono (s A R ⟨w.G,jD ι w.φ,w.s⟩ us Rs<|(oL.ma tW).mpr hus) λr s' z=>?_;obtain⟨u,e,w',e',x,R',hu⟩:=z;have eV:w'.φ=jD ι w.φ:=(List.IsPrefix.eq_of_length x.pre (by rw[R'.len,Xm];exact sl)).symm;rw[eV] at hu;refine au u e<|js ⟨w'.G,w.φ,w'.s⟩ e' ⟨x.le,eZ _,λb o _ p=>?_,x.al,x.sm⟩ ⟨R'.g,R'.base,Rw.len.trans hD.symm,Rw.nodup,λa ha=>(Rw.live a ha).elim λo e=>x.al a o e,λi o e=>?_⟩<|(hv _ _ _ tW).mp hu
 ·have p':=x.keep (w':=w') (b:=b) (o:=o) ⟨p.o,p.g,λz=>p.n<|sub b z⟩;exact⟨p'.o,p'.g,p.n⟩
 ·by_cases hi:i∈ι
  ·obtain⟨j,hj,rfl⟩:=List.getElem_of_mem hi;have Jt:ι[j]? =some ι[j]:=List.getElem?_eq_getElem hj;have H8:j<cE.length:=by lia
   refine aA (hd j _ _ Jt<|List.getElem?_eq_getElem H8) λo' e2 r=>?_;cases e.symm.trans e2;refine aA (R'.cells j _<|List.getElem?_eq_getElem H8) λas h1 h2=>?_;rw[eV] at h1 h2;exact au as ((su tW Jt).symm.trans h1)<|(r.or tW).mp h2
  ·rw[out i hi] at e;refine aA (Rw.cells i o e) λas h1 h2=>?_;refine au as h1 ?_;by_cases ho:o=.dead
   ·refine zc ho ?_;trivial
   ·have pv:∀b∈as,∀ob,w.h.get? b=some ob->cO w' b ob:=λb hb ob eb=>x.keep ⟨eb,h2.none ho b hb,λz=>by refine dW (As z) λi' as' v6 e' oR=>?_;exact yg Rw.nodup h1 e' (λz=>hi<|z▸v6) b hb oR⟩
    exact h2.keep x.le (eZ _) (λb hb ob eb=>(pv b hb ob eb).o) λ_ b hb _=>by have hbf:b∈w.φ.flatten:=List.mem_flatten.mpr<|au as (List.mem_of_getElem? h1) hb;obtain⟨ob,eb⟩:=Rw.live b hbf;exact(pv b hb ob eb).g
abbrev aT(v:V):Prop:=Np 0 v
def aT.vr(h:aT v)(q:VR W G φ v u):VR W G ψ v u:=(h [] φ rfl q).mono (λ_ _ e=>e)<|List.nil_prefix
def aT.np(h:aT v):Np n v:=λφ ψ _=>by intro G u q;exact h.vr q
def aT.rn(h:aT v):Rn ι v v:=λG Φ u _=>⟨λq=>h.vr q,λq=>h.vr q⟩
theorem ao{α:Type}{P:α->Prop}{a:α}{l:List α}(h:P a)(k:∀x∈l,P x):∀x∈a::l,P x:=λx hx=>by
 cases hx with
 |head=>exact h
 |tail _ hx=>exact k x hx
def aP{α:Type}{P:α->Prop}:∀x∈([]:List α),P x:=λ_ h=>nomatch h
inductive Tk
 |pt (s:List Nat)|kw (s:List Nat)|nm (s:List Nat) (p:Bool)|nu (i:Int)|tx (s:List Nat) (p:Bool)|en
noncomputable def Tk.k:Tk->List Nat
 |.pt _=>[112,117,110,99,116]|.kw _=>[107,101,121,119,111,114,100]|.nm _ _=>[110,97,109,101]|.nu _=>[110,117,109,98,101,114]|.tx _ _=>[116,101,120,116]|.en=>[101,110,100]
noncomputable def Tk.v:Tk->V
 |.pt s=>.str s|.kw s=>.str s|.nm s _=>.str s|.nu i=>.int i|.tx s _=>.str s|.en=>.str []
noncomputable def Tk.pl:Tk->Bool
 |.nm _ p=>p|.tx _ p=>p|_=>true
noncomputable def dw(t:Tk)(a b:Int):V:=.inst 1 [("kind",.str t.k),("value",t.v),("line",.int 1),("is_behind_line",.bool false),("start",.int a),("end",.int b),("is_octal",.bool false),("is_plain",.bool t.pl)]
structure Px where
 T:List Nat
 s:Bool
 d:Int
 l:Int
 w:Int
 fl:List Bool
structure Rd where
 a:Int
 b:Int
 dy:V
 p:Int
 la:Int
 lb:Int
noncomputable def aF(T:List Nat)(p:Int):O:=.inst 2 [("text",.str T),("at",.int p),("line",.int 1)]
def xZ(x:Px)(t:Tk)(r:Rd)(aR:List V):O:=.inst 4 [("lexer",.ptr 1),("token",dw t r.a r.b),("later",r.dy),("is_strict",.bool x.s),("depth",.int x.d),("jumps",.ptr 2),("pending",.lst aR)]
noncomputable def vy(x:Px):O:=.inst 3 [("labels",.ptr 3),("loops",.int x.l),("switches",.int x.w)]
noncomputable def tM:Nat->List Bool->List V
 |_,[]=>[]
 |i,_::r=>.ptr i::tM (i+1) r
def lN(fl:List Bool)(i:Nat):O:=(hX i fl).elim .dead λb=>.lst [.str [108+i],.bool b]
def cv(x:Px):List O:=[vy x,.lst<|tM 4 x.fl,lN x.fl 0,lN x.fl 1,lN x.fl 2]
def hp(x:Px)(t:Tk)(r:Rd)(aR:List V):List O:=xZ x t r aR::aF x.T r.p::cv x
def Lx(T:List Nat)(p:Int)(t:Tk)(a b p':Int):Prop:=Sp 12 2110 [.ptr 0] [aF T p] (dw t a b) [aF T p']
def Ls(T:List Nat):Int->List Tk->Prop
 |_,[]=>True
 |p,t::ts=>∃a b p',Lx T p t a b p'/\Ls T p' ts
def Ok(T:List Nat)(ts:List Tk)(r:Rd):Prop:=(r.dy=.none/\Ls T r.p ts)\/∃t ab,ts=t::ab/\r.dy=dw t r.la r.lb/\Ls T r.p ab
variable{t:Tk} in
def OP:aT t.v:=by cases t<;>first|exact Np.str|exact Np.int
def kM:aT<|dw t a b:=Np.inst<|ao Np.str<|ao OP<|ao Np.int<|ao Np.bool<|ao Np.int<|ao Np.int<|ao Np.bool<|ao Np.bool aP
def sG:iO ι (aF T p)<|aF T p:=.inst<|.cons (aT.rn Np.str)<|.cons (aT.rn Np.int)<|.cons (aT.rn Np.int) .nil
def Aa(h:Lx T p t a b p')(o:O)(C:List O):Sp 12 2110 [.ptr 1] (o::aF T p::C) (dw t a b)<|o::aF T p'::C:=
 Sp.frame (ι:=[1]) h (by simp) rfl rfl (λi hi=>by cases hi with|head=>exact Nat.succ_lt_succ (Nat.succ_pos _)|tail _ h=>cases h)
  (λj i o' e e'=>by
   induction j using Nat.casesAuxOn with
   |zero=>refine zb (aE e) ?_;exact zb (aE e')<|au _ rfl sG
   |succ j=>exact ng e)
  (λj i o' e e'=>by
   induction j using Nat.casesAuxOn with
   |zero=>refine zb (aE e) ?_;exact zb (aE e')<|au _ rfl sG
   |succ j=>exact ng e)
  rfl (λi hi=>by
   induction i using Nat.casesAuxOn with
   |zero=>rfl
   |succ i=>induction i using Nat.casesAuxOn with
    |zero=>exact absurd (.head _) hi
    |succ i=>rfl)
  (.cons (λG Φ u hb=>⟨λq=>by cases q with|ptr q=>exact .ptr<|(su (j:=0) hb rfl).symm.trans q,λq=>by cases q with|ptr q=>exact .ptr<|(su (j:=0) hb rfl).trans q⟩) .nil) kM.rn
def sg:Tk->List Nat->Bool
 |.pt u,s=>lq u s
 |_,_=>false
def wd:Tk->List Nat->Bool
 |.kw u,s=>lq u s
 |_,_=>false
noncomputable abbrev ca(f:Nat)(v:V)(c:List O):An:=.call 0 f v c
def T7(h:Sp 12 2110 [.ptr 1] (hp x t ⟨a,b,.none,p,la,lb⟩ aR) (dw a8 a' b')<|hp x t ⟨a,b,.none,p',la,lb⟩ aR):Sp 15 2126 [.ptr 0] (hp x t ⟨a,b,.none,p,la,lb⟩ aR) (dw t a b)<|hp x a8 ⟨a',b',.none,p',la,lb⟩ aR:=go (sc:=[ca 2110 (dw a8 a' b')<|hp x t ⟨a,b,.none,p',la,lb⟩ aR]) (n:=2) (And.intro h trivial) (by ext)
def TF:Sp 15 2126 [.ptr 0] (hp x t ⟨a,b,dw a8 a' b',p,la,lb⟩ aR) (dw t a b)<|hp x a8 ⟨a',b',.none,p,la,lb⟩ aR:=go (sc:=[]) (n:=2) (d:=12) trivial (by ext)
def vQ(x:Px)(t:Tk)(aR:List V)(h:Ok x.T (a8::ts) r):∃r',Ok x.T ts r'/\Sp 15 2126 [.ptr 0] (hp x t r aR) (dw t r.a r.b) (hp x a8 r' aR):=by
 obtain⟨a,b,dy,p,la,lb⟩:=r;rcases h with⟨e,a',b',p',h,k⟩|⟨t',ab,e,e',k⟩
 ·subst e;exact au ⟨a',b',.none,p',la,lb⟩ (.inl ⟨rfl,k⟩)<|T7<|Aa h _ _
 ·obtain⟨rfl,rfl⟩:=List.cons.inj e;have e':dy=dw a8 la lb:=e';exact zc e'<|au ⟨la,lb,.none,p,la,lb⟩ (.inl ⟨rfl,k⟩)<|TF
def Rp(h:Sp 12 2110 [.ptr 1] (hp x t ⟨a,b,.none,p,la,lb⟩ aR) (dw a8 a' b')<|hp x t ⟨a,b,.none,p',la,lb⟩ aR):Sp 15 3126 [.ptr 0] (hp x t ⟨a,b,.none,p,la,lb⟩ aR) (dw a8 a' b')<|hp x t ⟨a,b,dw a8 a' b',p',a',b'⟩ aR:=go (sc:=[ca 2110 (dw a8 a' b')<|hp x t ⟨a,b,.none,p',la,lb⟩ aR]) (n:=2) (And.intro h trivial) (by ext)
def Yv(x:Px)(t:Tk)(aR:List V)(h:Ok x.T (a8::ts) r):∃r',Ok x.T (a8::ts) r'/\Sp 15 3126 [.ptr 0] (hp x t r aR) (dw a8 r'.la r'.lb) (hp x t r' aR):=by
 obtain⟨a,b,dy,p,la,lb⟩:=r;rcases h with⟨e,a',b',p',h,k⟩|⟨t',ab,e,e',k⟩
 ·subst e;exact au ⟨a,b,dw a8 a' b',p',a',b'⟩ (.inr<|dA _ _ rfl rfl k)<|Rp<|Aa h _ _
 ·obtain⟨rfl,rfl⟩:=List.cons.inj e;have e':dy=dw a8 la lb:=e';exact zc e'<|au ⟨a,b,dw a8 la lb,p,la,lb⟩ (.inr<|dA _ _ rfl rfl k)<|go (sc:=[]) (n:=2) (d:=12) trivial<|by ext
def Dp:Sp 15 4126 [.ptr 0,.str s] (hp x t r aR) (.bool<|sg t s)<|hp x t r aR:=by cases t<;>exact go (sc:=[]) (n:=2) (d:=12) trivial<|by ext
def CW:Sp 15 5126 [.ptr 0,.str s] (hp x t r aR) (.bool<|wd t s)<|hp x t r aR:=by
 induction t with
 |kw u=>
  show Sp 15 5126 _ _ (.bool<|lq u s) _;cases e:lq u s with
  |true=>exact go (sc:=[.br 1 true]) (n:=2) (d:=12) (And.intro e trivial)<|by ext
  |false=>exact go (sc:=[.br 1 false]) (n:=2) (d:=12) (And.intro e trivial)<|by ext
 |_=>exact go (sc:=[]) (n:=2) (d:=12) trivial<|by ext
def c1(h1:p1):p1/\True:=⟨h1,trivial⟩
def c2(h1:p1)(h2:p2):p2/\p1/\True:=⟨h2,h1,trivial⟩
def c3(h1:p1)(h2:p2)(h3:p3):p3/\p2/\p1/\True:=⟨h3,h2,h1,trivial⟩
def c5(h1:p1)(h2:p2)(h3:p3)(h4:p4)(h5:p5):p5/\p4/\p3/\p2/\p1/\True:=⟨h5,h4,h3,h2,h1,trivial⟩
def c6(h1:p1)(h2:p2)(h3:p3)(h4:p4)(h5:p5)(h6:p6):p6/\p5/\p4/\p3/\p2/\p1/\True:=⟨h6,h5,h4,h3,h2,h1,trivial⟩
def c7(h1:p1)(h2:p2)(h3:p3)(h4:p4)(h5:p5)(h6:p6)(h7:p7):p7/\p6/\p5/\p4/\p3/\p2/\p1/\True:=⟨h7,h6,h5,h4,h3,h2,h1,trivial⟩
def c8(h1:p1)(h2:p2)(h3:p3)(h4:p4)(h5:p5)(h6:p6)(h7:p7)(h8:p8):p8/\p7/\p6/\p5/\p4/\p3/\p2/\p1/\True:=⟨h8,h7,h6,h5,h4,h3,h2,h1,trivial⟩
def c10(h1:p1)(h2:p2)(h3:p3)(h4:p4)(h5:p5)(h6:p6)(h7:p7)(h8:p8)(h9:p9)(mR:p10):p10/\p9/\p8/\p7/\p6/\p5/\p4/\p3/\p2/\p1/\True:=⟨mR,h9,h8,h7,h6,h5,h4,h3,h2,h1,trivial⟩
theorem sr(s:List Nat):lq s s:=(dR s s).mpr rfl
def gk.flat:∀{vs:List V},(∀v∈vs,aT v)->gk [] vs vs
 |[],_=>.nil
 |v::r,h=>.cons (h v<|.head _).rn<|gk.flat λx hx=>h x<|.tail _ hx
def Sp.pure(h:Sp d f vs [] v [])(C:List O)(hv:aT v)(hs:∀v∈vs,aT v):Sp d f vs C v C:=Sp.frame (ι:=[]) h .nil rfl rfl (λ_ h=>nomatch h) (λj i o e=>nomatch e) (λj i o e=>nomatch e) rfl (λ_ _=>rfl) (gk.flat hs) hv.rn
def jW{α:Type}{L:List α}{as:α->List V}{v:α->V}(e:L.map (λq=>Cn d n f (as q) ⟨[],[],True⟩)=L.map λq=>some (v q,(⟨[],[],True⟩:St))):∀q∈L,Sp (d+n+1) f (as q) [] (v q) []:=by
 induction L with
 |nil=>exact λ_ h=>nomatch h
 |cons a r ih=>
  rw[List.map_cons,List.map_cons] at e;have e:=List.cons.inj e;intro q hq;cases hq with
  |head=>exact go trivial e.1
  |tail _ hq=>exact ih e.2 q hq
noncomputable def cq:List<|List Nat:=[[97],[98],[111,102],[103,101,116],[102,117,110,99,116,105,111,110,115],[233],[101],[112],[108],[109],[110],[115,101,116]]
noncomputable def Ct{α:Type}(l:List α):List<|α×Bool:=l.flatMap λa=>[(a,true),(a,false)]
def E6{α:Type}{l:List α}{a:α}(h:a∈l)(b:Bool):(a,b)∈Ct l:=List.mem_flatMap.mpr<|au a h (by cases b<;>simp)
def nfS(h:s∈cq)(b:Bool)(C:List O):Sp 15 115 [.str s,.bool b] C .none C:=Sp.pure (jW (L:=Ct cq) (as:=λq=>[.str q.1,.bool q.2]) (v:=λ_=>.none) (n:=2) (d:=12) (by ext) _<|E6 h b) C Np.none (ao Np.str<|ao Np.bool aP)
def JD(h:s∈cq)(b:Bool)(C:List O):Sp 15 116 [.str s,.bool b] C .none C:=Sp.pure (jW (L:=Ct cq) (as:=λq=>[.str q.1,.bool q.2]) (v:=λ_=>.none) (n:=2) (d:=12) (by ext) _<|E6 h b) C Np.none (ao Np.str<|ao Np.bool aP)
def sgB(x:Px)(t:Tk)(r:Rd)(aR:List V)(e:sg t s=b):Sp 15 4126 [.ptr 0,.str s] (hp x t r aR) (.bool b)<|hp x t r aR:=e▸Dp
def wdB(x:Px)(t:Tk)(r:Rd)(aR:List V)(e:wd t s=b):Sp 15 5126 [.ptr 0,.str s] (hp x t r aR) (.bool b)<|hp x t r aR:=e▸CW
def gS{α:Type}{L:List α}{c c':α->List O}{sc:α->List An}{v:α->V}{P:α->Prop}(e:L.map (λq=>Cn d n f as ⟨c q,sc q,True⟩)=L.map λq=>some (v q,(⟨c' q,[],P q⟩:St))):∀q∈L,P q->Sp (d+n+1) f as (c q) (v q) (c' q):=by
 induction L with
 |nil=>exact λ_ h=>nomatch h
 |cons a r ih=>
  rw[List.map_cons,List.map_cons] at e;have e:=List.cons.inj e;intro q hq hp;cases hq with
  |head=>exact go hp e.1
  |tail _ hq=>exact ih e.2 q hq hp
def sQ(f:Nat):List Stmt:=(oM f).elim [] (·.body)
def fJ(f:Nat):Cx:=(oM f).elim [] (·.kd)
def fu(f i:Nat):Stmt:=(hX i<|sQ f).getD<|.Pass default
section
variable{d n f:Nat}{c c':List O}{sc:List An}{cx:Cx}{ρ cj:Lo}{fl:Fl}{s:Stmt}
def HG(d n:Nat)(cx:Cx)(s:Stmt)(ρ:Lo)(σ:St):Option<|Fl×Lo×St:=match s with
 |.While t b [] pos=>nZ (Sl (d+n+1) cx<|.While t b [] pos) (dn (Cn d n) 30 cx t).b (eN (xn (Cn d n) (Sl (d+n+1) cx) cx 29) b) 1000 ρ σ
 |_=>none
def goW(hP:P)(e:HG d n cx s ρ ⟨c,sc,True⟩=some (fl,cj,⟨c',[],P⟩)):Sl (d+n+1) cx s ρ c fl cj c':=by
 induction s using Stmt.casesOn with
 |While t b o pos=>induction o using bx with
  |nil=>exact goL hP e
  |cons=>exact ng e
 |_=>exact ng e
theorem Sl.mono(h:d<=e)(l:Sl d cx s ρ c fl cj c'):Sl e cx s ρ c fl cj c':=by
 induction s using Stmt.casesOn with
 |While t b o p=>exact⟨l.1,λA env R=>l.2 A env ⟨R.1.less h,λa=>(R.2 a).less h⟩⟩
 |_=>exact l
end
section
variable{σ:Type}(hf:σ->Rd->List O)(ok:σ->Rd->Prop)(d D:Nat)
def Sw(d f:Nat)(as:List V)(s:σ)(v:Rd->Rd->V)(s':σ):Prop:=∀r,ok s r->∃r',ok s' r'/\Sp d f as (hf s r) (v r r') (hf s' r')
def eF(D:Nat)(cx:Cx)(w:Stmt)(ρ:Lo)(s:σ)(cj:Lo)(s':σ):Prop:=∀r,ok s r->∃r',ok s' r'/\Sl D cx w ρ (hf s r) .bu cj (hf s' r')
set_option genCtorIdx false in
inductive Ch:σ->σ->Type
 |nil {s:σ}:Ch s s
 |c {f:Nat} {as:List V} {v:Rd->Rd->V} {s ai s':σ} (h:Sw hf ok d f as s v ai) (k:Ch ai s'):Ch s s'
 |b (n:Nat) (b:Bool) {p:Prop} {s s':σ} (h:p) (k:Ch s s'):Ch s s'
 |o {n:Nat} {t:TV} {p:Prop} {s s':σ} (h:p) (k:Ch s s'):Ch s s'
 |p {p:Prop} {s s':σ} (h:p) (k:Ch s s'):Ch s s'
 |l {cx:Cx} {w:Stmt} {μ jB:Lo} {s ai s':σ} (h:eF hf ok D cx w μ s jB ai) (k:Ch ai s'):Ch s s'
 |e {s ai s':σ} (h:∀r,ok s r->ok ai r) (k:Ch ai s'):Ch s s'
variable{hf ok d D}
section
variable(ρ:Nat->Rd){s s':σ}(h:Ch hf ok d D s s')
def yq:Nat->List An:=
 Ch.rec (motive:=λ_ _ _=>Nat->List An) (@λ_ _=>[]) (@λf _ v _ ai _ _ _ k i=>.call 0 f (v (ρ i)<|ρ<|i+1) (hf ai<|ρ<|i+1)::k (i+1))
  (@λn b _ _ _ _ _ k i=>.br n b::k i) (@λn t _ _ _ _ _ k i=>.ov n t::k i) (@λ_ _ _ _ _ k=>k) (@λ_ _ _ jB _ ai _ _ _ k i=>.wx .bu jB (hf ai<|ρ<|i+1)::k (i+1)) (@λ_ _ _ _ _ k=>k) h
def yI:Nat->Prop->Prop:=
 Ch.rec (motive:=λ_ _ _=>Nat->Prop->Prop) (@λ_ _ P=>P) (@λf as v s ai _ _ _ k i P=>k (i+1)<|Sp d f as (hf s<|ρ i) (v (ρ i)<|ρ<|i+1) (hf ai<|ρ<|i+1)/\P)
  (@λ_ _ p _ _ _ _ k i P=>k i<|p/\P) (@λ_ _ p _ _ _ _ k i P=>k i<|p/\P) (@λp _ _ _ _ k i P=>k i<|p/\P) (@λcx w μ jB s ai _ _ _ k i P=>k (i+1)<|Sl D cx w μ (hf s<|ρ i) .bu jB (hf ai<|ρ<|i+1)/\P) (@λ_ _ _ _ _ k=>k) h
def yY:Nat->Nat:=Ch.rec (motive:=λ_ _ _=>Nat->Nat) (@λ_ i=>i) (@λ_ _ _ _ _ _ _ _ k i=>k<|i+1) (@λ_ _ _ _ _ _ _ k=>k) (@λ_ _ _ _ _ _ _ k=>k) (@λ_ _ _ _ _ k=>k) (@λ_ _ _ _ _ _ _ _ _ k i=>k<|i+1) (@λ_ _ _ _ _ k=>k) h
end
theorem Ch.step{ρ:Nat->Rd}:(bif Nat.ble i i then ρ i else r')=ρ i/\(bif Nat.ble (i+1) i then ρ (i+1) else r')=r':=⟨by simp only[Nat.ble_self_eq_true,cond_true],by simp only[show Nat.ble (i+1) i=false from Bool.eq_false_iff.mpr λh=>Nat.not_succ_le_self i<|ia h,cond_false]⟩
def Ch.run(h:Ch hf ok d D s s'):∀(ρ:Nat->Rd) (i:Nat),ok s (ρ i)->∃cj:Nat->Rd,(∀j,j<=i->cj j=ρ j)/\ok s' (cj<|yY h i)/\∀P:Prop,P->yI cj h i P:=by
 have go:∀{s ai s':σ} {Q:Rd->Rd->Prop} {E:Nat->Nat} {F:(Nat->Rd)->Nat->Prop->Prop},(∀r,ok s r->∃r',ok ai r'/\Q r r')->
  (∀(ρ:Nat->Rd) (i:Nat),ok ai (ρ i)->∃cj:Nat->Rd,(∀j,j<=i->cj j=ρ j)/\ok s' (cj<|E i)/\∀P:Prop,P->F cj i P)->
  ∀(ρ:Nat->Rd) (i:Nat),ok s (ρ i)->∃cj:Nat->Rd,(∀j,j<=i->cj j=ρ j)/\ok s' (cj<|E<|i+1)/\∀P:Prop,P->F cj (i+1) (Q (cj i) (cj<|i+1)/\P):=λh ih ρ i hi=>by
  refine aA (h (ρ i) hi) λr' k' q=>?_;refine fz (ih (λj=>bif Nat.ble j i then ρ j else r') (i+1)<|Ch.step.2.symm▸k') λcj e o z=>?_;have e1:cj i=ρ i:=(e i<|Nat.le_succ i).trans (Ch.step (r':=r')).1;have e2:cj (i+1)=r':=(e (i+1)<|aV _).trans Ch.step.2;exact fA cj (λj hj=>(e j<|Nat.le_succ_of_le hj).trans<|by simp only[Nat.ble_eq_true_of_le hj,cond_true]) o λP hP=>z _ ⟨by rw[e1,e2];exact q,hP⟩
 have add:∀{p:Prop} {s s':σ} {E:Nat->Nat} {F:(Nat->Rd)->Nat->Prop->Prop},p->
  (∀(ρ:Nat->Rd) (i:Nat),ok s (ρ i)->∃cj:Nat->Rd,(∀j,j<=i->cj j=ρ j)/\ok s' (cj<|E i)/\∀P:Prop,P->F cj i P)->
  ∀(ρ:Nat->Rd) (i:Nat),ok s (ρ i)->∃cj:Nat->Rd,(∀j,j<=i->cj j=ρ j)/\ok s' (cj<|E i)/\∀P:Prop,P->F cj i (p/\P):=λh ih ρ i hi=>
  (ih ρ i hi).imp λcj q=>⟨q.1,q.2.1,λP hP=>q.2.2 _ ⟨h,hP⟩⟩
 induction h with
 |nil=>exact λρ i h=>fA ρ (λ_ _=>rfl) h λP h=>h
 |c h k ih=>exact go h ih
 |l h k ih=>exact go h ih
 |e h k ih=>exact λρ i hi=>ih ρ i<|h _ hi
 |b _ _ h k ih=>exact add h ih
 |o h k ih=>exact add h ih
 |p h k ih=>exact add h ih
noncomputable def Ch.x{s s':σ}(ai:σ)(k:Ch hf ok d D ai s')(h:∀r,ok s r->ok ai r:=by exact λ_ h=>h):Ch hf ok d D s s':=.e h k
@[reducible] def zy{α:Type}(p:α×α):Prop:=p.1=p.2
def bX(n f:Nat)(as:List V)(v:Rd->Rd->V)(h:Ch hf ok d D s s'):((Nat->Rd)->Option (V×St))×((Nat->Rd)->Option (V×St)):=(λρ=>Cn d n f as ⟨hf s<|ρ 0,yq ρ h 0,True⟩,λρ=>some (v (ρ 0)<|ρ<|yY h 0,⟨hf s'<|ρ<|yY h 0,[],yI ρ h 0 True⟩))
def wk(n:Nat)(h:Ch hf ok d (d+n) s s')(e:zy<|bX n f as v h:=by ext):Sw hf ok (d+n+1) f as s v s':=λr k=>by refine fz (h.run (λ_=>r) 0 k) λρ e0 o z=>?_;have q:=go (z True trivial)<|congrFun e ρ;rw[e0 0<|aV _] at q;exact au _ o q
def bL(n:Nat)(cx:Cx)(w:Stmt)(μ jB:Lo)(h:Ch hf ok d D s s'):((Nat->Rd)->Option (Fl×Lo×St))×((Nat->Rd)->Option (Fl×Lo×St)):=(λρ=>HG d n cx w μ ⟨hf s<|ρ 0,yq ρ h 0,True⟩,λρ=>some (.bu,jB,⟨hf s'<|ρ<|yY h 0,[],yI ρ h 0 True⟩))
def wl(n:Nat)(h:Ch hf ok d (d+n+1) s s')(e:zy<|bL n cx w μ jB h:=by ext):eF hf ok (d+n+1) cx w μ s jB s':=λr k=>by refine fz (h.run (λ_=>r) 0 k) λρ e0 o z=>?_;have q:=goW (z True trivial)<|congrFun e ρ;rw[e0 0<|aV _] at q;exact au _ o q
theorem eF.mono(h:D<=e)(p:eF hf ok D cx w μ s jB s'):eF hf ok e cx w μ s jB s':=λr k=>(p r k).imp λr' q=>⟨q.1,q.2.mono h⟩
theorem Sw.mono(h:d<=e)(p:Sw hf ok d f as s v s'):Sw hf ok e f as s v s':=λr k=>(p r k).imp λr' q=>⟨q.1,q.2.mono h⟩
end
noncomputable def tz:List<|List Nat:=[[61],[43,61],[45,61],[42,61],[47,61],[37,61],[60,60,61],[62,62,61],[62,62,62,61],[38,61],[94,61],[124,61]]
noncomputable def Cm:List<|List Nat×Nat:=[([124,124],1),([38,38],2),([124],3),([94],4),([38],5),([61,61],6),([33,61],6),([61,61,61],6),([33,61,61],6),([60],7),([62],7),([60,61],7),([62,61],7),([60,60],8),([62,62],8),([62,62,62],8),([43],9),([45],9),([42],10),([47],10),([37],10)]
def Cq:List<|List Nat:=Cm.map Prod.fst
def rN:Tk->Bool
 |.pt s=>tz.any λy=>lq y s
 |_=>false
def jN:Tk->Bool
 |.pt s=>[[43,43],[45,45]].any λy=>lq y s
 |_=>false
def Ha(s:List Nat):List (List Nat×Nat)->Nat
 |[]=>0
 |p::r=>bif lq p.1 s then p.2 else Ha s r
def ew(c:Bool):Tk->Nat
 |.pt s=>Ha s Cm
 |.kw s=>bif lq s [105,110] then(bif c then 7 else 0) else bif lq s [105,110,115,116,97,110,99,101,111,102] then 7 else 0
 |_=>0
def kq:List Tk:=[.kw [105,110],.kw [105,110,115,116,97,110,99,101,111,102]]++(tz++Cq++[[44],[63],[41],[93],[125],[59],[58],[40],[91],[46],[43,43],[45,45]]).map .pt
def ext(c:Bool)(t:Tk):Nat:=bif sg t [44] then 1 else bif rN t then 2 else bif sg t [63] then 3 else bif jN t then 15 else bif sg t [40] then 16 else bif sg t [46]||sg t [91] then 17 else bif Nat.beq (ew c t) 0 then 0 else ew c t+3
def Cc(c:Bool)(t:Tk):Bool:=let e:=ext c t
 (!Nat.ble e 0|| !sg t [44])&&(!Nat.ble e 1|| !rN t)&&(!Nat.ble e 2|| !sg t [63])&&(!Nat.ble e 14|| !jN t)&&(!Nat.ble e 15|| !sg t [40])&&(!Nat.ble e 16|| !(sg t [46]||sg t [91]))&&Nat.ble (ew c t+3) (max e 3)
def Yx:kq.all λt=>Cc true t&&Cc false t:=by ext
structure bI(c:Bool)(t:Tk)(k:Nat):Prop where
 m:t∈kq
 e:ext c t<=k
noncomputable def nd(k:List Nat)(ps:List V):V:=.inst 0 [("kind",.str k),("line",.int 1),("parts",.lst ps),("scope",.none)]
def Vg(h:t∈kq):Cc c t:=by
 have q:=cK<|cp Yx t h;cases c
 ·exact q.2
 ·exact q.1
def sH(h:(!Nat.ble e n|| !b))(q:e<=n):b=false:=by
 rw[Nat.ble_eq_true_of_le q] at h;cases b
 ·rfl
 ·exact nj h
theorem bI.f(h:bI c t k):(k<=0->sg t [44]=false)/\(k<=1->rN t=false)/\(k<=2->sg t [63]=false)/\(k<=14->jN t=false)/\(k<=15->sg t [40]=false)/\(k<=16->(sg t [46]||sg t [91])=false)/\ew c t+3<=max k 3:=by have b:(((((((!Nat.ble (ext c t) 0|| !sg t [44])&&(!Nat.ble (ext c t) 1|| !rN t))&&(!Nat.ble (ext c t) 2|| !sg t [63]))&&(!Nat.ble (ext c t) 14|| !jN t))&&(!Nat.ble (ext c t) 15|| !sg t [40]))&&(!Nat.ble (ext c t) 16|| !(sg t [46]||sg t [91])))&&Nat.ble (ew c t+3) (max (ext c t) 3)):=Vg h.m;have e:=h.e;simp only[cS] at b;obtain⟨⟨⟨⟨⟨⟨b0,b1⟩,b2⟩,b3⟩,b4⟩,b5⟩,b6⟩:=b;exact⟨λq=>sH b0<|aG e q,λq=>sH b1<|aG e q,λq=>sH b2<|aG e q,λq=>sH b3<|aG e q,λq=>sH b4<|aG e q,λq=>sH b5<|aG e q,by have:=ia b6;lia⟩
def Hj(h:t∈kq):(∃s,t=.pt s)\/∃s,t=.kw s:=by
 rcases List.mem_append.mp h with h|h
 ·rcases dZ h with h|h
  ·exact .inr ⟨_,h⟩
  ·exact .inr ⟨_,fo h⟩
 ·exact aA (List.mem_map.mp h) λs _ e=>.inl ⟨s,e.symm⟩
abbrev Ts:=Tk×List Tk
def bF(h:Nat.blt n 8388608:=by exact rfl):n<ae:=Nat.blt_eq.mp h
theorem a6(h:Nat.ble n 8388608:=by exact rfl):n<=ae:=ia h
theorem xr(h:a<=b):dQ a b:=(Z.leB_iff a b).mpr h
def WZ(h:¬a<=b):dQ a b=false:=Bool.eq_false_iff.mpr λq=>h<|(Z.leB_iff a b).mp q
def qV(h:b=false):(!b):=by rw[h];rfl
def BZ(h:b=true):(!b)=false:=by rw[h];rfl
abbrev hP(x:Px):Ts->Rd->List O:=λs r=>hp x s.1 r []
abbrev m7(x:Px):Ts->Rd->Prop:=λs r=>Ok x.T s.2 r
abbrev Pa(x:Px)(d f:Nat)(as:List V)(s:Ts)(v:V)(s':Ts):Prop:=Sw (hP x) (m7 x) d f (.ptr 0::as) s (λ_ _=>v) s'
def og(hd:20<=d):Sw (hP x) (m7 x) d 2126 [.ptr 0] (t,a8::ts) (λr _=>dw t r.a r.b) (a8,ts):=λr h=>(vQ x t [] h).imp λ_ q=>⟨q.1,q.2.mono<|aG (by ext) hd⟩
def Ch.u{x:Px}{d D:Nat}{t a8:Tk}{ts:List Tk}{s':Ts}(hd:20<=d)(k:Ch (hP x) (m7 x) d D (a8,ts) s'):Ch (hP x) (m7 x) d D (t,a8::ts) s':=.c (og hd) k
def eL(hd:20<=d)(e:sg q.1 s=b):Pa x d 4126 [.str s] q (.bool b) q:=λr h=>au r h<|(e▸Dp:Sp 15 4126 [.ptr 0,.str s] (hp x q.1 r []) (.bool b)<|hp x q.1 r []).mono<|aG (by ext) hd
def yT(hd:20<=d)(e:wd q.1 s=b):Pa x d 5126 [.str s] q (.bool b) q:=λr h=>au r h<|(e▸CW:Sp 15 5126 [.ptr 0,.str s] (hp x q.1 r []) (.bool b)<|hp x q.1 r []).mono<|aG (by ext) hd
def Zr(x:Px)(r:Rd)(c:Bool)(h:t∈kq):Sp 15 6133 [.ptr 0,.bool c] (hp x t r []) (.int<|ew c t)<|hp x t r []:=by
 cases c
 ·exact gS (L:=kq) (c:=λt=>hp x t r []) (c':=λt=>hp x t r []) (sc:=λ_=>[]) (v:=λt=>.int<|ew false t) (P:=λ_=>True) (n:=3) (d:=11) (by ext) _ h trivial
 ·exact gS (L:=kq) (c:=λt=>hp x t r []) (c':=λt=>hp x t r []) (sc:=λ_=>[]) (v:=λt=>.int<|ew true t) (P:=λ_=>True) (n:=3) (d:=11) (by ext) _ h trivial
def vo(hd:20<=d)(h:q.1∈kq):Pa x d 6133 [.bool c] q (.int<|ew c q.1) q:=λr k=>au r k<|(Zr x r c h).mono<|aG (by ext) hd
def puP(h:Sp d f as [] v [])(hv:aT v)(hs:∀v∈as,aT v):Sw (hP x) (m7 x) d f as q (λ_ _=>v) q:=λr k=>au r k<|Sp.pure h _ hv hs
def Z3(hd:20<=d)(h:s∈cq)(b:Bool):Sw (hP x) (m7 x) d 115 [.str s,.bool b] q (λ_ _=>.none) q:=λr k=>au r k<|(nfS h b _).mono<|aG (by ext) hd
def Kr(hd:20<=d)(h:s∈cq)(b:Bool):Sw (hP x) (m7 x) d 116 [.str s,.bool b] q (λ_ _=>.none) q:=λr k=>au r k<|(JD h b _).mono<|aG (by ext) hd
def Do(b:Bool):Sw (hP x) (m7 x) 20 121 [.bool false,.bool b] q (λ_ _=>.none) q:=puP (by cases b<;>exact go (sc:=[]) (n:=2) (d:=17) trivial<|by ext) Np.none (ao Np.bool<|ao Np.bool aP)
def sV(hs:s∈cq):Pa x 23 12126 [] (.nm s p,a8::ts) (.str s) (a8,ts):=wk 2<|.c (Z3 (aV 20) hs x.s)<|.u (aV 20) .nil
def im(hs:s∈cq):Pa x 23 13126 [] (.nm s p,a8::ts) (.str s) (a8,ts):=wk 2<|.c (Kr (aV 20) hs x.s)<|.u (aV 20) .nil
def HZ:Pa x 22 14126 [] (.nm s p,a8::ts) (.str s) (a8,ts):=wk 1<|.u (aV 20) .nil
def HA:Pa x 22 14126 [] (.kw s,a8::ts) (.str s) (a8,ts):=wk 1<|.u (aV 20) .nil
def exP(hd:20<=d)(h:Pa x d 3133 [.bool c] q (nd z ps) (t',ab))(e:sg t' [44]=false):Pa x (d+2) 2133 [.bool c] q (nd z ps) (t',ab):=wk 1<|.c h<|.c (eL hd e) .nil
def Zo(h:Pa x d 5133 [.bool c] q (nd z ps) (t',ab))(m:t'∈kq)(e:rN t'=false):Pa x (d+2) 3133 [.bool c] q (nd z ps) (t',ab):=by
 rcases Hj m with⟨s,rfl⟩|⟨s,rfl⟩
 ·exact wk 1<|.c h<|.b 1 true (qV e) .nil
 ·exact wk 1<|.c h .nil
def KR(hd:20<=d)(h:Pa x d 7133 [.int 1,.bool c] q (nd z ps) (t',ab))(e:sg t' [63]=false):Pa x (d+3) 5133 [.bool c] q (nd z ps) (t',ab):=wk 2<|.c h<|.c (eL hd e) .nil
def poP(h:Pa x d 10133 [] q (nd z ps) (t',ab))(m:t'∈kq)(e:jN t'=false):Pa x (d+2) 9133 [] q (nd z ps) (t',ab):=by
 rcases Hj m with⟨s,rfl⟩|⟨s,rfl⟩
 ·exact wk 1<|.c h<|.b 1 true (qV e) .nil
 ·exact wk 1<|.c h .nil
noncomputable def gA(p:Nat):List Nat:=bif Nat.blt p 3 then [76,111,103,105,99,97,108] else [66,105,110,97,114,121]
noncomputable def lr:List Nat:=[85,110,97,114,121]
noncomputable def oF:List Nat:=[85,112,100,97,116,101]
noncomputable def nb:List Nat:=[78,97,109,101]
noncomputable def lV:List Nat:=[100,101,108,101,116,101]
noncomputable def k8:List Nat:=[77,101,109,98,101,114]
noncomputable def kX:List Nat:=[73,110,100,101,120]
noncomputable def kh:List Nat:=[67,97,108,108]
noncomputable def pG:List Nat:=[78,101,119]
noncomputable def mF:List Nat:=[110,101,119]
noncomputable def oz:List Nat:=[67,111,109,109,97]
noncomputable def wv:List Nat:=[65,115,115,105,103,110]
noncomputable def uZ:List Nat:=[67,111,110,100]
noncomputable def hR:List Nat:=[78,117,109]
noncomputable def dm:List Nat:=[83,116,114]
noncomputable def vF:List Nat:=[66,111,111,108]
noncomputable def x8:List Nat:=[78,117,108,108]
noncomputable def xO:List Nat:=[84,104,105,115]
noncomputable def vx:List Nat:=[65,114,114,97,121]
noncomputable def pM:List Nat:=[79,98,106,101,99,116]
noncomputable def dE:List Nat:=[70,117,110,99,116,105,111,110]
noncomputable def er:List Nat:=[102,117,110,99,116,105,111,110]
noncomputable def jI:List Nat:=[101,120,112,114]
def mL:List<|List Nat×List Nat×List V:=[([116,104,105,115],xO,[]),([110,117,108,108],x8,[]),([116,114,117,101],vF,[.bool true]),([102,97,108,115,101],vF,[.bool false])]
inductive Tg:List Nat->List V->Prop
 |nm (s:List Nat) (h:s∈cq):Tg nb [.str s]
 |mem (ps:List V):Tg k8 ps
 |idx (ps:List V):Tg kX ps
def qa:Tk->Bool
 |.pt s=>[[45],[43],[33],[126]].any λy=>lq y s
 |.kw s=>[[116,121,112,101,111,102],[118,111,105,100],[100,101,108,101,116,101]].any λy=>lq y s
 |_=>false
noncomputable def IB(m:Int)(c:Bool)(v:V):Option (Int×V×V)->Lo
 |none=>[("self",.val<|.ptr 0),("least",.val<|.int m),("can_in",.val<|.bool c),("left",.val v)]
 |some e=>[("self",.val<|.ptr 0),("least",.val<|.int m),("can_in",.val<|.bool c),("left",.val v),("strength",.val<|.int e.1),("op",.val e.2.1),("right",.val e.2.2)]
abbrev yQ(x:Px)(d f i:Nat)(μ:Lo)(q:Ts)(jB:Lo)(q':Ts):Prop:=eF (hP x) (m7 x) d (fJ f) (fu f i) μ q jB q'
def lA(x:Px)(d:Nat)(m:Int)(c:Bool)(v:V)(q:Ts)(w:V)(q':Ts):Prop:=∀e,∃e',yQ x d 7133 1 (IB m c v e) q (IB m c w e') q'
def lA.stop(hd:20<=d)(k:q.1∈kq)(h:¬m<=(ew c q.1:Int)):lA x (d+2) m c v q v q:=λe=>⟨e,by cases e<;>exact wl 1<|.c (vo hd (c:=c) k)<|.b 0 false (WZ h) .nil⟩
theorem lA.step(hd:20<=d)(k:t∈kq)(h:m<=(ew c t:Int))(b:Pa x d 7133 [.int<|ew c t+1,.bool c] (a8,gM) (nd am aw) aC)(l:lA x (d+2) m c (nd (gA<|ew c t) [t.v,nd z ps,nd am aw]) aC w q'):lA x (d+2) m c (nd z ps) (t,a8::gM) w q':=λe=>by
 obtain⟨cD,l⟩:=l<|some (ew c t,t.v,nd am aw);refine⟨cD,?_⟩;cases pT:Nat.blt (ew c t) 3 with
 |true=>have el:bQ (ew c t:Int) 3:=(Z.ltB_iff _ _).mpr<|Int.ofNat_lt.mpr<|Nat.blt_eq.mp pT;rw[gA,pT] at l;cases e<;>exact wl 1<|.c (vo hd (c:=c) k)<|.b 0 true (xr h)<|.c (vo hd (c:=c) k)<|.u hd<|.c b<|.b 0 true el<|.l l .nil
 |false=>
  have el:bQ (ew c t:Int) 3=false:=Bool.eq_false_iff.mpr λz=>by rw[Nat.blt_eq.mpr<|Int.ofNat_lt.mp<|(Z.ltB_iff _ _).mp z] at pT;exact nk pT
  rw[gA,pT] at l;cases e<;>exact wl 1<|.c (vo hd (c:=c) k)<|.b 0 true (xr h)<|.c (vo hd (c:=c) k)<|.u hd<|.c b<|.b 0 false el<|.l l .nil
def YM(h:Pa x d 8133 [] q (nd z ps) ak)(l:lA x (d+1) m c (nd z ps) ak (nd am aw) aC):Pa x (d+2) 7133 [.int m,.bool c] q (nd am aw) aC:=by obtain⟨e,l⟩:=l none;cases e<;>exact wk 1<|.c h<|.l l .nil
def DP(hd:23<=d)(g:Tg z ps):Pa x d 4133 [nd z ps] q .none q:=Sw.mono hd (by
 cases g with
 |nm s h=>exact wk 2<|.c (Kr (aV 20) h x.s) .nil
 |_=>exact wk 2 .nil (d:=20))
def Lb(h:Pa x d 9133 [] (t,ts) (nd z ps) q')(e:jN t=false)(e':qa t=false):Pa x (d+2) 8133 [] (t,ts) (nd z ps) q':=by
 induction t with
 |pt s=>exact wk 1<|.b 1 false e<|.b 3 true (qV e')<|.c h .nil
 |kw s=>exact wk 1<|.b 4 false e'<|.c h .nil
 |_=>exact wk 1<|.c h .nil
def unS(hd:20<=d)(e:jN (.pt s)=false)(e':qa<|.pt s)(r4:lq s lV=false)(h:Pa x d 8133 [] (a8,gM) (nd z ps) q'):Pa x (d+2) 8133 [] (.pt s,a8::gM) (nd lr [.str s,nd z ps]) q':=wk 1 (.b 1 false e<|.b 3 false (BZ e')<|.u hd<|.c h<|.b 0 false r4 .nil)
def unW(hd:20<=d)(e':qa<|.kw s)(r4:lq s lV=false)(h:Pa x d 8133 [] (a8,gM) (nd z ps) q'):Pa x (d+2) 8133 [] (.kw s,a8::gM) (nd lr [.str s,nd z ps]) q':=wk 1 (.b 4 true e'<|.u hd<|.c h<|.b 0 false r4 .nil)
def Zq(hd:20<=d)(r4:lq z nb=false)(h:Pa x d 8133 [] (a8,gM) (nd z ps) q'):Pa x (d+3) 8133 [] (.kw lV,a8::gM) (nd lr [.str lV,nd z ps]) q':=by
 obtain⟨T,st,dd,l,w,fl⟩:=x;induction st with
 |true=>exact wk 2<|.u hd<|.c h<|.b 2 false r4 .nil
 |false=>exact wk 2<|.u hd<|.c h .nil
def unU(hd:23<=d)(e:jN<|.pt s)(g:Tg z ps)(h:Pa x d 8133 [] (a8,gM) (nd z ps) q'):Pa x (d+2) 8133 [] (.pt s,a8::gM) (nd oF [.str s,.bool true,nd z ps]) q':=wk 1 (.b 1 true e<|.c (og<|aG (by ext) hd)<|.c h<|.c (DP hd g) .nil)
def ZH(hd:23<=d)(e:jN<|.pt s)(g:Tg z ps)(h:Pa x d 10133 [] q (nd z ps) (.pt s,a8::gM)):Pa x (d+2) 9133 [] q (nd oF [.str s,.bool false,nd z ps]) (a8,gM):=wk 1 (.c h<|.b 1 false (BZ e)<|.c (DP hd g)<|.c (og<|aG (by ext) hd) .nil)
noncomputable def I4(v:V):Option V->Lo
 |none=>[("self",.val<|.ptr 0),("node",.val v)]
 |some k=>[("self",.val<|.ptr 0),("node",.val v),("key",.val k)]
def f4(x:Px)(d:Nat)(v:V)(q:Ts)(w:V)(q':Ts):Prop:=∀e,∃e',yQ x d 11133 0 (I4 v e) q (I4 w e') q'
theorem f4.mono(h:d<=e)(l:f4 x d v q w q'):f4 x e v q w q':=λa=>(l a).imp λ_ l=>eF.mono h l
def f4.stop(hd:20<=d)(h:sg q.1 [46]=false)(h':sg q.1 [91]=false):f4 x (d+2) v q v q:=λe=>⟨e,by cases e<;>exact wl 1<|.c (eL hd h)<|.c (eL hd h') .nil⟩
def f4.dot(hd:20<=d)(h:Pa x d 14126 [] (a8,gM) (.str s) aC)(l:f4 x (d+3) (nd k8 [nd z ps,.str s]) aC w q'):f4 x (d+3) (nd z ps) (.pt [46],a8::gM) w q':=λe=>by obtain⟨cD,l⟩:=l e;refine⟨cD,?_⟩;cases e<;>exact wl 2<|.u hd<|.c h<|.l l .nil
theorem f4.at(hd:20<=d)(h:Pa x d 2133 [.bool true] (a8,gM) (nd am aw) (.pt [93],aD::mx))(l:f4 x (d+5) (nd kX [nd z ps,nd am aw]) (aD,mx) w q'):f4 x (d+5) (nd z ps) (.pt [91],a8::gM) w q':=λe=>by obtain⟨cD,l⟩:=l<|some<|nd am aw;refine⟨cD,?_⟩;cases e<;>exact wl 4<|.u hd<|.c h<|.u hd<|.l l .nil
def zx(l:f4 x (d+1) (nd z ps) q (nd am aw) q'):Pa x (d+2) 11133 [nd z ps] q (nd am aw) q':=by obtain⟨e,l⟩:=l none;cases e<;>exact wk 1 (.l l .nil) (d:=d)
def ur(x:Px)(d:Nat)(q:Ts)(v:V)(q':Ts):Prop:=∃f z ps ak,((f=14133/\wd q.1 mF=false)\/(f=12133/\wd q.1 mF=true))/\Pa x d f [] q (nd z ps) ak/\Pa x d 11133 [nd z ps] ak v q'
noncomputable def Ic(v:V):Lo:=[("self",.val<|.ptr 0),("node",.val v)]
abbrev nE(x:Px)(d:Nat)(v:V)(q:Ts)(w:V)(q':Ts):Prop:=yQ x d 10133 1 (Ic v) q (Ic w) q'
def nE.stop(hd:20<=d)(h:sg q.1 [40]=false):nE x (d+2) v q v q:=wl 1<|.c (eL hd h) .nil
theorem nE.step(a:Pa x d 13133 [] (.pt [40],ts) (.lst as) ak)(k:Pa x d 11133 [nd kh [nd z ps,.lst as]] ak (nd am aw) aC)(l:nE x (d+3) (nd am aw) aC w q'):nE x (d+3) (nd z ps) (.pt [40],ts) w q':=wl 2 (.c a<|.c k<|.l l .nil)
def leH(hd:20<=d)(k:ur x d q (nd am aw) ak)(l:nE x (d+1) (nd am aw) ak (nd aZ bo) q'):Pa x (d+2) 10133 [] q (nd aZ bo) q':=by
 refine me k λf z ps cG o1 a b=>?_;clear k;obtain⟨rfl,e⟩|⟨rfl,e⟩:=o1
 ·exact wk 1<|.c (yT hd e)<|.c a<|.c b<|.l l .nil
 ·exact wk 1<|.c (yT hd e)<|.c a<|.c b<|.l l .nil
def crE(hd:20<=d)(k:ur x d (a8,gM) (nd am aw) (.pt [40],mx))(a:Pa x d 13133 [] (.pt [40],mx) (.lst as) q'):Pa x (d+3) 12133 [] (.kw mF,a8::gM) (nd pG [nd am aw,.lst as]) q':=by
 refine me k λf z ps cG o2 h b=>?_;clear k;obtain⟨rfl,e⟩|⟨rfl,e⟩:=o2
 ·exact wk 2<|.u hd<|.c (yT hd e)<|.c h<|.c b<|.c a .nil
 ·exact wk 2<|.u hd<|.c (yT hd e)<|.c h<|.c b<|.c a .nil
def ar0:Pa x 25 13133 [] (.pt [40],.pt [41]::t'::ab) (.lst []) (t',ab):=wk 4 (.u (aV 20)<|.u (aV 20) .nil)
def ar1(hd:20<=d)(e:sg q.1 [41]=false)(h:Pa x d 3133 [.bool true] q (nd z ps) (.pt [41],t'::ab)):Pa x (d+5) 13133 [] (.pt [40],q.1::q.2) (.lst [nd z ps]) (t',ab):=wk 4 (.u hd<|.c (eL hd e)<|.c h<|.p (bF (n:=0))<|.u hd .nil)
def ar2(hd:20<=d)(e:sg q.1 [41]=false)(h:Pa x d 3133 [.bool true] q (nd z ps) (.pt [44],aC.1::aC.2))(bj:sg aC.1 [41]=false)(h':Pa x d 3133 [.bool true] aC (nd am aw) (.pt [41],t'::ab)):
    Pa x (d+5) 13133 [] (.pt [40],q.1::q.2) (.lst [nd z ps,nd am aw]) (t',ab):=
 wk 4 (.u hd<|.c (eL hd e)<|.c h<|.p (bF (n:=0))<|.u hd<|.c (eL hd bj)<|.c (eL hd bj)<|.c h'<|.p (bF (n:=1))<|.u hd .nil)
def prN(hs:s∈cq):Pa x 25 14133 [] (.nm s p,t'::ab) (nd nb [.str s]) (t',ab):=wk 1<|.c (sV (p:=p) hs) .nil
def prI:Pa x 23 14133 [] (.nu i,t'::ab) (nd hR [.int i]) (t',ab):=wk 2<|.c (Do x.s)<|.u (aV 20) .nil
def prS:Pa x 23 14133 [] (.tx s p,t'::ab) (nd dm [.str s]) (t',ab):=wk 2<|.c (Do x.s)<|.u (aV 20) .nil
def Ll(h:Pa x d 15133 [] (.kw s,ts) (nd z ps) q'):Pa x (d+2) 14133 [] (.kw s,ts) (nd z ps) q':=wk 1<|.c h .nil
def prP(hd:20<=d)(h:Pa x d 2133 [.bool true] q (nd z ps) (.pt [41],t'::ab)):Pa x (d+5) 14133 [] (.pt [40],q.1::q.2) (nd z ps) (t',ab):=wk 4<|.u hd<|.c h<|.u hd .nil
def prA(h:Pa x d 16133 [] (.pt [91],ts) (nd z ps) q'):Pa x (d+4) 14133 [] (.pt [91],ts) (nd z ps) q':=wk 3<|.c h .nil
def prO(h:Pa x d 17133 [] (.pt [123],ts) (nd z ps) q'):Pa x (d+4) 14133 [] (.pt [123],ts) (nd z ps) q':=wk 3<|.c h .nil
def ZS(hd:20<=d)(h:Pa x d 4136 [.str jI] (a8,gM) (nd z ps) q'):Pa x (d+3) 15133 [] (.kw er,a8::gM) (nd z ps) q':=wk 2<|.u hd<|.c h .nil
def woV(hq:k∈mL):Pa x 23 15133 [] (.kw k.1,t'::ab) (nd k.2.1 k.2.2) (t',ab):=by have g:∀s z ps,zy (bX 2 15133 [.ptr 0] (λ_ _=>nd z ps)<|Ch.c (D:=22) (og (x:=x) (t:=.kw s) (a8:=t') (ts:=ab)<|aV 20) .nil)->Pa x 23 15133 [] (.kw s,t'::ab) (nd z ps) (t',ab):=λs z ps e=>wk 2 (.u (aV 20) .nil) e;simp only[mL,List.mem_cons,List.not_mem_nil,or_false] at hq;rcases hq with rfl|rfl|rfl|rfl<;>exact g _ _ _<|by ext
def ZO(hd:20<=d)(h:Pa x d 7133 [.int 1,.bool c] q (nd z ps) (.pt [63],ak.1::ak.2))(aL:Pa x d 3133 [.bool true] ak (nd am aw) (.pt [58],aC.1::aC.2))(bW:Pa x d 3133 [.bool c] aC (nd aZ bo) q'):
    Pa x (d+5) 5133 [.bool c] q (nd uZ [nd z ps,nd am aw,nd aZ bo]) q':=wk 4<|.c h<|.u hd<|.c aL<|.u hd<|.c bW .nil
def asA(hd:23<=d)(g:Tg z ps)(e:rN<|.pt s)(h:Pa x d 5133 [.bool c] q (nd z ps) (.pt s,ak.1::ak.2))(aL:Pa x d 3133 [.bool c] ak (nd am aw) q'):
    Pa x (d+2) 3133 [.bool c] q (nd wv [.str s,nd z ps,nd am aw]) q':=wk 1<|.c h<|.b 1 false (BZ e)<|.c (DP hd g)<|.c (og<|aG (by ext) hd)<|.c aL .nil
def Yy(hd:20<=d)(h:Pa x d 3133 [.bool c] q (nd z ps) (.pt [44],ak.1::ak.2))(aL:Pa x d 3133 [.bool c] ak (nd am aw) q')(e:sg q'.1 [44]=false):
    Pa x (d+4) 2133 [.bool c] q (nd oz [.lst [nd z ps,nd am aw]]) q':=wk 3<|.c h<|.u hd<|.c aL<|.p (bF (n:=1))<|.c (eL hd e) .nil
def XS(hd:20<=d)(h:Pa x d 3133 [.bool c] q (nd z ps) (.pt [44],ak.1::ak.2))(aL:Pa x d 3133 [.bool c] ak (nd am aw) (.pt [44],aC.1::aC.2))(bW:Pa x d 3133 [.bool c] aC (nd aZ bo) q')(e:sg q'.1 [44]=false):
    Pa x (d+4) 2133 [.bool c] q (nd oz [.lst [nd z ps,nd am aw,nd aZ bo]]) q':=wk 3<|.c h<|.u hd<|.c aL<|.p (bF (n:=1))<|.u hd<|.c bW<|.p (bF (n:=2))<|.c (eL hd e) .nil
noncomputable def Ix(xs:List V):Lo:=[("self",.val<|.ptr 0),("line",.val<|.int 1),("found",.own xs)]
abbrev gD(x:Px)(d:Nat)(xs:List V)(q:Ts)(ys:List V)(q':Ts):Prop:=yQ x d 16133 2 (Ix xs) q (Ix ys) q'
def gD.stop:gD x 22 xs (.pt [93],ts) xs (.pt [93],ts):=wl 1 .nil (d:=20)
def gD.hole(hd:20<=d)(hl:xs.length<ae)(l:gD x (d+4) (xs++[.none]) q ys q'):gD x (d+4) xs (.pt [44],q.1::q.2) ys q':=wl 3<|.u hd<|.p hl<|.l l .nil
def gD.last(hd:20<=d)(hl:xs.length<ae)(e:sg q.1 [93]=false)(e':sg q.1 [44]=false)(h:Pa x d 3133 [.bool true] q (nd z ps) (.pt [93],ts))(l:gD x (d+4) (xs++[nd z ps]) (.pt [93],ts) ys q'):gD x (d+4) xs q ys q':=wl 3 (.c (eL hd e)<|.c (eL hd e')<|.c h<|.p hl<|.l l .nil)
def gD.more(hd:20<=d)(hl:xs.length<ae)(e:sg q.1 [93]=false)(e':sg q.1 [44]=false)(h:Pa x d 3133 [.bool true] q (nd z ps) (.pt [44],aC.1::aC.2))(l:gD x (d+4) (xs++[nd z ps]) aC ys q'):gD x (d+4) xs q ys q':=wl 3 (.c (eL hd e)<|.c (eL hd e')<|.c h<|.p hl<|.u hd<|.l l .nil)
def Zl(hd:20<=d)(l:gD x (d+4) [] q xs (.pt [93],t'::ab)):Pa x (d+5) 16133 [] (.pt [91],q.1::q.2) (nd vx [.lst xs]) (t',ab):=wk 4<|.u hd<|.l l<|.u hd .nil
abbrev Ss:=Px×List V×Ts
noncomputable def xl(x:Px)(l:Int):Px:=⟨x.T,x.s,x.d,l,x.w,x.fl⟩
noncomputable def xw(x:Px)(w:Int):Px:=⟨x.T,x.s,x.d,x.l,w,x.fl⟩
noncomputable def xf(x:Px)(fl:List Bool):Px:=⟨x.T,x.s,x.d,x.l,x.w,fl⟩
noncomputable def B2:List Nat:=[66,108,111,99,107]
noncomputable def CJ:List Nat:=[69,109,112,116,121]
noncomputable def di:List Nat:=[69,120,112,114]
noncomputable def eK:List Nat:=[86,97,114]
noncomputable def t7:List Nat:=[73,102]
noncomputable def yi:List Nat:=[87,104,105,108,101]
noncomputable def wu:List Nat:=[68,111,87,104,105,108,101]
noncomputable def dO:List Nat:=[70,111,114]
noncomputable def mQ:List Nat:=[70,111,114,73,110]
noncomputable def xT:List Nat:=[83,119,105,116,99,104]
noncomputable def oj:List Nat:=[84,114,121]
noncomputable def ki:List Nat:=[76,97,98,101,108,108,101,100]
noncomputable def u8:List Nat:=[66,114,101,97,107]
noncomputable def Ih:List Nat:=[67,111,110,116,105,110,117,101]
noncomputable def rc:List Nat:=[82,101,116,117,114,110]
noncomputable def ve:List Nat:=[84,104,114,111,119]
noncomputable def BR:List Nat:=[68,101,98,117,103,103,101,114]
abbrev hS:Ss->Rd->List O:=λs r=>hp s.1 s.2.2.1 r s.2.1
abbrev r5:Ss->Rd->Prop:=λs r=>Ok s.1.T s.2.2.2 r
abbrev Pz(d f:Nat)(as:List V)(s:Ss)(v:V)(s':Ss):Prop:=Sw hS (r5) d f (.ptr 0::as) s (λ_ _=>v) s'
def cP(h:Pa x d f as q v q'):Pz d f as (x,[],q) v (x,[],q'):=h
def Cw(hd:20<=d):Sw hS (r5) d 2126 [.ptr 0] (x,aR,t,a8::ts) (λr _=>dw t r.a r.b) (x,aR,a8,ts):=λr h=>(vQ x t aR h).imp λ_ q=>⟨q.1,q.2.mono<|aG (by ext) hd⟩
def Ch.t{x:Px}{aR:List V}{d D:Nat}{t a8:Tk}{ts:List Tk}{s':Ss}(hd:20<=d)(k:Ch hS r5 d D (x,aR,a8,ts) s'):Ch hS r5 d D (x,aR,t,a8::ts) s':=.c (Cw hd) k
def xt(hd:20<=d):Sw hS (r5) d 3126 [.ptr 0] (x,aR,t,a8::ts) (λ_ r=>dw a8 r.la r.lb) (x,aR,t,a8::ts):=λr h=>(Yv x t aR h).imp λ_ q=>⟨q.1,q.2.mono<|aG (by ext) hd⟩
def fL(hd:20<=d)(e:sg q.1 s=b):Pz d 4126 [.str s] (x,aR,q) (.bool b) (x,aR,q):=λr h=>au r h<|(e▸Dp:Sp 15 4126 [.ptr 0,.str s] (hp x q.1 r aR) (.bool b)<|hp x q.1 r aR).mono<|aG (by ext) hd
def mc(hd:20<=d)(e:wd q.1 s=b):Pz d 5126 [.str s] (x,aR,q) (.bool b) (x,aR,q):=λr h=>au r h<|(e▸CW:Sp 15 5126 [.ptr 0,.str s] (hp x q.1 r aR) (.bool b)<|hp x q.1 r aR).mono<|aG (by ext) hd
def hU(h:Pz d 9136 [.str s,.lst aR] (x,[],.kw s,ts) (nd z ps) (x',[],q')):Pz (d+2) 7136 [] (x,aR,.kw s,ts) (nd z ps) (x',[],q'):=wk 1 (.x (x,[],.kw s,ts)<|.c h .nil)
def stB(h:Pz d 10136 [] (x,[],.pt [123],ts) (.lst xs) (x',[],q')):Pz (d+3) 7136 [] (x,aR,.pt [123],ts) (nd B2 [.lst xs]) (x',[],q'):=wk 2 (.x (x,[],.pt [123],ts)<|.c h .nil)
def stE:Pz 24 7136 [] (x,aR,.pt [59],t'::ab) (nd CJ []) (x,[],t',ab):=wk 3 (.x (x,[],.pt [59],t'::ab)<|.t (aV 20) .nil)
def Yr(hd:20<=d)(e:sg (.pt s) [123]=false)(e':sg (.pt s) [59]=false)(h:Pz d 8136 [] (x,[],.pt s,ts) (nd z ps) (x',[],q')):Pz (d+3) 7136 [] (x,aR,.pt s,ts) (nd z ps) (x',[],q'):=wk 2 (.x (x,[],.pt s,ts)<|.c (fL hd e)<|.c (fL hd e')<|.c h .nil)
def stI(h:Pz d 8136 [] (x,[],.nu i,ts) (nd z ps) (x',[],q')):Pz (d+4) 7136 [] (x,aR,.nu i,ts) (nd z ps) (x',[],q'):=wk 3 (.x (x,[],.nu i,ts)<|.c h .nil)
def ZN(h:Pz d 8136 [] (x,[],.tx s p,ts) (nd z ps) (x',[],q')):Pz (d+4) 7136 [] (x,aR,.tx s p,ts) (nd z ps) (x',[],q'):=wk 3 (.x (x,[],.tx s p,ts)<|.c h .nil)
def ZD(hd:20<=d)(e:sg (.pt u) [58]=false)(h:Pz d 8136 [] (x,[],.nm s p,.pt u::ts) (nd z ps) (x',[],q')):Pz (d+4) 7136 [] (x,aR,.nm s p,.pt u::ts) (nd z ps) (x',[],q'):=wk 3 (.x (x,[],.nm s p,.pt u::ts)<|.c (xt hd)<|.b 1 false e<|.c h .nil)
def J1(hd:20<=d)(h:Pz d 18136 [.lst aR] (x,[],.nm s p,.pt [58]::ts) (nd z ps) (x',[],q')):Pz (d+2) 7136 [] (x,aR,.nm s p,.pt [58]::ts) (nd z ps) (x',[],q'):=wk 1 (.x (x,[],.nm s p,.pt [58]::ts)<|.c (xt hd)<|.c h .nil)
def Kc(hd:20<=d)(h:Pa x d 2133 [.bool true] q (nd z ps) (.pt [59],q'.1::q'.2)):Pz (d+5) 8136 [] (x,[],q) (nd di [nd z ps]) (x,[],q'):=wk 4 (.c (cP h)<|.t hd .nil)
noncomputable def gw(xs:List V):Lo:=[("self",.val<|.ptr 0),("found",.own xs)]
abbrev lg(d f i:Nat)(μ:Lo)(s:Ss)(jB:Lo)(s':Ss):Prop:=eF hS (r5) d (fJ f) (fu f i) μ s jB s'
def C0:lg 23 10136 2 (gw xs) (x,[],.pt [125],ts) (gw xs) (x,[],.pt [125],ts):=wl 2 .nil (d:=20)
def DJ(hd:20<=d)(hl:xs.length<ae)(e:sg q.1 [125]=false)(h:Pz d 7136 [] (x,[],q) (nd z ps) (x',[],ak))(l:lg (d+2) 10136 2 (gw<|xs++[nd z ps]) (x',[],ak) (gw ys) (x',[],q')):lg (d+2) 10136 2 (gw xs) (x,[],q) (gw ys) (x',[],q'):=wl 1 (.c (fL hd e)<|.c h<|.p hl<|.l l .nil)
def De(hd:20<=d)(l:lg (d+4) 10136 2 (gw []) (x,[],q) (gw xs) (x',[],.pt [125],t'::ab)):Pz (d+5) 10136 [] (x,[],.pt [123],q.1::q.2) (.lst xs) (x',[],t',ab):=wk 4 (.t hd<|.l l<|.t hd .nil)
noncomputable def fG:List Nat:=[118,97,114]
noncomputable def qi:List Nat:=[105,102]
noncomputable def mC:List Nat:=[101,108,115,101]
noncomputable def iZ:List Nat:=[119,104,105,108,101]
noncomputable def ry:List Nat:=[100,111]
noncomputable def fk:List Nat:=[102,111,114]
noncomputable def xP:List Nat:=[100,101,98,117,103,103,101,114]
noncomputable def mD:List Nat:=[114,101,116,117,114,110]
noncomputable def tN:List Nat:=[116,104,114,111,119]
noncomputable def kg:List Nat:=[98,114,101,97,107]
noncomputable def yo:List Nat:=[99,111,110,116,105,110,117,101]
def YY(hd:23<=d)(hs:s∈cq)(h:Pa x d 3133 [.bool c] ak (nd z ps) q')(e:sg q'.1 [44]=false):Pa x (d+4) 11136 [.bool c] (.nm s p,.pt [61]::ak.1::ak.2) (.lst [.tup [.str s,nd z ps]]) q':=wk 3 (.c ((im (p:=p) hs).mono hd)<|.c (og<|aG (by ext) hd)<|.c h<|.p (bF (n:=0))<|.c (eL (aG (by ext) hd) e) .nil)
def XM(hs:s∈cq)(e:sg q'.1 [61]=false)(e':sg q'.1 [44]=false):Pa x 27 11136 [.bool c] (.nm s p,q'.1::q'.2) (.lst [.tup [.str s,.none]]) q':=wk 3 (.c (im (p:=p) hs)<|.c (eL (by ext) e)<|.p (bF (n:=0))<|.c (eL (by ext) e') .nil) (d:=23)
def UZ(hd:23<=d)(hs:s∈cq)(ik:af∈cq)(h:Pa x d 3133 [.bool c] ak (nd z ps) (.pt [44],.nm af ck::.pt [61]::aC.1::aC.2))(aL:Pa x d 3133 [.bool c] aC (nd am aw) q')(e:sg q'.1 [44]=false):Pa x (d+4) 11136 [.bool c] (.nm s p,.pt [61]::ak.1::ak.2) (.lst [.tup [.str s,nd z ps],.tup [.str af,nd am aw]]) q':=
 have g:20<=d:=aG (by ext) hd
 wk 3 (.c ((im (p:=p) hs).mono hd)<|.u g<|.c h<|.p (bF (n:=0))<|.u g<|.c ((im (p:=ck) ik).mono hd)<|.u g<|.c aL<|.p (bF (n:=1))<|.c (eL g e) .nil)
def Wn(hd:23<=d)(hs:s∈cq)(ik:af∈cq)(h:Pa x d 3133 [.bool c] ak (nd z ps) (.pt [44],.nm af ck::q'.1::q'.2))(e:sg q'.1 [61]=false)(e':sg q'.1 [44]=false):Pa x (d+4) 11136 [.bool c] (.nm s p,.pt [61]::ak.1::ak.2) (.lst [.tup [.str s,nd z ps],.tup [.str af,.none]]) q':=
 have g:20<=d:=aG (by ext) hd
 wk 3 (.c ((im (p:=p) hs).mono hd)<|.u g<|.c h<|.p (bF (n:=0))<|.u g<|.c ((im (p:=ck) ik).mono hd)<|.c (eL g e)<|.p (bF (n:=1))<|.c (eL g e') .nil)
def UO(hd:23<=d)(hs:s∈cq)(ik:af∈cq)(aL:Pa x d 3133 [.bool c] aC (nd am aw) q')(e:sg q'.1 [44]=false):Pa x (d+4) 11136 [.bool c] (.nm s p,.pt [44]::.nm af ck::.pt [61]::aC.1::aC.2) (.lst [.tup [.str s,.none],.tup [.str af,nd am aw]]) q':=
 have g:20<=d:=aG (by ext) hd
 wk 3 (.c ((im (p:=p) hs).mono hd)<|.p (bF (n:=0))<|.u g<|.c ((im (p:=ck) ik).mono hd)<|.u g<|.c aL<|.p (bF (n:=1))<|.c (eL g e) .nil)
def U5(hs:s∈cq)(ik:af∈cq)(e:sg q'.1 [61]=false)(e':sg q'.1 [44]=false):Pa x 27 11136 [.bool c] (.nm s p,.pt [44]::.nm af ck::q'.1::q'.2) (.lst [.tup [.str s,.none],.tup [.str af,.none]]) q':=wk 3 (.c (im (p:=p) hs)<|.p (bF (n:=0))<|.u (by ext)<|.c (im (p:=ck) ik)<|.c (eL (by ext) e)<|.p (bF (n:=1))<|.c (eL (by ext) e') .nil) (d:=23)
def UN(hd:20<=d)(h:Pa x d 11136 [.bool true] q (.lst xs) (.pt [59],q'.1::q'.2)):Pz (d+5) 9136 [.str fG,.lst aR] (x,[],.kw fG,q.1::q.2) (nd eK [.lst xs]) (x,[],q'):=wk 4 (.t hd<|.c (cP h)<|.t hd .nil)
def V9:Pz 25 9136 [.str xP,.lst aR] (x,[],.kw xP,.pt [59]::t'::ab) (nd BR []) (x,[],t',ab):=wk 4 (.t (aV 20)<|.t (aV 20) .nil)
def X7(hd:20<=d)(h:Pa x d 2133 [.bool true] q (nd z ps) (.pt [41],q'.1::q'.2)):Pa x (d+5) 12136 [] (.pt [40],q.1::q.2) (nd z ps) q':=wk 4 (.u hd<|.c h<|.u hd .nil)
def XB(hd:20<=d)(h:Pa x d 12136 [] q (nd z ps) ak)(aL:Pz d 7136 [] (x,[],ak) (nd am aw) (aN,[],q'))(e:wd q'.1 mC=false):Pz (d+3) 9136 [.str qi,.lst aR] (x,[],.kw qi,q.1::q.2) (nd t7 [nd z ps,nd am aw,.none]) (aN,[],q'):=wk 2 (.t hd<|.c (cP h)<|.c aL<|.c (mc hd e) .nil)
def WB(hd:20<=d)(h:Pa x d 12136 [] q (nd z ps) ak)(aL:Pz d 7136 [] (x,[],ak) (nd am aw) (aN,[],.kw mC,aC.1::aC.2))(bW:Pz d 7136 [] (aN,[],aC) (nd aZ bo) (x',[],q')):Pz (d+4) 9136 [.str qi,.lst aR] (x,[],.kw qi,q.1::q.2) (nd t7 [nd z ps,nd am aw,nd aZ bo]) (x',[],q'):=wk 3 (.t hd<|.c (cP h)<|.c aL<|.t hd<|.c bW .nil)
def loB(h:Pz d 7136 [] (xl x<|x.l+1,[],q) (nd z ps) (xl x<|x.l+1,[],q')):Pz (d+2) 15136 [] (x,[],q) (nd z ps) (xl x<|x.l+1-1,[],q'):=wk 1 (.x (xl x<|x.l+1,[],q)<|.c h<|.x (xl x<|x.l+1-1,[],q') .nil)
theorem O9:xl x (x.l+1-1)=x:=by rw[Int.add_sub_cancel];rfl
def loW(hd:20<=d)(h:Pa x d 12136 [] q (nd z ps) ak)(aL:Pz d 15136 [] (x,[],ak) (nd am aw) (x',[],q')):Pz (d+3) 9136 [.str iZ,.lst []] (x,[],.kw iZ,q.1::q.2) (nd yi [nd z ps,nd am aw]) (x',[],q'):=wk 2 (.t hd<|.c (cP h)<|.c aL .nil)
def loD(hd:20<=d)(h:Pz d 15136 [] (x,[],q) (nd z ps) (x',[],.kw iZ,ak.1::ak.2))(aL:Pa x' d 12136 [] ak (nd am aw) (.pt [59],q'.1::q'.2)):Pz (d+6) 9136 [.str ry,.lst []] (x,[],.kw ry,q.1::q.2) (nd wu [nd z ps,nd am aw]) (x',[],q'):=wk 5 (.t hd<|.c h<|.t hd<|.c (cP aL)<|.t hd .nil)
noncomputable def fM:List Nat:=[105,110]
noncomputable def tf:List Nat:=[115,119,105,116,99,104]
noncomputable def mP:List Nat:=[99,97,115,101]
noncomputable def mJ:List Nat:=[100,101,102,97,117,108,116]
noncomputable def lM:List Nat:=[116,114,121]
noncomputable def k6:List Nat:=[99,97,116,99,104]
noncomputable def iH:List Nat:=[102,105,110,97,108,108,121]
def bfQ(hd:20<=d)(h:s∈cq)(b:Bool):Sw hS (r5) d 116 [.str s,.bool b] (x,aR,q) (λ_ _=>.none) (x,aR,q):=λr k=>au r k<|(JD h b _).mono<|aG (by ext) hd
def Y5(hd:20<=d)(h:Pa x d 11136 [.bool false] q (.lst [v]) (.kw fM,ak.1::ak.2))(aL:Pa x d 2133 [.bool true] ak (nd am aw) (.pt [41],aC.1::aC.2))(bW:Pz d 15136 [] (x,[],aC) (nd aZ bo) (x',[],q')):
    Pz (d+6) 16136 [.int 1] (x,[],.pt [40],.kw fG::q.1::q.2) (nd mQ [nd eK [.lst [v]],nd am aw,nd aZ bo]) (x',[],q'):=
 wk 5 (.t hd<|.t hd<|.c (cP h)<|.p (a6 (n:=1))<|.t hd<|.c (cP aL)<|.t hd<|.c bW .nil)
def Zp(hd:20<=d)(g:Tg aB kP)(e:wd q.1 fG=false)(e':sg q.1 [59]=false)(h:Pa x d 2133 [.bool false] q (nd aB kP) (.kw fM,ak.1::ak.2))(aL:Pa x d 2133 [.bool true] ak (nd am aw) (.pt [41],aC.1::aC.2))(bW:Pz d 15136 [] (x,[],aC) (nd aZ bo) (x',[],q')):
    Pz (d+6) 16136 [.int 1] (x,[],.pt [40],q.1::q.2) (nd mQ [nd aB kP,nd am aw,nd aZ bo]) (x',[],q'):=by
 cases g with
 |nm s hs=>exact wk 5<|.t hd<|.c (mc hd e)<|.c (fL hd e')<|.c (cP h)<|.c (bfQ hd hs x.s)<|.t hd<|.c (cP aL)<|.t hd<|.c bW .nil
 |_=>exact wk 5<|.t hd<|.c (mc hd e)<|.c (fL hd e')<|.c (cP h)<|.t hd<|.c (cP aL)<|.t hd<|.c bW .nil
def leN(e:bA x.d 0=false):Pz 26 9136 [.str mD,.lst aR] (x,[],.kw mD,.pt [59]::t'::ab) (nd rc [.none]) (x,[],t',ab):=wk 5 (.t (aV 20)<|.b 1 false e<|.t (aV 20) .nil)
def leV(hd:22<=d)(e:bA x.d 0=false)(ce:Pa x d 15126 [] q (.bool false) q)(h:Pa x d 2133 [.bool true] q (nd z ps) (.pt [59],q'.1::q'.2)):Pz (d+6) 9136 [.str mD,.lst aR] (x,[],.kw mD,q.1::q.2) (nd rc [nd z ps]) (x,[],q'):=wk 5 (.c (Cw<|aG (by ext) hd)<|.b 1 false e<|.c (cP ce)<|.c (cP h)<|.c (Cw<|aG (by ext) hd) .nil)
def thV(hd:20<=d)(h:Pa x d 2133 [.bool true] q (nd z ps) (.pt [59],q'.1::q'.2)):Pz (d+6) 9136 [.str tN,.lst aR] (x,[],.kw tN,q.1::q.2) (nd ve [nd z ps]) (x,[],q'):=wk 5 (.t hd<|.c (cP h)<|.t hd .nil)
def XG(e:sg q.1 [59]=false)(e':sg q.1 [125]=false)(en:lq q.1.k [101,110,100]=false):Pa x 23 15126 [] q (.bool false) q:=wk 2 (.c (eL (aV 20) e)<|.c (eL (aV 20) e')<|.b 1 false en .nil)
def brN(e:bQ 0<|x.l+x.w):Pz 26 9136 [.str kg,.lst aR] (x,[],.kw kg,.pt [59]::t'::ab) (nd u8 [.none]) (x,[],t',ab):=wk 5 (.t (aV 20)<|.b 4 true e<|.t (aV 20) .nil)
def cnN(e:bQ 0 x.l):Pz 26 9136 [.str yo,.lst aR] (x,[],.kw yo,.pt [59]::t'::ab) (nd Ih [.none]) (x,[],t',ab):=wk 5 (.t (aV 20)<|.b 4 true e<|.t (aV 20) .nil)
def Rg(hd:20<=d)(h:Pa x d 11136 [.bool false] q (.lst xs) (.pt [59],aC.1::aC.2))(bj:sg aC.1 [59]=false)(aL:Pa x d 2133 [.bool true] aC (nd am aw) (.pt [59],de.1::de.2))(cD:sg de.1 [41]=false)(bW:Pa x d 2133 [.bool true] de (nd aZ bo) (.pt [41],cG.1::cG.2))(d9:Pz d 15136 [] (x,[],cG) (nd a4 bV) (x',[],q')):Pz (d+5) 16136 [.int 1] (x,[],.pt [40],.kw fG::q.1::q.2) (nd dO [nd eK [.lst xs],nd am aw,nd aZ bo,nd a4 bV]) (x',[],q'):=wk 4 (.t hd<|.t hd<|.c (cP h)<|.t hd<|.c (fL hd bj)<|.c (cP aL)<|.t hd<|.c (fL hd cD)<|.c (cP bW)<|.t hd<|.c d9 .nil)
def S8(hd:20<=d)(h:Pa x d 11136 [.bool false] q (.lst xs) (.pt [59],aC.1::aC.2))(bj:sg aC.1 [59]=false)(aL:Pa x d 2133 [.bool true] aC (nd am aw) (.pt [59],.pt [41]::cG.1::cG.2))(d9:Pz d 15136 [] (x,[],cG) (nd a4 bV) (x',[],q')):Pz (d+5) 16136 [.int 1] (x,[],.pt [40],.kw fG::q.1::q.2) (nd dO [nd eK [.lst xs],nd am aw,.none,nd a4 bV]) (x',[],q'):=wk 4 (.t hd<|.t hd<|.c (cP h)<|.t hd<|.c (fL hd bj)<|.c (cP aL)<|.t hd<|.t hd<|.c d9 .nil)
def Ro(hd:20<=d)(h:Pa x d 11136 [.bool false] q (.lst xs) (.pt [59],.pt [59]::de.1::de.2))(cD:sg de.1 [41]=false)(bW:Pa x d 2133 [.bool true] de (nd aZ bo) (.pt [41],cG.1::cG.2))(d9:Pz d 15136 [] (x,[],cG) (nd a4 bV) (x',[],q')):Pz (d+5) 16136 [.int 1] (x,[],.pt [40],.kw fG::q.1::q.2) (nd dO [nd eK [.lst xs],.none,nd aZ bo,nd a4 bV]) (x',[],q'):=wk 4 (.t hd<|.t hd<|.c (cP h)<|.t hd<|.t hd<|.c (fL hd cD)<|.c (cP bW)<|.t hd<|.c d9 .nil)
def Ul(hd:20<=d)(h:Pa x d 11136 [.bool false] q (.lst xs) (.pt [59],.pt [59]::.pt [41]::cG.1::cG.2))(d9:Pz d 15136 [] (x,[],cG) (nd a4 bV) (x',[],q')):Pz (d+5) 16136 [.int 1] (x,[],.pt [40],.kw fG::q.1::q.2) (nd dO [nd eK [.lst xs],.none,.none,nd a4 bV]) (x',[],q'):=wk 4 (.t hd<|.t hd<|.c (cP h)<|.t hd<|.t hd<|.t hd<|.c d9 .nil)
def TL(hd:20<=d)(e:wd q.1 fG=false)(e':sg q.1 [59]=false)(h:Pa x d 2133 [.bool false] q (nd aB kP) (.pt [59],aC.1::aC.2))(bj:sg aC.1 [59]=false)(aL:Pa x d 2133 [.bool true] aC (nd am aw) (.pt [59],de.1::de.2))(cD:sg de.1 [41]=false)(bW:Pa x d 2133 [.bool true] de (nd aZ bo) (.pt [41],cG.1::cG.2))(d9:Pz d 15136 [] (x,[],cG) (nd a4 bV) (x',[],q')):Pz (d+5) 16136 [.int 1] (x,[],.pt [40],q.1::q.2) (nd dO [nd aB kP,nd am aw,nd aZ bo,nd a4 bV]) (x',[],q'):=wk 4 (.t hd<|.c (mc hd e)<|.c (fL hd e')<|.c (cP h)<|.t hd<|.c (fL hd bj)<|.c (cP aL)<|.t hd<|.c (fL hd cD)<|.c (cP bW)<|.t hd<|.c d9 .nil)
def Sk(hd:20<=d)(e:wd q.1 fG=false)(e':sg q.1 [59]=false)(h:Pa x d 2133 [.bool false] q (nd aB kP) (.pt [59],aC.1::aC.2))(bj:sg aC.1 [59]=false)(aL:Pa x d 2133 [.bool true] aC (nd am aw) (.pt [59],.pt [41]::cG.1::cG.2))(d9:Pz d 15136 [] (x,[],cG) (nd a4 bV) (x',[],q')):Pz (d+5) 16136 [.int 1] (x,[],.pt [40],q.1::q.2) (nd dO [nd aB kP,nd am aw,.none,nd a4 bV]) (x',[],q'):=wk 4 (.t hd<|.c (mc hd e)<|.c (fL hd e')<|.c (cP h)<|.t hd<|.c (fL hd bj)<|.c (cP aL)<|.t hd<|.t hd<|.c d9 .nil)
def Tb(hd:20<=d)(e:wd q.1 fG=false)(e':sg q.1 [59]=false)(h:Pa x d 2133 [.bool false] q (nd aB kP) (.pt [59],.pt [59]::de.1::de.2))(cD:sg de.1 [41]=false)(bW:Pa x d 2133 [.bool true] de (nd aZ bo) (.pt [41],cG.1::cG.2))(d9:Pz d 15136 [] (x,[],cG) (nd a4 bV) (x',[],q')):Pz (d+5) 16136 [.int 1] (x,[],.pt [40],q.1::q.2) (nd dO [nd aB kP,.none,nd aZ bo,nd a4 bV]) (x',[],q'):=wk 4 (.t hd<|.c (mc hd e)<|.c (fL hd e')<|.c (cP h)<|.t hd<|.t hd<|.c (fL hd cD)<|.c (cP bW)<|.t hd<|.c d9 .nil)
def T3(hd:20<=d)(e:wd q.1 fG=false)(e':sg q.1 [59]=false)(h:Pa x d 2133 [.bool false] q (nd aB kP) (.pt [59],.pt [59]::.pt [41]::cG.1::cG.2))(d9:Pz d 15136 [] (x,[],cG) (nd a4 bV) (x',[],q')):Pz (d+5) 16136 [.int 1] (x,[],.pt [40],q.1::q.2) (nd dO [nd aB kP,.none,.none,nd a4 bV]) (x',[],q'):=wk 4 (.t hd<|.c (mc hd e)<|.c (fL hd e')<|.c (cP h)<|.t hd<|.t hd<|.t hd<|.c d9 .nil)
def Ry(hd:20<=d)(bj:sg aC.1 [59]=false)(aL:Pa x d 2133 [.bool true] aC (nd am aw) (.pt [59],de.1::de.2))(cD:sg de.1 [41]=false)(bW:Pa x d 2133 [.bool true] de (nd aZ bo) (.pt [41],cG.1::cG.2))(d9:Pz d 15136 [] (x,[],cG) (nd a4 bV) (x',[],q')):Pz (d+5) 16136 [.int 1] (x,[],.pt [40],.pt [59]::aC.1::aC.2) (nd dO [.none,nd am aw,nd aZ bo,nd a4 bV]) (x',[],q'):=wk 4 (.t hd<|.t hd<|.c (fL hd bj)<|.c (cP aL)<|.t hd<|.c (fL hd cD)<|.c (cP bW)<|.t hd<|.c d9 .nil)
def Su(hd:20<=d)(bj:sg aC.1 [59]=false)(aL:Pa x d 2133 [.bool true] aC (nd am aw) (.pt [59],.pt [41]::cG.1::cG.2))(d9:Pz d 15136 [] (x,[],cG) (nd a4 bV) (x',[],q')):Pz (d+5) 16136 [.int 1] (x,[],.pt [40],.pt [59]::aC.1::aC.2) (nd dO [.none,nd am aw,.none,nd a4 bV]) (x',[],q'):=wk 4 (.t hd<|.t hd<|.c (fL hd bj)<|.c (cP aL)<|.t hd<|.t hd<|.c d9 .nil)
def S1(hd:20<=d)(cD:sg de.1 [41]=false)(bW:Pa x d 2133 [.bool true] de (nd aZ bo) (.pt [41],cG.1::cG.2))(d9:Pz d 15136 [] (x,[],cG) (nd a4 bV) (x',[],q')):Pz (d+5) 16136 [.int 1] (x,[],.pt [40],.pt [59]::.pt [59]::de.1::de.2) (nd dO [.none,.none,nd aZ bo,nd a4 bV]) (x',[],q'):=wk 4 (.t hd<|.t hd<|.t hd<|.c (fL hd cD)<|.c (cP bW)<|.t hd<|.c d9 .nil)
def RV(hd:20<=d)(d9:Pz d 15136 [] (x,[],cG) (nd a4 bV) (x',[],q')):Pz (d+5) 16136 [.int 1] (x,[],.pt [40],.pt [59]::.pt [59]::.pt [41]::cG.1::cG.2) (nd dO [.none,.none,.none,nd a4 bV]) (x',[],q'):=wk 4 (.t hd<|.t hd<|.t hd<|.t hd<|.c d9 .nil)
def loF(hd:20<=d)(h:Pz d 16136 [.int 1] (x,[],q) (nd z ps) (x',[],q')):Pz (d+3) 9136 [.str fk,.lst []] (x,[],.kw fk,q.1::q.2) (nd z ps) (x',[],q'):=wk 2 (.t hd<|.c h .nil)
noncomputable def x1(T:List Nat)(S:Bool)(D L w':Int)(b:Bool):Px:=⟨T,S,D,L,w',[b]⟩
def Yk(hd:20<=d)(h:Pz d 16136 [.int 1] (x1 T S D L w' true,[],q) (nd z ps) (x',[],q')):Pz (d+3) 9136 [.str fk,.lst [.ptr 4]] (x1 T S D L w' b,[],.kw fk,q.1::q.2) (nd z ps) (x',[],q'):=wk 2 (.x (x1 T S D L w' true,[],.kw fk,q.1::q.2)<|.t hd<|.c h .nil)
def XJ(hd:20<=d)(h:Pa (x1 T S D L w' true) d 12136 [] q (nd z ps) ak)(aL:Pz d 15136 [] (x1 T S D L w' true,[],ak) (nd am aw) (x',[],q')):Pz (d+3) 9136 [.str iZ,.lst [.ptr 4]] (x1 T S D L w' b,[],.kw iZ,q.1::q.2) (nd yi [nd z ps,nd am aw]) (x',[],q'):=wk 2 (.x (x1 T S D L w' true,[],.kw iZ,q.1::q.2)<|.t hd<|.c (cP h)<|.c aL .nil)
def Zb(hd:20<=d)(h:Pz d 15136 [] (x1 T S D L w' true,[],q) (nd z ps) (x',[],.kw iZ,ak.1::ak.2))(aL:Pa x' d 12136 [] ak (nd am aw) (.pt [59],q'.1::q'.2)):Pz (d+6) 9136 [.str ry,.lst [.ptr 4]] (x1 T S D L w' b,[],.kw ry,q.1::q.2) (nd wu [nd z ps,nd am aw]) (x',[],q'):=wk 5 (.x (x1 T S D L w' true,[],.kw ry,q.1::q.2)<|.t hd<|.c h<|.t hd<|.c (cP aL)<|.t hd .nil)
def YL(hd:23<=d)(hs:s∈cq)(h:Pz d 10136 [] (x,[],q) (.lst xs) (aN,[],.kw k6,.pt [40]::.nm s p::.pt [41]::ak.1::ak.2))(aL:Pz d 10136 [] (aN,[],ak) (.lst ys) (x',[],q'))(e:wd q'.1 iH=false):Pz (d+6) 9136 [.str lM,.lst aR] (x,[],.kw lM,q.1::q.2) (nd oj [.lst xs,.str s,.lst ys,.none]) (x',[],q'):=
 have g:20<=d:=aG (by ext) hd
 wk 5 (.t g<|.c h<|.t g<|.t g<|.c (cP<|(im (p:=p) hs).mono hd)<|.t g<|.c aL<|.c (mc g e) .nil)
def XH(hd:20<=d)(h:Pz d 10136 [] (x,[],q) (.lst xs) (aN,[],.kw iH,ak.1::ak.2))(aL:Pz d 10136 [] (aN,[],ak) (.lst ys) (x',[],q')):Pz (d+6) 9136 [.str lM,.lst aR] (x,[],.kw lM,q.1::q.2) (nd oj [.lst xs,.none,.none,.lst ys]) (x',[],q'):=wk 5 (.t hd<|.c h<|.t hd<|.c aL .nil)
def X6(hd:23<=d)(hs:s∈cq)(h:Pz d 10136 [] (x,[],q) (.lst xs) (aN,[],.kw k6,.pt [40]::.nm s p::.pt [41]::ak.1::ak.2))(aL:Pz d 10136 [] (aN,[],ak) (.lst ys) (dx,[],.kw iH,aC.1::aC.2))(bW:Pz d 10136 [] (dx,[],aC) (.lst us) (x',[],q')):Pz (d+6) 9136 [.str lM,.lst aR] (x,[],.kw lM,q.1::q.2) (nd oj [.lst xs,.str s,.lst ys,.lst us]) (x',[],q'):=
 have g:20<=d:=aG (by ext) hd
 wk 5 (.t g<|.c h<|.t g<|.t g<|.c (cP<|(im (p:=p) hs).mono hd)<|.t g<|.c aL<|.t g<|.c bW .nil)
noncomputable def tm:List<|List Nat:=[[116,121,112,101,111,102],[118,111,105,100],[100,101,108,101,116,101],[110,101,119],[116,104,105,115],[110,117,108,108],[116,114,117,101],[102,97,108,115,101]]
def woX(k:s∈tm)(h:Pz d 8136 [] (x,[],.kw s,ts) (nd z ps) (x',[],q')):Pz (d+2) 9136 [.str s,.lst aR] (x,[],.kw s,ts) (nd z ps) (x',[],q'):=by have g:∀s (h:Pz d 8136 [] (x,[],.kw s,ts) (nd z ps) (x',[],q')),zy (bX 1 9136 [.ptr 0,.str s,.lst aR] (λ_ _=>nd z ps)<|Ch.c (D:=d+1) h .nil)->Pz (d+2) 9136 [.str s,.lst aR] (x,[],.kw s,ts) (nd z ps) (x',[],q'):=λs h e=>wk 1 (.c h .nil) e;simp only[tm,List.mem_cons,List.not_mem_nil,or_false] at k;rcases k with rfl|rfl|rfl|rfl|rfl|rfl|rfl|rfl<;>exact g _ h<|by ext
def caS(e:q.1=.pt [125]\/q.1=.kw mP\/q.1=.kw mJ):lg 23 22136 1 (gw xs) (x,[],q) (gw xs) (x,[],q):=by obtain⟨t,ts⟩:=q;rcases e with e|e|e<;>(dsimp only at e;subst e;exact wl 2 .nil (d:=20))
def C5(hd:20<=d)(hl:xs.length<ae)(e:sg q.1 [125]=false)(e':wd q.1 mP=false)(r4:wd q.1 mJ=false)(h:Pz d 7136 [] (x,[],q) (nd z ps) (aN,[],ak))(l:lg (d+2) 22136 1 (gw<|xs++[nd z ps]) (aN,[],ak) (gw ys) (x',[],q')):lg (d+2) 22136 1 (gw xs) (x,[],q) (gw ys) (x',[],q'):=wl 1 (.c (fL hd e)<|.c (mc hd e')<|.c (mc hd r4)<|.c h<|.p hl<|.l l .nil)
def Jv(l:lg (d+1) 22136 1 (gw []) (x,[],q) (gw xs) (x',[],q')):Pz (d+2) 22136 [] (x,[],q) (.lst xs) (x',[],q'):=wk 1 (.l l .nil) (d:=d)
noncomputable def Jj(v:V)(xs:List V)(b:Bool):Option V->Lo
 |none=>[("self",.val<|.ptr 0),("line",.val<|.int 1),("value",.val v),("has_default",.val<|.bool b),("found",.own xs)]
 |some u=>[("self",.val<|.ptr 0),("line",.val<|.int 1),("value",.val v),("has_default",.val<|.bool b),("found",.own xs),("test",.val u)]
def gl(d:Nat)(v:V)(xs:List V)(b:Bool)(s:Ss)(ys:List V)(s':Ss):Prop:=∀e,∃e' b',lg d 21136 5 (Jj v xs b e) s (Jj v ys b' e') s'
def gl.stop:gl 23 v xs b (x,[],.pt [125],ts) xs (x,[],.pt [125],ts):=λe=>(bT e b (by cases e<;>exact wl 2 .nil (d:=20)))
def gl.case(hd:20<=d)(hl:xs.length<ae)(h:Pa x d 2133 [.bool true] q (nd z ps) (.pt [58],ak.1::ak.2))(aL:Pz d 22136 [] (x,[],ak) (.lst us) (aN,[],aC))(l:gl (d+4) v (xs++[.tup [nd z ps,.lst us]]) b (aN,[],aC) ys (x',[],q')):gl (d+4) v xs b (x,[],.kw mP,q.1::q.2) ys (x',[],q'):=λe=>by refine cX (l<|some<|nd z ps) λe' b' l=>?_;refine bT e' b' ?_;cases e<;>exact wl 3<|.t hd<|.c (cP h)<|.t hd<|.c aL<|.p hl<|.l l .nil
def gl.dflt(hd:20<=d)(hl:xs.length<ae)(aL:Pz d 22136 [] (x,[],ak) (.lst us) (aN,[],aC))(l:gl (d+4) v (xs++[.tup [.none,.lst us]]) true (aN,[],aC) ys (x',[],q')):gl (d+4) v xs false (x,[],.kw mJ,.pt [58]::ak.1::ak.2) ys (x',[],q'):=λe=>by refine cX (l<|some .none) λe' b' l=>?_;refine bT e' b' ?_;cases e<;>exact wl 3<|.t hd<|.t hd<|.c aL<|.p hl<|.l l .nil
def swP(hd:20<=d)(h:Pa x d 12136 [] q (nd z ps) (.pt [123],ak.1::ak.2))(l:gl (d+5) (nd z ps) [] false (xw x<|x.w+1,[],ak) xs (xw x<|x.w+1,[],.pt [125],q'.1::q'.2)):Pz (d+6) 21136 [.int 1] (x,[],.kw tf,q.1::q.2) (nd xT [nd z ps,.lst xs]) (xw x<|x.w+1-1,[],q'):=by refine cX (l none) λe b l=>?_;cases e<;>exact wk 5<|.t hd<|.c (cP h)<|.t hd<|.x (xw x<|x.w+1,[],ak)<|.l l<|.x (xw x<|x.w+1-1,[],.pt [125],q'.1::q'.2)<|.t hd .nil
theorem Qh:xw x (x.w+1-1)=x:=by rw[Int.add_sub_cancel];rfl
def Yt(h:Pz d 21136 [.int 1] (x,[],.kw tf,ts) (nd z ps) (x',[],q')):Pz (d+2) 9136 [.str tf,.lst aR] (x,[],.kw tf,ts) (nd z ps) (x',[],q'):=wk 1<|.c h .nil
noncomputable def kO:List Nat:=[100,101,99,108]
noncomputable def fi:List Nat:=[117,115,101,32,115,116,114,105,99,116]
noncomputable def qT:List Nat:=[116,101,120,116]
noncomputable def xR:List Nat:=[101,110,100]
noncomputable def dH(x:Px):Px:=⟨x.T,true,x.d,x.l,x.w,x.fl⟩
def Lg(hd:20<=d)(e:wd q.1 er=false)(h:Pz d 7136 [] (x,[],q) (nd z ps) (x',[],q')):Pz (d+2) 3136 [] (x,[],q) (nd z ps) (x',[],q'):=wk 1<|.c (mc hd e)<|.c h .nil
def elF(hd:20<=d)(h:Pz d 4136 [.str kO] (x,[],q) (nd z ps) (x',[],q')):Pz (d+3) 3136 [] (x,[],.kw er,q.1::q.2) (nd z ps) (x',[],q'):=wk 2<|.t hd<|.c h .nil
def atN(e:lq q.1.k xR=false)(e':sg q.1 [125]=false):Pz 22 2136 [.bool ie] (x,[],q) (.bool false) (x,[],q):=by
 induction ie with
 |true=>exact(by rw[<-e];exact wk 1 .nil (d:=20) (by ext):Pz 22 2136 [.bool true] (x,[],q) (.bool false) (x,[],q))
 |false=>exact wk 1<|.c (fL (aV 20) e') .nil
def Dk:Pz 23 2136 [.bool true] (x,[],.en,ts) (.bool true) (x,[],.en,ts):=wk 2 .nil (d:=20)
def atB:Pz 23 2136 [.bool false] (x,[],.pt [125],ts) (.bool true) (x,[],.pt [125],ts):=wk 2 .nil (d:=20)
noncomputable def IY(ie:Bool)(xs:List V)(ah:Bool):Option (Bool×V)->Lo
 |none=>[("self",.val<|.ptr 0),("is_end",.val<|.bool ie),("has_octal",.val<|.bool false),("found",.own xs),("is_ahead",.val<|.bool ah)]
 |some e=>[("self",.val<|.ptr 0),("is_end",.val<|.bool ie),("has_octal",.val<|.bool false),("found",.own xs),("is_ahead",.val<|.bool ah),("is_plain",.val<|.bool e.1),("made",.val e.2)]
def cY(d:Nat)(ie:Bool)(xs:List V)(ah:Bool)(s:Ss)(ys:List V)(s':Ss):Prop:=∀e,∃e' qd,lg d 1136 2 (IY ie xs ah e) s (IY ie ys qd e') s'
def cY.stop(hd:20<=d)(h:Pz d 2136 [.bool ie] (x,[],q) (.bool true) (x,[],q)):cY (d+2) ie xs ah (x,[],q) xs (x,[],q):=λe=>(bT e ah (by cases e<;>exact wl 1<|.c h .nil))
def cY.beh(hl:xs.length<ae)(a:Pz d 2136 [.bool ie] (x,[],q) (.bool false) (x,[],q))(h:Pz d 3136 [] (x,[],q) (nd z ps) (aN,[],aC))(l:cY (d+2) ie (xs++[nd z ps]) false (aN,[],aC) ys (x',[],q')):cY (d+2) ie xs false (x,[],q) ys (x',[],q'):=λe=>by refine cX (l e) λe' b l=>?_;refine bT e' b ?_;cases e<;>exact wl 1<|.c a<|.c h<|.p hl<|.l l .nil
theorem cY.fst(hl:xs.length<ae)(en:lq q.1.k qT=false)(a:Pz d 2136 [.bool ie] (x,[],q) (.bool false) (x,[],q))(h:Pz d 3136 [] (x,[],q) (nd z ps) (aN,[],aC))(l:cY (d+2) ie (xs++[nd z ps]) (lq q.1.k qT) (aN,[],aC) ys (x',[],q')):cY (d+2) ie xs true (x,[],q) ys (x',[],q'):=λe=>by refine cX (l e) λe' b l=>?_;refine bT e' b ?_;cases e<;>exact wl 1<|.c a<|.b 2 true (qV en)<|.c h<|.p hl<|.l l .nil
def cY.txt(hl:xs.length<ae)(bj:lq am dm=false)(a:Pz d 2136 [.bool ie] (x,[],.tx s p,ts) (.bool false) (x,[],.tx s p,ts))(h:Pz d 7136 [] (x,[],.tx s p,ts) (nd di [nd am aw]) (aN,[],aC))(l:cY (d+2) ie (xs++[nd di [nd am aw]]) (lq am dm) (aN,[],aC) ys (x',[],q')):cY (d+2) ie xs true (x,[],.tx s p,ts) ys (x',[],q'):=λe=>by refine cX (l<|some (p,nd di [nd am aw])) λe' b l=>?_;refine bT e' b ?_;cases e<;>exact wl 1<|.c a<|.c h<|.b 0 false bj<|.p hl<|.l l .nil
def cY.dir(hl:xs.length<ae)(bj:lq s fi=false)(a:Pz d 2136 [.bool ie] (x,[],.tx s true,ts) (.bool false) (x,[],.tx s true,ts))(h:Pz d 7136 [] (x,[],.tx s true,ts) (nd di [nd dm [.str s]]) (aN,[],aC))(l:cY (d+2) ie (xs++[nd di [nd dm [.str s]]]) true (aN,[],aC) ys (x',[],q')):cY (d+2) ie xs true (x,[],.tx s true,ts) ys (x',[],q'):=λe=>by refine cX (l<|some (true,nd di [nd dm [.str s]])) λe' b l=>?_;refine bT e' b ?_;cases e<;>exact wl 1<|.c a<|.c h<|.b 2 false bj<|.p hl<|.l l .nil
def cY.Zt(hl:xs.length<ae)(a:Pz d 2136 [.bool ie] (x,[],.tx s false,ts) (.bool false) (x,[],.tx s false,ts))(h:Pz d 7136 [] (x,[],.tx s false,ts) (nd di [nd dm [.str s]]) (aN,[],aC))(l:cY (d+2) ie (xs++[nd di [nd dm [.str s]]]) true (aN,[],aC) ys (x',[],q')):cY (d+2) ie xs true (x,[],.tx s false,ts) ys (x',[],q'):=λe=>by refine cX (l<|some (false,nd di [nd dm [.str s]])) λe' b l=>?_;refine bT e' b ?_;cases e<;>exact wl 1<|.c a<|.c h<|.p hl<|.l l .nil
def cY.use(hl:xs.length<ae)(a:Pz d 2136 [.bool ie] (x,[],.tx fi true,ts) (.bool false) (x,[],.tx fi true,ts))(h:Pz d 7136 [] (x,[],.tx fi true,ts) (nd di [nd dm [.str fi]]) (aN,[],aC))(l:cY (d+4) ie (xs++[nd di [nd dm [.str fi]]]) true (dH aN,[],aC) ys (x',[],q')):cY (d+4) ie xs true (x,[],.tx fi true,ts) ys (x',[],q'):=λe=>by refine cX (l<|some (true,nd di [nd dm [.str fi]])) λe' b l=>?_;refine bT e' b ?_;cases e<;>exact wl 3<|.c a<|.c h<|.p hl<|.x (dH aN,[],aC)<|.l l .nil
def zr(l:cY (d+1) ie [] true (x,[],q) xs (x',[],q')):Pz (d+2) 1136 [.bool ie] (x,[],q) (.lst xs) (x',[],q'):=by refine cX (l none) λe b l=>?_;cases e<;>exact wk 1 (.l l .nil) (d:=d)
noncomputable def fW:List Nat:=[103,101,116]
noncomputable def fV:List Nat:=[115,101,116]
noncomputable def iI:List Nat:=[105,110,105,116]
def fnD(hs:s∈cq):Pa x 25 5136 [.str kO] (.nm s p,t'::ab) (.str s) (t',ab):=wk 1<|.c (im (p:=p) hs) .nil
def fnE(hs:s∈cq):Pa x 25 5136 [.str jI] (.nm s p,t'::ab) (.str s) (t',ab):=wk 1<|.c (im (p:=p) hs) .nil
def fnO:Pa x 22 5136 [.str jI] (.pt s,ts) .none (.pt s,ts):=wk 1 .nil (d:=20)
def fnG:Pa x 22 5136 [.str fW] q .none q:=wk 1 .nil (d:=20)
def fnS:Pa x 22 5136 [.str fV] q .none q:=wk 1 .nil (d:=20)
theorem iq:Pa x 25 6136 [] (.pt [40],.pt [41]::t'::ab) (.lst []) (t',ab):=wk 4 (.u (aV 20)<|.u (aV 20) .nil)
def pa1(hs:s∈cq):Pa x 28 6136 [] (.pt [40],.nm s p::.pt [41]::t'::ab) (.lst [.str s]) (t',ab):=wk 4 (.u (by ext)<|.c (im (p:=p) hs)<|.p (bF (n:=0))<|.u (by ext) .nil) (d:=23)
def pa2(hs:s∈cq)(ik:af∈cq):Pa x 28 6136 [] (.pt [40],.nm s p::.pt [44]::.nm af ck::.pt [41]::t'::ab) (.lst [.str s,.str af]) (t',ab):=wk 4 (.u (by ext)<|.c (im (p:=p) hs)<|.p (bF (n:=0))<|.u (by ext)<|.c (im (p:=ck) ik)<|.p (bF (n:=1))<|.u (by ext) .nil) (d:=23)
def KX:Pa x 23 19133 [] (.tx s p,t'::ab) (.str s) (t',ab):=wk 2<|.c (Do x.s)<|.u (aV 20) .nil
def ekN:Pa x 24 19133 [] (.nm s p,t'::ab) (.str s) (t',ab):=wk 1<|.c (HZ (p:=p)) .nil
def ekK:Pa x 24 19133 [] (.kw s,t'::ab) (.str s) (t',ab):=wk 1<|.c (HA) .nil
def enT(hd:20<=d)(k:Pa x d 19133 [] (.tx s p,ts) (.str u) (.pt [58],ak.1::ak.2))(h:Pa x d 3133 [.bool true] ak (nd z ps) q'):Pa x (d+5) 18133 [] (.tx s p,ts) (.tup [.str iI,.str u,nd z ps]) q':=wk 4 (.c k<|.u hd<|.c h .nil)
def enK(hd:20<=d)(k:Pa x d 19133 [] (.kw s,ts) (.str u) (.pt [58],ak.1::ak.2))(h:Pa x d 3133 [.bool true] ak (nd z ps) q'):Pa x (d+5) 18133 [] (.kw s,ts) (.tup [.str iI,.str u,nd z ps]) q':=wk 4 (.c k<|.u hd<|.c h .nil)
def enN(hd:20<=d)(k:Pa x d 19133 [] (.nm [97] p,ts) (.str u) (.pt [58],ak.1::ak.2))(h:Pa x d 3133 [.bool true] ak (nd z ps) q'):Pa x (d+5) 18133 [] (.nm [97] p,ts) (.tup [.str iI,.str u,nd z ps]) q':=wk 4 (.c k<|.u hd<|.c h .nil)
def H1(hd:20<=d):Sw (hP x) (m7 x) d 3126 [.ptr 0] (t,a8::ts) (λ_ r=>dw a8 r.la r.lb) (t,a8::ts):=xt hd
def ZF(hd:20<=d)(e:lq a8.k [112,117,110,99,116]=false)(k:Pa x d 19133 [] (a8,ts) (.str u) ak)(h:Pa x d 4136 [.str fW] ak (nd dE [fj,.lst [],eT,kZ,.str fW]) q'):Pa x (d+3) 18133 [] (.nm fW true,a8::ts) (.tup [.str fW,.str u,nd dE [fj,.lst [],eT,kZ,.str fW]]) q':=wk 2 (.c (H1 hd)<|.b 0 true (qV e)<|.u hd<|.c k<|.c h<|.p (a6 (n:=0)) .nil)
def enS(hd:20<=d)(e:lq a8.k [112,117,110,99,116]=false)(k:Pa x d 19133 [] (a8,ts) (.str u) ak)(h:Pa x d 4136 [.str fV] ak (nd dE [fj,.lst [w],eT,kZ,.str fV]) q'):Pa x (d+3) 18133 [] (.nm fV true,a8::ts) (.tup [.str fV,.str u,nd dE [fj,.lst [w],eT,kZ,.str fV]]) q':=wk 2 (.c (H1 hd)<|.b 0 true (qV e)<|.u hd<|.c k<|.c h<|.p (a6 (n:=1)) .nil)
def YT:Pz 29 9136 [.str kg,.lst aR] (⟨T,S,D,L,w',[b]⟩,[],.kw kg,.nm [108] p::.pt [59]::t'::ab) (nd u8 [.str [108]]) (⟨T,S,D,L,w',[b]⟩,[],t',ab):=wk 5 (.t (by ext)<|.c (cP<|sV (p:=p) (s:=[108])<|by ext)<|.t (by ext) .nil) (d:=23)
def X1(k:s=[108]\/s=[109]):Pz 29 9136 [.str kg,.lst aR] (⟨T,S,D,L,w',[b,b']⟩,[],.kw kg,.nm s p::.pt [59]::t'::ab) (nd u8 [.str s]) (⟨T,S,D,L,w',[b,b']⟩,[],t',ab):=by
 rcases k with rfl|rfl
 ·exact wk 5 (.t (by ext)<|.c (cP<|sV (p:=p) (s:=[108])<|by ext)<|.t (by ext) .nil) (d:=23)
 ·exact wk 5 (.t (by ext)<|.c (cP<|sV (p:=p) (s:=[109])<|by ext)<|.t (by ext) .nil) (d:=23)
theorem Qd(n:Nat):(List.replicate n ([]:List Addr)).flatten=[]:=by
 induction n with
 |zero=>rfl
 |succ n ih=>exact ih
def OR.dead:OR W G φ h .dead as:=trivial
def Sp.pad(s:Sp d f vs (c++List.replicate n .dead) v<|c'++ds)(hl:c.length<=c'.length)(hv:Np c'.length v)(hc:∀o∈c',∀v∈o.vals,Np c'.length v):Sp d f vs c v c':=by
 intro A R w us Rw oL;have pre:w.φ<+:w.φ++List.replicate n []:=List.prefix_append ..;have fl:(w.φ++List.replicate n []).flatten=w.φ.flatten:=by rw[List.flatten_append,Qd,List.append_nil]
 have R2:aI W ⟨w.G,w.φ++List.replicate n [],w.s⟩<|c++List.replicate n .dead:={
  g:=Rw.g
  base:=Rw.base
  len:=by rw[bO,bO,List.length_replicate,List.length_replicate,Rw.len]
  nodup:=by show(w.φ++List.replicate n []).flatten.Nodup;rw[fl];exact Rw.nodup
  live:=λa ha=>Rw.live a<|fl▸ha
  cells:=λi o e=>by
   by_cases hi:i<c.length
   ·rw[List.getElem?_append_left hi] at e;exact aA (Rw.cells i o e) λas h1 h2=>au as ((List.getElem?_append_left<|Rw.len▸hi).trans h1)<|h2.keep (λ_ _ e=>e) pre (λ_ _ _ e=>e) λ_ _ _ e=>e
   ·rw[List.getElem?_append_right<|Nat.le_of_not_lt hi,List.getElem?_replicate] at e;split at e
    ·rename_i k;refine zb (aE e) ?_;refine au [] ?_ OR.dead;show(w.φ++List.replicate n [])[i]? =some [];rw[List.getElem?_append_right<|Rw.len▸Nat.le_of_not_lt hi,List.getElem?_replicate,if_pos<|Rw.len▸k]
    ·exact ng e}
 refine codeAny_mono (s A R ⟨w.G,w.φ++List.replicate n [],w.s⟩ us R2<|oL.mono (λ_ _ e=>e) pre) λr s' z=>?_;obtain⟨u,e,w',e',x,R',hu⟩:=z;have lt:(w'.φ.take c'.length).length=c'.length:=by rw[List.length_take,R'.len,bO];lia
 have sp:w'.φ=w'.φ.take c'.length++w'.φ.drop c'.length:=(List.take_append_drop ..).symm;have pr:w.φ<+:w'.φ.take c'.length:=List.prefix_of_prefix_length_le (pre.trans x.pre) (List.take_prefix ..) (by rw[lt,Rw.len];exact hl);refine⟨u,e,⟨w'.G,w'.φ.take c'.length,w'.s⟩,e',⟨x.le,pr,λb o _ p=>?_,x.al,x.sm⟩,R'.drop sp lt λo ho v hv=>hc o ho v hv _ _ lt,hv _ _ lt<|sp▸hu⟩;have p':=x.keep (b:=b) (o:=o) ⟨p.o,p.g,λz=>p.n<|fl▸z⟩;exact⟨p'.o,p'.g,λz=>p'.n (by rw[sp,List.flatten_append];exact gq _ z)⟩
def d5(h:ι[j]? =some i):Rn ι (.ptr j)<|.ptr i:=λG Φ u hb=>⟨λq=>by cases q with|ptr q=>exact .ptr<|(su hb h).symm.trans q,λq=>by cases q with|ptr q=>exact .ptr<|(su hb h).trans q⟩
def Ok.dy(h:Ok T ts r):aT r.dy:=by
 rcases h with⟨e,_⟩|⟨t,ab,_,e,_⟩
 ·rw[e];exact Np.none
 ·rw[e];exact kM
def YQ(j:Nat)(x:Px)(t:Tk)(r:Rd)(aR:List V):O:=.inst 4 [("lexer",.ptr 1),("token",dw t r.a r.b),("later",r.dy),("is_strict",.bool x.s),("depth",.int x.d),("jumps",.ptr j),("pending",.lst aR)]
noncomputable def B3(k:Nat)(x:Px):O:=.inst 3 [("labels",.ptr k),("loops",.int x.l),("switches",.int x.w)]
def h9(x y:Px)(t:Tk)(r:Rd):List O:=[YQ 7 y t r [],aF y.T r.p,vy x,.lst<|tM 4 x.fl,lN x.fl 0,lN x.fl 1,lN x.fl 2,B3 8 y,.lst []]
noncomputable def d3:List O:=[.dead,.dead,.dead]
noncomputable def yR:List Nat:=[0,1,7,8,9,10,11]
def Kg(hy:y.fl=[])(hl:aT r.dy)(j i:Nat)(o:O)(e:yR[j]? =some i)(e':(hp y t r [])[j]? =some o):∃o',(h9 x y t r++d3)[i]? =some o'/\iO yR o o':=by
 obtain⟨T,s,dd,l,w,fl⟩:=y;subst hy;rcases j with _|_|_|_|_|_|_|j
 ·refine zb (aE e) ?_;refine zb (aE e') ?_;exact au _ rfl<|.inst<|.cons (d5 rfl)<|.cons kM.rn<|.cons hl.rn<|.cons (aT.rn Np.bool)<|.cons (aT.rn Np.int)<|.cons (d5 rfl)<|.cons (aT.rn<|Np.lst aP) .nil
 ·refine zb (aE e) ?_;exact zb (aE e')<|au _ rfl sG
 ·refine zb (aE e) ?_;exact zb (aE e')<|au _ rfl<|.inst<|.cons (d5 rfl)<|.cons (aT.rn Np.int)<|.cons (aT.rn Np.int) .nil
 ·refine zb (aE e) ?_;exact zb (aE e')<|au _ rfl<|.lst .nil
 ·refine zb (aE e) ?_;exact zb (aE e')<|au _ rfl .dead
 ·refine zb (aE e) ?_;exact zb (aE e')<|au _ rfl .dead
 ·refine zb (aE e) ?_;exact zb (aE e')<|au _ rfl .dead
 ·exact ng e
def Al:∀{fl:List Bool} {i:Nat},i+fl.length<=n->∀v∈tM i fl,Np n v
 |[],_,_=>aP
 |b::fl,i,h=>ao (Np.ptr (by simp only[ec] at h;lia))<|Al (by simp only[ec] at h;lia)
def sj:∀v∈(lN fl i).vals,Np n v:=by
 unfold lN;cases hX i fl with
 |none=>exact aP
 |some b=>exact ao Np.str<|ao Np.bool aP
def Pm(hx:x.fl.length<=3)(hT:y.fl=[])(ZB:y'.fl=[])(hl:aT r.dy)(qx:aT r'.dy)(hv:aT v)(s:Sp d f [.ptr 0,.bool false] (hp y t r []) v<|hp y' t' r' []):Sp d f [.ptr 0,.bool false] (h9 x y t r) v<|h9 x y' t' r':=by
 refine Sp.pad (n:=3) (ds:=d3) (Sp.frame (ι:=yR) (D:=h9 x y' t' r'++d3) s (by ext) rfl rfl (by decide:∀i∈yR,i<12) (Kg hT hl) (Kg ZB qx) rfl (λi hi=>?_) (.cons (d5 rfl)<|.cons (aT.rn Np.bool) .nil) hv.rn) (aV 9) hv.np ?_
 ·rcases i with _|_|_|_|_|_|_|_|_|_|_|_|i<;>first|rfl|exact absurd (by ext) hi
 ·refine ao (ao (Np.ptr (show 1<9 by ext))<|ao kM.np<|ao qx.np<|ao Np.bool<|ao Np.int<|ao (Np.ptr (show 7<9 by ext))<|ao (Np.lst aP) aP)<|ao (ao Np.str<|ao Np.int<|ao Np.int aP)<|ao (ao (Np.ptr (show 3<9 by ext))<|ao Np.int<|ao Np.int aP)<|ao (Al (show 4+x.fl.length<=9 by exact jw hx rfl))<|ao sj<|ao sj<|ao sj<|ao (ao (Np.ptr (show 8<9 by ext))<|ao Np.int<|ao Np.int aP)<|ao aP aP
abbrev Sf:=Nat×Px×Px×Ts
def hF:Sf->Rd->List O:=λs r=>match s.1 with
 |0=>hp s.2.1 s.2.2.2.1 r []
 |1=>h9 s.2.1 s.2.2.1 s.2.2.2.1 r
 |_=>hp s.2.1 s.2.2.2.1 r []++[B3 8 s.2.2.1,.lst []]
noncomputable def iQ(x:Px)(s:Bool):Px:=⟨x.T,s,x.d+1,0,0,[]⟩
abbrev rL:Sf->Rd->Prop:=λs r=>Ok s.2.1.T s.2.2.2.2 r
def JE(h:Pa x d f as q v q'):Sw hF (rL) d f (.ptr 0::as) (0,x,y,q) (λ_ _=>v) (0,x,y,q'):=h
def YH(hd:20<=d):Sw hF (rL) d 2126 [.ptr 0] (0,x,y,t,a8::ts) (λr _=>dw t r.a r.b) (0,x,y,a8,ts):=og hd
def boF(hx:x.fl.length<=3)(hv:aT<|.lst xs)(h:Pz d 1136 [.bool false] (iQ x b,[],q) (.lst xs) (iQ x b',[],q')):Sw hF (rL) d 1136 [.ptr 0,.bool false] (1,x,iQ x b,q) (λ_ _=>.lst xs) (1,x,iQ x b',q'):=λr k=>by exact aA (h r k) λr' k' p=>au r' k'<|Pm hx rfl rfl k.dy k'.dy hv p
noncomputable def rX:List Nat:=[0,1,2,3,4,5,6]
def Fz:∀{fl:List Bool} {i:Nat},i+fl.length<=7->gk rX (tM i fl) (tM i fl)
 |[],_,_=>.nil
 |c::fl,i,h=>by
  have hi:i<7:=by simp only[ec] at h;lia
  refine .cons (d5 ?_)<|Fz (by simp only[ec] at h;lia);rcases i with _|_|_|_|_|_|_|i<;>first|rfl|lia
def Ao:iO rX (lN fl i)<|lN fl i:=by
 unfold lN;cases hX i fl with
 |none=>exact .dead
 |some b=>exact .lst<|.cons (aT.rn Np.str)<|.cons (aT.rn Np.bool) .nil
def J8(hx:x.fl.length<=3)(hl:aT r.dy)(D:List O)(j i:Nat)(o:O)(e:rX[j]? =some i)(e':(hp x t r [])[j]? =some o):∃o',(hp x t r []++D)[i]? =some o'/\iO rX o o':=by
 rcases j with _|_|_|_|_|_|_|j
 ·refine zb (aE e) ?_;refine zb (aE e') ?_;exact au _ rfl<|.inst<|.cons (d5 rfl)<|.cons kM.rn<|.cons hl.rn<|.cons (aT.rn Np.bool)<|.cons (aT.rn Np.int)<|.cons (d5 rfl)<|.cons (aT.rn<|Np.lst aP) .nil
 ·refine zb (aE e) ?_;exact zb (aE e')<|au _ rfl sG
 ·refine zb (aE e) ?_;exact zb (aE e')<|au _ rfl<|.inst<|.cons (d5 rfl)<|.cons (aT.rn Np.int)<|.cons (aT.rn Np.int) .nil
 ·refine zb (aE e) ?_;exact zb (aE e')<|au _ rfl<|.lst<|Fz<|jw hx
 ·refine zb (aE e) ?_;exact zb (aE e')<|au _ rfl Ao
 ·refine zb (aE e) ?_;exact zb (aE e')<|au _ rfl Ao
 ·refine zb (aE e) ?_;exact zb (aE e')<|au _ rfl Ao
 ·exact ng e
def Pa.Cb(hx:x.fl.length<=3)(D:List O)(hv:aT v)(ha:∀v∈as,aT v)(hl:aT r.dy)(qx:aT r'.dy)(s:Sp d f (.ptr 0::as) (hp x t r []) v<|hp x t' r' []):Sp d f (.ptr 0::as) (hp x t r []++D) v<|hp x t' r' []++D:=
 Sp.frame (ι:=rX) s (by ext) rfl rfl (λi hi=>by rw[bO];exact Nat.lt_of_lt_of_le ((by decide:∀i∈rX,i<7) i hi)<|bh 7 _) (J8 hx hl D) (J8 hx qx D) (by rw[bO,bO];rfl)
  (λi hi=>by rcases i with _|_|_|_|_|_|_|i<;>first|rfl|exact absurd (by ext) hi)
  (.cons (d5 rfl) (by
    have:∀{l:List V},(∀v∈l,aT v)->gk rX l l:=by
     intro l;induction l with
     |nil=>exact λ_=>.nil
     |cons a l ih=>exact λh=>.cons (h a<|.head _).rn<|ih λv hv=>h v<|.tail _ hv
    exact this ha)) hv.rn
noncomputable def xd(x:Px)(d:Int):Px:=⟨x.T,x.s,d,x.l,x.w,x.fl⟩
def Wf(hx:x.fl.length<=3)(hd:20<=d):Sw hF (rL) d 2126 [.ptr 0] (2,x,y,t,a8::ts) (λr _=>dw t r.a r.b) (2,x,y,a8,ts):=λr k=>by exact aA (vQ x t [] k) λr' k' p=>au r' k'<|(Pa.Cb hx _ kM aP k.dy k'.dy p).mono<|aG (by ext) hd
def U9(hx:x.fl.length<=3)(hd:20<=d)(nf:Pa x d 5136 [.str s] q r6 ak)(pf:Pa x d 6136 [] ak (.lst us) (.pt [123],aC.1::aC.2))(bf:Sw hF (rL) d 1136 [.ptr 0,.bool false] (1,x,iQ x x.s,aC) (λ_ _=>.lst xs) (1,x,iQ x b',.pt [125],q'.1::q'.2))(pq:Sw hF (rL) d 118 [r6,.lst us,.bool b'] (1,x,iQ x b',.pt [125],q'.1::q'.2) (λ_ _=>.none) (1,x,iQ x b',.pt [125],q'.1::q'.2)):
    Sw hF (rL) (d+5) 4136 [.ptr 0,.str s] (0,x,y,q) (λ_ _=>nd dE [r6,.lst us,.lst xs,.bool b',.str s]) (2,xd x<|x.d+1-1,iQ x b',q'):=
 wk 4 (.c (JE nf)<|.c (JE pf)<|.c (YH hd)<|.p (a6 (n:=0))<|.x (1,x,iQ x x.s,aC)<|.c bf<|.c pq<|.x (2,xd x<|x.d+1-1,iQ x b',.pt [125],q'.1::q'.2)<|.c (Wf (x:=xd x<|x.d+1-1) hx hd) .nil)
def xz(hx:x.fl.length<=3)(hl:aT r.dy):∀o∈hp x t r [],∀v∈o.vals,Np 7 v:=ao (ao (Np.ptr (show 1<7 by ext))<|ao kM.np<|ao hl.np<|ao Np.bool<|ao Np.int<|ao (Np.ptr (show 2<7 by ext))<|ao (Np.lst aP) aP) (ao (ao Np.str<|ao Np.int<|ao Np.int aP)<|ao (ao (Np.ptr (show 3<7 by ext))<|ao Np.int<|ao Np.int aP)<|ao (Al (show 4+x.fl.length<=7 by exact jw hx rfl))<|ao sj<|ao sj<|ao sj aP)
theorem QQ:xd x (x.d+1-1)=x:=by rw[Int.add_sub_cancel];rfl
def Y7(hx:x.fl.length<=3)(hd:20<=d)(hv:aT<|nd dE [r6,.lst us,.lst xs,.bool b',.str s])(hxs:aT<|.lst xs)(nf:Pa x d 5136 [.str s] q r6 ak)(pf:Pa x d 6136 [] ak (.lst us) (.pt [123],aC.1::aC.2))(bf:Pz d 1136 [.bool false] (iQ x x.s,[],aC) (.lst xs) (iQ x b',[],.pt [125],q'.1::q'.2))(pq:∀C,Sp d 118 [r6,.lst us,.bool b'] C .none C):Pa x (d+5) 4136 [.str s] q (nd dE [r6,.lst us,.lst xs,.bool b',.str s]) q':=λr k=>by refine aA (U9 (y:=x) hx hd nf pf (boF hx hxs bf) (λr k=>(au r k<|pq _)) r k) λr' k' p=>?_;have p:Sp (d+5) 4136 [.ptr 0,.str s] (hp x q.1 r []) (nd dE [r6,.lst us,.lst xs,.bool b',.str s])<|hp (xd x<|x.d+1-1) q'.1 r' []++[B3 8<|iQ x b',.lst []]:=p;rw[QQ] at p;have k':Ok x.T q'.2 r':=k';exact au r' k'<|p.trim (aV 7) hv.np<|xz hx k'.dy
abbrev Ds:=Nat×Px×Bool×List V×Ts
def hL(x:Px)(b:Bool)(aR:List V)(t:Tk)(r:Rd):List O:=[xZ x t r aR,aF x.T r.p,vy x,.lst [.ptr 7],.dead,.dead,.dead,.lst [.str [108],.bool b]]
def yt:Ds->Rd->List O:=λs r=>match s.1 with
 |0=>hp s.2.1 s.2.2.2.2.1 r s.2.2.2.1
 |1=>hL s.2.1 s.2.2.1 s.2.2.2.1 s.2.2.2.2.1 r
 |_=>hp s.2.1 s.2.2.2.2.1 r []++[.lst [.str [108],.bool s.2.2.1]]
abbrev pW:Ds->Rd->Prop:=λs r=>Ok s.2.1.T s.2.2.2.2.2 r
def JZ(h:gk ι xs ys):Rn ι (.lst xs)<|.lst ys:=λG Φ u hb=>⟨λq=>by cases q with|lst ho q=>exact .lst ho<|(h.ma hb).mp q,λq=>by cases q with|lst ho q=>exact .lst ho<|(h.ma hb).mpr q⟩
noncomputable def wB:List Nat:=[0,1,2,3,7,5,6]
def Jm(hx:x.fl=[b])(hl:aT r.dy)(fx:gk wB pe mX)(j i:Nat)(o:O)(e:wB[j]? =some i)(e':(hp x t r pe)[j]? =some o):∃o',(hL (xf x []) b mX t r)[i]? =some o'/\iO wB o o':=by
 obtain⟨T,s,dd,l,w,fl⟩:=x;subst hx;rcases j with _|_|_|_|_|_|_|j
 ·refine zb (aE e) ?_;refine zb (aE e') ?_;exact au _ rfl<|.inst<|.cons (d5 rfl)<|.cons kM.rn<|.cons hl.rn<|.cons (aT.rn Np.bool)<|.cons (aT.rn Np.int)<|.cons (d5 rfl)<|.cons (JZ fx) .nil
 ·refine zb (aE e) ?_;exact zb (aE e')<|au _ rfl sG
 ·refine zb (aE e) ?_;exact zb (aE e')<|au _ rfl<|.inst<|.cons (d5 rfl)<|.cons (aT.rn Np.int)<|.cons (aT.rn Np.int) .nil
 ·refine zb (aE e) ?_;exact zb (aE e')<|au _ rfl<|.lst<|.cons (d5 rfl) .nil
 ·refine zb (aE e) ?_;exact zb (aE e')<|au _ rfl<|.lst<|.cons (aT.rn Np.str)<|.cons (aT.rn Np.bool) .nil
 ·refine zb (aE e) ?_;exact zb (aE e')<|au _ rfl .dead
 ·refine zb (aE e) ?_;exact zb (aE e')<|au _ rfl .dead
 ·exact ng e
def X9(hv:aT v)(h:Pz d 7136 [] (xf x [false],[.ptr 4],q) v (xf x [b'],[],q')):Sw yt (pW) d 7136 [.ptr 0] (1,xf x [],false,[.ptr 7],q) (λ_ _=>v) (1,xf x [],b',[],q'):=λr k=>by
 refine aA (h r k) λr' k' s=>?_;refine au r' k' ?_;have k:Ok x.T q.2 r:=k;have k':Ok x.T q'.2 r':=k';exact Sp.frame (ι:=wB) (C:=hL (xf x []) false [.ptr 7] q.1 r) (D:=hL (xf x []) b' [] q'.1 r') s (by ext) rfl rfl (by decide:∀i∈wB,i<8) (Jm rfl k.dy<|.cons (d5 rfl) .nil) (Jm rfl k'.dy .nil) rfl
  (λi hi=>by rcases i with _|_|_|_|_|_|_|_|i<;>first|rfl|exact absurd (by ext) hi) (.cons (d5 rfl) .nil) hv.rn
def Yc(hd:23<=d)(hv:aT<|nd z ps)(h:Pz d 7136 [] (xf x [false],[.ptr 4],q) (nd z ps) (xf x [b'],[],q')):Sw yt (pW) (d+4) 18136 [.ptr 0,.lst []] (0,xf x [],false,[],.nm [108] p,.pt [58]::q.1::q.2) (λ_ _=>nd ki [.str [108],nd z ps]) (2,xf x [],b',[],q'):=
 have hs:=X9 hv h
 wk 3 (.c (show Sw yt (pW) d 12126 [.ptr 0] (0,xf x [],false,[],.nm [108] p,.pt [58]::q.1::q.2) (λ_ _=>.str [108]) (0,xf x [],false,[],.pt [58],q.1::q.2) from(sV (x:=xf x []) (p:=p) (s:=[108])<|by ext).mono hd)
  (.c (show Sw yt (pW) d 2126 [.ptr 0] (0,xf x [],false,[],.pt [58],q.1::q.2) (λr _=>dw (.pt [58]) r.a r.b) (0,xf x [],false,[],q.1,q.2) from og (x:=xf x [])<|aG (by ext) hd)
  (.p (a6 (n:=2))<|.p (bF (n:=0))<|.p (a6 (n:=1))<|.x (1,xf x [],false,[.ptr 7],q)<|.c (ai:=(1,xf x [],b',[],q')) hs<|.e (s:=(1,xf x [],b',[],q')) (ai:=(2,xf x [],b',[],q')) (λ_ h=>h) .nil)))
def Wg(hd:23<=d)(hv:aT<|nd z ps)(hw:aT<|nd ki [.str [108],nd z ps])(h:Pz d 7136 [] (xf x [false],[.ptr 4],q) (nd z ps) (xf x [b'],[],q')):Pz (d+4) 18136 [.lst []] (xf x [],[],.nm [108] p,.pt [58]::q.1::q.2) (nd ki [.str [108],nd z ps]) (xf x [],[],q'):=λr k=>by refine aA (Yc (p:=p) hd hv h r k) λr' k' s=>?_;have k':Ok (xf x []).T q'.2 r':=k';have s:Sp (d+4) 18136 [.ptr 0,.lst []] (hp (xf x []) (.nm [108] p) r []) (nd ki [.str [108],nd z ps])<|hp (xf x []) q'.1 r' []++[.lst [.str [108],.bool b']]:=s;exact au r' k'<|s.trim (aV 7) hw.np<|xz (Nat.zero_le 3) k'.dy
def hM(x:Px)(c b:Bool)(aR:List V)(t:Tk)(r:Rd):List O:=[xZ x t r aR,aF x.T r.p,vy x,.lst [.ptr 4,.ptr 7],.lst [.str [108],.bool c],.dead,.dead,.lst [.str [109],.bool b]]
def yu(c:Bool):Ds->Rd->List O:=λs r=>match s.1 with
 |0=>hp s.2.1 s.2.2.2.2.1 r s.2.2.2.1
 |1=>hM s.2.1 c s.2.2.1 s.2.2.2.1 s.2.2.2.2.1 r
 |_=>hp s.2.1 s.2.2.2.2.1 r []++[.lst [.str [109],.bool s.2.2.1]]
noncomputable def tT:List Nat:=[0,1,2,3,4,7,6]
def IF(hx:x.fl=[c,b])(hl:aT r.dy)(fx:gk tT pe mX)(j i:Nat)(o:O)(e:tT[j]? =some i)(e':(hp x t r pe)[j]? =some o):∃o',(hM (xf x [c]) c b mX t r)[i]? =some o'/\iO tT o o':=by
 obtain⟨T,s,dd,l,w,fl⟩:=x;subst hx;rcases j with _|_|_|_|_|_|_|j
 ·refine zb (aE e) ?_;refine zb (aE e') ?_;exact au _ rfl<|.inst<|.cons (d5 rfl)<|.cons kM.rn<|.cons hl.rn<|.cons (aT.rn Np.bool)<|.cons (aT.rn Np.int)<|.cons (d5 rfl)<|.cons (JZ fx) .nil
 ·refine zb (aE e) ?_;exact zb (aE e')<|au _ rfl sG
 ·refine zb (aE e) ?_;exact zb (aE e')<|au _ rfl<|.inst<|.cons (d5 rfl)<|.cons (aT.rn Np.int)<|.cons (aT.rn Np.int) .nil
 ·refine zb (aE e) ?_;exact zb (aE e')<|au _ rfl<|.lst<|.cons (d5 rfl)<|.cons (d5 rfl) .nil
 ·refine zb (aE e) ?_;exact zb (aE e')<|au _ rfl<|.lst<|.cons (aT.rn Np.str)<|.cons (aT.rn Np.bool) .nil
 ·refine zb (aE e) ?_;exact zb (aE e')<|au _ rfl<|.lst<|.cons (aT.rn Np.str)<|.cons (aT.rn Np.bool) .nil
 ·refine zb (aE e) ?_;exact zb (aE e')<|au _ rfl .dead
 ·exact ng e
def Il(hv:aT v)(hpe:gk tT pe mX)(h:Pz d 7136 [] (xf x [c,false],pe,q) v (xf x [c,b'],[],q')):Sw (yu c) (pW) d 7136 [.ptr 0] (1,xf x [c],false,mX,q) (λ_ _=>v) (1,xf x [c],b',[],q'):=λr k=>by
 refine aA (h r k) λr' k' s=>?_;refine au r' k' ?_;have k:Ok x.T q.2 r:=k;have k':Ok x.T q'.2 r':=k';exact Sp.frame (ι:=tT) (C:=hM (xf x [c]) c false mX q.1 r) (D:=hM (xf x [c]) c b' [] q'.1 r') s (by ext) rfl rfl (by decide:∀i∈tT,i<8) (IF rfl k.dy hpe) (IF rfl k'.dy .nil) rfl
  (λi hi=>by rcases i with _|_|_|_|_|_|_|_|i<;>first|rfl|exact absurd (by ext) hi) (.cons (d5 rfl) .nil) hv.rn
def Zm(hd:23<=d)(hv:aT<|nd z ps)(k:aR=[]\/aR=[.ptr 4])(h:Pz d 7136 [] (xf x [c,false],aR++[.ptr 5],q) (nd z ps) (xf x [c,b'],[],q')):Sw (yu c) (pW) (d+4) 18136 [.ptr 0,.lst aR] (0,xf x [c],false,[],.nm [109] p,.pt [58]::q.1::q.2) (λ_ _=>nd ki [.str [109],nd z ps]) (2,xf x [c],b',[],q'):=by
 have a1:Sw (yu c) (pW) d 12126 [.ptr 0] (0,xf x [c],false,[],.nm [109] p,.pt [58]::q.1::q.2) (λ_ _=>.str [109]) (0,xf x [c],false,[],.pt [58],q.1::q.2):=(sV (x:=xf x [c]) (p:=p) (s:=[109])<|by ext).mono hd;have a2:Sw (yu c) (pW) d 2126 [.ptr 0] (0,xf x [c],false,[],.pt [58],q.1::q.2) (λr _=>dw (.pt [58]) r.a r.b) (0,xf x [c],false,[],q.1,q.2):=og (x:=xf x [c])<|aG (by ext) hd;rcases k with rfl|rfl
 ·have hs:=Il hv (pe:=[]++[.ptr 5]) (mX:=[.ptr 7]) (.cons (d5 rfl) .nil) h;exact wk 3<|.c a1<|.c a2<|.p (a6 (n:=2))<|.p (bF (n:=1))<|.p (a6 (n:=1))<|.x (1,xf x [c],false,[.ptr 7],q)<|.c (ai:=(1,xf x [c],b',[],q')) hs<|.e (s:=(1,xf x [c],b',[],q')) (ai:=(2,xf x [c],b',[],q')) (λ_ h=>h) .nil
 ·have hs:=Il hv (pe:=[.ptr 4]++[.ptr 5]) (mX:=[.ptr 4,.ptr 7]) (.cons (d5 rfl)<|.cons (d5 rfl) .nil) h;exact wk 3<|.c a1<|.c a2<|.p (a6 (n:=2))<|.p (bF (n:=1))<|.p (a6 (n:=2))<|.x (1,xf x [c],false,[.ptr 4,.ptr 7],q)<|.c (ai:=(1,xf x [c],b',[],q')) hs<|.e (s:=(1,xf x [c],b',[],q')) (ai:=(2,xf x [c],b',[],q')) (λ_ h=>h) .nil
def Xc(hd:23<=d)(hv:aT<|nd z ps)(hw:aT<|nd ki [.str [109],nd z ps])(k:aR=[]\/aR=[.ptr 4])(h:Pz d 7136 [] (xf x [c,false],aR++[.ptr 5],q) (nd z ps) (xf x [c,b'],[],q')):Pz (d+4) 18136 [.lst aR] (xf x [c],[],.nm [109] p,.pt [58]::q.1::q.2) (nd ki [.str [109],nd z ps]) (xf x [c],[],q'):=λr k₀=>by refine aA (Zm (p:=p) hd hv k h r k₀) λr' k' s=>?_;have k':Ok (xf x [c]).T q'.2 r':=k';have s:Sp (d+4) 18136 [.ptr 0,.lst aR] (hp (xf x [c]) (.nm [109] p) r []) (nd ki [.str [109],nd z ps])<|hp (xf x [c]) q'.1 r' []++[.lst [.str [109],.bool b']]:=s;exact au r' k'<|s.trim (aV 7) hw.np<|xz (show 1<=3 by ext) k'.dy
noncomputable def iK:List<|List<|List Nat:=[[],[[97]],[[97],[112]]]
def vk:List<|Option<|List Nat:=none::cq.map some
noncomputable def fU:Option (List Nat)->V
 |none=>.none
 |some s=>.str s
def Dh:List<|Option (List Nat)×List (List Nat)×Bool:=vk.flatMap λo=>iK.flatMap λps=>[(o,ps,true),(o,ps,false)]
def zP:∀{l:List<|List Nat},∀v∈l.map V.str,aT v
 |[]=>aP
 |a::l=>ao Np.str zP
def IW{α:Type}{as:α->List V}{c':α->List O}{v:α->V}{P:α->Prop}:∀{L:List α},L.map (λq=>Cn d n f (as q) ⟨[],[],True⟩)=L.map (λq=>some (v q,(⟨c' q,[],P q⟩:St)))->(∀q∈L,P q)->∀q∈L,Sp (d+n+1) f (as q) [] (v q) (c' q)
 |[],_,_,_,h=>nomatch h
 |a::r,e,hp,q,hq=>by
  rw[List.map_cons,List.map_cons] at e;have e:=List.cons.inj e;cases hq with
  |head=>exact go (hp _<|.head _) e.1
  |tail _ hq=>exact IW e.2 (λx hx=>hp x<|.tail _ hx) q hq
noncomputable def yd:Option (List Nat)->List V
 |none=>[]
 |some s=>[.str s]
def KS(q:Option (List Nat)×List (List Nat)×Bool):Prop:=bif q.2.2 then((yd q.1++q.2.1.map V.str).length<=ae/\True) else True
noncomputable def Li(q:Option (List Nat)×List (List Nat)×Bool):List O:=bif q.2.2 then [.dict<|q.2.1.map λs=>(.str s,.bool true)] else []
def YX:∀q∈Dh,KS q:=by
 intro q hq;refine aA (List.mem_flatMap.mp hq) λo ho hq=>?_;refine aA (List.mem_flatMap.mp hq) λps hp hq=>?_;have l1:(yd o).length<=1:=by cases o<;>simp[yd]
 have l2:ps.length<=2:=by simp[iK] at hp;rcases hp with rfl|rfl|rfl<;>simp
 simp only[List.mem_cons,List.not_mem_nil,or_false] at hq;rcases hq with rfl|rfl
 ·have g:(yd o++ps.map V.str).length<=3:=by rw[bO,List.length_map];lia
  exact⟨aG g<|a6 (n:=3),trivial⟩
 ·trivial
def ZT(hd:22<=d)(h:o∈vk)(k:ps∈iK)(b:Bool)(C:List O):Sp d 118 [fU o,.lst<|ps.map .str,.bool b] C .none C:=by have m:(o,ps,b)∈Dh:=List.mem_flatMap.mpr<|au o h<|List.mem_flatMap.mpr<|au ps k (by cases b<;>simp);have g:=IW (f:=118) (L:=Dh) (as:=λq=>[fU q.1,.lst<|q.2.1.map .str,.bool q.2.2]) (v:=λ_=>.none) (c':=Li) (P:=KS) (n:=5) (d:=16) (by ext) YX _ m;have t:Sp 22 118 [fU o,.lst<|ps.map .str,.bool b] [] .none []:=Sp.trim (c':=[]) (ds:=Li (o,ps,b)) g (aV 0) Np.none aP;exact Sp.mono hd<|Sp.pure t C Np.none<|ao (by cases o;exact Np.none;exact Np.str)<|ao (Np.lst zP)<|ao Np.bool aP
noncomputable def dS:List<|List Nat:=[[97],[105,102],[49],[120,32,121]]
def tV:List<|List Nat×Bool:=[(iI,true),(iI,false),(fW,true),(fW,false),(fV,true),(fV,false)]
noncomputable def dk:List (List Nat)->List (List Nat)->List (V×V)
 |[],_=>[]
 |_,[]=>[]
 |k::ks,s::ss=>(.str k,.lst [.str s])::dk ks ss
def rM(q:List Nat×Bool)(k:List Nat)(ss:List<|List Nat):Prop:=Sp 15 122 [.ptr 0,.str q.1,.str k,.bool q.2] [.dict<|dk dS ss] .none [.dict<|dk dS<|ss++[q.1]]
def re{α:Type}{as:α->List V}{c c':α->List O}{v:α->V}{P:α->Prop}:∀{L:List α},L.map (λq=>Cn d n f (as q) ⟨c q,[],True⟩)=L.map (λq=>some (v q,(⟨c' q,[],P q⟩:St)))->∀q∈L,P q->Sp (d+n+1) f (as q) (c q) (v q) (c' q)
 |[],_,_,h,_=>nomatch h
 |a::r,e,q,hq,hp=>by
  rw[List.map_cons,List.map_cons] at e;have e:=List.cons.inj e;cases hq with
  |head=>exact go hp e.1
  |tail _ hq=>exact re e.2 q hq hp
noncomputable abbrev zu(k:List Nat)(q:List Nat×Bool):List V:=[.ptr 0,.str q.1,.str k,.bool q.2]
abbrev y0(ss:List<|List Nat)(q:List Nat×Bool):List O:=[.dict<|dk dS<|ss++[q.1]]
def xm(q:List Nat×Bool):[V.str q.1].length<=ae/\True:=⟨a6 (n:=1),trivial⟩
def ef0:∀q∈tV,rM q [97] []:=λq h=>re (as:=zu [97]) (c:=λ_=>[.dict<|dk dS []]) (c':=y0 []) (v:=λ_=>.none) (P:=λq=>[V.str q.1].length<=ae/\True) (n:=2) (d:=12) (by ext) q h (xm q)
def ef1:∀q∈tV,rM q [105,102] [ai]:=λq h=>re (as:=zu [105,102]) (c:=λ_=>[.dict<|dk dS [ai]]) (c':=y0 [ai]) (v:=λ_=>.none) (P:=λq=>[V.str q.1].length<=ae/\True) (n:=2) (d:=12) (by ext) q h (xm q)
def ef2:∀q∈tV,rM q [49] [ai,af]:=λq h=>re (as:=zu [49]) (c:=λ_=>[.dict<|dk dS [ai,af]]) (c':=y0 [ai,af]) (v:=λ_=>.none) (P:=λq=>[V.str q.1].length<=ae/\True) (n:=2) (d:=12) (by ext) q h (xm q)
def ef3:∀q∈tV,rM q [120,32,121] [ai,af,aH]:=λq h=>re (as:=zu [120,32,121]) (c:=λ_=>[.dict<|dk dS [ai,af,aH]]) (c':=y0 [ai,af,aH]) (v:=λ_=>.none) (P:=λq=>[V.str q.1].length<=ae/\True) (n:=2) (d:=12) (by ext) q h (xm q)
abbrev So:=Option (List<|List Nat)×Ts
def hO(x:Px)(s:So)(r:Rd):List O:=match s.1 with
 |none=>hp x s.2.1 r []
 |some ss=>hp x s.2.1 r []++[.dict<|dk dS ss]
abbrev rA(x:Px):So->Rd->Prop:=λs r=>Ok x.T s.2.2 r
def Ai:∀{ks ss:List<|List Nat},rT ι (dk ks ss) (dk ks ss)
 |[],_=>.nil
 |_::_,[]=>.nil
 |k::ks,s::ss=>.cons (aT.rn<|Np.lst<|ao Np.str aP) Ai
def xM:∀{l:List V},(∀v∈l,aT v)->∀{ι:List Nat},gk ι l l
 |[],_,_=>.nil
 |a::l,h,_=>.cons (h a<|.head _).rn<|xM λv hv=>h v<|.tail _ hv
def Kz(h:Sp 15 122 [.ptr 0,.str s,.str k,.bool b] [.dict<|dk dS ss] .none [.dict<|dk dS<|ss++[s]])(hd:20<=d):Sw (hO x) (rA x) d 122 [.ptr 7,.str s,.str k,.bool b] (some ss,q) (λ_ _=>.none) (some<|ss++[s],q):=λr o=>
 (au r o (Sp.mono (aG (by ext) hd) (Sp.frame (ι:=[7]) (C:=hp x q.1 r []++[.dict<|dk dS ss]) (D:=hp x q.1 r []++[.dict<|dk dS<|ss++[s]]) h (by simp) rfl rfl (λi hi=>by cases hi with|head=>exact(by decide:7<8)|tail _ h=>cases h)
  (λj i o e e'=>by
   induction j using Nat.casesAuxOn with
   |zero=>refine zb (aE e) ?_;exact zb (aE e')<|au _ rfl<|.dict Ai rfl rfl
   |succ j=>exact ng e)
  (λj i o e e'=>by
   induction j using Nat.casesAuxOn with
   |zero=>refine zb (aE e) ?_;exact zb (aE e')<|au _ rfl<|.dict Ai rfl rfl
   |succ j=>exact ng e)
  rfl (λi hi=>by rcases i with _|_|_|_|_|_|_|_|i<;>first|rfl|exact absurd (.head _) hi)
  (.cons (d5 rfl)<|xM<|ao Np.str<|ao Np.str<|ao Np.bool aP) (aT.rn Np.none))))
def DV(hx:x.fl.length<=3)(hv:aT v)(ha:∀v∈as,aT v)(h:Pa x d f as q v q'):Sw (hO x) (rA x) d f (.ptr 0::as) (some ss,q) (λ_ _=>v) (some ss,q'):=λr k=>by exact aA (h r k) λr' k' p=>au r' k'<|Pa.Cb hx _ hv ha k.dy k'.dy p
def Iv(hx:x.fl.length<=3)(hd:20<=d):Sw (hO x) (rA x) d 2126 [.ptr 0] (some ss,t,a8::ts) (λr _=>dw t r.a r.b) (some ss,a8,ts):=λr k=>by exact aA (vQ x t [] k) λr' k' p=>au r' k'<|(Pa.Cb hx _ kM aP k.dy k'.dy p).mono<|aG (by ext) hd
def y8(hx:x.fl.length<=3)(hd:20<=d)(e:sg q.1 s=b):Sw (hO x) (rA x) d 4126 [.ptr 0,.str s] (some ss,q) (λ_ _=>.bool b) (some ss,q):=DV hx Np.bool (ao Np.str aP)<|eL hd e
noncomputable def Jr(xs:List V):Option V->Lo
 |none=>[("self",.val<|.ptr 0),("line",.val<|.int 1),("known",.val<|.ptr 7),("found",.own xs)]
 |some e=>[("self",.val<|.ptr 0),("line",.val<|.int 1),("known",.val<|.ptr 7),("found",.own xs),("entry",.val e)]
def gy(x:Px)(d:Nat)(xs:List V)(ss:List<|List Nat)(q:Ts)(ys:List V)(lC:List<|List Nat)(q':Ts):Prop:=∀e,∃e',eF (hO x) (rA x) d (fJ 17133) (fu 17133 2) (Jr xs e) (some ss,q) (Jr ys e') (some lC,q')
def gy.stop(hx:x.fl.length<=3):gy x 22 xs ss (.pt [125],ts) xs ss (.pt [125],ts):=λe=>⟨e,by cases e<;>exact wl 1 (.c (y8 hx (s:=[125]) (b:=true) (aV 20) rfl) .nil) (d:=20)⟩
def gy.last(hx:x.fl.length<=3)(hd:20<=d)(hl:xs.length<ae)(da:sg q.1 [125]=false)(hv:aT v)(h:Pa x d 18133 [] q (.tup [.str s,.str k,v]) (.pt [125],ts))(ef:rM (s,x.s) k ss)(l:gy x (d+4) (xs++[.tup [.str s,.str k,v]]) (ss++[s]) (.pt [125],ts) ys lC q'):gy x (d+4) xs ss q ys lC q':=λe=>by obtain⟨e',l⟩:=l<|some<|.tup [.str s,.str k,v];refine⟨e',?_⟩;cases e<;>exact wl 3<|.c (y8 hx hd da)<|.c (DV hx (Np.tup<|ao Np.str<|ao Np.str<|ao hv aP) aP h)<|.c (Kz ef hd)<|.p hl<|.c (y8 hx (s:=[125]) (b:=true) hd rfl)<|.l l .nil
def gy.more(hx:x.fl.length<=3)(hd:20<=d)(hl:xs.length<ae)(da:sg q.1 [125]=false)(hv:aT v)(h:Pa x d 18133 [] q (.tup [.str s,.str k,v]) (.pt [44],aC.1::aC.2))(ef:rM (s,x.s) k ss)(l:gy x (d+4) (xs++[.tup [.str s,.str k,v]]) (ss++[s]) aC ys lC q'):gy x (d+4) xs ss q ys lC q':=λe=>by obtain⟨e',l⟩:=l<|some<|.tup [.str s,.str k,v];refine⟨e',?_⟩;cases e<;>exact wl 3<|.c (y8 hx hd da)<|.c (DV hx (Np.tup<|ao Np.str<|ao Np.str<|ao hv aP) aP h)<|.c (Kz ef hd)<|.p hl<|.c (Iv hx hd)<|.l l .nil
def X5(hd:20<=d):Sw (hO x) (rA x) d 2126 [.ptr 0] (none,t,a8::ts) (λr _=>dw t r.a r.b) (none,a8,ts):=λr h=>(vQ x t [] h).imp λ_ q=>⟨q.1,q.2.mono<|aG (by ext) hd⟩
def Y2(hx:x.fl.length<=3)(hd:20<=d)(l:gy x (d+4) [] [] q xs ss (.pt [125],t'::ab)):Sw (hO x) (rA x) (d+5) 17133 [.ptr 0] (none,.pt [123],q.1::q.2) (λ_ _=>nd pM [.lst xs]) (some ss,t',ab):=by obtain⟨e,l⟩:=l none;cases e<;>exact wk 4<|.c (X5 hd)<|.x (some [],q)<|.l l<|.c (Iv hx hd) .nil
def Zf(hx:x.fl.length<=3)(hd:20<=d)(hv:aT<|.lst xs)(l:gy x (d+4) [] [] q xs ss (.pt [125],t'::ab)):Pa x (d+5) 17133 [] (.pt [123],q.1::q.2) (nd pM [.lst xs]) (t',ab):=λr k=>by exact aA (Y2 hx hd l r k) λr' k' p=>au r' k'<|p.trim (aV 7) (Np.inst<|ao Np.str<|ao Np.int<|ao (Np.lst<|ao hv.np aP)<|ao Np.none aP)<|xz hx k'.dy
noncomputable def u7:List Nat:=[80,114,111,103,114,97,109]
noncomputable def x0(T:List Nat)(b:Bool):Px:=⟨T,b,0,0,0,[]⟩
def h4(x:Px)(t:Tk)(r:Rd):List O:=[xZ x t r [],aF x.T r.p,vy x,.lst []]
def NQ(qx:aT r'.dy)(hv:aT<|.lst xs)(s:Sp d 1136 [.ptr 0,.bool true] (hp (x0 T false) t r []) (.lst xs)<|hp (x0 T b) t' r' []):Sp d 1136 [.ptr 0,.bool true] (h4 (x0 T false) t r) (.lst xs)<|h4 (x0 T b) t' r':=
 Sp.pad (n:=3) (c:=h4 (x0 T false) t r) (c':=h4 (x0 T b) t' r') (ds:=d3) s (aV 4) hv.np
  (ao (ao (Np.ptr (show 1<4 by ext))<|ao kM.np<|ao qx.np<|ao Np.bool<|ao Np.int<|ao (Np.ptr (show 2<4 by ext))<|ao (Np.lst aP) aP)<|ao (ao Np.str<|ao Np.int<|ao Np.int aP)<|ao (ao (Np.ptr (show 3<4 by ext))<|ao Np.int<|ao Np.int aP)<|ao aP aP)
def YK(h:Sp d 2110 [.ptr 1] [.inst 4 [("lexer",.ptr 1)],aF T 0] (dw t a b') [.inst 4 [("lexer",.ptr 1)],aF T p])(s:Sp d 1136 [.ptr 0,.bool true] (h4 (x0 T false) t ⟨a,b',.none,p,0,0⟩) (.lst xs)<|h4 (x0 T b) t' r'):Sp (d+4) 138 [.str T] [] (nd u7 [.lst xs,.bool b])<|h4 (x0 T b) t' r':=go (sc:=[ca 2110 (dw t a b') [.inst 4 [("lexer",.ptr 1)],aF T p],ca 1136 (.lst xs)<|h4 (x0 T b) t' r']) (n:=3) (And.intro s<|And.intro (a6 (n:=([]:List V).length))<|And.intro h trivial) (by ext)
def AD(hd:12<=d)(hv:aT<|.lst xs)(hL:Ls T 0<|t::ts)(h:Pz d 1136 [.bool true] (x0 T false,[],t,ts) (.lst xs) (x0 T b,[],q')):Sp (d+4) 138 [.str T] [] (nd u7 [.lst xs,.bool b]) []:=by refine gz hL λa b' p h1 hL=>?_;refine aA (h ⟨a,b',.none,p,0,0⟩<|.inl ⟨rfl,hL⟩) λr' k' s=>?_;have w:=YK ((Aa h1 _ []).mono hd)<|NQ k'.dy hv s;exact w.trim (c':=[]) (ds:=h4 (x0 T b) q'.1 r') (aV 0) (Np.inst<|ao Np.str<|ao Np.int<|ao (Np.lst<|ao hv.np<|ao Np.bool aP)<|ao Np.none aP) aP
noncomputable def hd:List Nat->Int
 |[]=> -1
 |c::_=>c
structure At(T:List Nat)(i:Nat)(w:List Nat):Prop where
 e:T.drop i=w
 l:T.length<=ae
 i:i<=T.length
noncomputable def fX:List Int:=[97,98,99,100,101,102,103,104,105,106,107,108,109,110,111,112,113,114,115,116,117,118,119,120,121,122]
noncomputable def iL:List Int:=[48,49,50,51,52,53,54,55,56,57]
noncomputable def XA:List Int:=[123,125,40,41,91,93,46,59,44,60,62,43,45,42,37,38,124,94,33,126,63,58,61,47]
def chF:List Int:=fX++(92::iL++(34::XA))
section
variable{d:Nat}{s T w u:List Nat}{i:Nat}{c:Nat}{C:List O}
theorem At.get(h:At T i<|c::u):T[i]? =some c:=by have:=h.e;rw[<-List.head?_drop,this];rfl
theorem At.step(h:At T i<|c::u):At T (i+1) u:=by
 refine⟨?_,h.l,?_⟩
 ·rw[<-List.drop_drop,h.e];rfl
 ·have:=(List.getElem?_eq_some_iff.mp h.get).1;exact this
def At.steps:∀{s:List Nat} {i:Nat},At T i (s++u)->At T (i+s.length) u
 |[],_,h=>h
 |c::s,i,h=>by have:=At.steps (s:=s) h.step;rw[ec,Nat.add_comm s.length 1,<-Nat.add_assoc];exact this
theorem kT(h:a<b):bQ a b:=(Z.ltB_iff a b).mpr h
def A6(h:¬a<b):bQ a b=false:=Bool.eq_false_iff.mpr λq=>h<|(Z.ltB_iff a b).mp q
theorem At.lt(h:At T i<|c::u):i<T.length:=(List.getElem?_eq_some_iff.mp h.get).1
def At.idx(h:At T i<|c::u):((pF C (.str T)<|.int i).bind λv=>some<|TV.p v)=some (.p<|.str [c]):=by
 have e:ir T (i:Int)=some c:=by unfold ir;rw[xr<|Int.natCast_nonneg i];exact h.get
 show(((bK (Nat.ble T.length ae)<|ir T (i:Int)).bind λx=>some<|V.str [x]).bind λv=>some<|TV.p v)=_;rw[e,Nat.ble_eq_true_of_le h.l];rfl
def Qx(h:At T i<|c::u):Sp 2 91 [.str T,.int i] C (.int c) C:=Sp.pure (go (sc:=[.br 0 true,.ov 0<|.p<|.str [c]]) (n:=1) (d:=0) (c3 h.l (kT<|Int.ofNat_lt.mpr h.lt)<|h.idx (C:=[]))<|by ext) C Np.int (ao Np.str<|ao Np.int aP)
theorem At.nil(h:At T i []):T.length=i:=by have e:=congrArg List.length h.e;rw[List.length_drop] at e;have:=h.i;simp only[List.length_nil] at e;lia
def QB(h:At T i []):Sp 2 91 [.str T,.int i] C (.int<|-1) C:=Sp.pure (go (sc:=[.br 0 false]) (n:=1) (d:=0) (c2 h.l<|A6 (a:=i) (b:=T.length) (by rw[h.nil];exact Int.lt_irrefl _))<|by ext) C Np.int (ao Np.str<|ao Np.int aP)
def dP(h:At T i w):Sp 2 91 [.str T,.int i] C (.int<|hd w) C:=by
 induction w using bx with
 |nil=>exact QB h
 |cons c u=>exact Qx h
end
def mh:List Int:= -1::chF
variable{T w:List Nat}{i:Nat} in
theorem At.ar(h:At T i w):(0:Int)<=(i:Int)/\(i:Int)<=(T.length:Int)/\T.length<=ae:=⟨Int.natCast_nonneg i,Int.ofNat_le.mpr h.i,h.l⟩
structure Nc(w:List Nat):Prop where
 a:c9 [47,47] w=false
 b:c9 [47,42] w=false
theorem Nc.ne(h:Nat.beq 47 c=false):Nc<|c::u:=⟨by show(Nat.beq 47 c&&c9 [47] u)=false;rw[h];rfl,by show(Nat.beq 47 c&&c9 [42] u)=false;rw[h];rfl⟩
def sk0(h:At T i w)(n:Nc w)(m:hd w∈mh):Sp 6 5110 [.ptr 0] [aF T i] (.bool false) [aF T i]:=
 gS (L:=mh) (sc:=λq=>[ca 91 (.int q) [aF T i],.br 4 false,.br 0 false]) (P:=λq=>(c9 [47,42] (T.drop i)=false)/\((0:Int)<=(i:Int)/\(i:Int)<=(T.length:Int)/\T.length<=ae)/\(c9 [47,47] (T.drop i)=false)/\((0:Int)<=(i:Int)/\(i:Int)<=(T.length:Int)/\T.length<=ae)/\Sp 2 91 [.str T,.int i] [aF T i] (.int q) [aF T i]/\True)
  (c:=λ_=>[aF T i]) (c':=λ_=>[aF T i]) (v:=λ_=>.bool false) (n:=3) (d:=2) (by ext) (hd w) m (by rw[h.e];exact⟨n.b,h.ar,n.a,h.ar,dP h,trivial⟩)
def sk1(h:At T i<|32::w)(n:Nc w)(m:hd w∈mh):Sp 6 5110 [.ptr 0] [aF T i] (.bool false) [aF T ((i+1:Nat):Int)]:=
 gS (L:=mh) (sc:=λq=>[ca 91 (.int 32) [aF T i],ca 91 (.int q) [aF T ((i+1:Nat):Int)],.br 4 false,.br 0 false]) (P:=λq=>(c9 [47,42] (T.drop<|i+1)=false)/\((0:Int)<=((i+1:Nat):Int)/\((i+1:Nat):Int)<=(T.length:Int)/\T.length<=ae)/\(c9 [47,47] (T.drop<|i+1)=false)/\((0:Int)<=((i+1:Nat):Int)/\((i+1:Nat):Int)<=(T.length:Int)/\T.length<=ae)/\Sp 2 91 [.str T,.int ((i+1:Nat):Int)] [aF T ((i+1:Nat):Int)] (.int q) [aF T ((i+1:Nat):Int)]/\Sp 2 91 [.str T,.int i] [aF T i] (.int 32) [aF T i]/\True)
  (c:=λ_=>[aF T i]) (c':=λ_=>[aF T ((i+1:Nat):Int)]) (v:=λ_=>.bool false) (n:=3) (d:=2) (by ext) (hd w) m (by rw[h.step.e];exact⟨n.b,h.step.ar,n.a,h.step.ar,dP h.step,dP h,trivial⟩)
noncomputable def nc:List<|List Nat:=[[62,62,62,61],[61,61,61],[33,61,61],[62,62,62],[60,60,61],[62,62,61],[60,61],[62,61],[61,61],[33,61],[43,43],[45,45],[60,60],[62,62],[38,38],[124,124],[43,61],[45,61],[42,61],[37,61],[38,61],[124,61],[94,61],[47,61],[123],[125],[40],[41],[91],[93],[46],[59],[44],[60],[62],[43],[45],[42],[37],[38],[124],[94],[33],[126],[63],[58],[61],[47]]
def tA:List (List Nat)->List Nat->List (List Nat)
 |[],_=>[]
 |p::r,s=>bif lq p s then [] else p::tA r s
def Dd(T:List Nat)(i:Nat):List (List Nat)->Prop->Prop
 |[],P=>P
 |p::r,P=>Dd T i r<|c9 p (T.drop i)=false/\((0:Int)<=(i:Int)/\(i:Int)<=(T.length:Int)/\T.length<=ae)/\P
def Jh(h:At T i w):∀{l:List<|List Nat} {P:Prop},(∀p∈l,c9 p w=false)->P->Dd T i l P
 |[],_,_,hp=>hp
 |p::r,P,hl,hp=>Jh h (l:=r) (λq hq=>hl q<|.tail _ hq) ⟨by rw[h.e];exact hl p<|.head _,h.ar,hp⟩
structure Pu(s w:List Nat):Prop where
 m:s∈nc
 n:∀p∈tA nc s,c9 p w=false
 y:c9 s w=true
def Yl(h:At T i w)(p:Pu s w):Sp 3 106 [.str T,.int i] C (.str s) C:=
 Sp.pure (gS (L:=nc) (sc:=λq=>(tA nc q).map (λ_=>.br 0 false)++[.br 0 true]) (P:=λq=>c9 q (T.drop i)=true/\((0:Int)<=(i:Int)/\(i:Int)<=(T.length:Int)/\T.length<=ae)/\Dd T i (tA nc q) True)
  (c:=λ_=>[]) (c':=λ_=>[]) (v:=λq=>.str q) (n:=2) (d:=0) (by ext) s p.m ⟨by rw[h.e];exact p.y,h.ar,Jh h p.n trivial⟩) C Np.str (ao Np.str<|ao Np.int aP)
noncomputable def cQ:List Int:=[-1,32,40,41,44,46,58,59,91,93,43,45,125]
noncomputable def I8:List Nat:=[92,117,48,48,101,57]
noncomputable abbrev hI:List O->Rd->List O:=λs _=>s
abbrev qr:List O->Rd->Prop:=λ_ _=>True
noncomputable def r0:Rd:=⟨0,0,.none,0,0,0⟩
abbrev Sq(d f:Nat)(as:List V)(c:List O)(v:V)(c':List O):Prop:=Sw hI qr d f as c (λ_ _=>v) c'
def qs(h:Sp d f as c v c'):Sq d f as c v c':=λr _=>au r trivial h
noncomputable def Ch.q{d D f:Nat}{as:List V}{c c' s':List O}{v:V}(h:Sp d f as c v c')(k:Ch hI qr d D c' s'):Ch hI qr d D c s':=.c (qs h) k
def sq(h:Sq d f as c v c'):Sp d f as c v c':=(h r0 trivial).elim λ_ q=>q.2
def zf:(-8388608:Int)<=4/\(4:Int)<=(ae:Int):=⟨by ext,Int.ofNat_le.mpr<|a6 (n:=4)⟩
def nsP(h:At T i<|c::u)(m:(c:Int)∈fX):Sp 7 7110 [.ptr 0,.bool b] (aF T i::C) (.tup [.str [c],.int ((i+1:Nat):Int)])<|aF T i::C:=by
 have g:=λb=>gS (L:=fX) (d:=2) (n:=4) (f:=7110) (as:=[.ptr 0,.bool b]) (sc:=λq=>[ca 91 (.int q)<|aF T i::C]) (P:=λq=>Sp 2 91 [.str T,.int i] (aF T i::C) (.int q) (aF T i::C)/\True)
  (c:=λ_=>aF T i::C) (c':=λ_=>aF T i::C) (v:=λq=>.tup [.str [q.toNat],.int ((i+1:Nat):Int)])
 cases b
 ·exact g false (by ext) _ m ⟨dP h,trivial⟩
 ·exact g true (by ext) _ m ⟨dP h,trivial⟩
def ns0(h:At T i w)(m:hd w∈cQ):Sp 7 7110 [.ptr 0,.bool false] (aF T i::C) .none<|aF T i::C:=
 gS (L:=cQ) (d:=2) (n:=4) (sc:=λq=>[ca 91 (.int q)<|aF T i::C]) (P:=λq=>Sp 2 91 [.str T,.int i] (aF T i::C) (.int q) (aF T i::C)/\True)
  (c:=λ_=>aF T i::C) (c':=λ_=>aF T i::C) (v:=λq=>.none) (by ext) _ m ⟨dP h,trivial⟩
def nsE(h:At T i<|I8++u):Sp 7 7110 [.ptr 0,.bool b] (aF T i::C) (.tup [.str [233],.int ((i+6:Nat):Int)])<|aF T i::C:=by
 have h0:At T i<|92::117::48::48::101::57::u:=h;have h1:=h0.step;have h2:=h1.step;have h3:=h2.step;have h4:=h3.step;have h5:=h4.step;have e:=λj w (h:At T j w)=>qs<|dP (C:=aF T i::C) h;cases b
 ·exact sq<|wk 4<|.c (e _ _ h0)<|.c (e _ _ h1)<|.p zf<|.c (e _ _ h2)<|.c (e _ _ h3)<|.c (e _ _ h4)<|.c (e _ _ h5) .nil
 ·exact sq<|wk 4<|.c (e _ _ h0)<|.c (e _ _ h1)<|.p zf<|.c (e _ _ h2)<|.c (e _ _ h3)<|.c (e _ _ h4)<|.c (e _ _ h5) .nil
noncomputable def nA(k:List Nat)(v:V)(a b:Int)(pl:Bool):O:=.inst 1 [("kind",.str k),("value",v),("line",.int 1),("is_behind_line",.bool false),("start",.int a),("end",.int b),("is_octal",.bool false),("is_plain",.bool pl)]
def cA(a:Int)(pl:Bool):O:=nA Tk.en.k (.str []) a a pl
noncomputable def vM(xs:List V)(oh:V):Lo:=[("self",.val<|.ptr 0),("token",.val<|.ptr 1),("told",.val oh),("found",.own xs)]
def dU(c:Nat):List Nat:=bif Nat.beq c 233 then I8 else [c]
def bU(s:List Nat):List Nat:=s.flatMap dU
noncomputable def eY(s:List Nat):Bool:=s.all λc=> !Nat.beq c 233
abbrev iz(xs:List V)(oh:V)(C:List O)(ys:List V)(C':List O):Prop:=eF hI qr 8 (fJ 8110) (fu 8110 1) (vM xs oh) C (vM ys .none) C'
def iz.stop:iz xs .none C xs C:=wl 0 .nil (d:=7)
def iz.one(hl:xs.length<ae)(ns:Sp 7 7110 [.ptr 0,.bool false] [aF T ((i+1:Nat):Int),cA a pl] oh [aF T ((i+1:Nat):Int),cA a pl])(l:iz (xs++[.str [c]]) oh [aF T ((i+1:Nat):Int),cA a pl] ys C'):
    iz xs (.tup [.str [c],.int ((i+1:Nat):Int)]) [aF T i,cA a pl] ys C':=
 wl 0 (.b 1 false (A6<|Int.lt_irrefl ((i+1:Nat):Int))<|.p hl<|.x [aF T ((i+1:Nat):Int),cA a pl]<|.q ns<|.l l .nil)
def iz.six(hl:xs.length<ae)(ns:Sp 7 7110 [.ptr 0,.bool false] [aF T ((i+6:Nat):Int),cA a false] oh [aF T ((i+6:Nat):Int),cA a false])(l:iz (xs++[.str [c]]) oh [aF T ((i+6:Nat):Int),cA a false] ys C'):
    iz xs (.tup [.str [c],.int ((i+6:Nat):Int)]) [aF T i,cA a pl] ys C':=
 wl 0 (.b 1 true (kT (show((i+1:Nat):Int)<((i+6:Nat):Int) from Int.ofNat_lt.mpr<|by lia))<|.p hl<|.x [aF T ((i+6:Nat):Int),cA a false]<|.q ns<|.l l .nil)
variable{T u:List Nat}{i c:Nat}{C:List O}{b:Bool} in
def Ev(hc:((c:Int)∈fX/\Nat.beq c 233=false)\/c=233)(h:At T i<|dU c++u):Sp 7 7110 [.ptr 0,.bool b] (aF T i::C) (.tup [.str [c],.int ((i+(dU c).length:Nat):Int)])<|aF T i::C:=by
 rcases hc with⟨m,e⟩|rfl
 ·have q:dU c=[c]:=by rw[dU,e];rfl
  rw[q] at h⊢;exact nsP h m
 ·exact nsE h
noncomputable def r3(c:Nat):V:=.str [c]
def mi(c:Nat):Bool:=(fX.any λx=>bA x c)&& !Nat.beq c 233||Nat.beq c 233
theorem mi.h(h:mi c):((c:Int)∈fX/\Nat.beq c 233=false)\/c=233:=by
 unfold mi at h;rcases Bool.or_eq_true_iff.mp h with h|h
 ·obtain⟨a,b⟩:=cK h;exact aA (List.any_eq_true.mp a) λx hx e=>.inl ⟨(Z.eqB_iff _ _).mp e▸hx,by rw[<-dg];exact b⟩
 ·exact .inr<|fy h
theorem iz.step(hl:xs.length<ae)(hc:mi c)(ns:Sp 7 7110 [.ptr 0,.bool false] [aF T ((i+(dU c).length:Nat):Int),cA a<|pl&& !Nat.beq c 233] oh [aF T ((i+(dU c).length:Nat):Int),cA a<|pl&& !Nat.beq c 233])(l:iz (xs++[.str [c]]) oh [aF T ((i+(dU c).length:Nat):Int),cA a<|pl&& !Nat.beq c 233] ys C'):
 iz xs (.tup [.str [c],.int ((i+(dU c).length:Nat):Int)]) [aF T i,cA a pl] ys C':=by
 rcases mi.h hc with⟨m,e⟩|rfl
 ·have q:dU c=[c]:=by rw[dU,e];rfl
  rw[q] at ns l⊢;rw[e,Bool.not_false,Bool.and_true] at ns l;exact iz.one hl ns l
 ·rw[show(!Nat.beq 233 233)=false from rfl,Bool.and_false] at ns l;exact iz.six hl ns l
def Ut(hu:hd u∈cQ):∀(cs:List Nat) (c i:Nat) (xs:List V) (pl:Bool),(∀x∈c::cs,mi x=true)->At T i (dU c++(bU cs++u))->xs.length+cs.length<ae->
    iz xs (.tup [.str [c],.int ((i+(dU c).length:Nat):Int)]) [aF T i,cA a pl] (xs++(c::cs).map r3) [aF T ((i+(dU c).length+(bU cs).length:Nat):Int),cA a<|(pl&& !Nat.beq c 233)&&eY cs]:=by
 intro cs;induction cs with
 |nil=>intro c i xs pl hc h hl;have h':At T (i+(dU c).length) u:=h.steps;refine iz.step hl (hc c<|.head _) (ns0 h' hu) ?_;rw[show((pl&& !Nat.beq c 233)&&eY [])=(pl&& !Nat.beq c 233) from Bool.and_true _];exact iz.stop
 |cons c' cs ih=>
  intro c i xs pl hc h hl;have h':At T (i+(dU c).length)<|dU c'++(bU cs++u):=by have:=h.steps;rw[bU,List.flatMap_cons,bz] at this;exact this
  have Lk:∀x∈c'::cs,mi x=true:=λx hx=>hc x<|.tail _ hx;have hl:xs.length+(cs.length+1)<ae:=hl;have r:=ih c' (i+(dU c).length) (xs++[r3 c]) (pl&& !Nat.beq c 233) Lk h' (by rw[bO];show xs.length+1+cs.length<ae;lia);refine iz.step (by lia) (hc c<|.head _) (Ev (mi.h<|Lk c'<|.head _) h') ?_;rw[bz] at r;have e1:i+(dU c).length+(dU c').length+(bU cs).length=i+(dU c).length+(bU<|c'::cs).length:=by rw[show bU (c'::cs)=dU c'++bU cs from List.flatMap_cons,bO,Nat.add_assoc,Nat.add_assoc]
  have e2:(((pl&& !Nat.beq c 233)&& !Nat.beq c' 233)&&eY cs)=((pl&& !Nat.beq c 233)&&eY (c'::cs)):=Bool.and_assoc ..;rw[e1,e2] at r;exact r
def gX:List<|List Nat:=[120]::cq
noncomputable def iw:List<|List Nat:=[[98,114,101,97,107],[99,97,115,101],[99,97,116,99,104],[99,111,110,116,105,110,117,101],[100,101,98,117,103,103,101,114],[100,101,102,97,117,108,116],[100,101,108,101,116,101],[100,111],[101,108,115,101],[102,105,110,97,108,108,121],[102,111,114],[102,117,110,99,116,105,111,110],[105,102],[105,110],[105,110,115,116,97,110,99,101,111,102],[110,101,119],[114,101,116,117,114,110],[115,119,105,116,99,104],[116,104,105,115],[116,104,114,111,119],[116,114,121],[116,121,112,101,111,102],[118,97,114],[118,111,105,100],[119,104,105,108,101],[110,117,108,108],[116,114,117,101],[102,97,108,115,101]]
noncomputable def dL:List Nat->Nat
 |[]=>0
 |c::_=>c
noncomputable def pV:List Nat->List Nat
 |[]=>[]
 |_::r=>r
abbrev IG(T:List Nat)(i:Nat)(a:Int)(k:Bool)(s:List Nat):List An:=[ca 7110 (.tup [.str [dL s],.int ((i+(dU<|dL s).length:Nat):Int)]) [aF T i,cA a true],.wx .bu (vM (s.map r3) .none) [aF T ((i+(dU<|dL s).length+(bU<|pV s).length:Nat):Int),cA a<|eY s],ca 105 (.bool k) [aF T ((i+(dU<|dL s).length+(bU<|pV s).length:Nat):Int),nA Tk.en.k (.str s) a a<|eY s]]
abbrev CO(T:List Nat)(i:Nat)(a:Int)(k:Bool)(s:List Nat):Prop:=Sp 7 105 [.str s] [aF T ((i+(dU<|dL s).length+(bU<|pV s).length:Nat):Int),nA Tk.en.k (.str s) a a<|eY s] (.bool k) [aF T ((i+(dU<|dL s).length+(bU<|pV s).length:Nat):Int),nA Tk.en.k (.str s) a a<|eY s]/\(cf []<|s.map λc=>[c]).length<=ae/\
 Sl 8 (fJ 8110) (fu 8110 1) (vM []<|.tup [.str [dL s],.int ((i+(dU<|dL s).length:Nat):Int)]) [aF T i,cA a true] .bu (vM (s.map r3) .none) [aF T ((i+(dU<|dL s).length+(bU<|pV s).length:Nat):Int),cA a<|eY s]/\Sp 7 7110 [.ptr 0,.bool true] [aF T i,cA a true] (.tup [.str [dL s],.int ((i+(dU<|dL s).length:Nat):Int)]) [aF T i,cA a true]/\True
def Jd(hk:Sp 2 105 [.str s] [] (.bool k) [])(hu:hd u∈cQ)(hs:s∈gX++iw)(h:At T i<|bU s++u):CO T i a k s:=by
 have ok:(gX++iw).all λs=> !s.isEmpty&&s.all mi&&Nat.ble s.length 100&&Nat.ble (cf []<|s.map λc=>[c]).length 100:=by ext
 have ok:=cp ok s hs;simp only[cS] at ok;obtain⟨⟨⟨o1,o2⟩,o3⟩,o4⟩:=ok;clear hs;induction s using bx with
 |nil=>exact nj o1
 |cons c cs=>rw[bU,List.flatMap_cons,bz] at h;have oc:∀x∈c::cs,mi x=true:=cp o2;have hl:cs.length<ae:=Nat.lt_of_lt_of_le (Nat.lt_of_succ_le<|ia o3)<|a6 (n:=100);refine⟨(Sp.pure hk _ Np.bool<|ao Np.str aP).mono<|by ext,aG (ia o4)<|a6 (n:=100),?_,Ev (mi.h<|oc c<|.head _) h,trivial⟩;have r:=Ut (a:=a) hu cs c i [] true oc h (by rw[List.length_nil,Nat.zero_add];exact hl);exact(r r0 trivial).elim λ_ q=>q.2
def kwN:∀s∈gX,Sp 2 105 [.str s] [] (.bool false) []:=jW (L:=gX) (as:=λs=>[.str s]) (v:=λ_=>.bool false) (n:=1) (d:=0)<|by ext
def kwK:∀s∈iw,Sp 2 105 [.str s] [] (.bool true) []:=jW (L:=iw) (as:=λs=>[.str s]) (v:=λ_=>.bool true) (n:=1) (d:=0)<|by ext
abbrev ud(T:List Nat)(i:Nat)(a:Int)(k:List Nat)(s:List Nat):List O:=[aF T ((i+(dU<|dL s).length+(bU<|pV s).length:Nat):Int),nA k (.str s) a a<|eY s]
def rnN(hu:hd u∈cQ)(hs:s∈gX)(h:At T i<|bU s++u):Sp 9 8110 [.ptr 0,.ptr 1] [aF T i,cA a true] .none<|ud T i a [110,97,109,101] s:=gS (L:=gX) (d:=7) (n:=1) (sc:=IG T i a false) (P:=CO T i a false) (c:=λ_=>[aF T i,cA a true]) (c':=ud T i a [110,97,109,101]) (v:=λ_=>.none) (by ext) s hs (Jd (kwN s hs) hu (gq _ hs) h)
def ZC(hu:hd u∈cQ)(hs:s∈iw)(h:At T i<|bU s++u):Sp 9 8110 [.ptr 0,.ptr 1] [aF T i,cA a true] .none<|ud T i a [107,101,121,119,111,114,100] s:=gS (L:=iw) (d:=7) (n:=1) (sc:=IG T i a true) (P:=CO T i a true) (c:=λ_=>[aF T i,cA a true]) (c':=ud T i a [107,101,121,119,111,114,100]) (v:=λ_=>.none) (by ext) s hs (Jd (kwK s hs) hu (ei _ hs) h)
def H5(hw:hd w∈92::fX)(h:At T i w)(s:Sp 6 5110 [.ptr 0] [aF T dX] (.bool false) [aF T i])(n:Sp 9 8110 [.ptr 0,.ptr 1] [aF T i,cA i true] .none [aF T j,nA k v i i pl]):
    Sp 12 2110 [.ptr 0] [aF T dX] (.inst 1 [("kind",.str k),("value",v),("line",.int 1),("is_behind_line",.bool false),("start",.int i),("end",.int j),("is_octal",.bool false),("is_plain",.bool pl)]) ([aF T j]++[.dead]):=
 gS (L:=92::fX) (d:=9) (n:=2) (as:=[.ptr 0]) (sc:=λq=>[ca 5110 (.bool false) [aF T i],ca 91 (.int q) [aF T i],ca 8110 .none [aF T j,nA k v i i pl]]) (P:=λq=>Sp 9 8110 [.ptr 0,.ptr 1] [aF T i,cA i true] .none [aF T j,nA k v i i pl]/\Sp 9 91 [.str T,.int i] [aF T i] (.int q) [aF T i]/\Sp 9 5110 [.ptr 0] [aF T dX] (.bool false) [aF T i]/\True)
  (c:=λ_=>[aF T dX]) (c':=λ_=>[aF T j]++[.dead]) (v:=λ_=>.inst 1 [("kind",.str k),("value",v),("line",.int 1),("is_behind_line",.bool false),("start",.int i),("end",.int j),("is_octal",.bool false),("is_plain",.bool pl)]) (by ext) _ hw ⟨n,(dP h).mono<|by ext,s.mono<|by ext,trivial⟩
def pL(w:List Nat)(t:Tk)(u:List Nat):Prop:=(∀T i (dX:Nat),At T i w->Sp 6 5110 [.ptr 0] [aF T dX] (.bool false) [aF T i]->∃j:Nat,At T j u/\∃a b,Lx T dX t a b j)/\Nc w/\hd w∈mh
def Te:∀o∈[aF T dX],∀v∈o.vals,Np 1 v:=ao (ao Np.str<|ao Np.int<|ao Np.int aP) aP
def nQ(h:Sp 12 2110 [.ptr 0] [aF T dX] (dw t a j)<|[aF T p]++[.dead]):Lx T dX t a j p:=h.trim (aV 1) kM.np Te
theorem sK(h:s.isEmpty=false):hd (s++u)=(dL s:Int):=by
 induction s using bx with
 |nil=>exact nk h
 |cons c r=>rfl
def Vf:(gX++iw).all λs=> !(bU s).isEmpty&&(((92:Int)::fX).any λx=>bA x (dL (bU s):Int))&&Nat.beq ((dU<|dL s).length+(bU<|pV s).length) (bU s).length:=by ext
def T5:((92:Int)::fX).all λx=>(mh.any λy=>bA y x)&& !bA 47 x:=by ext
def iW{l:List Int}(h:l.any λx=>bA x c):c∈l:=by exact aA (List.any_eq_true.mp h) λx hx e=>(Z.eqB_iff _ _).mp e▸hx
variable{w:List Nat} in
def RJ(h:hd w∈(92:Int)::fX):Nc w/\hd w∈mh:=by
 obtain⟨a,b⟩:=cK<|cp T5 _ h;refine⟨?_,iW a⟩;clear h a;induction w using bx with
 |nil=>exact⟨rfl,rfl⟩
 |cons c r=>
  refine Nc.ne ?_;cases e:Nat.beq 47 c with
  |false=>rfl
  |true=>have e:=fy e;subst e;exact nj b
variable{s:List Nat} in
def EY(hu:hd u∈cQ)(hs:s∈gX++iw)(ht:(s∈gX/\t=.nm s (eY s))\/(s∈iw/\t=.kw s/\eY s=true)):pL (bU s++u) t u:=by
 obtain⟨h1,h2⟩:=cK<|cp Vf s hs;obtain⟨h0,h1⟩:=cK h1;have e0:(bU s).isEmpty=false:=by rw[<-dg];exact h0
 have hh:hd (bU s++u)∈(92:Int)::fX:=by rw[sK e0];exact iW h1
 refine⟨λT i dX h sk=>?_,RJ hh⟩;have ej:i+(dU<|dL s).length+(bU<|pV s).length=i+(bU s).length:=by rw[Nat.add_assoc,fy h2]
 refine au (i+(bU s).length) h.steps<|bT i ((i+(bU s).length:Nat):Int) ?_;rcases ht with⟨hs,rfl⟩|⟨hs,rfl,hp⟩
 ·have n:=rnN (a:=i) hu hs h;rw[ud,ej] at n;exact nQ<|H5 hh h sk n
 ·have n:=ZC (a:=i) hu hs h;rw[ud,ej,hp] at n;exact nQ<|H5 hh h sk n
noncomputable def B7:List Int:=[123,125,40,41,91,93,59,44,60,62,43,45,42,37,38,124,94,33,126,63,58,61,47]
abbrev yB(s:List Nat)(i j:Int):V:=.inst 1 [("kind",.str (Tk.pt s).k),("value",.str s),("line",.int 1),("is_behind_line",.bool false),("start",.int i),("end",.int j),("is_octal",.bool false),("is_plain",.bool true)]
def WN(hw:hd w∈B7)(h:At T i w)(sk:Sp 6 5110 [.ptr 0] [aF T dX] (.bool false) [aF T i])(hl:s.length<=ae)(n:Sp 6 106 [.str T,.int i] [aF T i,cA i true] (.str s) [aF T i,cA i true]):
    Sp 10 2110 [.ptr 0] [aF T dX] (yB s i ((i+s.length:Nat):Int)) ([aF T ((i+s.length:Nat):Int)]++[.dead]):=
 gS (L:=B7) (d:=6) (n:=3) (as:=[.ptr 0]) (sc:=λq=>[ca 5110 (.bool false) [aF T i],ca 91 (.int q) [aF T i],ca 106 (.str s) [aF T i,cA i true]]) (P:=λq=>s.length<=ae/\Sp 6 106 [.str T,.int i] [aF T i,cA i true] (.str s) [aF T i,cA i true]/\Sp 6 91 [.str T,.int i] [aF T i] (.int q) [aF T i]/\Sp 6 5110 [.ptr 0] [aF T dX] (.bool false) [aF T i]/\True)
  (c:=λ_=>[aF T dX]) (c':=λ_=>[aF T ((i+s.length:Nat):Int)]++[.dead]) (v:=λ_=>yB s i ((i+s.length:Nat):Int)) (by ext) _ hw ⟨hl,n,(dP h).mono<|by ext,sk,trivial⟩
def VF(hw:hd u∈fX)(h:At T i<|46::u)(sk:Sp 6 5110 [.ptr 0] [aF T dX] (.bool false) [aF T i])(n:Sp 6 106 [.str T,.int i] [aF T i,cA i true] (.str [46]) [aF T i,cA i true]):
    Sp 10 2110 [.ptr 0] [aF T dX] (yB [46] i ((i+1:Nat):Int)) ([aF T ((i+1:Nat):Int)]++[.dead]):=
 gS (L:=fX) (d:=6) (n:=3) (as:=[.ptr 0]) (sc:=λq=>[ca 5110 (.bool false) [aF T i],ca 91 (.int 46) [aF T i],ca 91 (.int q) [aF T i,cA i true],ca 106 (.str [46]) [aF T i,cA i true]]) (P:=λq=>[46].length<=ae/\Sp 6 106 [.str T,.int i] [aF T i,cA i true] (.str [46]) [aF T i,cA i true]/\Sp 6 91 [.str T,.int ((i+1:Nat):Int)] [aF T i,cA i true] (.int q) [aF T i,cA i true]/\Sp 6 91 [.str T,.int i] [aF T i] (.int 46) [aF T i]/\Sp 6 5110 [.ptr 0] [aF T dX] (.bool false) [aF T i]/\True)
  (c:=λ_=>[aF T dX]) (c':=λ_=>[aF T ((i+1:Nat):Int)]++[.dead]) (v:=λ_=>yB [46] i ((i+1:Nat):Int)) (by ext) _ hw ⟨a6 (n:=1),n,(dP h.step).mono<|by ext,(dP h).mono<|by ext,sk,trivial⟩
def R5:nc.all λs=> !s.isEmpty&&(mh.any λx=>bA x (dL s:Int))&&Nat.ble s.length 100&&(lq s [46]||B7.any λx=>bA x (dL s:Int)):=by ext
def GI(p:Pu s<|s++u)(n:Nc<|s++u)(dot:s=[46]->hd u∈fX):pL (s++u) (.pt s) u:=by
 have h:=cp R5 s p.m;simp only[cS] at h;obtain⟨⟨⟨h1,h2⟩,h3⟩,h4⟩:=h;have e0:s.isEmpty=false:=by rw[<-dg];exact h1
 refine⟨λT i dX h sk=>?_,n,by rw[sK e0];exact iW h2⟩;refine au (i+s.length) h.steps<|bT i ((i+s.length:Nat):Int) ?_;have pn:=(Yl (C:=[aF T i,cA i true]) h p).mono (show 3<=6 by ext);rcases Bool.or_eq_true_iff.mp h4 with h4|h4
 ·have e:=(dR _ _).mp h4;subst e;exact nQ<|(VF (dot rfl) h sk pn).mono<|by ext
 ·exact nQ<|(WN (by rw[sK e0];exact iW h4) h sk (aG (ia h3)<|a6 (n:=100)) pn).mono<|by ext
def Wt(h:At T i [])(sk:Sp 6 5110 [.ptr 0] [aF T dX] (.bool false) [aF T i]):
    Sp 10 2110 [.ptr 0] [aF T dX] (dw .en i i) ([aF T i]++[.dead]):=
 sq (wk 3<|.q sk<|.q ((dP (C:=[aF T i]) h).mono (show 2<=6 by ext))<|.x ([aF T i]++[.dead]) .nil)
def SF:pL [] .en []:=⟨λT i dX h sk=>(au i h<|bT i i<|nQ<|(Wt h sk).mono<|by ext),⟨rfl,rfl⟩,.head _⟩
noncomputable def gm:List<|List Nat×List Nat×Int:=[([49],[],4607182418800017408),([50],[],4611686018427387904),([51],[],4613937818241073152),([52],[],4616189618054758400),([53],[],4617315517961601024),([54],[],4618441417868443648),([55],[],4619567317775286272),([56],[],4620693217682128896),([57],[],4621256167635550208),([49,48],[],4621819117588971520),([49,49],[],4622382067542392832),([49,50],[],4622945017495814144),([49,51],[],4623507967449235456),([49,52],[],4624070917402656768),([49,53],[],4624633867356078080),([49,54],[],4625196817309499392),([49,55],[],4625478292286210048),([49,56],[],4625759767262920704),([49,57],[],4626041242239631360),([50,48],[],4626322717216342016),([48],[53],4602678819172646912),([49],[53],4609434218613702656),([50],[53],4612811918334230528),([51],[53],4615063718147915776),([52],[53],4616752568008179712),([53],[53],4617878467915022336),([54],[53],4619004367821864960),([55],[53],4620130267728707584),([56],[53],4620974692658839552),([57],[53],4621537642612260864)]
def isD:∀q∈iL,Sp 2 8 [.int q] [] (.bool true) []:=jW (L:=iL) (as:=λs=>[.int s]) (v:=λ_=>.bool true) (n:=1) (d:=0)<|by ext
def DS:∀q∈cQ,Sp 2 8 [.int q] [] (.bool false) []:=jW (L:=cQ) (as:=λs=>[.int s]) (v:=λ_=>.bool false) (n:=1) (d:=0)<|by ext
noncomputable def K4(a:Int):Lo:=[("self",.val<|.ptr 0),("start",.val<|.int a)]
abbrev l4(a:Int)(C C':List O):Prop:=eF hI qr 3 (fJ 9110) (fu 9110 1) (K4 a) C (K4 a) C'
def Dm(h:At T i w)(e:hd w=q):Sq 2 91 [.str T,.int i] C (.int q) C:=e▸qs (dP h)
def pZ(hv:aT v)(hs:∀v∈as,aT v)(h:Sp d f as [] v []):Sq d f as C v C:=qs<|Sp.pure h C hv hs
def l4.stop(h:At T i w)(m:hd w∈cQ):l4 a (aF T i::C)<|aF T i::C:=wl 0 (.c (Dm h rfl)<|.c (pZ Np.bool (ao Np.int aP)<|DS _ m) .nil)
theorem l4.step(h:At T i w)(m:hd w∈iL)(l:l4 a (aF T ((i+1:Nat):Int)::C) C'):l4 a (aF T i::C) C':=wl 0 (.c (Dm h rfl)<|.c (pZ Np.bool (ao Np.int aP)<|isD _ m)<|.x (aF T ((i+1:Nat):Int)::C)<|.l l .nil)
variable{C:List O}{a:Int} in
def l4.all(m:hd u∈cQ):∀(s:List Nat) (i:Nat),(∀c∈s,(c:Int)∈iL)->At T i (s++u)->l4 a (aF T i::C) (aF T ((i+s.length:Nat):Int)::C)
 |[],i,_,h=>l4.stop h m
 |c::s,i,hs,h=>by have:=l4.all m s (i+1) (λx hx=>hs x<|.tail _ hx) h.step;rw[ec,Nat.add_comm s.length 1,<-Nat.add_assoc];exact l4.step h (hs c<|.head _) this
theorem A7(h:k<=n):g9 n (k:Int)=k:=by unfold g9;rw[if_neg<|by lia];omega
variable{i:Nat} in
theorem At.slice(h:At T i<|s++u):Mine.cU T (some (i:Int)) (some ((i+s.length:Nat):Int))=s:=by have h2:=h.steps;show(T.take<|g9 T.length ((i+s.length:Nat):Int)).drop (g9 T.length (i:Int))=s;rw[A7 h2.i,A7 h.i,List.drop_take,h.e,Nat.add_sub_cancel_left,List.take_left'];rfl
variable{s:List Nat}{i:Nat} in
def zl(m:hd u∈cQ)(hs:∀c∈s,(c:Int)∈iL)(h:At T i<|s++u):Sp 4 9110 [.ptr 0] (aF T i::C) (.str s)<|aF T ((i+s.length:Nat):Int)::C:=by
 have g:Sp 4 9110 [.ptr 0] (aF T i::C) (.str<|Mine.cU T (some (i:Int))<|some ((i+s.length:Nat):Int))<|aF T ((i+s.length:Nat):Int)::C:=sq (wk 1 (.l (l4.all (a:=i) m s i hs h)<|.p h.l .nil) (d:=2))
 rw[h.slice] at g;exact g
def BM(h:At T i u)(m:hd u∈cQ):Sp 4 14110 [.ptr 0] (aF T i::C) (.int 0)<|aF T i::C:=gS (L:=cQ) (d:=2) (n:=1) (sc:=λq=>[ca 91 (.int q)<|aF T i::C]) (P:=λq=>Sp 2 91 [.str T,.int i] (aF T i::C) (.int q) (aF T i::C)/\True) (c:=λ_=>aF T i::C) (c':=λ_=>aF T i::C) (v:=λ_=>.int 0) (by ext) _ m ⟨dP h,trivial⟩
abbrev Nu:=List Nat×List Nat×Int
noncomputable def dz:List Nat->List Nat
 |[]=>[]
 |c::r=>bif Nat.beq c 48 then dz r else c::r
def K5(l:Nat):Prop:=((0:Int)<=0/\(0:Int)<=(ae:Int)/\(-8388608:Int)<=(l:Int)/\(l:Int)<=(ae:Int))/\l<=ae/\l<=ae/\True
def Xv(h:l<=ae):K5 l:=⟨⟨Int.le_refl 0,Int.natCast_nonneg ae,Int.le_trans (by ext)<|Int.natCast_nonneg l,Int.ofNat_le.mpr h⟩,h,h,trivial⟩
def DX:List Nu:=gm.filter λq=>q.2.1.isEmpty
def DW:List Nu:=gm.filter λq=> !q.2.1.isEmpty&& !Nat.beq (dL q.1) 48
noncomputable def m8(q:Nu):List Nat:=bif q.2.1.isEmpty then q.1 else q.1++(46::q.2.1)
def Dr(h:q∈gm):Sp 5 100 [.str<|q.1++q.2.1,.int<|0-q.2.1.length] [] (.int q.2.2) []:=by
 have l:gm.all λq=>Nat.ble (dz<|q.1++q.2.1).length 100:=by ext
 exact re (L:=gm) (as:=λq=>[.str<|q.1++q.2.1,.int<|0-q.2.1.length]) (c:=λ_=>[]) (c':=λ_=>[]) (v:=λq=>.int q.2.2) (P:=λq=>K5 (dz<|q.1++q.2.1).length) (n:=4) (d:=0) (by ext) q h<|Xv<|aG (ia<|cp l q h)<|a6 (n:=100)
def tH(c:Nat):Bool:=iL.any λx=>bA x c
theorem tH.h(h:tH c):(c:Int)∈iL:=iW h
def rf(q:Nu):Bool:=q.1.all tH&&q.2.1.all tH&&Nat.ble (q.1++q.2.1).length 100&&Nat.ble q.2.1.length 100&&Nat.ble 1 q.1.length
def VL:gm.all rf:=by ext
theorem rf.h(h:q∈gm):(∀c∈q.1,(c:Int)∈iL)/\(∀c∈q.2.1,(c:Int)∈iL)/\(q.1++q.2.1).length<=ae/\q.2.1.length<=ae/\∃c r,q.1=c::r:=by
 have h:=cp VL q h;simp only[rf,cS] at h;obtain⟨⟨⟨⟨h1,h2⟩,h3⟩,h4⟩,h5⟩:=h;refine⟨λc hc=>tH.h<|cp h1 c hc,λc hc=>tH.h<|cp h2 c hc,aG (ia h3)<|a6 (n:=100),aG (ia h4)<|a6 (n:=100),?_⟩;cases e:q.1 with
 |nil=>rw[e] at h5;exact nj h5
 |cons c r=>exact bT c r rfl
abbrev cM(T:List Nat)(j:Nat)(C:List O):List O:=aF T j::C
def Fx(h:∃c r,s=c::r):hd (s++u)=dL s:=by refine cX h λc r q1=>?_;clear h;subst q1;rfl
abbrev ZE(T u:List Nat)(i:Nat)(C:List O)(q:Nu):Prop:=
 Sp 5 100 [.str<|q.1++q.2.1,.int<|0-q.2.1.length] (cM T (i+q.1.length) C) (.int q.2.2) (cM T (i+q.1.length) C)/\q.2.1.length<=ae/\Sp 5 14110 [.ptr 0] (cM T (i+q.1.length) C) (.int 0) (cM T (i+q.1.length) C)/\(q.1++q.2.1).length<=ae/\
 bA (hd u) 46=false/\Sp 5 91 [.str T,.int ((i+q.1.length:Nat):Int)] (cM T (i+q.1.length) C) (.int<|hd u) (cM T (i+q.1.length) C)/\Sp 5 9110 [.ptr 0] (cM T i C) (.str q.1) (cM T (i+q.1.length) C)/\Sp 5 91 [.str T,.int i] (cM T i C) (.int<|dL q.1) (cM T i C)/\True
def rdA(h:q∈DX)(vY:bA (hd u) 46=false)(a:At T i<|q.1++u)(m:hd u∈cQ):Sp 7 13110 [.ptr 0] (cM T i C) (.int q.2.2)<|cM T (i+q.1.length) C:=
 have hq:q∈gm:=(List.mem_filter.mp h).1;have o:=rf.h hq
 gS (L:=DX) (d:=5) (n:=1) (sc:=λq=>[ca 91 (.int<|dL q.1)<|cM T i C,ca 9110 (.str q.1)<|cM T (i+q.1.length) C,ca 91 (.int<|hd u)<|cM T (i+q.1.length) C,.br 0 false,ca 14110 (.int 0)<|cM T (i+q.1.length) C,ca 100 (.int q.2.2)<|cM T (i+q.1.length) C])
  (P:=ZE T u i C) (c:=λ_=>cM T i C) (c':=λq=>cM T (i+q.1.length) C) (v:=λq=>.int q.2.2) (by ext) q h
  ⟨Sp.pure (Dr hq) _ Np.int<|ao Np.str<|ao Np.int aP,o.2.2.2.1,(BM a.steps m).mono<|by ext,o.2.2.1,vY,(dP a.steps).mono<|by ext,(zl m o.1 a).mono<|by ext,Fx (u:=u) o.2.2.2.2▸(dP a).mono (by ext),trivial⟩
abbrev rbP(T u:List Nat)(i:Nat)(C:List O)(q:Nu):Prop:=
 Sp 5 100 [.str<|q.1++q.2.1,.int<|0-q.2.1.length] (cM T (i+q.1.length+1+q.2.1.length) C) (.int q.2.2) (cM T (i+q.1.length+1+q.2.1.length) C)/\q.2.1.length<=ae/\Sp 5 14110 [.ptr 0] (cM T (i+q.1.length+1+q.2.1.length) C) (.int 0) (cM T (i+q.1.length+1+q.2.1.length) C)/\(q.1++q.2.1).length<=ae/\
 Sp 5 9110 [.ptr 0] (cM T (i+q.1.length+1) C) (.str q.2.1) (cM T (i+q.1.length+1+q.2.1.length) C)/\Sp 5 91 [.str T,.int ((i+q.1.length:Nat):Int)] (cM T (i+q.1.length) C) (.int 46) (cM T (i+q.1.length) C)/\Sp 5 9110 [.ptr 0] (cM T i C) (.str q.1) (cM T (i+q.1.length) C)/\Sp 5 91 [.str T,.int i] (cM T i C) (.int<|dL q.1) (cM T i C)/\True
def XC:hd (46::w)∈cQ:=by show(46:Int)∈cQ;decide
def rdB(h:q∈DW)(a:At T i<|q.1++(46::(q.2.1++u)))(m:hd u∈cQ):Sp 7 13110 [.ptr 0] (cM T i C) (.int q.2.2)<|cM T (i+q.1.length+1+q.2.1.length) C:=
 have hq:q∈gm:=(List.mem_filter.mp h).1;have o:=rf.h hq;have a2:=a.steps;have a3:=a2.step
 gS (L:=DW) (d:=5) (n:=1) (sc:=λq=>[ca 91 (.int<|dL q.1)<|cM T i C,ca 9110 (.str q.1)<|cM T (i+q.1.length) C,ca 91 (.int 46)<|cM T (i+q.1.length) C,ca 9110 (.str q.2.1)<|cM T (i+q.1.length+1+q.2.1.length) C,ca 14110 (.int 0)<|cM T (i+q.1.length+1+q.2.1.length) C,ca 100 (.int q.2.2)<|cM T (i+q.1.length+1+q.2.1.length) C])
  (P:=rbP T u i C) (c:=λ_=>cM T i C) (c':=λq=>cM T (i+q.1.length+1+q.2.1.length) C) (v:=λq=>.int q.2.2) (by ext) q h
  ⟨Sp.pure (Dr hq) _ Np.int<|ao Np.str<|ao Np.int aP,o.2.2.2.1,(BM a3.steps m).mono<|by ext,o.2.2.1,(zl m o.2.1 a3).mono<|by ext,(dP a2).mono<|by ext,(zl XC o.1 a).mono<|by ext,Fx (u:=(46::(q.2.1++u))) o.2.2.2.2▸(dP a).mono (by ext),trivial⟩
noncomputable def ww:Nu:=([48],[53],4602678819172646912)
def rdC(a:At T i<|48::46::53::u)(m:hd u∈cQ):Sp 7 13110 [.ptr 0] (cM T i C) (.int ww.2.2)<|cM T (i+3) C:=
 have h1:=a.step;have h2:=h1.step;have o:=rf.h (q:=ww)<|by ext
 sq (wk 1 (.q ((dP a).mono (show 2<=5 by ext))<|.x (cM T (i+1) C)<|.q ((dP (C:=cM T (i+1) C) h1).mono (show 2<=5 by ext))<|.x (cM T (i+2) C)<|.q ((zl (s:=[53]) m o.2.1 h2).mono (show 4<=5 by ext))<|.p o.2.2.1<|.q ((BM h2.step m).mono (show 4<=5 by ext))<|.p o.2.2.2.1<|.c (pZ Np.int (ao Np.str<|ao Np.int aP)<|Dr (q:=ww)<|by ext) .nil) (d:=5))
noncomputable def za:List Int:=[49,50,51,52,53,54,55,56,57]
noncomputable abbrev YE:List Nat:=[110,117,109,98,101,114]
def Km:∀q∈cQ,Sp 3 11 [.int q] [] (.bool false) []:=jW (L:=cQ) (as:=λs=>[.int s]) (v:=λ_=>.bool false) (n:=2) (d:=0)<|by ext
abbrev nC(T:List Nat)(i j:Nat)(v:V):List O:=[aF T j,nA YE v i i true]
abbrev Dt(T:List Nat)(i j:Nat)(n q af d1:Int):Prop:=
 bA q 92=false/\Sp 7 11 [.int q] (nC T i j<|.int n) (.bool false) (nC T i j<|.int n)/\Sp 7 8 [.int q] (nC T i j<|.int n) (.bool false) (nC T i j<|.int n)/\Sp 7 91 [.str T,.int j] (nC T i j<|.int n) (.int q) (nC T i j<|.int n)/\Sp 7 13110 [.ptr 0] (nC T i i<|.str []) (.int n) (nC T i j<|.str [])/\
 Sp 7 91 [.str T,.int ((i+1:Nat):Int)] (nC T i i<|.str []) (.int af) (nC T i i<|.str [])/\Sp 7 91 [.str T,.int i] (nC T i i<|.str []) (.int d1) (nC T i i<|.str [])/\True
def Kx(m:hd w∈za)(p:∀d1,hd w=d1->Dt T i j n a af d1):Sp 9 10110 [.ptr 0,.ptr 1] [aF T i,cA i true] .none<|nC T i j<|.int n:=
 gS (L:=za) (d:=7) (n:=1) (sc:=λd1=>[ca 91 (.int d1)<|nC T i i<|.str [],ca 91 (.int af)<|nC T i i<|.str [],ca 13110 (.int n)<|nC T i j<|.str [],ca 91 (.int a)<|nC T i j<|.int n,ca 8 (.bool false)<|nC T i j<|.int n,ca 11 (.bool false)<|nC T i j<|.int n,.br 1 false])
  (P:=Dt T i j n a af) (c:=λ_=>[aF T i,cA i true]) (c':=λ_=>nC T i j<|.int n) (v:=λ_=>.none) (by ext) _ m (p _ rfl)
def rmC(a0:At T i<|48::46::w)(m:hd u∈cQ)(D1:bA (hd u) 92=false)(hj:At T j u)(r:Sp 7 13110 [.ptr 0] (nC T i i<|.str []) (.int n)<|nC T i j<|.str []):Sp 9 10110 [.ptr 0,.ptr 1] [aF T i,cA i true] .none<|nC T i j<|.int n:=
 sq (wk 1 (.x (nC T i i<|.str []) (.q ((dP a0).mono (show 2<=7 by ext)) (.q ((dP a0.step).mono (show 2<=7 by ext)) (.c (pZ Np.bool (ao Np.int aP)<|(go (n:=1) (d:=0) (sc:=[]) trivial (by ext):Sp 2 9 [.int 46] [] (.bool false) []).mono<|by ext)
  (.q r<|.x (nC T i j<|.int n)<|.q ((dP hj).mono (show 2<=7 by ext))<|.c (pZ Np.bool (ao Np.int aP)<|(DS _ m).mono<|by ext)<|.c (pZ Np.bool (ao Np.int aP)<|(Km _ m).mono<|by ext)<|.b 1 false D1 .nil))))) (d:=7))
def Ie(h:At T i<|c::r)(m:hd u∈cQ)(D1:bA (hd u) 92=false)(hj:At T j u)(k:Sp 7 13110 [.ptr 0] (nC T i i<|.str []) (.int n)<|nC T i j<|.str []):Dt T i j n (hd u) (hd r) c:=⟨D1,Sp.pure ((Km _ m).mono<|by ext) _ Np.bool<|ao Np.int aP,Sp.pure ((DS _ m).mono<|by ext) _ Np.bool<|ao Np.int aP,(dP hj).mono<|by ext,k,(dP h.step).mono<|by ext,(dP h).mono<|by ext,trivial⟩
def BI(hw:hd w∈iL)(h:At T i w)(s:Sp 6 5110 [.ptr 0] [aF T dX] (.bool false) [aF T i])(k:Sp 9 10110 [.ptr 0,.ptr 1] [aF T i,cA i true] .none<|nC T i j<|.int n):
    Sp 12 2110 [.ptr 0] [aF T dX] (dw (.nu n) i j) ([aF T j]++[.dead]):=
 gS (L:=iL) (d:=9) (n:=2) (as:=[.ptr 0]) (sc:=λq=>[ca 5110 (.bool false) [aF T i],ca 91 (.int q) [aF T i],ca 10110 .none<|nC T i j<|.int n]) (P:=λq=>Sp 9 10110 [.ptr 0,.ptr 1] [aF T i,cA i true] .none (nC T i j<|.int n)/\Sp 9 91 [.str T,.int i] [aF T i] (.int q) [aF T i]/\Sp 9 5110 [.ptr 0] [aF T dX] (.bool false) [aF T i]/\True)
  (c:=λ_=>[aF T dX]) (c':=λ_=>[aF T j]++[.dead]) (v:=λ_=>dw (.nu n) i j) (by ext) _ hw ⟨k,(dP h).mono<|by ext,s.mono<|by ext,trivial⟩
def S5:iL.all λx=>(mh.any λy=>bA y x)&& !bA 47 x:=by ext
def AY(h:hd w∈iL):Nc w/\hd w∈mh:=by
 obtain⟨a,b⟩:=cK<|cp S5 _ h;refine⟨?_,iW a⟩;clear h a;induction w using bx with
 |nil=>exact⟨rfl,rfl⟩
 |cons c r=>
  refine Nc.ne ?_;cases e:Nat.beq 47 c with
  |false=>rfl
  |true=>have e:=fy e;subst e;exact nj b
def N1:gm.all λq=>(q.2.1.isEmpty&&za.any λx=>bA x<|dL q.1)||(!q.2.1.isEmpty&& !Nat.beq (dL q.1) 48&&za.any λx=>bA x<|dL q.1)||(lq q.1 [48]&&lq q.2.1 [53]&&bA q.2.2 ww.2.2):=by ext
def CD(m:hd u∈cQ):bA (hd u) 92=false:=by have:=cp (show cQ.all (λx=> !bA x 92)=true by ext) _ m;rw[<-dg];exact this
def RE(h:q∈gm)(m:hd u∈cQ)(vY:bA (hd u) 46=false):pL (m8 q++u) (.nu q.2.2) u:=by
 have o:=rf.h h;obtain⟨x,y,z⟩:=q;refine x04 o λo1 o2 o3 o4 o6=>?_;refine cX o6 λc r o5=>?_;have o5:x=c::r:=o5;subst o5;have hh:∀v,hd (c::(r++v))∈iL:=λv=>o1 c<|.head _;have s:=cp N1 _ h;rcases Bool.or_eq_true_iff.mp s with s|s
 ·rcases Bool.or_eq_true_iff.mp s with s|s
  ·obtain⟨s1,s2⟩:=cK s;have e:m8 (c::r,y,z)=c::r:=by rw[m8,s1];rfl
   rw[e];refine⟨λT i dX a sk=>(au (i+(c::r).length) a.steps<|bT i ((i+(c::r).length:Nat):Int) ?_),AY<|hh u⟩;have hA:(c::r,y,z)∈DX:=List.mem_filter.mpr ⟨h,s1⟩;exact nQ<|BI (hh u) a sk (Kx (w:=c::(r++u)) (iW s2) λd1 e=>by subst e;exact Ie a m (CD m) a.steps<|rdA hA vY a m)
  ·obtain⟨s1,s2⟩:=cK s;have s0:=(cK s1).1;have e:m8 (c::r,y,z)++u=(c::r)++(46::(y++u)):=by
    have:y.isEmpty=false:=by rw[<-dg];exact s0
    rw[m8,show(c::r,y,z).2.1.isEmpty=false from this,cond_false,bz];rfl
   rw[e];refine⟨λT i dX a sk=>(au (i+(c::r).length+1+y.length) a.steps.step.steps<|bT i ((i+(c::r).length+1+y.length:Nat):Int) ?_),AY<|hh _⟩;have hB:(c::r,y,z)∈DW:=List.mem_filter.mpr ⟨h,s1⟩;exact nQ<|BI (hh _) a sk (Kx (w:=c::(r++(46::(y++u)))) (iW s2) λd1 e=>by subst e;exact Ie a m (CD m) a.steps.step.steps<|rdB hB a m)
 ·simp only[cS] at s;obtain⟨⟨s1,s2⟩,s3⟩:=s;have s1:=(dR _ _).mp s1;have s2:=(dR _ _).mp s2;have s3:=(Z.eqB_iff _ _).mp s3;have s1:c::r=[48]:=s1;have s2:y=[53]:=s2;have s3:z=ww.2.2:=s3;obtain⟨rfl,rfl⟩:=List.cons.inj s1;refine zc s2 ?_;refine zc s3 ?_;refine⟨λT i dX a sk=>?_,AY<|hh<|46::53::u⟩;have a:At T i<|48::46::53::u:=a;exact au (i+3) a.step.step.step<|bT i ((i+3:Nat):Int)<|nQ<|BI (hh<|46::53::u) a sk<|rmC a m (CD m) a.step.step.step<|rdC a m
noncomputable abbrev XV:List Nat:=[116,101,120,116]
abbrev tC(T:List Nat)(i j:Nat)(v:V)(pl:Bool):List O:=[aF T j,nA XV v i i pl]
noncomputable def tj(xs:List V):Option V->Lo
 |none=>[("self",.val<|.ptr 0),("token",.val<|.ptr 1),("quote",.val<|.int 34),("found",.own xs)]
 |some c=>[("self",.val<|.ptr 0),("token",.val<|.ptr 1),("quote",.val<|.int 34),("found",.own xs),("code",.val c)]
def fv(xs:List V)(C:List O)(ys:List V)(C':List O):Prop:=∀e,∃e',eF hI qr 8 (fJ 17110) (fu 17110 3) (tj xs e) C (tj ys e') C'
def fv.stop(h:At T j<|34::u):fv xs (tC T i j (.str []) pl) xs<|tC T i j (.str []) pl:=λe=>⟨e,by cases e<;>exact wl 0 (.q ((dP h).mono (show 2<=7 by ext)) .nil) (d:=7)⟩
structure Pc(c:Nat):Prop where
 a:(!bA c 34)=true
 b:bQ c 0=false
 d:bA c 92=false
 l:([10,13,8232,8233].any λx=>bA x (c:Int))=false
def fv.one(p:Pc c)(hl:xs.length<ae)(le:Sp 2 7 [.int c] [] (.bool false) [])(h:At T j<|c::u)(l:fv (xs++[.str [c]]) (tC T i (j+1) (.str []) pl) ys C'):fv xs (tC T i j (.str []) pl) ys C':=λe=>by obtain⟨e',l⟩:=l<|some<|.int c;have q:=qs<|(dP (C:=tC T i j (.str []) pl) h).mono (show 2<=7 by ext);exact⟨e',by cases e<;>exact wl 0<|.c q<|.b 0 true p.a<|.c q<|.b 0 false p.b<|.c (pZ Np.bool (ao Np.int aP)<|le.mono<|by ext)<|.b 2 false p.d<|.o (n:=0) (t:=.p<|.str [c]) (h.idx (C:=tC T i j (.str []) pl))<|.p hl<|.x (tC T i (j+1) (.str []) pl)<|.l l .nil⟩
def fv.zi(hl:xs.length<ae)(h:At T j<|92::u)(es:Sp 7 18110 [.ptr 0,.ptr 1] (tC T i j (.str []) pl) (.str v)<|tC T i k (.str []) false)(l:fv (xs++[.str v]) (tC T i k (.str []) false) ys C'):fv xs (tC T i j (.str []) pl) ys C':=λe=>by
 obtain⟨e',l⟩:=l<|some<|.int 92;have q:=qs<|(dP (C:=tC T i j (.str []) pl) h).mono (show 2<=7 by ext);have le:Sp 2 7 [.int 92] [] (.bool false) []:=go (n:=1) (d:=0) (sc:=[]) trivial<|by ext
 exact⟨e',by cases e<;>exact wl 0<|.c q<|.c q<|.c (pZ Np.bool (ao Np.int aP)<|le.mono<|by ext)<|.q es<|.p hl<|.l l .nil⟩
def esQ(h:At T j<|92::34::u):Sp 7 18110 [.ptr 0,.ptr 1] (tC T i j (.str []) pl) (.str [34])<|tC T i (j+2) (.str []) false:=
 have h1:=h.step;have q:=qs<|dP (C:=tC T i j (.str []) false) h1
 sq (wk 4 (.x (tC T i j (.str []) false)<|.c q<|.o (n:=0) (t:=.p<|.str [34]) (h1.idx (C:=tC T i j (.str []) false))<|.c q<|.x (tC T i (j+2) (.str []) false) .nil) (d:=2))
def esB(h:At T j<|92::92::u):Sp 7 18110 [.ptr 0,.ptr 1] (tC T i j (.str []) pl) (.str [92])<|tC T i (j+2) (.str []) false:=
 have h1:=h.step;have q:=qs<|dP (C:=tC T i j (.str []) false) h1
 sq (wk 4 (.x (tC T i j (.str []) false)<|.c q<|.o (n:=0) (t:=.p<|.str [92]) (h1.idx (C:=tC T i j (.str []) false))<|.c q<|.x (tC T i (j+2) (.str []) false) .nil) (d:=2))
def esN(h:At T j<|92::110::u):Sp 7 18110 [.ptr 0,.ptr 1] (tC T i j (.str []) pl) (.str [10])<|tC T i (j+2) (.str []) false:=
 have h1:=h.step;have q:=qs<|dP (C:=tC T i j (.str []) false) h1
 sq (wk 4 (.x (tC T i j (.str []) false)<|.c q<|.o (n:=0) (t:=.p<|.str [110]) (h1.idx (C:=tC T i j (.str []) false))<|.c q<|.x (tC T i (j+2) (.str []) false) .nil) (d:=2))
def ZL(h:At T j<|92::117::50::48::50::56::u):Sp 7 18110 [.ptr 0,.ptr 1] (tC T i j (.str []) pl) (.str [8232])<|tC T i (j+6) (.str []) false:=
 have h1:=h.step;have h2:=h1.step;have h3:=h2.step;have h4:=h3.step;have h5:=h4.step;have e:=λj' w q (h:At T j' w) (z:hd w=q)=>Dm (C:=tC T i j (.str []) false) (q:=q) h z
 sq (wk 4 (.x (tC T i j (.str []) false)<|.c (e _ _ 117 h1 rfl)<|.p zf<|.c (e _ _ 50 h2 rfl)<|.c (e _ _ 48 h3 rfl)<|.c (e _ _ 50 h4 rfl)<|.c (e _ _ 56 h5 rfl)<|.c (e _ _ 117 h1 rfl)<|.x (tC T i (j+6) (.str []) false) .nil) (d:=2))
abbrev Tx:=List Nat×List (List Nat)×Bool
noncomputable def oP:List Tx:=[([34,34],[],true),([34,117,115,101,32,115,116,114,105,99,116,34],[[117],[115],[101],[32],[115],[116],[114],[105],[99],[116]],true),([34,49,34],[[49]],true),([34,120,32,121,34],[[120],[32],[121]],true),([34,120,92,34,92,110,34],[[120],[34],[10]],false),([34,92,117,50,48,50,56,92,92,34],[[8232],[92]],false)]
def Tx.v(q:Tx):List Nat:=cf [] q.2.1
def rZ:List Int:=fX++[32,49]
def WJ:rZ.all λx=> !bA x 34&& !bQ x 0&& !bA x 92&& ![10,13,8232,8233].any λy=>bA y x:=by ext
variable{c:Nat} in
def Hq(h:(c:Int)∈rZ):Pc c:=by have:=cp WJ _ h;simp only[cS,dg] at this;obtain⟨⟨⟨h1,h2⟩,h3⟩,h4⟩:=this;exact⟨qV h1,h2,h3,h4⟩
def HW:∀q∈rZ,Sp 2 7 [.int q] [] (.bool false) []:=jW (L:=rZ) (as:=λs=>[.int s]) (v:=λ_=>.bool false) (n:=1) (d:=0)<|by ext
variable{s:List Nat}{i:Nat}{pl:Bool} in
def fv.all:∀(s:List Nat) (j:Nat) (xs:List V),(∀c∈s,(c:Int)∈rZ)->xs.length+s.length<ae->At T j (s++(34::u))->fv xs (tC T i j (.str []) pl) (xs++s.map r3) (tC T i (j+s.length) (.str []) pl)
 |[],j,xs,_,_,h=>by rw[List.map_nil,List.append_nil];exact fv.stop h
 |c::s,j,xs,hs,hl,h=>by have hl:xs.length+(s.length+1)<ae:=hl;have r:=fv.all s (j+1) (xs++[r3 c]) (λx hx=>hs x<|.tail _ hx) (by rw[bO];show xs.length+1+s.length<ae;lia) h.step;rw[bz] at r;rw[ec,Nat.add_comm s.length 1,<-Nat.add_assoc];exact fv.one (Hq<|hs c<|.head _) (by lia) (HW _<|hs c<|.head _) h r
abbrev J5(T:List Nat)(i j:Nat)(e:Option V)(q:Tx):Prop:=(cf [] q.2.1).length<=ae/\Sl 8 (fJ 17110) (fu 17110 3) (tj [] none) (tC T i (i+1) (.str []) true) .bu (tj (q.2.1.map .str) e) (tC T i j (.str []) q.2.2)/\True
def rtS(h:q∈oP)(l:fv [] (tC T i (i+1) (.str []) true) (q.2.1.map .str)<|tC T i j (.str []) q.2.2):Sp 9 17110 [.ptr 0,.ptr 1,.int 34] [aF T i,cA i true] .none<|tC T i (j+1) (.str q.v) q.2.2:=by
 obtain⟨e,l⟩:=l none;refine aA (l r0 trivial) λ_ _ l=>?_;have hl:oP.all λq=>Nat.ble (cf [] q.2.1).length 100:=by ext
 have hl:=aG (ia<|cp hl q h)<|a6 (n:=100);induction e with
 |none=>exact gS (L:=oP) (d:=7) (n:=1) (as:=[.ptr 0,.ptr 1,.int 34]) (sc:=λq=>[.wx .bu (tj (q.2.1.map .str) none)<|tC T i j (.str []) q.2.2]) (P:=J5 T i j none) (c:=λ_=>[aF T i,cA i true]) (c':=λq=>tC T i (j+1) (.str q.v) q.2.2) (v:=λ_=>.none) (by ext) q h ⟨hl,l,trivial⟩
 |some e=>exact gS (L:=oP) (d:=7) (n:=1) (as:=[.ptr 0,.ptr 1,.int 34]) (sc:=λq=>[.wx .bu (tj (q.2.1.map .str)<|some e)<|tC T i j (.str []) q.2.2]) (P:=J5 T i j<|some e) (c:=λ_=>[aF T i,cA i true]) (c':=λq=>tC T i (j+1) (.str q.v) q.2.2) (v:=λ_=>.none) (by ext) q h ⟨hl,l,trivial⟩
def Xb(h:At T i<|34::w)(s:Sp 6 5110 [.ptr 0] [aF T dX] (.bool false) [aF T i])(r:Sp 9 17110 [.ptr 0,.ptr 1,.int 34] [aF T i,cA i true] .none<|tC T i k (.str v) pl):
    Sp 12 2110 [.ptr 0] [aF T dX] (dw (.tx v pl) i k) ([aF T k]++[.dead]):=
 sq (wk 2<|.q (s.mono (show 6<=9 by ext))<|.q ((dP (C:=[aF T i]) h).mono (show 2<=9 by ext))<|.x [aF T i,cA i true]<|.q r<|.x ([aF T k]++[.dead]) .nil)
def sD(h:q∈oP)(hl:∀T i,At T i (34::w)->∃j,At T j (34::u)/\fv [] (tC T i (i+1) (.str []) true) (q.2.1.map .str) (tC T i j (.str []) q.2.2)):pL (34::w) (.tx q.v q.2.2) u:=
 ⟨λT i dX a sk=>by refine aA (hl T i a) λj aj l=>?_;exact(au (j+1) aj.step<|bT i ((j+1:Nat):Int)<|nQ<|Xb a sk<|rtS h l),Nc.ne rfl,by show(34:Int)∈mh;decide⟩
theorem Sd{s:List Nat}:s.map r3=(s.map λc=>[c]).map V.str:=by rw[List.map_map];rfl
variable{v:List Nat} in
def R4(h:q∈oP):pL (q.1++u) (.tx q.v q.2.2) u:=by
 have g:∀s:List Nat,(s.all λc=>rZ.any λx=>bA x c)=true->Nat.blt s.length 100=true->∀T i,At T i (34::(s++(34::u)))->∃j,At T j (34::u)/\fv [] (tC T i (i+1) (.str []) true) ((s.map λc=>[c]).map V.str) (tC T i j (.str []) true):=λs hs hl T i a=>(au _ a.step.steps (by rw[<-Sd];exact fv.all s (i+1) [] (λc hc=>iW<|cp hs c hc) (by rw[List.length_nil,Nat.zero_add];exact Nat.lt_of_lt_of_le (Nat.blt_eq.mp hl)<|a6 (n:=100)) a.step))
 have o:∀{n:Nat},Nat.blt n 8388608=true->n<ae:=λh=>bF h;have h':=h;simp only[oP,List.mem_cons,List.not_mem_nil,or_false] at h';rcases h' with rfl|rfl|rfl|rfl|rfl|rfl
 ·exact sD h<|g [] rfl rfl
 ·exact sD h<|g [117,115,101,32,115,116,114,105,99,116] (by ext) rfl
 ·exact sD h<|g [49] (by ext) rfl
 ·exact sD h<|g [120,32,121] (by ext) rfl
 ·refine sD h λT i a=>?_;have a1:At T (i+1)<|120::92::34::92::110::34::u:=a.step;have m:((120:Nat):Int)∈rZ:=iW<|by ext
  exact au _ a1.step.step.step.step.step<|fv.one (Hq m) (o rfl) (HW _ m) a1<|fv.zi (o rfl) a1.step (esQ a1.step)<|fv.zi (o rfl) a1.step.step.step (esN a1.step.step.step)<|fv.stop a1.step.step.step.step.step
 ·refine sD h λT i a=>?_;have a1:At T (i+1)<|92::117::50::48::50::56::92::92::34::u:=a.step;have a7:=a1.step.step.step.step.step.step;exact au _ a7.step.step<|fv.zi (o rfl) a1 (ZL a1)<|fv.zi (o rfl) a7 (esB a7)<|fv.stop a7.step.step
inductive aq:List Nat->List Tk->Prop
 |nil (u:List Nat):aq u []
 |tok {w u:List Nat} {t:Tk} {ts:List Tk} (h:pL w t u) (r:aq u ts):aq w (t::ts)
 |bl {w u:List Nat} {t:Tk} {ts:List Tk} (h:pL w t u) (r:aq u ts):aq (32::w) (t::ts)
section
variable{d:Nat}{s T w u:List Nat}{i:Nat}{t:Tk}{ts:List Tk}{q:Tx}{p:Nu}
def AN(h:aq w ts):∀i:Nat,At T i w->Ls T i ts:=by
 induction h with
 |nil u=>exact λ_ _=>trivial
 |tok h r ih=>intro i a;refine fp h λk n m=>?_;refine aA (k T i i a<|sk0 a n m) λj aj o1=>?_;refine cX o1 λx y l=>?_;exact fK x y j l<|ih j aj
 |bl h r ih=>intro i a;refine fp h λk n m=>?_;refine aA (k T (i+1) i a.step<|sk1 a n m) λj aj o2=>?_;refine cX o2 λx y l=>?_;exact fK x y j l<|ih j aj
theorem aq.nm(hs:s∈gX)(hu:hd u∈cQ)(r:aq u ts):aq (bU s++u)<|.nm s (eY s)::ts:=.tok (EY hu (gq _ hs)<|.inl ⟨hs,rfl⟩) r
def aq.nu(h:p∈gm)(hu:hd u∈cQ)(vY:bA (hd u) 46=false)(r:aq u ts):aq (m8 p++u)<|.nu p.2.2::ts:=.tok (RE h hu vY) r
def aq.tx(h:q∈oP)(r:aq u ts):aq (q.1++u)<|.tx q.v q.2.2::ts:=.tok (R4 h) r
def Wr:iw.all λs=>eY s&&lq (bU s) s:=by ext
def aq.kw(hs:s∈iw)(hu:hd u∈cQ)(r:aq u ts):aq (s++u)<|.kw s::ts:=by obtain⟨a,b⟩:=cK<|cp Wr s hs;have g:=EY (t:=.kw s) hu (ei _ hs)<|.inr ⟨hs,rfl,a⟩;rw[(dR _ _).mp b] at g;exact .tok g r
theorem aq.b(h:aq w<|t::ts)(e:∃c u,w=c::u/\Nat.beq c 32=false):aq (32::w)<|t::ts:=by
 cases h with
 |tok h r=>exact .bl h r
 |bl h r=>refine bJ e λc u e q=>?_;obtain⟨rfl,rfl⟩:=List.cons.inj e;exact nk q
noncomputable def nz:List Nat->List Nat->Bool
 |[],_=>false
 |_::_,[]=>false
 |a::p,b::s=> !Nat.beq a b||nz p s
theorem nR:∀{p s u:List Nat},nz p s=true->c9 p (s++u)=false
 |[],_,_,h=>by exact nj h
 |_::_,[],_,h=>by exact nj h
 |a::p,b::s,u,h=>by
  show(Nat.beq a b&&c9 p (s++u))=false;rcases Bool.or_eq_true_iff.mp h with h|h
  ·rw[show Nat.beq a b=false by rw[<-dg];exact h];rfl
  ·rw[nR h,Bool.and_false]
def mH(s s':List Nat):Bool:=nc.any (lq s)&& !lq s [46]&&(tA nc s).all (λp=>nz p s')&&nz [47,47] s'&&nz [47,42] s'
theorem zY:∀{s u:List Nat},c9 s (s++u)=true
 |[],_=>rfl
 |a::s,u=>by show(Nat.beq a a&&c9 s (s++u))=true;rw[Nat.beq_refl,zY];rfl
def aq.pt(h:mH s s')(e:s++u=s'++u')(r:aq u ts):aq (s++u)<|.pt s::ts:=by simp only[mH,cS] at h;obtain⟨⟨⟨⟨h1,h2⟩,h3⟩,h4⟩,h5⟩:=h;refine aA (List.any_eq_true.mp h1) λx hx ex=>?_;have ex:=(dR _ _).mp ex;subst ex;exact .tok (GI ⟨hx,λp hp=>by rw[e];exact nR<|cp h3 p hp,zY⟩ ⟨by rw[e];exact nR h4,by rw[e];exact nR h5⟩ (λq=>by subst q;exact nj h2)) r
def aq.so(r:aq u ts)(h:mH s s:=by ext):aq (s++u)<|.pt s::ts:=.pt h rfl r
theorem aq.sp(h:mH s<|s++[32])(r:aq (32::u) ts):aq (s++(32::u))<|.pt s::ts:=.pt (s':=s++[32]) (u':=u) h (by rw[bz];rfl) r
def aq.dot(h:hd u∈fX)(r:aq u ts):aq (46::u)<|.pt [46]::ts:=by
 have g:(nc.any (lq [46])&&(tA nc [46]).all (λp=>nz p [46])):=by ext
 obtain⟨h1,h3⟩:=cK g;refine aA (List.any_eq_true.mp h1) λx hx ex=>?_;have ex:=(dR _ _).mp ex;subst ex;exact .tok (GI (s:=[46]) ⟨hx,λp hp=>nR<|cp h3 p hp,zY⟩ (Nc.ne rfl) λ_=>h) r
theorem aq.en(r:aq [] ts):aq []<|.en::ts:=.tok (SF) r
end
def aq.cast(h:aq T ts)(e:U=T):aq U ts:=e▸h
section
variable{a b c d e f g h i j:List Nat}
def wb:a++b++c=a++(b++c):=bz ..
def iS:a++b++c++d=a++(b++(c++d)):=(wb (a:=a++b)).trans<|bz ..
def ul:a++b++c++d++e=a++(b++(c++(d++e))):=(iS (a:=a++b)).trans<|bz ..
def zd:a++b++c++d++e++f=a++(b++(c++(d++(e++f)))):=(ul (a:=a++b)).trans<|bz ..
end
def dD(l:List<|List Nat)(s:List Nat):Bool:=l.any λy=>lq y s
def fS(p:Bool):Tk->Bool
 |.nm _ _=>true
 |.nu _=>true
 |.tx _ _=>true
 |.kw s=>dD [[116,104,105,115],[110,117,108,108],[116,114,117,101],[102,97,108,115,101],er,mF] s||(!p&&dD [[116,121,112,101,111,102],[118,111,105,100],[100,101,108,101,116,101]] s)
 |.pt s=>dD [[40],[91],[123]] s||(!p&&dD [[45],[43],[33],[126],[43,43],[45,45]] s)
 |.en=>false
noncomputable def lL:Tk->Bool
 |.nm _ _=>true
 |_=>false
def ni:Tk->Bool
 |.pt s=> !lq s [58]
 |.kw _=>true
 |_=>false
def qb:List Int:=fX++(92::iL++[34,40,91,123,45,43,33,126])
noncomputable def n5:List Nat:=[102,117,110,99,116,105,111,110,32]
def pA(dot:Bool)(u:List Nat):Bool:=dot|| !bA (hd u) 46
abbrev Rr:=List Tk->List Tk
structure Fm(p dot:Bool)(s:List Nat)(t:Tk)(r:Rr):Prop where
 lex:∀u ts,hd u∈cQ->pA dot u=true->aq u ts->aq (s++u) (t::r ts)
 f:fS p t=true
 c:∃c s',s=c::s'/\(c:Int)∈qb
 bad:∀u,c9 [123] (s++u)=sg t [123]/\c9 n5 (s++u)=wd t er
 n2:lL t=true->∀t' ts,ni t'=true->∃aD mx,r (t'::ts)=aD::mx/\ni aD=true
structure Cy(S:Bool)(x:Px):Prop where
 s:x.s=S
 l:x.fl.length<=3
 d:0<=x.d
section
variable(S:Bool)(N:Nat)(k:List Nat)(ps:List V)(c:Bool)(t:Tk)(r:Rr)
def K0:Prop:=∀d x t' ab,N<=d->Cy S x->bI c t' 0->Pa x (d+18) 2133 [.bool c] (t,r<|t'::ab) (nd k ps) (t',ab)
def K1:Prop:=∀d x t' ab,N<=d->Cy S x->bI c t' 1->Pa x (d+16) 3133 [.bool c] (t,r<|t'::ab) (nd k ps) (t',ab)
def K2:Prop:=∀d x t' ab,N<=d->Cy S x->bI c t' 1->Pa x (d+14) 5133 [.bool c] (t,r<|t'::ab) (nd k ps) (t',ab)
def KB(L:Nat):Prop:=∀d x t' ab (m:Nat) am aw q',N<=d->Cy S x->m+2<=L->bI c t' (min (L+1) 14)->lA x (d+10) m c (nd k ps) (t',ab) (nd am aw) q'->Pa x (d+11) 7133 [.int m,.bool c] (t,r<|t'::ab) (nd am aw) q'
def KU:Prop:=∀d x t' ab,N<=d->Cy S x->bI c t' 14->Pa x (d+9) 8133 [] (t,r<|t'::ab) (nd k ps) (t',ab)
def KL:Prop:=∀d x t' ab am aw aC aZ bo q',N<=d->Cy S x->f4 x d (nd k ps) (t',ab) (nd am aw) aC->nE x (d+4) (nd am aw) aC (nd aZ bo) q'->Pa x (d+5) 10133 [] (t,r<|t'::ab) (nd aZ bo) q'
def KM:Prop:=∀d x t' ab am aw aC,N<=d->Cy S x->f4 x d (nd k ps) (t',ab) (nd am aw) aC->ur x (d+3) (t,r<|t'::ab) (nd am aw) aC
structure Ks(L:Nat)(hc:Bool):Prop where
 m:L=16->hc=false->KM S N k ps t r
 l:15<=L->KL S N k ps t r
 u:13<=L->KU S N k ps c t r
 b:3<=L->KB S N k ps c t r L
 k2:2<=L->K2 S N k ps c t r
 k1:1<=L->K1 S N k ps c t r
 k0:K0 S N k ps c t r
end
section
variable{S:Bool}{N L:Nat}{k:List Nat}{ps:List V}{c p hc:Bool}{t t':Tk}{r:Rr}{x:Px}
def nT(h:fS p t):fS false t:=by
 induction p with
 |false=>exact h
 |true=>
  induction t with
  |kw s=>exact Bool.or_eq_true_iff.mpr<|.inl<|(Bool.or_eq_true_iff.mp h).elim id λh=>by exact nj h
  |pt s=>exact Bool.or_eq_true_iff.mpr<|.inl<|(Bool.or_eq_true_iff.mp h).elim id λh=>by exact nj h
  |en=>exact nj h
  |_=>rfl
theorem bI.le(h:bI c t a)(q:a<=b):bI c t b:=⟨h.m,aG h.e q⟩
theorem K2.k1(h:K2 S N k ps c t r):K1 S N k ps c t r:=λd x t' ab hd hx hs=>Zo (h d x t' ab hd hx hs) hs.m (hs.f.2.1<|aV 1)
def K1.k0(hN:22<=N)(h:K1 S N k ps c t r):K0 S N k ps c t r:=λd x t' ab hd hx hs=>exP (j7 hN hd) (h d x t' ab hd hx<|hs.le<|by ext) (hs.f.1<|aV 0)
theorem KB.k2(hN:22<=N)(hL:3<=L)(h:KB S N k ps c t r L):K2 S N k ps c t r:=λd x t' ab hd hx hs=>by have f:=hs.f;have l:=lA.stop (x:=x) (d:=d+8) (m:=((1:Nat):Int)) (v:=nd k ps) (q:=(t',ab)) (j7 hN hd) hs.m (λq=>by have:=f.2.2.2.2.2.2;have q:(1:Nat)<=ew c t':=Int.ofNat_le.mp q;lia);exact KR (j7 hN hd) (h d x t' ab 1 k ps (t',ab) hd hx hL (hs.le<|by lia) l)<|f.2.2.1<|by ext
def KU.kb(hL:13<=L)(h:KU S N k ps c t r):KB S N k ps c t r L:=λd x t' ab m am aw q' hd hx hm hs l=>YM (h d x t' ab hd hx<|hs.le<|by lia) l
def hZ(h:dD l s):s∈l:=by exact aA (List.any_eq_true.mp h) λy hy e=>(dR _ _).mp e▸hy
def uB(h:dD l s)(e:l.all f):f s:=cp e s<|hZ h
def Cf(h:(a||(false&&b))):a:=(Bool.or_eq_true_iff.mp h).elim id λh=>by exact nj h
def FC(h:fS true t):jN t=false/\qa t=false:=by
 induction t with
 |kw s=>exact⟨rfl,by rw[<-dg];exact uB (f:=λs=> !qa (.kw s)) (Cf h)<|by ext⟩
 |pt s=>exact⟨by rw[<-dg];exact uB (f:=λs=> !jN (.pt s)) (Cf h)<|by ext,by rw[<-dg];exact uB (f:=λs=> !qa (.pt s)) (Cf h)<|by ext⟩
 |en=>exact nj h
 |_=>exact⟨rfl,rfl⟩
def KL.ku(hN:22<=N)(f:fS true t)(h:KL S N k ps t r):KU S N k ps c t r:=λd x t' ab hd hx hs=>by
 have g:=hs.f;have f6:=Bool.or_eq_false_iff.mp<|g.2.2.2.2.2.1<|by ext
 have lm:=(f4.stop (x:=x) (d:=d-2) (v:=nd k ps) (q:=(t',ab)) (by lia) f6.1 f6.2).mono (e:=d)<|by lia
 have ll:=nE.stop (x:=x) (d:=d+2) (v:=nd k ps) (q:=(t',ab)) (j7 hN hd)<|g.2.2.2.2.1<|by ext
 have a:=h d x t' ab k ps (t',ab) k ps (t',ab) hd hx lm ll;obtain⟨e1,e2⟩:=FC f;exact Lb (poP a hs.m<|g.2.2.2.1<|aV 14) e1 e2
theorem ur.mono(h:d<=e)(p:ur x d q v q'):ur x e q v q':=by exact me p λf z ps ak a b c=>rE f z ps ak a (b.mono h)<|c.mono h
def KM.kl(hN:22<=N)(h:KM S N k ps t r):KL S N k ps t r:=λd x t' ab am aw aC aZ bo q' hd hx lm ll=>leH (j7 hN hd) (h d x t' ab am aw aC hd hx lm) ll
def lh{p:Prop}(h:a<=b)(q:Nat.blt b a):p:=absurd h<|Nat.not_le_of_lt<|Nat.blt_eq.mp q
def Ks.of0(h:K0 S N k ps c t r):Ks S N k ps c t r 0 hc:=⟨λe=>absurd e<|by ext,λe=>lh e rfl,λe=>lh e rfl,λe=>lh e rfl,λe=>lh e rfl,λe=>lh e rfl,h⟩
def Ks.of1(hN:22<=N)(h:K1 S N k ps c t r):Ks S N k ps c t r 1 hc:=⟨λe=>absurd e<|by ext,λe=>lh e rfl,λe=>lh e rfl,λe=>lh e rfl,λe=>lh e rfl,λ_=>h,h.k0 hN⟩
def Ks.of2(hN:22<=N)(h:K2 S N k ps c t r):Ks S N k ps c t r 2 hc:=⟨λe=>absurd e<|by ext,λe=>lh e rfl,λe=>lh e rfl,λe=>lh e rfl,λ_=>h,λ_=>h.k1,(h.k1).k0 hN⟩
def Ks.ofB(hN:22<=N)(h3:3<=L)(CP:L<13)(h:KB S N k ps c t r L):Ks S N k ps c t r L hc:=
 have h2:=h.k2 hN h3
 ⟨λe=>absurd (e▸CP)<|by ext,λe=>absurd (eP e CP)<|by ext,λe=>absurd CP<|Nat.not_lt_of_le e,λ_=>h,λ_=>h2,λ_=>h2.k1,(h2.k1).k0 hN⟩
def Ks.ofU(hN:22<=N)(h3:13<=L)(Lf:L<15)(h:KU S N k ps c t r):Ks S N k ps c t r L hc:=
 have hb:=h.kb h3;have h2:=hb.k2 hN<|aG (by ext) h3
 ⟨λe=>absurd (e▸Lf)<|by ext,λe=>absurd Lf<|Nat.not_lt_of_le e,λ_=>h,λ_=>hb,λ_=>h2,λ_=>h2.k1,(h2.k1).k0 hN⟩
def Ks.KD(hN:22<=N)(h3:15<=L)(f:fS true t)(e:L=16->hc=true)(h:KL S N k ps t r):Ks S N k ps c t r L hc:=
 have hu:=h.ku hN f;have hb:=hu.kb<|aG (by ext) h3;have h2:=hb.k2 hN<|aG (by ext) h3
 ⟨λa b=>Bool.noConfusion<|(e a).symm.trans b,λ_=>h,λ_=>hu,λ_=>hb,λ_=>h2,λ_=>h2.k1,(h2.k1).k0 hN⟩
def Ks.ofM(hN:22<=N)(f:fS true t)(h:KM S N k ps t r):Ks S N k ps c t r 16 hc:=
 have hl:=h.kl hN;have hu:=hl.ku hN f;have hb:=hu.kb<|by ext
 have h2:=hb.k2 hN<|by ext
 ⟨λ_ _=>h,λ_=>hl,λ_=>hu,λ_=>hb,λ_=>h2,λ_=>h2.k1,(h2.k1).k0 hN⟩
end
noncomputable def rk:List Nat:=[66,105,110,97,114,121]
inductive ue:List Nat->List V->Bool->Prop
 |no {k:List Nat} {ps:List V} (h:lq k rk=false):ue k ps false
 |bin {op:List Nat} {a b:V}:ue rk [.str op,a,b] (lq op fM)
structure Vq(S:Bool)(N B:Nat)(k:List Nat)(ps:List V)(L:Nat)(hc b:Bool)(s:List Nat)(t:Tk)(r:Rr):Prop where
 pr:Sp N 67 [nd k ps,.bool b] [] (.str s) []
 l:s.length<=B
 fm:Fm (Nat.ble 14 L) (Nat.ble 15 L&& !lq k hR) s t r
 ks:Ks S N k ps (!b) t r L hc
def fY(N:Nat)(v w:V):Prop:=eF hI qr N (fJ 62) (fu 62 0) [("node",.val v)] [] [("node",.val w)] []
structure Va(S:Bool)(N B:Nat)(k:List Nat)(ps:List V)(L:Nat)(hc aX:Bool):Prop where
 le:L<=16
 st:Sp N 61 [nd k ps] [] (.int L) []
 h:∃k' fZ,fY N (nd k ps) (nd k' fZ)/\lq k' kh=hc
 tS:L=15->hc=true
 i:ue k ps aX
 pr:∀b,(b&&aX)=false->∃s t r,Vq S N B k ps L hc b s t r
section
variable{S:Bool}{N M B L le:Nat}{k:List Nat}{ps:List V}{b c p hc aX:Bool}{t t':Tk}{r:Rr}{x:Px}{s:List Nat}
def Fg(h:s.length<=B):([40]++s++[41]).length<=B+2:=by simp only[bO,ec,List.length_nil];lia
def bw{b:List Nat}(h:(a++b).length<=n):a.length<=n:=by rw[bO] at h;exact jt h
def XX(st:Sp N 61 [nd k ps] [] (.int L) [])(i:ue k ps aX)(pr:Sp N 67 [nd k ps,.bool false] [] (.str s) [])(hl:([40]++s++[41]).length<=ae)(h:bQ (L:Int) (le:Int)=true\/(b&&aX)=true):Sp (N+2) 66 [nd k ps,.int le,.bool b] [] (.str<|[40]++s++[41]) []:=by
 have h1:=bw hl;induction b with
 |false=>
  rcases h with h|h
  ·exact sq<|wk 1<|.q st<|.b 0 true h<|.q pr<|.p h1<|.p hl .nil
  ·exact nj h
 |true=>
  cases i with
  |no e=>
   rcases h with h|h
   ·exact sq<|wk 1<|.b 1 false e<|.q st<|.b 0 true h<|.q pr<|.p h1<|.p hl .nil
   ·exact nj h
  |bin=>
   cases e:bQ (L:Int) (le:Int) with
   |true=>exact sq<|wk 1<|.q st<|.b 0 true e<|.q pr<|.p h1<|.p hl .nil
   |false=>
    rcases h with h|h
    ·exact nj<|e.symm.trans h
    ·exact sq<|wk 1<|.q st<|.b 0 false e<|.b 0 true h<|.q pr<|.p h1<|.p hl .nil
def Ip(st:Sp N 61 [nd k ps] [] (.int L) [])(i:ue k ps aX)(pr:Sp N 67 [nd k ps,.bool b] [] (.str s) [])(h:bQ (L:Int) (le:Int)=false)(h':(b&&aX)=false):Sp (N+2) 66 [nd k ps,.int le,.bool b] [] (.str s) []:=by
 induction b with
 |false=>exact sq<|wk 1<|.q st<|.b 0 false h<|.q pr .nil
 |true=>
  cases i with
  |no e=>exact sq<|wk 1<|.b 1 false e<|.q st<|.b 0 false h<|.q pr .nil
  |bin=>exact sq<|wk 1<|.q st<|.b 0 false h<|.b 0 false h'<|.q pr .nil
theorem Ks.mono(h:N<=M)(q:Ks S N k ps c t r L hc):Ks S M k ps c t r L hc:=
 ⟨λe f d x t' ab z p q' hd=>q.m e f d x t' ab z p q'<|aG h hd,λe d x t' ab a b c' e' f g hd=>q.l e d x t' ab a b c' e' f g<|aG h hd,λe d x t' ab hd=>q.u e d x t' ab<|aG h hd,
 λe d x t' ab m a b c' hd=>q.b e d x t' ab m a b c'<|aG h hd,λe d x t' ab hd=>q.k2 e d x t' ab<|aG h hd,λe d x t' ab hd=>q.k1 e d x t' ab<|aG h hd,λd x t' ab hd=>q.k0 d x t' ab<|aG h hd⟩
def CL:List<|List Nat:=tz++Cq++[[44],[63],[41],[93],[125],[59],[58],[40],[91],[46],[43,43],[45,45]]
def bI.pt(h:(dD CL s&&Nat.ble (ext c<|.pt s) n):=by ext):bI c (.pt s) n:=
 have q:=cK h
 ⟨ei _<|List.mem_map_of_mem<|hZ q.1,ia q.2⟩
def cu{c:Nat}(h:(cQ.any λx=>bA x c):=by ext):hd (c::u)∈cQ:=iW h
structure Pe(S:Bool)(N B:Nat)(k:List Nat)(ps:List V)(le:Nat)(b:Bool)(s:List Nat)(t:Tk)(r:Rr)(L:Nat)(dot hc:Bool):Prop where
 sh:Sp N 66 [nd k ps,.int le,.bool b] [] (.str s) []
 l:s.length<=B
 le:le<=L
 fm:Fm (Nat.ble 14 L) dot s t r
 ks:Ks S N k ps (!b) t r L hc
def Gq(h:Fm p dot s t r):Fm true true ([40]++s++[41]) (.pt [40]) λts=>t::r (.pt [41]::ts):={
 lex:=λu ts hu _ hl=>by have a:=h.lex (41::u) (.pt [41]::ts) cu (by cases dot<;>rfl)<|aq.so (s:=[41]) hl;have b:=aq.so (s:=[40]) a;exact b.cast iS
 f:=rfl
 c:=aW 40 (s++[41]) (by rw[bz];rfl)<|by ext
 bad:=λu=>⟨rfl,rfl⟩
 n2:=λe=>by exact nj e}
def AI(hN:22<=N)(h:K0 S N k ps true t r):Ks S (N+20) k ps c (.pt [40]) (λts=>t::r (.pt [41]::ts)) 16 false:=
 Ks.ofM (Nat.le_add_right_of_le hN) rfl λd x t' ab am aw aC hd hx lm=>by obtain⟨d,rfl⟩:=iA<|aG (Nat.le_add_left 20 N) hd;have a:=h d x (.pt [41]) (t'::ab) (j5 hd) hx bI.pt;exact rE 14133 k ps (t',ab) (.inl ⟨rfl,rfl⟩) (prP (q:=(t,r<|.pt [41]::t'::ab)) (j6 hN hd) a)<|(zx (d:=d+19) lm).mono<|@ja _ 21 23 rfl
theorem Va.pe(hN:22<=N)(hB:B+2<=ae)(v:Va S N B k ps L hc aX)(le:Nat)(oD:le<=16)(b:Bool)(J:Prop)(ko:∀s t r L' dot dB,Pe S (N+20) (B+2) k ps le b s t r L' dot dB->(dot=false->15<=L'->lq k hR=true)->(15<=L'->(hc=false\/L<le)->L'=16/\dB=false)->J):J:=by
 cases e:bQ (L:Int) (le:Int)||(b&&aX) with
 |true=>refine m5 (v.pr false rfl) λs t r q=>?_;have l:=Fg q.l;refine ko ([40]++s++[41]) (.pt [40]) (λts=>t::r (.pt [41]::ts)) 16 true false ⟨(XX v.st v.i q.pr (aG l hB)<|Bool.or_eq_true_iff.mp e).mono ja,l,oD,Gq q.fm,AI hN q.ks.k0⟩ (λh=>by exact nk h) λ_ _=>⟨rfl,rfl⟩
 |false=>
  obtain⟨e1,e2⟩:=Bool.or_eq_false_iff.mp e;refine m5 (v.pr b e2) λs t r q=>?_;have:le<=L:=by refine Nat.le_of_not_lt λh=>?_;rw[kT<|Int.ofNat_lt.mpr h] at e1;exact nk e1
  refine ko s t r L _ hc ⟨(Ip v.st v.i q.pr e1 e2).mono ja,Nat.le_add_right_of_le q.l,this,q.fm,q.ks.mono<|bh N 20⟩ (λh h'=>?_) λh h'=>?_
  ·rw[Nat.ble_eq_true_of_le h',Bool.true_and] at h;cases e3:lq k hR with
   |true=>rfl
   |false=>rw[e3] at h;exact nk h
  ·rcases h' with h'|h'
   ·refine⟨?_,h'⟩;have:=v.le;rcases Nat.lt_or_eq_of_le h with q|q
    ·lia
    ·rw[v.tS q.symm] at h';exact nk h'
   ·exact absurd this<|Nat.not_le_of_lt h'
end
noncomputable def Xz:List Nat:=[76,111,103,105,99,97,108]
def xU:List<|List Nat:=[nb,hR,dm,vF,x8,xO,k8,kX,pG,vx,pM,dE]
def JO:List<|List Nat×Nat:=xU.map (λk=>(k,16))++[(oz,0),(wv,1),(uZ,2),(lr,13),(kh,15)]
def mE:List<|List Nat×Nat:=Cm++[([105,110],7),([105,110,115,116,97,110,99,101,111,102],7)]
def K7(n:Nat):Prop:=bif Nat.beq n 1000 then((-8388608:Int)<=4/\(4:Int)<=(ae:Int)) else n<=ae
def Dn:List Nat->Prop->Prop
 |[],P=>P
 |n::l,P=>Dn l<|K7 n/\P
def pP:∀q∈JO,Sp 10 61 [nd q.1 ps] [] (.int (q.2:Int)) []:=jW (L:=JO) (as:=λq=>[nd q.1 ps]) (v:=λq=>.int (q.2:Int)) (n:=1) (d:=8) (by ext)
def KW:Sp 10 61 [nd oF [u,.bool b,v]] [] (.int (((bif b then 13 else 14:Nat)):Int)) []:=by cases b<;>exact go (sc:=[]) (n:=1) (d:=8) trivial<|by ext
def Z2:∀q∈mE,Sp 10 61 [nd (gA q.2) [.str q.1,u,v]] [] (.int ((q.2+2:Nat):Int)) []:=jW (L:=mE) (as:=λq=>[nd (gA q.2) [.str q.1,u,v]]) (v:=λq=>.int ((q.2+2:Nat):Int)) (n:=1) (d:=8) (by ext)
def fY.stop(hN:8<=N)(h:([k8,kX].any λx=>lq x k)=false):fY (N+1) (nd k ps)<|nd k ps:=wl 0 (.b 0 false h .nil) (d:=N)
theorem fY.step(h:([k8,kX].any λx=>lq x k))(l:fY (N+1) v w):fY (N+1) (nd k [v,u]) w:=wl 0 (.b 0 true h<|.l l .nil) (d:=N)
def hcS(l:fY (N+1) v<|nd k ps):Sp (N+2) 62 [v] [] (.bool<|lq k kh) []:=sq<|wk 1 (.l l .nil) (d:=N)
def F7:∀(l:List Nat) (P:Prop),P->(l.all λn=>Nat.ble n 1000)=true->Dn l P
 |[],P,h,_=>h
 |n::l,P,h,e=>by
  obtain⟨e1,e2⟩:=cK e;refine F7 l _ ⟨?_,h⟩ e2;unfold K7;cases Nat.beq n 1000 with
  |true=>exact zf
  |false=>exact aG (ia e1)<|a6 (n:=1000)
def vd{d n f:Nat}{α:Type}{as:α->List V}{v:α->V}{l:α->List Nat}{L:List α}(e:L.map (λq=>Cn d n f (as q) ⟨[],[],True⟩)=L.map λq=>some (v q,(⟨[],[],Dn (l q) True⟩:St)))(k:L.all λq=>(l q).all λn=>Nat.ble n 1000)(q:α)(h:q∈L):Sp (d+n+1) f (as q) [] (v q) []:=re (c:=λ_=>[]) (c':=λ_=>[]) e q h (F7 _ _ trivial<|cp k q h)
def shL(s:List Nat):List Nat:=bif eY s then [s.length] else [1000,1,2,3,4,6,6]
def oN(h:s∈gX):Sp 10 58 [.str s] [] (.str<|bU s) []:=vd (L:=gX) (as:=λs=>[.str s]) (v:=λs=>.str<|bU s) (l:=shL) (n:=3) (d:=6) (by ext) (by ext) s h
noncomputable def Ka:List<|List Nat:=[[17,17,1,1,1,1,1],[17,16,1,1,1,1,1],[17,16,1,1,1,1,1],[17,16,1,1,1,1,1],[17,16,1,1,1,1,1],[17,16,1,1,1,1,1],[17,16,1,1,1,1,1],[17,16,1,1,1,1,1],[17,16,1,1,1,1,1],[17,16,1,1,1,2,2],[17,16,1,2,2,2,2,2],[17,16,1,2,2,2,2,2],[17,16,1,2,2,2,2,2],[17,16,1,2,2,2,2,2],[17,16,1,2,2,2,2,2],[17,16,1,2,2,2,2,2],[16,15,1,2,2,2,2,2],[17,15,1,2,2,2,2,2],[17,15,1,2,2,2,2,2],[17,15,1,1,1,2,2],[17,17,1,1,1,2,3,3],[17,16,1,2,2,2,2,2,2,3,3],[17,16,1,2,2,2,2,2,2,3,3],[17,16,1,2,2,2,2,2,2,3,3],[17,16,1,2,2,2,2,2,2,3,3],[17,16,1,2,2,2,2,2,2,3,3],[17,16,1,2,2,2,2,2,2,3,3],[17,16,1,2,2,2,2,2,2,3,3],[16,16,1,2,2,2,2,2,2,3,3],[17,16,1,2,2,2,2,2,2,3,3]]
def shI(h:q∈gm):Sp 14 60 [.int q.2.2] [] (.str<|m8 q) []:=by
 have e:gm=(gm.zip Ka).map Prod.fst:=by ext
 rw[e] at h;refine aA (List.mem_map.mp h) λz hz q1=>?_;refine zb q1 ?_;exact vd (L:=gm.zip Ka) (as:=λz=>[.int z.1.2.2]) (v:=λz=>.str<|m8 z.1) (l:=λz=>z.2) (n:=7) (d:=6) (by ext) (by ext) z hz
noncomputable def kJ:List<|Tx×List Nat:=[(([34,34],[],true),[0,1,2]),(([34,117,115,101,32,115,116,114,105,99,116,34],[[117],[115],[101],[32],[115],[116],[114],[105],[99],[116]],true),[1,2,3,4,5,6,7,8,9,10,10,11,12]),(([34,120,92,34,92,110,34],[[120],[34],[10]],false),[1,2,3,5,6,7]),(([34,92,117,50,48,50,56,92,92,34],[[8232],[92]],false),[1000,1,2,3,4,6,1,2,8,9,10])]
def Z6(h:q∈kJ):Sp 14 57 [.str q.1.v] [] (.str q.1.1) []:=vd (L:=kJ) (as:=λz=>[.str z.1.v]) (v:=λz=>.str z.1.1) (l:=λz=>z.2) (n:=7) (d:=6) (by ext) (by ext) q h
noncomputable def Jx:List<|List Nat×List Nat×List Nat:=[([97],[97],[1]),([105,102],[105,102],[2]),([49],[34,49,34],[1,1,2,3]),([120,32,121],[34,120,32,121,34],[1,2,3,3,4,5])]
def yW(h:q∈Jx):Sp 14 59 [.str q.1] [] (.str q.2.1) []:=vd (L:=Jx) (as:=λz=>[.str z.1]) (v:=λz=>.str z.2.1) (l:=λz=>z.2.2) (n:=7) (d:=6) (by ext) (by ext) q h
def wo(k:List Nat):Bool:=dD xU k&& !([k8,kX].any λx=>lq x k)&& !lq k kh&& !lq k rk
def sW(s:List Nat)(t:Tk):Bool:=fS true t&& !s.isEmpty&&(qb.any λx=>bA x<|dL s)&&nz [123] s&& !sg t [123]&&nz n5 s&& !wd t er
variable{M:Nat} in
def fY.HS(h:N<=M)(l:fY N v w):fY M v w:=eF.mono h l
def yh(h:dD xU k):Sp 10 61 [nd k ps] [] (.int 16) []:=pP (k,16) (gq _<|List.mem_map_of_mem<|hZ h)
def Zs(hk:wo k):dD xU k=true/\([k8,kX].any λx=>lq x k)=false/\lq k kh=false/\lq k rk=false:=by simp only[wo,cS,dg] at hk;exact⟨hk.1.1.1,hk.1.1.2,hk.1.2,hk.2⟩
def Vq.leaf(hN:22<=N)(pr:∀b,Sp N 67 [nd k ps,.bool b] [] (.str s) [])(l:s.length<=B)(fm:Fm true (!lq k hR) s t r)(nw:wd t mF=false)(h:∀d x t' ab,N<=d->Cy S x->Pa x (d+3) 14133 [] (t,r<|t'::ab) (nd k ps) (t',ab))(b:Bool):Vq S N B k ps 16 false b s t r:=
 ⟨pr b,l,fm,Ks.ofM hN fm.f λd x t' ab am aw aC hd hx lm=>(rE 14133 k ps (t',ab) (.inl ⟨rfl,nw⟩) (h d x t' ab hd hx)<|(zx (d:=d-1)<|lm.mono<|by lia).mono<|by lia)⟩
def Va.Ht(hN:22<=N)(hk:wo k)(q:∀b,Vq S N B k ps 16 false b s t r):Va S N B k ps 16 false false:=by exact rP (Zs hk) λk1 k2 k3 k4=>⟨aV 16,(yh k1).mono<|jc hN,(aW k ps ((fY.stop (N:=8) (aV 8) k2).HS<|jc hN) k3),λe=>absurd e<|by ext,.no k4,λb _=>(gp s t r<|q b)⟩
def Va.leaf(hN:22<=N)(hk:wo k)(pr:∀b,Sp N 67 [nd k ps,.bool b] [] (.str s) [])(l:s.length<=B)(fm:Fm true (!lq k hR) s t r)(nw:wd t mF=false)(h:∀d x t' ab,N<=d->Cy S x->Pa x (d+3) 14133 [] (t,r<|t'::ab) (nd k ps) (t',ab)):Va S N B k ps 16 false false:=Va.Ht hN hk (Vq.leaf hN pr l fm nw h)
def Fm.leaf(h:sW s t)(lex:∀u ts,hd u∈cQ->pA dot u=true->aq u ts->aq (s++u) (t::ts)):Fm true dot s t λts=>ts:=by
 simp only[sW,cS,dg] at h;obtain⟨⟨⟨⟨⟨⟨h1,h2⟩,h3⟩,h4⟩,h5⟩,h6⟩,h7⟩:=h;refine⟨lex,h1,?_,λu=>⟨(nR h4).trans h5.symm,(nR h6).trans h7.symm⟩,λ_ t' ts h=>(aW t' ts rfl h)⟩;clear lex h6 h4;induction s using bx with
 |nil=>exact nk h2
 |cons c r=>exact aW c r rfl<|iW h3
def Xe:gX.all λs=>sW (bU s) (.nm s<|eY s)&&Nat.ble (bU s).length 20:=by ext
def VM(hN:22<=N)(hB:20<=B)(h:s∈cq):Va S N B nb [.str s] 16 false false:=
 have e:=cK<|cp Xe s<|.tail _ h
 Va.leaf hN (by ext) (λb=>by cases b<;>exact(sq<|wk 1<|.q (oN<|.tail _ h) .nil).mono (show 12<=N by exact jc hN rfl)) (aG (ia e.2) hB)
  (Fm.leaf e.1 λu ts hu _ l=>aq.nm (.tail _ h) hu l) rfl λd x t' ab hd _=>(prN h).mono<|j7 hN hd
def U0:gm.all λq=>sW (m8 q) (.nu q.2.2)&&Nat.ble (m8 q).length 20:=by ext
def Vc(hN:22<=N)(hB:20<=B)(h:q∈gm):Va S N B hR [.int q.2.2] 16 false false:=
 have e:=cK<|cp U0 q h
 Va.leaf hN (by ext) (λb=>by cases b<;>exact(sq<|wk 1<|.q (shI h) .nil).mono (show 16<=N by exact jc hN rfl)) (aG (ia e.2) hB)
  (Fm.leaf e.1 λu ts hu f l=>aq.nu h hu (by rw[<-dg];exact f) l) rfl λd x t' ab hd _=>(prI).mono<|j7 hN hd
def W4:kJ.all λq=>sW q.1.1 (.tx q.1.v q.1.2.2)&&Nat.ble q.1.1.length 20&&oP.any λz=>lq z.1 q.1.1&&lq z.v q.1.v&&(z.2.2==q.1.2.2):=by ext
def HT(hN:22<=N)(hB:20<=B)(h:q∈kJ)(b:Bool):Vq S N B dm [.str q.1.v] 16 false b q.1.1 (.tx q.1.v q.1.2.2) λts=>ts:=by
 have e:=cp W4 q h;simp only[cS] at e;obtain⟨⟨e1,e2⟩,e3⟩:=e;refine aA (List.any_eq_true.mp e3) λz hz e3=>?_;simp only[cS] at e3;obtain⟨⟨f1,f2⟩,f3⟩:=e3;refine Vq.leaf hN (λb=>by cases b<;>exact(sq<|wk 1<|.q (Z6 h) .nil).mono (show 16<=N by exact jc hN rfl)) (aG (ia e2) hB)
  (Fm.leaf e1 λu ts hu _ l=>?_) rfl (λd x t' ab hd _=>(prS).mono<|j7 hN hd) b
 have g:=aq.tx hz l;rw[(dR _ _).mp f1,(dR _ _).mp f2,eq_of_beq f3] at g;exact g
def H2(hN:22<=N)(hB:20<=B)(h:q∈kJ):Va S N B dm [.str q.1.v] 16 false false:=Va.Ht hN (by ext)<|HT hN hB h
def Wl:mL.all λq=>sW q.1 (.kw q.1)&&Nat.ble q.1.length 20&&dD iw q.1&&wo q.2.1&& !lq q.2.1 hR&& !lq q.1 mF:=by ext
def Wm(hN:22<=N)(hB:20<=B)(h:q∈mL):Va S N B q.2.1 q.2.2 16 false false:=by
 have e:=cp Wl q h;simp only[cS,dg] at e;obtain⟨⟨⟨⟨⟨e1,e2⟩,e3⟩,e4⟩,e5⟩,e6⟩:=e;refine Va.leaf (s:=q.1) (t:=.kw q.1) (r:=λts=>ts) hN e4 (λb=>?_) (aG (ia e2) hB)
  (Fm.leaf e1 λu ts hu _ l=>aq.kw (hZ e3) hu l) e6 λd x t' ab hd _=>(Ll<|woV h).mono<|j7 hN hd
 cases b
 ·exact(jW (L:=mL) (as:=λq=>[nd q.2.1 q.2.2,.bool false]) (v:=λq=>.str q.1) (n:=1) (d:=8) (by ext) q h).mono<|jc hN
 ·exact(jW (L:=mL) (as:=λq=>[nd q.2.1 q.2.2,.bool true]) (v:=λq=>.str q.1) (n:=1) (d:=8) (by ext) q h).mono<|jc hN
def Ln(B a k:Nat)(s:List Nat):Prop:=s.length<=a*(B+2)+k
structure Pn(s:List Nat)(t:Tk):Prop where
 lex:∀u ts,hd u∈cQ->aq u ts->aq (s++u) (t::ts)
 pa:∀d x t' ab,22<=d->Pa x d 14126 [] (t,t'::ab) (.str s) (t',ab)
 sh:Sp 10 58 [.str s] [] (.str s) []
 l:s.length<=20
 c:∀u,hd (s++u)∈fX
noncomputable def rV:List<|List Nat:=[[120],[105,102],[103,101,116]]
def Ln.app(h:Ln B a m s)(h':Ln B a' m' s'):Ln B (a+a') (m+m')<|s++s':=by unfold Ln at*;rw[bO,Nat.add_mul];lia
def Ln.lit(h:Nat.ble s.length m):Ln B 0 m s:=by unfold Ln;rw[Nat.zero_mul,Nat.zero_add];exact ia h
theorem Ln.le(h:s.length<=m):Ln B 0 m s:=by unfold Ln;rw[Nat.zero_mul,Nat.zero_add];exact h
def Ln.sub(h:s.length<=B+2):Ln B 1 0 s:=by unfold Ln;lia
def Ln.fin(h:Ln B a m s)(q:(Nat.ble a 4&&Nat.ble m 190)):s.length<=4*B+200:=by unfold Ln at h;obtain⟨q1,q2⟩:=cK q;have q1:=ia q1;have q2:=ia q2;have:=Nat.mul_le_mul_right (B+2) q1;lia
def iD{b:List Nat}(h:(a++b).length<=n):b.length<=n:=by rw[bO] at h;lia
variable{aM:Rr} in
def Fm.ext(h:Fm p dot s t r)(f:fS p' t)(o:ni aD)(e:s'=s++af)(lex:∀u ts,hd u∈cQ->pA XT u=true->aq u ts->aq (s'++u) (t::r (aD::aM ts))):Fm p' XT s' t λts=>r<|aD::aM ts:=by subst e;refine⟨lex,f,?_,λu=>by rw[bz];exact h.bad _,λn t' ts q=>h.n2 n _ _ o⟩;refine bJ h.c λc s' q3 q=>?_;refine zc q3 ?_;exact aW c (s'++af) rfl q
def JY(h:s∈rV):Sp 10 58 [.str s] [] (.str s) []:=vd (L:=rV) (as:=λs=>[.str s]) (v:=λs=>.str s) (l:=λs=>[s.length]) (n:=3) (d:=6) (by ext) (by ext) s h
def pn(h:s∈rV):∃t,Pn s t:=by
 have g:rV.all λs=>(fX.any λx=>bA x<|dL s)&& !s.isEmpty&&Nat.ble s.length 20&&(lq (bU s) s&&eY s):=by ext
 have e:=cp g s h;simp only[cS,dg] at e;refine fp e λo1 e4 e5=>?_;clear e;obtain⟨⟨e1,e2⟩,e3⟩:=o1;have c:∀u,hd (s++u)∈fX:=λu=>by rw[sK e2];exact iW e1
 have e4:=(dR _ _).mp e4;have n:s∈gX->∃t,Pn s t:=λhs=>⟨.nm s true,λu ts hu l=>by have:=aq.nm hs hu l;rw[e4,e5] at this;exact this,λd x t' ab hd=>(HZ).mono hd,JY h,ia e3,c⟩;have h':=h;simp only[rV,List.mem_cons,List.not_mem_nil,or_false] at h';rcases h' with rfl|rfl|rfl
 ·exact n<|.head _
 ·exact⟨.kw [105,102],λu ts hu l=>aq.kw (by ext) hu l,λd x t' ab hd=>(HA).mono hd,JY h,ia e3,c⟩
 ·exact n<|by ext
variable{M:Nat} in
theorem fY.mono(h:N<=M)(l:fY N v w):fY M v w:=eF.mono h l
def RA(hN:10<=N)(o:Sp N 66 [nd k ps,.int 15,.bool b] [] (.str s) [])(q:Sp 10 58 [.str af] [] (.str af) [])(hl:(s++(bif lq k hR then [32,46] else [46])++af).length<=ae):Sp (N+3) 67 [nd k8 [nd k ps,.str af],.bool b] [] (.str<|s++(bif lq k hR then [32,46] else [46])++af) []:=by
 have q:=q.mono hN;have h1:=bw hl;cases e:lq k hR with
 |true=>rw[e] at hl h1;exact sq<|wk 2<|.q o<|.b 2 true e<|.p h1<|.q q<|.p hl .nil
 |false=>rw[e] at hl h1;exact sq<|wk 2<|.q o<|.b 2 false e<|.p h1<|.q q<|.p hl .nil
theorem Pe.f(q:Pe S N B k ps 15 b s t r L dot hc):fS true t:=by have:=q.fm.f;rw[Nat.ble_eq_true_of_le<|aG (by ext) q.le] at this;exact this
def vK:∀{dot:Bool} {u:List Nat},pA dot (32::u)=true:=λ{dot u}=>by cases dot<;>rfl
def Ye:qb.all λx=> !bA x 32:=by ext
def xL{c:Nat}(m:(c:Int)∈qb):Nat.beq c 32=false:=by
 cases e:Nat.beq c 32 with
 |false=>rfl
 |true=>have:=cp Ye _ m;rw[fy e] at this;exact nj this
def Fm.bl(h:Fm p dot s t r)(l:aq (s++u)<|t::ts):aq (32::(s++u))<|t::ts:=by refine bJ h.c λc s' q1 m=>?_;subst q1;exact l.b<|aW c (s'++u) rfl<|xL m
def OT(h:hd u∈fX)(l:aq u ts):aq (32::46::u)<|.pt [46]::ts:=(aq.dot h l).b<|aW 46 u rfl rfl
variable{aM:Rr} in
def GR(hN:22<=N)(f:fS true t)(le:15<=L)(hm:hc=false->L=16/\d7=false)(q:Ks S N k ps c t r L d7)(aD:Tk)(g:∀d x t' ab z fZ q',N+24<=d->Cy S x->f4 x d (nd ay aw) (t',ab) (nd z fZ) q'->f4 x d (nd k ps) (aD,aM<|t'::ab) (nd z fZ) q'):
    Ks S (N+24) ay aw c t (λts=>r<|aD::aM ts) 16 hc:=by
 induction hc with
 |false=>obtain⟨rfl,rfl⟩:=hm rfl;exact Ks.ofM (jj hN) f λd x t' ab am aw aC hd hx lm=>q.m rfl rfl d x aD (aM<|t'::ab) am aw aC (jt hd) hx<|g d x t' ab am aw aC hd hx lm
 |true=>exact Ks.KD (jj hN) (by ext) f (λ_=>rfl) λd x t' ab am aw aC aZ bo q' hd hx lm ll=>q.l le d x aD (aM<|t'::ab) am aw aC aZ bo q' (jt hd) hx (g d x t' ab am aw aC hd hx lm) ll
def Uw(hN:22<=N)(hB:4*B+200<=ae)(o:Va S N B k ps L hc aX)(h:s∈rV):Va S (N+50) (4*B+200) k8 [nd k ps,.str s] 16 hc false:=by
 refine bJ o.h λk' fZ l e=>?_;refine⟨aV 16,(yh<|by ext).mono ia,(aW k' fZ (fY.step (by ext)<|l.mono<|bh _ 50) e),λe=>absurd e<|by ext,.no<|by ext,λb _=>?_⟩;refine o.pe hN (jl hB) 15 (by ext) b _ λai t r L' dot dB pe hd hm=>?_;obtain⟨aD,pn⟩:=pn h;have ln:(ai++(bif lq k hR then [32,46] else [46])++s).length<=4*B+200:=by
  refine(((Ln.sub pe.l).app<|Ln.lit (m:=2) ?_).app<|Ln.le pn.l).fin<|by ext
  cases lq k hR<;>rfl
 refine gp _ t (λts=>r<|.pt [46]::aD::ts) ⟨(RA ia pe.sh pn.sh<|aG ln hB).mono<|@ja _ 23 50 rfl,ln,pe.fm.ext (aD:=.pt [46]) (aM:=λts=>aD::ts) pe.f rfl (bz ..) λu ts hu _ hl=>?_,(GR (aM:=λts=>aD::ts) (jj hN) pe.f pe.le (λh=>hm pe.le<|.inl h) pe.ks (.pt [46]) λd x t' ab z fZ q' li hx lm=>?_).mono<|@ja _ 44 50 rfl⟩
 ·rw[bz,bz];have g:=pn.lex u ts hu hl;cases e:lq k hR with
  |true=>exact pe.fm.lex _ _ cu vK<|OT (pn.c u) g
  |false=>
   refine pe.fm.lex _ _ cu ?_<|aq.dot (pn.c u) g;induction dot with
   |true=>rfl
   |false=>rw[hd rfl pe.le] at e;exact nk e
 ·obtain⟨d,rfl⟩:=iA (aG (show 3<=N+20+24 by exact ia rfl) li);exact f4.dot (jk li) (pn.pa d x t' ab<|jk li) lm
structure Ag(S:Bool)(N B:Nat)(vs:List V)(s:List Nat)(r:Rr):Prop where
 sh:Sp N 70 [.lst vs] [] (.str s) []
 lex:∀u ts,aq u ts->aq (s++u) (.pt [40]::r ts)
 c:∃s',s=40::s'
 l:Ln B 2 4 s
 pa:∀d x t' ab,N<=d->Cy S x->Pa x d 13133 [] (.pt [40],r<|t'::ab) (.lst vs) (t',ab)
def Qr(a:Sp N 66 [nd k ps,.int 1,.bool false] [] (.str s) [])(hl:([40]++s++[41]).length<=ae):Sp (N+2) 70 [.lst [nd k ps]] [] (.str<|[40]++s++[41]) []:=
 have h1:=bw hl
 sq (wk 1<|.q a<|.p (iD h1)<|.p h1<|.p hl .nil)
def P9(a:Sp N 66 [nd k ps,.int 1,.bool false] [] (.str s) [])(aK:Sp N 66 [nd ay aw,.int 1,.bool false] [] (.str af) [])(hl:([40]++(s++[44,32]++af)++[41]).length<=ae):Sp (N+2) 70 [.lst [nd k ps,nd ay aw]] [] (.str<|[40]++(s++[44,32]++af)++[41]) []:=
 have h1:=bw hl
 sq (wk 1<|.q a<|.q aK<|.p (iD h1)<|.p h1<|.p hl .nil)
def ZQ(hN:25<=N):Ag S N B [] [40,41] λts=>.pt [41]::ts:={
 sh:=(sq<|wk 1 (.p (a6 (n:=0))<|.p (a6 (n:=1))<|.p (a6 (n:=2)) .nil) (d:=10)).mono (show 12<=N by exact jc hN rfl)
 lex:=λu ts h=>aq.so (s:=[40])<|aq.so (s:=[41]) h
 c:=⟨[41],rfl⟩
 l:=by unfold Ln;show 2<=_;exact ia
 pa:=λd x t' ab hd _=>(ar0).mono<|aG hN hd}
def eR(h:fS p t):sg t [41]=false/\sg t [93]=false/\sg t [44]=false/\sg t [125]=false/\sg t [59]=false:=by
 have h:=nT h;clear h;induction t with
 |pt s=>
  have g:=hZ ((Bool.or_eq_true_iff.mp h).elim (λh=>(by
   refine aA (List.any_eq_true.mp h) λy hy e=>?_;exact List.any_eq_true.mpr (au y (gq _ hy) e):dD ([[40],[91],[123]]++[[45],[43],[33],[126],[43,43],[45,45]]) s=true)) λh=>by
   refine aA (List.any_eq_true.mp (cK h).2) λy hy e=>?_;exact List.any_eq_true.mpr<|au y (ei _ hy) e)
  have:=cp (show([[40],[91],[123]]++[[45],[43],[33],[126],[43,43],[45,45]]).all (λs=> !sg (.pt s) [41]&& !sg (.pt s) [93]&& !sg (.pt s) [44]&& !sg (.pt s) [125]&& !sg (.pt s) [59])=true by ext) s g;simp only[cS,dg] at this;exact⟨this.1.1.1.1,this.1.1.1.2,this.1.1.2,this.1.2,this.2⟩
 |_=>exact⟨rfl,rfl,rfl,rfl,rfl⟩
def ag1(hN:22<=N)(hB:4*B+200<=ae)(o:Va S N B k ps L hc aX):∃s r,Ag S (N+45) B [nd k ps] s r:=by
 refine o.pe hN (jl hB) 1 (by ext) false _ λs t r L' dot dB pe hd hm=>?_;have ln:=((Ln.lit (B:=B) (s:=[40]) (m:=1) rfl).app<|Ln.sub pe.l).app<|Ln.lit (s:=[41]) (m:=1) rfl;refine bT _ (λts=>t::r (.pt [41]::ts)) ⟨(Qr pe.sh<|aG (ln.fin rfl) hB).mono<|@ja _ 22 45 rfl,λu ts h=>?_,⟨s++[41],by rw[bz];rfl⟩,aG ln jo,λd x t' ab hd hx=>?_⟩
 ·have a:=pe.fm.lex (41::u) (.pt [41]::ts) cu (by cases dot<;>rfl) (aq.so (s:=[41]) h);have b:=aq.so (s:=[40]) a;exact b.cast iS
 ·obtain⟨d,rfl⟩:=iA (aG (show 21<=N+45 by exact ia rfl) hd);exact ar1 (q:=(t,r<|.pt [41]::t'::ab)) (j0 hd) (eR pe.fm.f).1<|pe.ks.k1 pe.le d x (.pt [41]) (t'::ab) (jx (b:=0) hd) hx bI.pt
def ag2(hN:22<=N)(hB:4*B+200<=ae)(o:Va S N B k ps L hc aX)(d8:Va S N B ay aw eD d7 eM):∃s r,Ag S (N+45) B [nd k ps,nd ay aw] s r:=by
 refine o.pe hN (jl hB) 1 (by ext) false _ λs t r L' dot dB pe hd hm=>?_;refine d8.pe hN (jl hB) 1 (by ext) false _ λaf aD aM qO mu qJ cB sY my=>?_;have ln:=((Ln.lit (B:=B) (s:=[40]) (m:=1) rfl).app<|((Ln.sub pe.l).app<|Ln.lit (s:=[44,32]) (m:=2) rfl).app<|Ln.sub cB.l).app<|Ln.lit (s:=[41]) (m:=1) rfl;refine bT _ (λts=>t::r (.pt [44]::aD::aM (.pt [41]::ts))) ⟨(P9 pe.sh cB.sh<|aG (ln.fin rfl) hB).mono<|@ja _ 22 45 rfl,λu ts h=>?_,⟨s++[44,32]++af++[41],by rw[bz];rfl⟩,aG ln<|aV _,λd x t' ab hd hx=>?_⟩
 ·have a:=cB.fm.lex (41::u) (.pt [41]::ts) cu (by cases mu<;>rfl) (aq.so (s:=[41]) h);have a:=aq.so (s:=[44])<|cB.fm.bl a;have a:=pe.fm.lex _ _ cu (by cases dot<;>rfl) a;have b:=aq.so (s:=[40]) a;simp only[bz];exact b
 ·obtain⟨d,rfl⟩:=iA (aG (show 21<=N+45 by exact ia rfl) hd);exact ar2 (q:=(t,r<|.pt [44]::aD::aM (.pt [41]::t'::ab))) (aC:=(aD,aM<|.pt [41]::t'::ab)) (j0 hd) (eR pe.fm.f).1 (pe.ks.k1 pe.le d x (.pt [44]) _ (jx (b:=0) hd) hx bI.pt) (eR cB.fm.f).1<|cB.ks.k1 cB.le d x (.pt [41]) (t'::ab) (jx (b:=0) hd) hx bI.pt
def SM(o:Sp N 66 [nd k ps,.int 15,.bool b] [] (.str s) [])(q:Sp N 66 [nd ay aw,.int 0,.bool false] [] (.str af) [])(hl:(s++[91]++af++[93]).length<=ae):Sp (N+3) 67 [nd kX [nd k ps,nd ay aw],.bool b] [] (.str<|s++[91]++af++[93]) []:=
 have h1:=bw hl
 sq (wk 2<|.q o<|.p (bw h1)<|.q q<|.p h1<|.p hl .nil)
def Uk(o:Sp N 66 [nd k ps,.int 15,.bool b] [] (.str s) [])(q:Sp N 70 [.lst as] [] (.str af) [])(hl:(s++af).length<=ae):Sp (N+3) 67 [nd kh [nd k ps,.lst as],.bool b] [] (.str<|s++af) []:=sq (wk 2<|.q o<|.q q<|.p hl .nil)
def Sh(o:Sp N 66 [nd k ps,.int 16,.bool b] [] (.str s) [])(st:Sp N 61 [nd k ps] [] (.int L) [])(h:Sp N 62 [nd k ps] [] (.bool hc) [])(e:(bA (L:Int) 16&&hc)=false)(q:Sp N 70 [.lst as] [] (.str af) [])(hl:([110,101,119,32]++s++af).length<=ae):Sp (N+3) 67 [nd pG [nd k ps,.lst as],.bool b] [] (.str<|[110,101,119,32]++s++af) []:=by
 cases e1:bA (L:Int) 16 with
 |false=>exact sq<|wk 2<|.q o<|.q st<|.b 0 false e1<|.p (bw hl)<|.q q<|.p hl .nil
 |true=>rw[e1] at e;have e:hc=false:=e;subst e;exact sq<|wk 2<|.q o<|.q st<|.b 0 true e1<|.q h<|.p (bw hl)<|.q q<|.p hl .nil
def QE(o:Sp N 66 [nd k ps,.int 16,.bool b] [] (.str aH) [])(st:Sp N 61 [nd k ps] [] (.int 16) [])(h:Sp N 62 [nd k ps] [] (.bool true) [])(p:Sp N 67 [nd k ps,.bool false] [] (.str s) [])(q:Sp N 70 [.lst as] [] (.str af) [])(hl:([110,101,119,32]++([40]++s++[41])++af).length<=ae):Sp (N+3) 67 [nd pG [nd k ps,.lst as],.bool b] [] (.str<|[110,101,119,32]++([40]++s++[41])++af) []:=
 have h1:=bw hl;have h2:=iD h1
 sq (wk 2<|.q o<|.q st<|.q h<|.q p<|.p (bw h2)<|.p h2<|.p h1<|.q q<|.p hl .nil)
def SL(hN:22<=N)(hB:4*B+200<=ae)(o:Va S N B k ps L hc aX)(d8:Va S N B ay aw eD d7 eM):Va S (N+50) (4*B+200) kX [nd k ps,nd ay aw] 16 hc false:=by
 refine bJ o.h λk' fZ l e=>?_;refine⟨aV 16,(yh<|by ext).mono ia,(aW k' fZ (fY.step (by ext)<|l.mono<|bh _ 50) e),λe=>absurd e<|by ext,.no<|by ext,λb _=>?_⟩;refine o.pe hN (jl hB) 15 (by ext) b _ λs t r L' dot dB pe hd hm=>?_;refine d8.pe hN (jl hB) 0 (by ext) false _ λaf aD aM qO mu qJ cB sY my=>?_;have ln:=((((Ln.sub pe.l).app<|Ln.lit (s:=[91]) (m:=1) rfl).app<|Ln.sub cB.l).app<|Ln.lit (s:=[93]) (m:=1) rfl).fin rfl;refine gp _ t (λts=>r<|.pt [91]::aD::aM (.pt [93]::ts)) ⟨(SM pe.sh cB.sh<|aG ln hB).mono<|@ja _ 23 50 rfl,ln,pe.fm.ext (aD:=.pt [91]) (aM:=λts=>aD::aM (.pt [93]::ts)) pe.f rfl (by rw[bz,bz]) λu ts hu _ hl=>?_,(GR (aM:=λts=>aD::aM (.pt [93]::ts)) (jj hN) pe.f pe.le (λh=>hm pe.le<|.inl h) pe.ks (.pt [91]) λd x t' ab z fZ q' li hx lm=>?_).mono<|@ja _ 44 50 rfl⟩
 ·have a:=cB.fm.lex (93::u) (.pt [93]::ts) cu (by cases mu<;>rfl) (aq.so (s:=[93]) hl);have a:=aq.so (s:=[91]) a;have a:=pe.fm.lex _ _ cu (by cases dot<;>rfl) a;exact a.cast ul
 ·obtain⟨d,rfl⟩:=iA (aG (show 23<=N+20+24 by exact ia rfl) li);exact f4.at (d:=d+18) (j0 li) (cB.ks.k0 d x (.pt [93]) (t'::ab) (j5 li) hx bI.pt) lm
def xI(a:Ag S N B as s r):hd (s++u)∈cQ/\pA dot (s++u)=true:=by obtain⟨s',rfl⟩:=a.c;exact⟨cu,by cases dot<;>rfl⟩
def PN(hN:22<=N)(hB:4*B+200<=ae)(o:Va S N B k ps L hc aX)(a:Ag S (N+45) B as af aM):Va S (N+50) (4*B+200) kh [nd k ps,.lst as] 15 true false:=by
 obtain⟨N,rfl⟩:=iA<|aG (show 1<=22 by ext) hN;refine⟨by ext,(pP (kh,15)<|by ext).mono ia,(aW kh _ ((fY.stop (N:=8) (aV 8)<|by ext).mono ia)<|sr _),λ_=>rfl,.no<|by ext,λb _=>?_⟩;refine o.pe hN (jl hB) 15 (by ext) b _ λs t r L' dot dB pe hd hm=>?_;have ln:=((Ln.sub pe.l).app a.l).fin rfl;refine gp _ t (λts=>r<|.pt [40]::aM ts) ⟨(Uk (pe.sh.mono (show N+1+20<=N+46 by exact @ja _ 21 46 rfl)) (a.sh.mono<|@ja _ 46 46 rfl)<|aG ln hB).mono<|@ja _ 49 51 rfl,ln,pe.fm.ext (aD:=.pt [40]) (aM:=aM) pe.f rfl rfl λu ts hu _ hl=>?_,Ks.KD (jj hN) (by ext) pe.f (λ_=>rfl) λd x t' ab am aw aC aZ bo q' hd hx lm ll=>?_⟩
 ·rw[bz];exact pe.fm.lex _ _ (xI (dot:=dot) a).1 (xI (dot:=dot) a).2<|a.lex u ts hl
 ·obtain⟨d,rfl⟩:=iA (aG (show 2<=N+1+50 by exact ia rfl) hd);exact pe.ks.l pe.le (d+2) x (.pt [40]) (aM<|t'::ab) _ _ _ aZ bo q' (jz hd) hx (f4.stop (jk hd) rfl rfl)<|nE.step (d:=d+3) (a.pa (d+3) x t' ab (jx hd) hx) ((zx (d:=d+1) lm).mono<|@ja _ 3 3 rfl) ll
structure Ce(S:Bool)(N B:Nat)(k:List Nat)(ps:List V)(b:Bool)(s:List Nat)(t:Tk)(r:Rr)(dot:Bool):Prop where
 fm:Fm true dot s t r
 l:s.length<=B+2
 m:KM S N k ps t r
 pr:∀as af,Sp N 70 [.lst as] [] (.str af) []->([110,101,119,32]++s++af).length<=ae->Sp (N+3) 67 [nd pG [nd k ps,.lst as],.bool b] [] (.str<|[110,101,119,32]++s++af) []
def ce(hN:22<=N)(hB:4*B+200<=ae)(o:Va S N B k ps L hc aX)(b:Bool):∃s t r dot,Ce S (N+45) B k ps b s t r dot:=by
 refine bJ o.h λk' fZ l e=>?_;refine o.pe hN (jl hB) 16 (by ext) b _ λs t r L' dot dB pe hd hm=>?_;obtain⟨N,rfl⟩:=iA<|aG (show 1<=22 by ext) hN;have zg:Sp (N+1+45) 62 [nd k ps] [] (.bool hc) []:=e▸(hcS l).mono (@ja _ 2 46 rfl);cases e1:bA (L:Int) 16&&hc with
 |false=>
  have h16:L'=16/\dB=false:=by
   clear e zg;induction hc with
   |false=>exact hm (aG (by ext) pe.le)<|.inl rfl
   |true=>refine hm (aG (by ext) pe.le)<|.inr<|Nat.lt_of_le_of_ne o.le λq=>?_;subst q;exact nk e1
  obtain⟨rfl,rfl⟩:=h16;exact lu s t r dot ⟨pe.fm,pe.l,λd x t' ab am aw aC hd hx lm=>pe.ks.m rfl rfl d x t' ab am aw aC (jz hd) hx lm,λas af q hl=>Sh (pe.sh.mono<|@ja _ 21 46 rfl) (o.st.mono ja) zg e1 q hl⟩
 |true=>obtain⟨e3,e2⟩:=cK e1;have e4:(L:Int)=((16:Nat):Int):=(Z.eqB_iff _ _).mp e3;have e4:L=16:=Int.ofNat.inj e4;subst e4;subst e2;exact m5 (o.pr false rfl) λs' t r q=>lu ([40]++s'++[41]) _ _ _ ⟨Gq q.fm,Fg q.l,λd x t' ab am aw aC hd hx lm=>(AI (c:=false) hN q.ks.k0).m rfl rfl d x t' ab am aw aC (jz hd) hx lm,λas af q' hl=>QE (pe.sh.mono<|@ja _ 21 46 rfl) (o.st.mono ja) zg (q.pr.mono ja) q' hl⟩
def UF(hN:22<=N)(hB:4*B+200<=ae)(o:Va S N B k ps L hc aX)(a:Ag S (N+45) B as af aM):Va S (N+50) (4*B+200) pG [nd k ps,.lst as] 16 false false:=by
 refine⟨aV 16,(yh<|by ext).mono ia,(aW pG _ ((fY.stop (N:=8) (aV 8)<|by ext).mono ia)<|by ext),λe=>absurd e<|by ext,.no<|by ext,λb _=>?_⟩;refine DI (ce hN hB o b) λs t r dot q=>?_;have ln:=(((Ln.lit (B:=B) (s:=[110,101,119,32]) (m:=4) rfl).app<|Ln.sub q.l).app a.l).fin rfl;refine gp _ (.kw mF) (λts=>t::r (.pt [40]::aM ts)) ⟨(q.pr _ _ a.sh<|aG ln hB).mono<|@ja _ 48 50 rfl,ln,⟨λu ts hu _ hl=>?_,rfl,(aW 110 _ rfl<|by ext),λu=>⟨rfl,rfl⟩,λe=>by exact nj e⟩,Ks.ofM (jj hN) rfl λd x t' ab am aw aC hd hx lm=>?_⟩
 ·have l:=q.fm.lex _ _ (xI (dot:=dot) a).1 (xI (dot:=dot) a).2 (a.lex u ts hl);have l:=aq.kw (s:=mF) (by ext) cu<|q.fm.bl l;exact l.cast iS
 ·obtain⟨d,rfl⟩:=iA (aG (show 2<=N+50 by exact ia rfl) hd);have p:=q.m (d-1) x (.pt [40]) (aM<|t'::ab) _ _ _ (by lia) hx<|(f4.stop (d:=d-3) (by lia) rfl rfl).mono<|by lia
  exact rE 12133 pG _ (t',ab) (.inr ⟨rfl,rfl⟩) (crE (d:=d+2) (jc hd) (p.mono<|by lia)<|a.pa (d+2) x t' ab (jz hd) hx)<|(zx (d:=d+1) lm).mono<|@ja _ 3 5 rfl
noncomputable def kD:List<|List Nat:=[[45],[43],[33],[126],[43,43],[45,45]]
def mS:List<|List Nat:=[[116,121,112,101,111,102],[118,111,105,100],lV]
def on(op:List Nat):List Nat:=bif dD [[45],[43],[43,43],[45,45]] op then [32] else []
noncomputable def rj:List Nat->List Nat
 |[]=>[]
 |a::r=>match r with
  |[]=>[a]
  |_::_=>rj r
structure Uf(B:Nat)(op s:List Nat)(t o:Tk)(F:List Nat):Prop where
 sh:Sp 10 73 [.str op,.str s] [] (.str F) []
 lex:∀u ts,aq (s++u) (t::ts)->aq (F++u) (o::t::ts)
 c:∃c s',F=c::s'/\(c:Int)∈qb
 bad:∀u,c9 [123] (F++u)=sg o [123]/\c9 n5 (F++u)=wd o er
 l:Ln B 1 20 F
def gP{α:Type}{as:α->List V}{c c':α->List O}{sc:α->List An}{v:α->V}{P:α->Prop}:∀{L:List α},L.map (λq=>Cn d n f (as q) ⟨c q,sc q,True⟩)=L.map (λq=>some (v q,(⟨c' q,[],P q⟩:St)))->∀q∈L,P q->Sp (d+n+1) f (as q) (c q) (v q) (c' q)
 |[],_,_,h,_=>nomatch h
 |a::r,e,q,hq,hp=>by
  rw[List.map_cons,List.map_cons] at e;have e:=List.cons.inj e;cases hq with
  |head=>exact go hp e.1
  |tail _ hq=>exact gP e.2 q hq hp
def Jk:∀op∈kD,((op++on op++s).length<=ae/\(op++on op).length<=ae/\op.length<=ae/\lq (cU s none<|some 1) (rj op)=true/\op.length<=ae/\s.length<=ae/\True)->Sp 10 73 [.str op,.str s] [] (.str<|op++on op++s) []:=gP (L:=kD) (d:=8) (n:=1) (as:=λop=>[.str op,.str s]) (c:=λ_=>[]) (c':=λ_=>[]) (sc:=λ_=>[.br 1 true]) (v:=λop=>.str<|op++on op++s) (P:=λop=>(op++on op++s).length<=ae/\(op++on op).length<=ae/\op.length<=ae/\lq (cU s none<|some 1) (rj op)=true/\op.length<=ae/\s.length<=ae/\True) (by ext)
def Yi:∀op∈kD,((op++[]++s).length<=ae/\(op++[]).length<=ae/\lq (cU s none<|some 1) (rj op)=false/\op.length<=ae/\s.length<=ae/\True)->Sp 10 73 [.str op,.str s] [] (.str<|op++[]++s) []:=gP (L:=kD) (d:=8) (n:=1) (as:=λop=>[.str op,.str s]) (c:=λ_=>[]) (c':=λ_=>[]) (sc:=λ_=>[.br 1 false]) (v:=λop=>.str<|op++[]++s) (P:=λop=>(op++[]++s).length<=ae/\(op++[]).length<=ae/\lq (cU s none<|some 1) (rj op)=false/\op.length<=ae/\s.length<=ae/\True) (by ext)
def Yw:∀op∈mS,((op++[32]++s).length<=ae/\(op++[32]).length<=ae/\True)->Sp 10 73 [.str op,.str s] [] (.str<|op++[32]++s) []:=gP (L:=mS) (d:=8) (n:=1) (as:=λop=>[.str op,.str s]) (c:=λ_=>[]) (c':=λ_=>[]) (sc:=λ_=>[]) (v:=λop=>.str<|op++[32]++s) (P:=λop=>(op++[32]++s).length<=ae/\(op++[32]).length<=ae/\True) (by ext)
theorem Ym:cU (cE::r) none (some 1)=[cE]:=by show((cE::r).take<|g9 (r.length+1) ((1:Nat):Int)).drop 0=[cE];rw[A7<|Nat.le_add_left 1 _];rfl
def TC:kD.all λop=>qb.all (λc=>mH op (op++[c.toNat])||(lq (rj op) [c.toNat]&& !(on op).isEmpty))&&mH op (op++[32])&&Nat.ble op.length 2&&(lq (on op) []||lq (on op) [32]):=by ext
def Xi:(kD++mS).all λop=>nz [123] op&&nz n5 op&&(qb.any λx=>bA x<|dL op)&& !op.isEmpty&&Nat.ble op.length 10:=by ext
def Hh(h:op∈kD++mS):(∀z:List Nat,∃(c:Nat) (s':List Nat),op++z=c::s'/\(c:Int)∈qb)/\(∀z:List Nat,c9 [123] (op++z)=false/\c9 n5 (op++z)=false)/\op.length<=10:=by
 have e:=cp Xi op h;simp only[cS,dg] at e;obtain⟨⟨⟨⟨e1,e2⟩,e3⟩,e4⟩,e5⟩:=e;refine⟨λz=>?_,λz=>⟨nR e1,nR e2⟩,ia e5⟩;clear h e5 e1 e2;induction op using bx with
 |nil=>exact nk e4
 |cons c r=>exact aW c (r++z) rfl<|iW e3
def uf(ho:op∈kD)(h:Fm p dot s t r)(l:s.length<=B+2)(hB:4*B+200<=ae):∃F,Uf B op s t (.pt op) F:=by
 have e:=cp TC op ho;simp only[cS] at e;obtain⟨⟨⟨e1,e2⟩,e3⟩,e4⟩:=e;refine fp (Hh<|gq mS ho) λg1 g2 g3=>?_;refine bJ h.c λc s' q1 m=>?_;subst q1;have e1:=cp e1 _ m;have sd:sg (.pt op) [123]=false:=by have:=cp (show kD.all (λop=> !lq op [123])=true by ext) op ho;rw[<-dg];exact this
 have mk:∀z,z.length<=1->Sp 10 73 [.str op,.str<|c::s'] [] (.str<|op++z++(c::s')) []->(∀u ts,aq ((c::s')++u) (t::ts)->aq (op++(z++((c::s')++u))) (.pt op::t::ts))->∃F,Uf B op (c::s') t (.pt op) F:=λz hz hs hl=>
  ⟨_,hs,λu ts q=>by rw[bz,bz];exact hl u ts q,by rw[bz];exact g1 _,λu=>by rw[bz,bz,sd];exact g2 _,by unfold Ln;rw[bO,bO];lia⟩
 have ln:∀z:List Nat,z.length<=1->(op++z++(c::s')).length<=ae:=λz hz=>by rw[bO,bO];lia
 have l1:=aG g3<|a6 (n:=10);have bare:mH op (op++[c])=true->∀u ts,aq ((c::s')++u) (t::ts)->aq (op++([]++((c::s')++u))) (.pt op::t::ts):=λq u ts hl=>aq.pt (s':=op++[c]) (u':=s'++u) q (by rw[bz];rfl) hl;cases q:lq (cU (c::s') none<|some 1) (rj op) with
 |true=>
  rcases Bool.or_eq_true_iff.mp e4 with z|z
  ·have z:=(dR _ _).mp z;refine mk [] (by ext) ?_<|bare ?_
   ·have:=Jk (s:=c::s') op ho;rw[z] at this;exact this ⟨ln []<|by ext,bw<|ln []<|by ext,l1,q,l1,iD<|ln []<|by ext,trivial⟩
   ·rcases Bool.or_eq_true_iff.mp e1 with e1|e1
    ·exact e1
    ·rw[z] at e1;exact absurd (cK e1).2<|by ext
  ·have z:=(dR _ _).mp z;refine mk [32] (by ext) ?_ λu ts hl=>aq.sp e2<|h.bl hl;have:=Jk (s:=c::s') op ho;rw[z] at this;exact this ⟨ln [32]<|by ext,bw<|ln [32]<|by ext,l1,q,l1,iD<|ln [32]<|by ext,trivial⟩
 |false=>
  refine mk [] (by ext) (Yi op ho ⟨ln []<|by ext,bw<|ln []<|by ext,q,l1,iD<|ln []<|by ext,trivial⟩)<|bare ?_;rcases Bool.or_eq_true_iff.mp e1 with e1|e1
  ·exact e1
  ·rw[Ym,(dR _ _).mp (cK e1).1] at q;exact Bool.noConfusion<|(sr [c]).symm.trans (show lq [c] [c]=false from q)
def uw(ho:op∈mS)(h:Fm p dot s t r)(l:s.length<=B+2)(hB:4*B+200<=ae):∃F,Uf B op s t (.kw op) F:=by
 refine fp (Hh<|ei kD ho) λg1 g2 g3=>?_;have ln:(op++[32]++s).length<=ae:=by rw[bO,bO];show op.length+1+_<=_;lia
 have k:=cp (show mS.all (λop=>dD iw op&& !lq op er)=true by ext) op ho;obtain⟨k1,k2⟩:=cK k;have k2:wd (.kw op) er=false:=by rw[<-dg];exact k2
 exact⟨_,Yw op ho ⟨ln,bw ln,trivial⟩,λu ts q=>by rw[bz,bz];exact aq.kw (hZ k1) cu<|h.bl q,by rw[bz];exact g1 _,λu=>by rw[bz,bz,k2];exact g2 _,by unfold Ln;rw[bO,bO];show op.length+1+_<=_;lia⟩
def GX(hN:10<=N)(a:Sp N 66 [nd k ps,.int 13,.bool b] [] (.str s) [])(f:Uf B op s t o F):Sp (N+3) 67 [nd lr [.str op,nd k ps],.bool b] [] (.str F) []:=sq (wk 2<|.q a<|.q (f.sh.mono hN) .nil)
def RW(hN:10<=N)(a:Sp N 66 [nd k ps,.int 13,.bool b] [] (.str s) [])(f:Uf B op s t o F):Sp (N+3) 67 [nd oF [.str op,.bool true,nd k ps],.bool b] [] (.str F) []:=sq (wk 2<|.q a<|.q (f.sh.mono hN) .nil)
def RB(a:Sp N 66 [nd k ps,.int 15,.bool b] [] (.str s) [])(hl:(s++op).length<=ae):Sp (N+3) 67 [nd oF [.str op,.bool false,nd k ps],.bool b] [] (.str<|s++op) []:=sq (wk 2<|.q a<|.p hl .nil)
def si(h:pA false u):pA dot u:=Bool.or_eq_true_iff.mpr<|.inr h
def AJ(hN:22<=N)(hB:4*B+200<=ae)(o:Va S N B k ps L hc aX)(aL:([k8,kX].any λx=>lq x ay)=false)(dB:lq ay kh=false)(hb:lq ay rk=false)(st:Sp 10 61 [nd ay aw] [] (.int 13) [])(tt:Tk)(f1:fS false tt)(ft:lL tt=false)(h:∀b s t r L' dot dB,Pe S (N+20) (B+2) k ps 13 b s t r L' dot dB->(∃F,Uf B op s t tt F/\Sp (N+23) 67 [nd ay aw,.bool b] [] (.str F) [])/\∀d x t' ab,N+20<=d->Cy S x->Pa x (d+9) 8133 [] (t,r<|t'::ab) (nd k ps) (t',ab)->Pa x (d+13) 8133 [] (tt,t::r (t'::ab)) (nd ay aw) (t',ab)):Va S (N+50) (4*B+200) ay aw 13 false false:=by
 refine⟨by ext,st.mono ia,(aW ay _ ((fY.stop (N:=8) (aV 8) aL).mono ia) dB),λe=>absurd e<|by ext,.no hb,λb _=>?_⟩;refine o.pe hN (jl hB) 13 (by ext) b _ λs t r L' dot dB pe hd hm=>?_;obtain⟨⟨F,f,pr⟩,q⟩:=h b s t r L' dot dB pe;refine gp F tt (λts=>t::r ts) ⟨pr.mono ja,f.l.fin rfl,⟨λu ts hu hf hl=>f.lex u _<|pe.fm.lex u ts hu (si hf) hl,f1,f.c,f.bad,λe=>by rw[ft] at e;exact nj e⟩,Ks.ofU (jj hN) (by ext) (by ext) λd x t' ab hd hx hs=>?_⟩
 ·obtain⟨d,rfl⟩:=iA (aG (show 4<=N+50 by exact ia rfl) hd);exact q d x t' ab (jx (b:=0) hd) hx<|pe.ks.u pe.le d x t' ab (jx (b:=0) hd) hx hs
def Fs:kD.all λop=>dD [[45],[43],[33],[126]] op==(!jN (.pt op)&&qa (.pt op)&& !lq op lV)&&fS false (.pt op)&&(dD [[43,43],[45,45]] op==jN (.pt op)):=by ext
def SD(hN:22<=N)(hB:4*B+200<=ae)(o:Va S N B k ps L hc aX)(h:dD [[45],[43],[33],[126]] op):Va S (N+50) (4*B+200) lr [.str op,nd k ps] 13 false false:=by
 have m:op∈kD:=gq [[43,43],[45,45]]<|hZ h;have e:=cp Fs op m;rw[h] at e;simp only[cS,beq_iff_eq,dg] at e;obtain⟨⟨e1,e2⟩,_⟩:=e;have e1:=e1.symm;simp only[cS,dg] at e1;exact AJ (op:=op) hN hB o (by ext) (by ext) (by ext) (pP (lr,13)<|by ext) (.pt op) e2 rfl λb s t r L' dot dB pe=>by obtain⟨F,f⟩:=uf m pe.fm pe.l hB;exact⟨(au F f<|GX ia pe.sh f),λd x t' ab hd hx p=>(unS (jb hd) e1.1.1 e1.1.2 e1.2 p).mono<|@ja _ 11 13 rfl⟩
def R3(hN:22<=N)(hB:4*B+200<=ae)(o:Va S N B k ps L hc aX)(h:op∈mS)(hd:op=lV->lq k nb=false):Va S (N+50) (4*B+200) lr [.str op,nd k ps] 13 false false:=by
 have e:=cp (show mS.all (λop=>fS false (.kw op)&&qa (.kw op))=true by ext) op h;obtain⟨e1,e2⟩:=cK e;refine AJ (op:=op) hN hB o (by ext) (by ext) (by ext) (pP (lr,13)<|by ext) (.kw op) e1 rfl λb s t r L' dot dB pe=>?_;obtain⟨F,f⟩:=uw h pe.fm pe.l hB;refine⟨(au F f<|GX ia pe.sh f),λd x t' ab li hx p=>?_⟩;cases q:lq op lV with
 |false=>exact(unW (jb li) e2 q p).mono<|@ja _ 11 13 rfl
 |true=>have q:=(dR _ _).mp q;subst q;exact(Zq (jb li) (hd rfl) p).mono<|@ja _ 12 13 rfl
def Tq(hN:22<=N)(hB:4*B+200<=ae)(o:Va S N B k ps L hc aX)(h:dD [[43,43],[45,45]] op)(g:Tg k ps):Va S (N+50) (4*B+200) oF [.str op,.bool true,nd k ps] 13 false false:=by
 have m:op∈kD:=ei [[45],[43],[33],[126]]<|hZ h;have e:=cp Fs op m;rw[h] at e;simp only[cS,beq_iff_eq] at e;obtain⟨⟨_,e2⟩,e3⟩:=e;exact AJ (op:=op) hN hB o (by ext) (by ext) (by ext) (KW (b:=true)) (.pt op) e2 rfl λb s t r L' dot dB pe=>by obtain⟨F,f⟩:=uf m pe.fm pe.l hB;exact⟨(au F f<|RW ia pe.sh f),λd x t' ab hd hx p=>(unU (jb hd) e3.symm g p).mono<|@ja _ 11 13 rfl⟩
def Rq(hN:22<=N)(hB:4*B+200<=ae)(o:Va S N B k ps L hc aX)(h:dD [[43,43],[45,45]] op)(g:Tg k ps):Va S (N+50) (4*B+200) oF [.str op,.bool false,nd k ps] 14 false false:=by
 have e:=uB (f:=λop=>mH op op&&jN (.pt op)&&ni (.pt op)&& !sg (.pt op) [46]&& !sg (.pt op) [91]&& !sg (.pt op) [40]&&Nat.ble op.length 2&&(cQ.any λx=>bA x<|dL op)&& !op.isEmpty&& !bA (dL op) 46) h<|by ext
 simp only[cS,dg] at e;obtain⟨⟨⟨⟨⟨⟨⟨⟨⟨e0,e1⟩,e2⟩,e3⟩,e4⟩,e5⟩,e6⟩,e7⟩,e8⟩,e9⟩:=e;refine⟨by ext,(KW (b:=false)).mono ia,(aW oF _ ((fY.stop (N:=8) (aV 8)<|by ext).mono ia)<|by ext),λe=>absurd e<|by ext,.no<|by ext,λb _=>?_⟩;refine o.pe hN (jl hB) 15 (by ext) b _ λs t r L' dot dB pe hd hm=>?_;have ln:=((Ln.sub pe.l).app<|Ln.le<|ia e6).fin rfl;refine gp _ t (λts=>r<|.pt op::ts) ⟨(RB pe.sh<|aG ln hB).mono<|@ja _ 23 50 rfl,ln,pe.fm.ext (aD:=.pt op) (aM:=λts=>ts) pe.f e2 rfl λu ts hu _ hl=>?_,Ks.ofU (jj hN) (by ext) (by ext) λd x t' ab hd hx hs=>?_⟩
 ·rw[bz];exact pe.fm.lex _ _ (by rw[sK e8];exact iW e7) (Bool.or_eq_true_iff.mpr<|.inr (by rw[sK e8,e9];rfl))<|aq.so hl e0
 ·obtain⟨d,rfl⟩:=iA (aG (show 6<=N+50 by exact ia rfl) hd);have p:=pe.ks.l pe.le (d+2) x (.pt op) (t'::ab) _ _ _ _ _ _ (jx hd) hx (f4.stop (d:=d) (jk hd) e3 e4)<|nE.stop (d:=d+4) (j0 hd) e5;obtain⟨a,c⟩:=FC pe.f;exact(Lb (ZH (j0 (c:=7) hd) e1 g p) a c).mono<|@ja _ 11 15 rfl
structure Ot(op:List Nat)(p:Nat)(o:Tk):Prop where
 lex:∀u ts,aq (32::u) ts->aq (32::(op++(32::u))) (o::ts)
 v:o.v=.str op
 ok:ni o=true
 m:o∈kq
 pr:∀c,(!c&&lq op fM)=false->ew c o=p/\ext c o=p+3
def lW(op:List Nat):Tk:=bif dD [fM,[105,110,115,116,97,110,99,101,111,102]] op then .kw op else .pt op
def SY:mE.all λq=>(bif dD [fM,[105,110,115,116,97,110,99,101,111,102]] q.1 then dD iw q.1 else(mH q.1 (q.1++[32])&&dD Cq q.1))&& !Nat.beq (dL q.1) 32&& !q.1.isEmpty&&ni (lW q.1)&&(lq q.1 fM||(Nat.beq (ew false<|lW q.1) q.2&&Nat.beq (ext false<|lW q.1) (q.2+3)))&&Nat.beq (ew true<|lW q.1) q.2&&Nat.beq (ext true<|lW q.1) (q.2+3)&&Nat.ble q.2 10&&Nat.ble 1 q.2&&Nat.ble q.1.length 20:=by ext
theorem ot(h:q∈mE):Ot q.1 q.2 (lW q.1)/\q.2<=10/\1<=q.2/\q.1.length<=20:=by
 have e:=cp SY q h;simp only[cS,dg] at e;obtain⟨⟨⟨⟨⟨⟨⟨⟨⟨e1,e2⟩,e3⟩,e5⟩,e6⟩,e7⟩,e8⟩,e9⟩,JK⟩,Kd⟩:=e;have bl:∀{u ts} {o:Tk},aq (q.1++u) (o::ts)->aq (32::(q.1++u)) (o::ts):=λ{u ts o} l=>by
  refine l.b ?_;cases g:q.1 with
  |nil=>rw[g] at e3;exact nk e3
  |cons c s=>rw[g] at e2;exact aW c (s++u) rfl e2
 have pr:∀c,(!c&&lq q.1 fM)=false->ew c (lW q.1)=q.2/\ext c (lW q.1)=q.2+3:=λc hc=>by
  induction c with
  |true=>exact⟨fy e7,fy e8⟩
  |false=>rw[show lq q.1 fM=false from hc] at e6;exact⟨fy (cK e6).1,fy (cK e6).2⟩
 refine⟨?_,ia e9,ia JK,ia Kd⟩;unfold lW at e5 pr⊢;cases g:dD [fM,[105,110,115,116,97,110,99,101,111,102]] q.1 with
 |true=>
  rw[g] at e1 pr e5;refine⟨λu ts l=>bl<|aq.kw (hZ e1) cu l,rfl,e5,?_,pr⟩;have g:=hZ g;rcases dZ g with g|g
  ·rw[g];exact .head _
  ·rw[fo g];exact .tail _<|.head _
 |false=>rw[g] at e1 pr e5;obtain⟨f1,f2⟩:=cK e1;exact⟨λu ts l=>bl<|aq.sp f1 l,rfl,e5,ei _<|List.mem_map_of_mem<|gq _<|ei _<|hZ f2,pr⟩
noncomputable abbrev qy(s op af:List Nat):List Nat:=s++[32]++op++[32]++af
def UI(h:q∈mE)(a:Sp N 66 [nd k ps,.int ((q.2+2:Nat):Int),.bool b] [] (.str s) [])(aK:Sp N 66 [nd ay aw,.int ((q.2+3:Nat):Int),.bool b] [] (.str af) [])(hl:(qy s q.1 af).length<=ae):Sp (N+3) 67 [nd (gA q.2) [.str q.1,nd k ps,nd ay aw],.bool b] [] (.str<|qy s q.1 af) []:=
 have h1:=bw hl;have h2:=bw h1
 gP (L:=mE) (d:=N) (n:=2) (as:=λq=>[nd (gA q.2) [.str q.1,nd k ps,nd ay aw],.bool b]) (c:=λ_=>[]) (c':=λ_=>[]) (sc:=λ_=>[ca 66 (.str s) [],ca 66 (.str af) []]) (v:=λq=>.str<|qy s q.1 af)
  (P:=λq=>(qy s q.1 af).length<=ae/\Sp N 66 [nd ay aw,.int ((q.2+3:Nat):Int),.bool b] [] (.str af) []/\(s++[32]++q.1++[32]).length<=ae/\(s++[32]++q.1).length<=ae/\(s++[32]).length<=ae/\Sp N 66 [nd k ps,.int ((q.2+2:Nat):Int),.bool b] [] (.str s) []/\True) (by ext) q h ⟨hl,aK,h1,h2,bw h2,a,trivial⟩
def RQ(hN:22<=N)(ot:Ot op p o)(hp:p<=10)(hp1:1<=p)(hi:(!c&&lq op fM)=false)(rm:p+2<=L)(ak:Ks S N k ps c t r L hc)(rh:p+3<=eD)(aC:Ks S N ay aw c aD aM eD d7):KB S (N+24) (gA p) [.str op,nd k ps,nd ay aw] c t (λts=>r<|o::aD::aM ts)<|p+2:=λd x t' ab m z fZ q' hd hx hm hs l=>by obtain⟨e1,e2⟩:=ot.pr c hi;have st:bI c t'<|p+3:=hs.le<|Nat.min_le_left _ _;have f:=st.f.2.2.2.2.2.2;obtain⟨d,rfl⟩:=iA<|aG (show 3<=N+24 by exact ia rfl) hd;have b:=aC.b (jc rh) d x t' ab (p+1) _ _ _ (j5 hd) hx rh (st.le<|by lia)<|lA.stop (d:=d+8) (m:=((p+1:Nat):Int)) (v:=nd ay aw) (q:=(t',ab)) (j0 hd) st.m (λq=>by have q:p+1<=ew c t':=Int.ofNat_le.mp q;lia);rw[<-ot.v,<-e1] at l;exact ak.b (ib hp1 rm) (d+3) x o _ m z fZ q' (jt hd) hx (aG hm rm) ⟨ot.m,by lia⟩<|lA.step (d:=d+11) (j0 hd) ot.m (by rw[e1];exact Int.ofNat_le.mpr<|j5 hm) (by rw[e1];exact b) l
def G5(hN:22<=N)(hB:4*B+200<=ae)(o:Va S N B k ps L hc aX)(d8:Va S N B ay aw eD d7 eM)(h:q∈mE):∃aX,Va S (N+50) (4*B+200) (gA q.2) [.str q.1,nd k ps,nd ay aw] (q.2+2) false aX:=by
 refine rP (ot h) λot mR h1 oQ=>?_;have kk:([k8,kX].any λx=>lq x<|gA q.2)=false/\lq (gA q.2) kh=false:=by unfold gA;cases Nat.blt q.2 3<;>exact⟨by ext,by ext⟩
 have b14:Nat.ble 14 (q.2+2)=false:=Bool.eq_false_iff.mpr λe=>by have:=ia e;lia
 have Z9:Nat.ble 15 (q.2+2)=false:=Bool.eq_false_iff.mpr λe=>by have:=ia e;lia
 have mk:∀aX,ue (gA q.2) [.str q.1,nd k ps,nd ay aw] aX->(∀b,(b&&aX)=false->(!!b&&lq q.1 fM)=false)->∃aX,Va S (N+50) (4*B+200) (gA q.2) [.str q.1,nd k ps,nd ay aw] (q.2+2) false aX:=λaX i hi=>by refine⟨aX,⟨jv mR,(Z2 q h).mono ia,(aW _ _ ((fY.stop (N:=8) (aV 8) kk.1).mono ia) kk.2),λe=>by lia,i,λb hb=>?_⟩⟩;refine o.pe hN (jl hB) (q.2+2) (jv mR) b _ λs t r L' dot dB pe hd hm=>?_;refine d8.pe hN (jl hB) (q.2+3) (jv mR) b _ λaf aD aM qO mu qJ cB sY my=>?_;have ln:=(((((Ln.sub pe.l).app<|Ln.lit (s:=[32]) (m:=1) rfl).app<|Ln.le oQ).app<|Ln.lit (s:=[32]) (m:=1) rfl).app<|Ln.sub cB.l).fin rfl;refine gp (qy s q.1 af) t (λts=>r<|lW q.1::aD::aM ts) ⟨(UI h pe.sh cB.sh<|aG ln hB).mono<|@ja _ 23 50 rfl,ln,?_,(Ks.ofB (jj (b:=44) hN) (jb h1) (by lia)<|RQ (jj hN) ot mR h1 (hi b hb) pe.le pe.ks cB.le cB.ks).mono<|@ja _ 44 50 rfl⟩;rw[b14,Z9];refine pe.fm.ext (aD:=lW q.1) (aM:=λts=>aD::aM ts) (nT pe.fm.f) ot.ok (show s++[32]++q.1++[32]++af=s++([32]++(q.1++([32]++af))) by simp only[bz]) λu ts hu hf hl=>?_;have a:=pe.fm.lex _ _ cu vK<|ot.lex _ _<|cB.fm.bl<|cB.fm.lex u ts hu (si hf) hl;show aq (s++[32]++q.1++[32]++af++u) _;exact a.cast zd
 cases e:Nat.blt q.2 3 with
 |true=>refine mk false (.no (by unfold gA;rw[e];ext)) λb _=>?_;have g:=cp (show mE.all (λq=> !lq q.1 fM|| !Nat.blt q.2 3)=true by ext) q h;rw[e,Bool.not_true,Bool.or_false,dg] at g;rw[g,Bool.and_false]
 |false=>exact mk (lq q.1 fM) (by unfold gA;rw[e];exact .bin) λb hb=>by rw[Bool.not_not];exact hb
variable{S:Bool}{N B L:Nat}{k:List Nat}{ps:List V}{b:Bool}{t:Tk}{r:Rr}{x:Px}{s:List Nat} in
def Va.weak(hN:22<=N)(h:(([k8,kX].any λx=>lq x k)||lq k kh||lq k rk)=false)(h3:L<13)(st:Sp 10 61 [nd k ps] [] (.int (L:Int)) [])(h:∀b,∃s t r,Sp N 67 [nd k ps,.bool b] [] (.str s) []/\s.length<=B/\Fm false false s t r/\Ks S N k ps (!b) t r L false):Va S N B k ps L false false:=by rename_i iY;obtain⟨h1,h2⟩:=Bool.or_eq_false_iff.mp iY;obtain⟨h0,h1⟩:=Bool.or_eq_false_iff.mp h1;refine⟨by lia,st.mono<|jc hN,(aW k _ ((fY.stop (N:=8) (aV 8) h0).mono<|jc hN) h1),λe=>by lia,.no h2,λb _=>?_⟩;refine fH (h b) λs t r pr l fm ks=>?_;refine gp s t r ⟨pr,l,?_,ks⟩;rw[show Nat.ble 14 L=false from Bool.eq_false_iff.mpr λe=>by have:=ia e;lia,show Nat.ble 15 L=false from Bool.eq_false_iff.mpr λe=>by have:=ia e;lia];exact fm
theorem p63:ew c (.pt [63])=0:=by cases c<;>ext
noncomputable abbrev yr(s af aH:List Nat):List Nat:=s++[32,63,32]++af++[32,58,32]++aH
def SW(a:Sp N 66 [nd k ps,.int 3,.bool b] [] (.str s) [])(aK:Sp N 66 [nd ay aw,.int 1,.bool false] [] (.str af) [])(bq:Sp N 66 [nd ba bo,.int 1,.bool b] [] (.str aH) [])(hl:(yr s af aH).length<=ae):Sp (N+3) 67 [nd uZ [nd k ps,nd ay aw,nd ba bo],.bool b] [] (.str<|yr s af aH) []:=
 have h1:=bw hl;have h2:=bw h1
 sq (wk 2<|.q a<|.q aK<|.p (bw h2)<|.p h2<|.p h1<|.q bq<|.p hl .nil)
def Ui(hN:22<=N)(hB:4*B+200<=ae)(o:Va S N B k ps L hc aX)(d8:Va S N B ay aw eD d7 eM)(pH:Va S N B ba bo tI sN sI):Va S (N+50) (4*B+200) uZ [nd k ps,nd ay aw,nd ba bo] 2 false false:=by
 refine Va.weak (jj hN) (by ext) (by ext) (pP (uZ,2)<|by ext) λb=>?_;refine o.pe hN (jl hB) 3 (by ext) b _ λs t r L' dot dB pe hd hm=>?_;refine d8.pe hN (jl hB) 1 (by ext) false _ λaf aD aM qO mu qJ cB sY my=>?_;refine pH.pe hN (jl hB) 1 (by ext) b _ λaH bM cm WC RG Sb j9 WX Xg=>?_;have ln:=(((((Ln.sub pe.l).app<|Ln.lit (s:=[32,63,32]) (m:=3) rfl).app<|Ln.sub cB.l).app<|Ln.lit (s:=[32,58,32]) (m:=3) rfl).app<|Ln.sub j9.l).fin rfl;refine jE (yr s af aH) t (λts=>r<|.pt [63]::aD::aM (.pt [58]::bM::cm ts)) ((SW pe.sh cB.sh j9.sh<|aG ln hB).mono<|@ja _ 23 50 rfl) ln (pe.fm.ext (aD:=.pt [63]) (aM:=λts=>aD::aM (.pt [58]::bM::cm ts)) (nT pe.fm.f) rfl (show yr s af aH=s++([32,63,32]++(af++([32,58,32]++aH))) by simp only[bz]) λu ts hu hf hl=>?_)<|Ks.of2 (jj hN) λd x t' ab hd hx hs=>?_
 ·have a:=(aq.so (s:=[58])<|j9.fm.bl<|j9.fm.lex u ts hu (si hf) hl).b (aW 58 _ rfl rfl);have a:=cB.fm.lex _ _ cu vK a;have a:=(aq.so (s:=[63])<|cB.fm.bl a).b<|aW 63 _ rfl rfl;have a:=pe.fm.lex _ _ cu vK a;show aq (s++[32,63,32]++af++[32,58,32]++aH++u) _;exact a.cast zd
 ·obtain⟨d,rfl⟩:=iA (aG (show 7<=N+50 by exact ia rfl) hd);have cR:=pe.ks.b pe.le d x (.pt [63]) (aD::aM (.pt [58]::bM::cm (t'::ab))) 1 _ _ _ (jx (b:=0) hd) hx pe.le (bI.le (a:=3) (bI.pt (by cases b<;>ext)) (by have:=pe.le;lia))<|lA.stop (d:=d+8) (j0 hd) (bI.pt (c:=true) (n:=3)).m λq=>absurd (show(1:Nat)<=ew (!b) (.pt [63]) from Int.ofNat_le.mp q) (by rw[p63];decide);have ck:=cB.ks.k1 cB.le d x (.pt [58]) (bM::cm (t'::ab)) (jx (b:=0) hd) hx bI.pt;have B6:=j9.ks.k1 j9.le d x t' ab (jx (b:=0) hd) hx hs;exact ZO (d:=d+16) (ak:=(aD,aM<|.pt [58]::bM::cm (t'::ab))) (aC:=(bM,cm<|t'::ab)) (j0 hd) (cR.mono ja) ck B6
def RU(a:Sp N 66 [nd k ps,.int 15,.bool b] [] (.str s) [])(aK:Sp N 66 [nd ay aw,.int 1,.bool b] [] (.str af) [])(hl:(qy s op af).length<=ae):Sp (N+3) 67 [nd wv [.str op,nd k ps,nd ay aw],.bool b] [] (.str<|qy s op af) []:=
 have h1:=bw hl;have h2:=bw h1
 sq (wk 2<|.q a<|.p (bw h2)<|.p h2<|.p h1<|.q aK<|.p hl .nil)
def SO(hN:22<=N)(hB:4*B+200<=ae)(o:Va S N B k ps L hc aX)(g:Tg k ps)(d8:Va S N B ay aw eD d7 eM)(h:op∈tz):Va S (N+50) (4*B+200) wv [.str op,nd k ps,nd ay aw] 1 false false:=by
 have e:=cp (show tz.all (λop=>mH op (op++[32])&&Nat.ble op.length 20&&rN (.pt op)&&ni (.pt op)&&(dD CL op&&Nat.ble (ext true<|.pt op) 2)&&(dD CL op&&Nat.ble (ext false<|.pt op) 2)&& !sg (.pt op) [63]&& !Nat.beq (dL op) 32&& !op.isEmpty&&Nat.beq (ew true<|.pt op) 0&&Nat.beq (ew false<|.pt op) 0)=true by ext) op h;simp only[cS,dg] at e;obtain⟨⟨⟨⟨⟨⟨⟨⟨⟨⟨e1,e2⟩,e3⟩,e4⟩,m,e5⟩,_,e6⟩,e7⟩,e8⟩,e9⟩,JK⟩,Kd⟩:=e;have st:∀c,bI c (.pt op) 2:=λc=>by cases c<;>exact bI.pt<|Bool.and_eq_true_iff.mpr ⟨m,by assumption⟩
 have p0:∀c,ew c (.pt op)=0:=λc=>by cases c<;>exact fy<|by assumption
 have bl:∀{u ts},aq (op++u) (.pt op::ts)->aq (32::(op++u)) (.pt op::ts):=λ{u ts} l=>by
  refine l.b ?_;cases g:op with
  |nil=>rw[g] at e9;exact nk e9
  |cons c s=>rw[g] at e8;exact aW c (s++u) rfl e8
 refine Va.weak (jj hN) (by ext) (by ext) (pP (wv,1)<|by ext) λb=>?_;refine o.pe hN (jl hB) 15 (by ext) b _ λs t r L' dot dB pe hd hm=>?_;refine d8.pe hN (jl hB) 1 (by ext) b _ λaf aD aM qO mu qJ cB sY my=>?_;have ln:=(((((Ln.sub pe.l).app<|Ln.lit (s:=[32]) (m:=1) rfl).app<|Ln.le<|ia e2).app<|Ln.lit (s:=[32]) (m:=1) rfl).app<|Ln.sub cB.l).fin rfl;refine jE (qy s op af) t (λts=>r<|.pt op::aD::aM ts) ((RU pe.sh cB.sh<|aG ln hB).mono<|@ja _ 23 50 rfl) ln (pe.fm.ext (aD:=.pt op) (aM:=λts=>aD::aM ts) (nT pe.fm.f) e4 (show s++[32]++op++[32]++af=s++([32]++(op++([32]++af))) by simp only[bz]) λu ts hu hf hl=>?_)<|Ks.of1 (jj hN) λd x t' ab hd hx hs=>?_
 ·have a:=pe.fm.lex _ _ cu vK (bl<|aq.sp e1<|cB.fm.bl<|cB.fm.lex u ts hu (si hf) hl);show aq (s++[32]++op++[32]++af++u) _;exact a.cast zd
 ·obtain⟨d,rfl⟩:=iA (aG (show 2<=N+50 by exact ia rfl) hd);have s2:=st<|!b;have cR:=pe.ks.b (aG (by ext) pe.le) d x (.pt op) (aD::aM (t'::ab)) 1 _ _ _ (jx (b:=0) hd) hx (aG (by ext) pe.le) (s2.le (by have:=pe.le;lia))<|lA.stop (d:=d+8) (j0 hd) s2.m λq=>absurd (show(1:Nat)<=ew (!b) (.pt op) from Int.ofNat_le.mp q) (by rw[p0];decide);exact asA (d:=d+16) (ak:=(aD,aM<|t'::ab)) (j0 hd) g e3 ((KR (j0 hd) cR e7).mono<|@ja _ 14 16 rfl)<|cB.ks.k1 cB.le d x t' ab (jx (b:=0) hd) hx hs
def OQ(a:Sp N 66 [nd k ps,.int 1,.bool b] [] (.str s) [])(aK:Sp N 66 [nd ay aw,.int 1,.bool b] [] (.str af) [])(hl:(s++[44,32]++af).length<=ae):Sp (N+3) 67 [nd oz [.lst [nd k ps,nd ay aw]],.bool b] [] (.str<|s++[44,32]++af) []:=sq (wk 2<|.q a<|.q aK<|.p hl .nil)
def PJ(a:Sp N 66 [nd k ps,.int 1,.bool b] [] (.str s) [])(aK:Sp N 66 [nd ay aw,.int 1,.bool b] [] (.str af) [])(bq:Sp N 66 [nd ba bo,.int 1,.bool b] [] (.str aH) [])(hl:(s++[44,32]++(af++[44,32]++aH)).length<=ae):Sp (N+3) 67 [nd oz [.lst [nd k ps,nd ay aw,nd ba bo]],.bool b] [] (.str<|s++[44,32]++(af++[44,32]++aH)) []:=sq (wk 2<|.q a<|.q aK<|.q bq<|.p hl .nil)
def Qg(hN:22<=N)(hB:4*B+200<=ae)(o:Va S N B k ps L hc aX)(d8:Va S N B ay aw eD d7 eM):Va S (N+50) (4*B+200) oz [.lst [nd k ps,nd ay aw]] 0 false false:=by
 refine Va.weak (jj hN) (by ext) (by ext) (pP (oz,0)<|by ext) λb=>?_;refine o.pe hN (jl hB) 1 (by ext) b _ λs t r L' dot dB pe hd hm=>?_;refine d8.pe hN (jl hB) 1 (by ext) b _ λaf aD aM qO mu qJ cB sY my=>?_;have ln:=(((Ln.sub pe.l).app<|Ln.lit (s:=[44,32]) (m:=2) rfl).app<|Ln.sub cB.l).fin rfl;refine jE _ t (λts=>r<|.pt [44]::aD::aM ts) ((OQ pe.sh cB.sh<|aG ln hB).mono<|@ja _ 23 50 rfl) ln (pe.fm.ext (aD:=.pt [44]) (aM:=λts=>aD::aM ts) (nT pe.fm.f) rfl (bz ..) λu ts hu hf hl=>?_)<|Ks.of0 λd x t' ab hd hx hs=>?_
 ·have a:=aq.so (s:=[44]) (cB.fm.bl<|cB.fm.lex u ts hu (si hf) hl);have a:=pe.fm.lex _ _ cu (by cases dot<;>rfl) a;exact a.cast iS
 ·obtain⟨d,rfl⟩:=iA (aG (show 2<=N+50 by exact ia rfl) hd);have cR:=pe.ks.k1 pe.le d x (.pt [44]) (aD::aM (t'::ab)) (jx (b:=0) hd) hx<|bI.pt (by cases b<;>ext);exact Yy (d:=d+16) (ak:=(aD,aM<|t'::ab)) (j0 hd) cR (cB.ks.k1 cB.le d x t' ab (jx (b:=0) hd) hx<|hs.le<|by ext)<|hs.f.1<|aV 0
def PI(hN:22<=N)(hB:4*B+200<=ae)(o:Va S N B k ps L hc aX)(d8:Va S N B ay aw eD d7 eM)(pH:Va S N B ba bo tI sN sI):Va S (N+50) (4*B+200) oz [.lst [nd k ps,nd ay aw,nd ba bo]] 0 false false:=by
 refine Va.weak (jj hN) (by ext) (by ext) (pP (oz,0)<|by ext) λb=>?_;refine o.pe hN (jl hB) 1 (by ext) b _ λs t r L' dot dB pe hd hm=>?_;refine d8.pe hN (jl hB) 1 (by ext) b _ λaf aD aM qO mu qJ cB sY my=>?_;refine pH.pe hN (jl hB) 1 (by ext) b _ λaH bM cm WC RG Sb j9 WX Xg=>?_;have ln:=(((Ln.sub pe.l).app<|Ln.lit (s:=[44,32]) (m:=2) rfl).app<|((Ln.sub cB.l).app<|Ln.lit (s:=[44,32]) (m:=2) rfl).app<|Ln.sub j9.l).fin rfl;refine jE _ t (λts=>r<|.pt [44]::aD::aM (.pt [44]::bM::cm ts)) ((PJ pe.sh cB.sh j9.sh<|aG ln hB).mono<|@ja _ 23 50 rfl) ln (pe.fm.ext (aD:=.pt [44]) (aM:=λts=>aD::aM (.pt [44]::bM::cm ts)) (nT pe.fm.f) rfl (bz ..) λu ts hu hf hl=>?_)<|Ks.of0 λd x t' ab hd hx hs=>?_
 ·have a:=aq.so (s:=[44]) (j9.fm.bl<|j9.fm.lex u ts hu (si hf) hl);have a:=cB.fm.lex _ _ cu (by cases mu<;>rfl) a;have a:=aq.so (s:=[44])<|cB.fm.bl a;have a:=pe.fm.lex _ _ cu (by cases dot<;>rfl) a;simp only[bz];exact a
 ·obtain⟨d,rfl⟩:=iA (aG (show 2<=N+50 by exact ia rfl) hd);have cR:=pe.ks.k1 pe.le d x (.pt [44]) (aD::aM (.pt [44]::bM::cm (t'::ab))) (jx (b:=0) hd) hx<|bI.pt (by cases b<;>ext);have ck:=cB.ks.k1 cB.le d x (.pt [44]) (bM::cm (t'::ab)) (jx (b:=0) hd) hx<|bI.pt (by cases b<;>ext);exact XS (d:=d+16) (ak:=(aD,aM<|.pt [44]::bM::cm (t'::ab))) (aC:=(bM,cm<|t'::ab)) (j0 hd) cR ck (j9.ks.k1 j9.le d x t' ab (jx (b:=0) hd) hx<|hs.le<|by ext)<|hs.f.1<|aV 0
abbrev It:=List Nat×List V×List Nat
def f5:Option It->V
 |none=>.none
 |some a=>nd a.1 a.2.1
noncomputable def ug:Option It->List Nat
 |none=>[]
 |some a=>a.2.2
noncomputable def yy:List (Option It)->List Nat
 |[]=>[]
 |a::r=>match r with
  |[]=>(match a with|none=>[44]|some _=>[])
  |_::_=>yy r
def C2:List (Option It)->List An
 |[]=>[]
 |none::r=>C2 r
 |some a::r=>ca 66 (.str a.2.2) []::C2 r
def oK(N:Nat):List (Option It)->Prop->Prop
 |[],P=>P
 |none::r,P=>oK N r P
 |some a::r,P=>oK N r<|Sp N 66 [nd a.1 a.2.1,.int 1,.bool false] [] (.str a.2.2) []/\P
def rY(l:List<|Option It):List Nat:=[91]++cf [44,32] (l.map ug)++yy l++[93]
noncomputable def zw(a b c:It):List<|List<|Option It:=[[],[some a],[some a,some b],[some a,some b,some c],[none],[none,some a],[some a,none],[some a,none,some b],[some a,some b,none],[some a,some b,none,some c]]
def Rj(h:l∈zw bv aK bq)(hl:(rY l).length<=ae)(h4:(l.map f5).length<=ae)(hp:oK N l True):Sp (N+2) 68 [.lst<|l.map f5] [] (.str<|rY l) []:=
 have h1:=bw hl;have h2:=bw h1
 gP (L:=zw bv aK bq) (d:=N) (n:=1) (as:=λl=>[.lst<|l.map f5]) (c:=λ_=>[]) (c':=λ_=>[]) (sc:=C2) (v:=λl=>.str<|rY l)
  (P:=λl=>(rY l).length<=ae/\([91]++cf [44,32] (l.map ug)++yy l).length<=ae/\([91]++cf [44,32] (l.map ug)).length<=ae/\(cf [44,32]<|l.map ug).length<=ae/\(l.map f5).length<=ae/\oK N l True) (by ext) l h ⟨hl,h1,h2,iD h2,h4,hp⟩
structure Ac(S:Bool)(N B:Nat)(l:List<|Option It)(w:List Nat)(q:List Tk->Ts):Prop where
 e:cf [44,32] (l.map ug)++(yy l++[93])=w
 lex:∀u ts,aq u ts->aq (w++u) ((q ts).1::(q ts).2)
 c:∃c w',w=c::w'/\Nat.beq c 32=false
 p:oK N l True
 lp:∀d x t' ab ys,N<=d->Cy S x->ys.length+l.length<ae->gD x (d+20) ys (q<|t'::ab) (ys++l.map f5) (.pt [93],t'::ab)
 l:w.length<=l.length*(B+4)+2
def Ae:∀{l:List<|Option It} {P Q:Prop},(P->Q)->oK N l P->oK N l Q
 |[],_,_,f,h=>f h
 |none::r,_,_,f,h=>Ae (l:=r) f h
 |some a::r,_,_,f,h=>Ae (l:=r) (λp=>⟨p.1,f p.2⟩) h
def OJ(h:Sp N 66 [nd a.1 a.2.1,.int 1,.bool false] [] (.str a.2.2) [])(p:oK N l True):oK N (some a::l) True:=Ae (l:=l) (λt=>⟨h,t⟩) p
def RL(hN:22<=N):Ac S N B [] [93] λts=>(.pt [93],ts):={
 e:=rfl
 lex:=λu ts h=>aq.so (s:=[93]) h
 c:=aW 93 [] rfl rfl
 p:=trivial
 lp:=λd x t' ab ys hd _ _=>by rw[List.map_nil,List.append_nil];exact eF.mono (j7 hN hd)<|gD.stop
 l:=by show 1<=_;exact Nat.succ_pos _}
def zS(hN:22<=N):Ac S N B [none] [44,93] λts=>(.pt [44],.pt [93]::ts):={
 e:=rfl
 lex:=λu ts h=>aq.so (s:=[44])<|aq.so (s:=[93]) h
 c:=aW 44 _ rfl rfl
 p:=trivial
 lp:=λd x t' ab ys hd hx hl=>gD.hole (d:=d+16) (q:=(.pt [93],t'::ab)) (j7 hN hd) (eP (bh _ _) hl)<|eF.mono (j7 (c:=20) hN hd)<|gD.stop
 l:=by show 2<=_;exact ia rfl}
def Ah(hN:22<=N)(h:Ac S N B (a::l) w q):Ac S N B (none::a::l) (44::32::w) λts=>(.pt [44],(q ts).1::(q ts).2):={
 e:=congrArg (λz=>44::32::z) h.e
 lex:=λu ts hl=>aq.so (s:=[44])<|(h.lex u ts hl).b (by refine bJ h.c λc w' q1 e=>?_;exact zc q1<|(aW c (w'++u) rfl e))
 c:=aW 44 _ rfl rfl
 p:=h.p
 lp:=λd x t' ab ys hd hx hl=>gD.hole (d:=d+16) (j7 hN hd) (eP (bh _ _) hl) (by have:=h.lp d x t' ab (ys++[.none]) hd hx (by rw[bO];simp only[ec,List.length_nil] at hl⊢;lia);rw[bz] at this;exact this)
 l:=by have:=h.l;simp only[ec] at this⊢;rw[Nat.add_mul];lia}
def sx(hN:22<=N)(pe:Pe S N (B+2) k ps 1 false s t r L dot hc):Ac S N B [some (k,ps,s)] (s++[93]) λts=>(t,r<|.pt [93]::ts):={
 e:=rfl
 lex:=λu ts hl=>by have a:=pe.fm.lex (93::u) (.pt [93]::ts) cu (by cases dot<;>rfl)<|aq.so (s:=[93]) hl;exact a.cast wb
 c:=by refine bJ pe.fm.c λc s' q2 m=>?_;exact zc q2<|aW c _ rfl<|xL m
 p:=⟨pe.sh,trivial⟩
 lp:=λd x t' ab ys hd hx hl=>by have f:=eR pe.fm.f;exact gD.last (d:=d+16) (q:=(t,r<|.pt [93]::t'::ab)) (j7 hN hd) (eP (bh _ _) hl) f.2.1 f.2.2.1 (pe.ks.k1 pe.le d x (.pt [93]) (t'::ab) hd hx bI.pt)<|eF.mono (j7 (c:=20) hN hd)<|gD.stop
 l:=by have:=pe.l;simp only[bO,ec,List.length_nil];lia}
def nS(hN:22<=N)(pe:Pe S N (B+2) k ps 1 false s t r L dot hc)(h:Ac S N B (a::l) w q):Ac S N B (some (k,ps,s)::a::l) (s++44::32::w) λts=>(t,r<|.pt [44]::(q ts).1::(q ts).2):={
 e:=by rw[<-h.e];show(s++[44,32]++cf [44,32] ((a::l).map ug))++_=_;rw[bz,bz];rfl
 lex:=λu ts hl=>by have a:=pe.fm.lex _ _ cu (by cases dot<;>rfl)<|aq.so (s:=[44])<|(h.lex u ts hl).b (by refine bJ h.c λc w' q3 e=>?_;exact zc q3<|(aW c (w'++u) rfl e));exact a.cast wb
 c:=by refine bJ pe.fm.c λc s' q4 m=>?_;exact zc q4<|aW c _ rfl<|xL m
 p:=OJ pe.sh h.p
 lp:=λd x t' ab ys hd hx hl=>by have f:=eR pe.fm.f;refine gD.more (d:=d+16) (q:=(t,r<|.pt [44]::(q<|t'::ab).1::(q<|t'::ab).2)) (aC:=q<|t'::ab) (j7 hN hd) (eP (bh _ _) hl) f.2.1 f.2.2.1 (pe.ks.k1 pe.le d x (.pt [44]) _ hd hx bI.pt) ?_;have:=h.lp d x t' ab (ys++[nd k ps]) hd hx (by rw[bO];simp only[ec,List.length_nil] at hl⊢;lia);rw[bz] at this;exact this
 l:=by have:=h.l;have:=pe.l;simp only[bO,ec] at*;rw[Nat.add_mul (l.length+1) 1];lia}
def mw(hN:22<=N)(hB:4*B+200<=ae)(h:l∈zw bv aK bq)(a:Ac S (N+20) B l w q):Va S (N+50) (4*B+200) vx [.lst<|l.map f5] 16 false false:=by
 have h4:l.length<=4:=by have:=cp (show(zw bv aK bq).all (λl=>Nat.ble l.length 4)=true by ext) l h;exact ia this
 have ej:rY l=91::w:=by rw[<-a.e];show [91]++_++_++_=_;rw[bz,bz];rfl
 have ln:(rY l).length<=4*B+200:=by rw[ej,ec];have:=a.l;have:=Nat.mul_le_mul_right (B+4) h4;lia
 have pr:=Rj h (aG ln hB) (by rw[List.length_map];exact aG h4<|a6 (n:=4)) a.p;refine Va.leaf (s:=rY l) (t:=.pt [91]) (r:=λts=>(q ts).1::(q ts).2) (jj hN) (by ext) (λb=>?_) ln ⟨λu ts hu _ hl=>?_,rfl,?_,λu=>?_,λe=>by exact nj e⟩ rfl λd x t' ab hd hx=>?_
 ·cases b<;>exact(sq<|wk 1<|.q pr .nil).mono (show N+20+2+2<=N+50 by exact @ja _ 24 50 rfl)
 ·rw[ej];exact aq.so (s:=[91])<|a.lex u ts hl
 ·rw[ej];exact aW 91 w rfl<|by ext
 ·rw[ej];exact⟨rfl,rfl⟩
 ·obtain⟨d,rfl⟩:=iA (aG (show 25<=N+50 by exact ia rfl) hd);have p:=a.lp d x t' ab [] (jx (b:=0) hd) hx (by rw[List.length_nil,Nat.zero_add];exact eP h4<|bF (n:=4));exact(prA<|Zl (d:=d+16) (j0 hd) p).mono<|@ja _ 25 28 rfl
structure Gc where
 S:Bool
 nl:Nat
 ret:Bool
 lp:Bool
 br:Bool
structure Cr(g:Gc)(x:Px):Prop where
 s:x.s=g.S
 l:x.fl.length=g.nl
 d:g.ret=true->bA x.d 0=false
 lp:g.lp=true->bQ 0 x.l=true
 br:g.br=true->bQ 0 (x.l+x.w)=true
 p:0<=x.d/\0<=x.l/\0<=x.w
def Pok(nl:Nat)(aR:List V):Prop:=aR=[]\/(nl=1/\aR=[.ptr 4])\/nl=2
def kj(t:Tk):Bool:= !sg t [125]&& !lq t.k xR&& !wd t mC&& !wd t mP&& !wd t mJ&& !wd t iH&& !wd t k6
def gU(t:Tk):Bool:=wd t mC||wd t iH
structure Rw(N B:Nat)(g:Gc)(el:Bool)(k:List Nat)(ps:List V)(s:List Nat)(t:Tk)(r:Rr):Prop where
 pr:Sp N 80 [nd k ps] [] (.str s) []
 l:s.length<=B
 lex:∀u ts,aq u ts->aq (s++u) (t::r ts)
 c:∃c s',s=c::s'/\Nat.beq c 32=false
 f:kj t=true/\wd t er=false
 pa:∀x aR t' ab,Cr g x->Pok g.nl aR->(el&&gU t')=false->∃mn,mn.length=x.fl.length/\(aR=[]\/g.nl=2->mn=x.fl)/\Pz N 7136 [] (x,aR,t,r<|t'::ab) (nd k ps) (xf x mn,[],t',ab)
def Cr.cy(h:Cr g x)(hl:g.nl<=3):Cy g.S x:=⟨h.s,h.l▸hl,h.p.1⟩
def Rw.mk'(pr:Sp N 80 [nd k ps] [] (.str s) [])(l:s.length<=B)(lex:∀u ts,aq u ts->aq (s++u) (t::r ts))(c:∃c s',s=c::s'/\Nat.beq c 32=false)(f:(kj t&& !wd t er))(pa:∀x aR t' ab,Cr g x->(el&&gU t')=false->Pz N 7136 [] (x,aR,t,r<|t'::ab) (nd k ps) (x,[],t',ab)):Rw N B g el k ps s t r:=⟨pr,l,lex,c,⟨(cK f).1,by rw[<-dg];exact(cK f).2⟩,λx aR t' ab hx _ he=>(fA x.fl rfl (λ_=>rfl)<|pa x aR t' ab hx he)⟩
def TN(hN:24<=N)(hB:1<=B):Rw N B g false CJ [] [59] (.pt [59]) λts=>ts:=Rw.mk' ((sq<|wk 2 .nil (d:=10)).mono (show 13<=N by exact jc hN rfl)) hB (λu ts h=>aq.so (s:=[59]) h) (aW 59 [] rfl rfl) (by ext) λx aR t' ab _ _=>(stE).mono hN
def xe(h:dD iw q)(l:aq u ts):aq (q++[59]++u)<|.kw q::.pt [59]::ts:=by rw[bz];exact aq.kw (hZ h) cu<|aq.so (s:=[59]) l
def Ue(hN:28<=N)(hB:20<=B):Rw N B g false BR [] (xP++[59]) (.kw xP) λts=>.pt [59]::ts:=Rw.mk' ((sq<|wk 2 (.p (a6 (n:=9)) .nil) (d:=10)).mono (show 13<=N by exact jc hN rfl)) (aG (by ext) hB) (λu ts h=>xe (by ext) h) (aW 100 _ rfl rfl) (by ext) λx aR t' ab _ _=>(hU<|V9).mono<|Nat.le_of_lt hN
def SR(hN:28<=N)(hB:20<=B)(h:g.br):Rw N B g false u8 [.none] (kg++[59]) (.kw kg) λts=>.pt [59]::ts:=Rw.mk' ((sq<|wk 2 (.p (a6 (n:=6)) .nil) (d:=10)).mono (show 13<=N by exact jc hN rfl)) (aG (by ext) hB) (λu ts h=>xe (by ext) h) (aW 98 _ rfl rfl) (by ext) λx aR t' ab hx _=>(hU<|brN<|hx.br h).mono hN
def S0(hN:28<=N)(hB:20<=B)(h:g.lp):Rw N B g false Ih [.none] (yo++[59]) (.kw yo) λts=>.pt [59]::ts:=Rw.mk' ((sq<|wk 2 (.p (a6 (n:=9)) .nil) (d:=10)).mono (show 13<=N by exact jc hN rfl)) (aG (by ext) hB) (λu ts h=>xe (by ext) h) (aW 99 _ rfl rfl) (by ext) λx aR t' ab hx _=>(hU<|cnN<|hx.lp h).mono hN
def Uo(hN:28<=N)(hB:20<=B)(h:g.ret):Rw N B g false rc [.none] (mD++[59]) (.kw mD) λts=>.pt [59]::ts:=Rw.mk' ((sq<|wk 2 (.p (a6 (n:=7)) .nil) (d:=10)).mono (show 13<=N by exact jc hN rfl)) (aG (by ext) hB) (λu ts h=>xe (by ext) h) (aW 114 _ rfl rfl) (by ext) λx aR t' ab hx _=>(hU<|leN<|hx.d h).mono hN
def RS(h:fS p t):lq t.k xR=false:=by
 induction t with
 |en=>exact nj h
 |_=>rfl
def RT(h:k=rc\/k=ve)(w:List Nat)(e:(k=rc->w=mD)/\(k=ve->w=tN))(a:Sp N 66 [nd ay aw,.int 0,.bool false] [] (.str s) [])(hl:(w++[32]++s++[59]).length<=ae):Sp (N+3) 80 [nd k [nd ay aw]] [] (.str<|w++[32]++s++[59]) []:=by
 have h1:=bw hl;rcases h with rfl|rfl
 ·rw[e.1 rfl] at hl h1⊢;exact sq<|wk 2<|.p (bw h1)<|.q a<|.p h1<|.p hl .nil
 ·rw[e.2 rfl] at hl h1⊢;exact sq<|wk 2<|.p (bw h1)<|.q a<|.p h1<|.p hl .nil
structure Ke(S:Bool)(N B:Nat)(k:List Nat)(ps:List V)(s:List Nat)(t:Tk)(r:Rr):Prop where
 sh:Sp N 66 [nd k ps,.int 0,.bool false] [] (.str s) []
 l:s.length<=B+2
 lex:∀(c:Nat) u ts,(cQ.any λx=>bA x c)=true->Nat.beq c 46=false->aq (c::u) ts->aq (s++c::u) (t::r ts)
 bl:∀{u ts},aq (s++u) (t::ts)->aq (32::(s++u)) (t::ts)
 f:fS false t=true
 bad:c9 [123] s=sg t [123]/\c9 n5 s=wd t er
 n2:lL t=true->∀t' ts,ni t'=true->∃aD mx,r (t'::ts)=aD::mx/\ni aD=true
 c:∃c s',s=c::s'/\Nat.beq c 32=false
 pa:∀x t' ab,Cy S x->bI true t' 0->Pa x (N+18) 2133 [.bool true] (t,r<|t'::ab) (nd k ps) (t',ab)
def wi(h:Nat.beq c 46=false):pA dot<|c::u:=by refine Bool.or_eq_true_iff.mpr<|.inr ?_;rw[show hd (c::u)=(c:Int) from rfl,dg];refine Bool.eq_false_iff.mpr λe=>?_;have e:(c:Int)=((46:Nat):Int):=(Z.eqB_iff _ _).mp e;rw[Int.ofNat.inj e] at h;exact nk h
def Vq.ke(o:Va S N B k ps L hc aX)(q:Vq S N B k ps L d7 false s t r):Ke S (N+2) B k ps s t r:=by
 refine⟨(Ip (le:=0) o.st o.i q.pr (A6<|by lia) rfl).mono ja,Nat.le_add_right_of_le q.l,λc u ts h1 h2 hl=>q.fm.lex _ _ (cu h1) (wi h2) hl,λl=>q.fm.bl l,nT q.fm.f,?_,q.fm.n2,?_,λx t' ab hx hs=>(q.ks.k0 N x t' ab (aV _) hx hs).mono<|@ja _ 18 20 rfl⟩
 ·have:=q.fm.bad [];rw[List.append_nil] at this;exact this
 ·refine bJ q.fm.c λc s' q1 m=>?_;refine zc q1 ?_;exact aW c s' rfl<|xL m
def Va.ke(hN:22<=N)(hB:4*B+200<=ae)(o:Va S N B k ps L hc aX)(J:Prop)(ko:∀s t r,Ke S (N+2) B k ps s t r->J):J:=by exact m5 (o.pr false rfl) λs t r q=>ko s t r<|q.ke o
def G0(hN:22<=N)(hl:g.nl<=3)(hB:4*B+200<=ae)(h:k=rc\/k=ve)(w:List Nat)(e:(k=rc->w=mD/\g.ret=true)/\(k=ve->w=tN))(o:Ke g.S N B ay aw s t r):Rw (N+50) (4*B+200) g false k [nd ay aw] (w++[32]++s++[59]) (.kw w) λts=>t::r (.pt [59]::ts):=by
 have hw:w=mD\/w=tN:=by
  rcases h with rfl|rfl
  ·exact .inl (e.1 rfl).1
  ·exact .inr<|e.2 rfl
 have ln:(w++[32]++s++[59]).length<=4*B+200:=by refine((((Ln.le (m:=6) ?_).app<|Ln.lit (s:=[32]) (m:=1) rfl).app<|Ln.sub o.l).app<|Ln.lit (s:=[59]) (m:=1) rfl).fin rfl;rcases hw with rfl|rfl<;>decide
 have hk:dD iw w=true/\(kj (.kw w)&& !wd (.kw w) er)=true/\∃c s',w=c::s'/\Nat.beq c 32=false:=by
  rcases hw with rfl|rfl
  ·exact rx (by ext) (by ext)<|aW 114 _ rfl rfl
  ·exact rx (by ext) (by ext)<|aW 116 _ rfl rfl
 refine Rw.mk' ((RT h w ⟨λq=>(e.1 q).1,e.2⟩ o.sh<|aG ln hB).mono ja) ln (λu ts hl=>?_) (by exact bJ hk.2.2 λc s' da bj=>(aW c (s'++[32]++s++[59]) (by rw[da];rfl) bj)) hk.2.1 λx aR t' ab hx _=>?_
 ·have a:=o.lex 59 u (.pt [59]::ts) (by ext) rfl (aq.so (s:=[59]) hl);have a:=aq.kw (hZ hk.1) cu<|o.bl a;exact a.cast ul
 ·have p:=o.pa x (.pt [59]) (t'::ab) (hx.cy hl) bI.pt;have f:=eR o.f;rcases h with rfl|rfl
  ·obtain⟨rfl,hr⟩:=e.1 rfl;exact(hU<|leV (q:=(t,r<|.pt [59]::t'::ab)) (q':=(t',ab)) (jj hN) (hx.d hr) ((XG f.2.2.2.2 f.2.2.2.1<|RS o.f).mono<|jb hN) p).mono<|@ja _ 26 50 rfl
  ·exact zc (e.2 rfl)<|(hU<|thV (q:=(t,r<|.pt [59]::t'::ab)) (q':=(t',ab)) (jb hN) p).mono<|@ja _ 26 50 rfl
section
variable{d N B L:Nat}{g:Gc}{k z:List Nat}{ps as:List V}{b c hc aX p:Bool}{t t' aD o:Tk}{ts tl:List Tk}{q':Ts}{r:Rr}{x x':Px}{s u:List Nat}{aR:List V}
def bbS:Sp 10 63 [.str s] [] (.bool<|c9 [123] s||c9 n5 s) []:=by
 cases e:c9 [123] s with
 |true=>exact go (d:=8) (n:=1) (sc:=[.br 0 true]) (c1 e)<|by ext
 |false=>exact go (d:=8) (n:=1) (sc:=[.br 0 false]) (c1 e)<|by ext
def GQ(hN:10<=N)(a:Sp N 66 [nd k ps,.int 0,.bool false] [] (.str s) [])(hl:([40]++s++[41]++[59]).length<=ae):Sp (N+2) 80 [nd di [nd k ps]] [] (.str<|bif c9 [123] s||c9 n5 s then [40]++s++[41]++[59] else s++[59]) []:=by
 have b:=(bbS (s:=s)).mono hN;have h1:=bw hl;cases e:c9 [123] s||c9 n5 s with
 |true=>rw[e] at b;exact sq<|wk 1<|.q a<|.q b<|.p (bw h1)<|.p h1<|.p hl .nil
 |false=>rw[e] at b;exact sq<|wk 1<|.q a<|.q b<|.p (show(s++[59]).length<=ae by simp only[bO,ec,List.length_nil] at hl⊢;lia) .nil
def Ys(hd:20<=d)(h:Pz d 8136 [] (x,[],.nm s p,.kw u::ts) (nd z ps) (x',[],q')):Pz (d+4) 7136 [] (x,aR,.nm s p,.kw u::ts) (nd z ps) (x',[],q'):=wk 3 (.x (x,[],.nm s p,.kw u::ts)<|.c (xt hd)<|.c h .nil)
def BE(h:fS false<|.kw s)(h':wd (.kw s) er=false):s∈tm:=by
 have h:dD ([[116,104,105,115],[110,117,108,108],[116,114,117,101],[102,97,108,115,101],er,mF]++[[116,121,112,101,111,102],[118,111,105,100],[100,101,108,101,116,101]]) s:=by unfold dD;rw[List.any_append];exact h
 have:=uB (f:=λs=>lq s er||dD tm s) h<|by ext
 rw[show lq s er=false from h',Bool.false_or] at this;exact hZ this
def GB(hd:20<=d)(f:fS false t)(da:sg t [123]=false)(bj:wd t er=false)(n2:lL t=true->∃aD mx,tl=aD::mx/\ni aD=true)(h:Pz d 8136 [] (x,[],t,tl) (nd z ps) (x',[],q')):Pz (d+4) 7136 [] (x,aR,t,tl) (nd z ps) (x',[],q'):=by
 induction t with
 |pt s=>exact(Yr hd da (eR f).2.2.2.2 h).mono ja
 |kw s=>exact hU<|woX (BE f bj) h
 |nu i=>exact stI h
 |tx s p=>exact ZN h
 |en=>exact nj f
 |nm s p=>
  refine bJ (n2 rfl) λaD mx q3 o=>?_;subst q3;clear n2;induction aD with
  |pt u=>exact ZD hd (by rw[<-dg];exact o) h
  |kw u=>exact Ys hd h
  |_=>exact nj o
def OO(h:fS false t)(da:sg t [123]=false)(bj:wd t er=false):(kj t&& !wd t er):=by
 rw[bj];clear da;induction t with
 |pt s=>have:=(eR h).2.2.2.1;unfold kj;rw[this];rfl
 |kw s=>exact cp (show tm.all (λs=>kj (.kw s)&& !false)=true by ext) s<|BE h bj
 |en=>exact nj h
 |_=>rfl
def Ax(e:Ke g.S N B k ps s t r):([40]++s++[41]++[59]).length<=4*B+200:=((((Ln.lit (B:=B) (s:=[40]) (m:=1) rfl).app<|Ln.sub e.l).app<|Ln.lit (s:=[41]) (m:=1) rfl).app<|Ln.lit (s:=[59]) (m:=1) rfl).fin rfl
def G1(hN:22<=N)(hl:g.nl<=3)(hB:4*B+200<=ae)(e:Ke g.S N B k ps s t r)(q1:sg t [123]=false)(q2:wd t er=false):Rw (N+50) (4*B+200) g false di [nd k ps] (s++[59]) t λts=>r<|.pt [59]::ts:=by have pr:=GQ (jc hN) e.sh<|aG (Ax e) hB;rw[e.bad.1,e.bad.2,q1,q2] at pr;refine Rw.mk' (pr.mono ja) (((Ln.sub e.l).app<|Ln.lit (s:=[59]) (m:=1) rfl).fin rfl) (λu ts hl=>by rw[bz];exact e.lex 59 u (.pt [59]::ts) (by ext) rfl<|aq.so (s:=[59]) hl) (by exact bJ e.c λc s' da bj=>(aW c (s'++[59]) (by rw[da];rfl) bj)) (OO e.f q1 q2) λx aR t' ab hx _=>?_;have p:=e.pa x (.pt [59]) (t'::ab) (hx.cy hl) bI.pt;exact(GB ia e.f q1 q2 (λn=>e.n2 n _ _ rfl)<|Kc (q:=(t,r<|.pt [59]::t'::ab)) (q':=(t',ab)) (jb hN) p).mono<|@ja _ 27 50 rfl
def GF(hN:22<=N)(hl:g.nl<=3)(e:Ke g.S N B k ps s t r)(x:Px)(aR:List V)(t':Tk)(ab:List Tk)(hx:Cr g x):Pz (N+50) 7136 [] (x,aR,.pt [40],t::r (.pt [41]::.pt [59]::t'::ab)) (nd di [nd k ps]) (x,[],t',ab):=by have k0:K0 g.S N k ps true t r:=λd x t' ab hd hx hs=>(e.pa x t' ab hx hs).mono<|ji hd;have p:=(AI (c:=true) hN k0).k0 (N+20) x (.pt [59]) (t'::ab) (aV _) (hx.cy hl) bI.pt;exact(GB ia rfl rfl rfl (λn=>by exact nj n)<|Kc (q:=(.pt [40],t::r (.pt [41]::.pt [59]::t'::ab))) (q':=(t',ab)) ia p).mono<|@ja _ 47 50 rfl
def FD(e:Ke g.S N B k ps s t r){u:List Nat}{ts:List Tk}(hl:aq u ts):aq ([40]++s++[41]++[59]++u)<|.pt [40]::t::r (.pt [41]::.pt [59]::ts):=by have a:=e.lex 41 (59::u) (.pt [41]::.pt [59]::ts) (by ext) rfl<|aq.so (s:=[41])<|aq.so (s:=[59]) hl;have a:=aq.so (s:=[40]) a;exact a.cast iS
def RC(hN:22<=N)(hl:g.nl<=3)(hB:4*B+200<=ae)(o:Va g.S N B k ps L hc aX):∃s t r,Rw (N+52) (4*B+200) g false di [nd k ps] s t r:=by
 refine o.ke hN hB _ λs t r e=>?_;cases q:sg t [123]||wd t er with
 |false=>obtain⟨q1,q2⟩:=Bool.or_eq_false_iff.mp q;exact gp _ _ _<|G1 (jj hN) hl hB e q1 q2
 |true=>have pr:=GQ (jb hN) e.sh<|aG (Ax e) hB;rw[e.bad.1,e.bad.2,q] at pr;exact gp _ (.pt [40]) (λts=>t::r (.pt [41]::.pt [59]::ts))<|Rw.mk' (pr.mono<|@ja _ 4 52 rfl) (Ax e) (λu ts hl=>FD e hl) (aW 40 _ rfl rfl) (by ext) λx aR t' ab hx _=>GF (jj hN) hl e x aR t' ab hx
end
abbrev Vp:=List Nat×Option It
def pY(a:Vp):V:=.tup [.str a.1,f5 a.2]
noncomputable def yX:Option It->List Nat
 |none=>[]
 |some a=>[32,61,32]++a.2.2
def lF(a:Vp):List Nat:=bU a.1++yX a.2
def D0:List Vp->List An
 |[]=>[]
 |a::r=>(match a.2 with
  |none=>ca 58 (.str<|bU a.1) []::D0 r
  |some z=>ca 66 (.str z.2.2) []::ca 58 (.str<|bU a.1) []::D0 r)
def CU(N:Nat)(b:Bool):Nat->List Vp->Prop->Prop
 |_,[],P=>P
 |i,a::r,P=>CU N b (i+1) r (i<ae/\(lF a).length<=ae/\Sp N 58 [.str a.1] [] (.str<|bU a.1) []/\(match a.2 with
  |none=>P
  |some z=>(yX a.2).length<=ae/\Sp N 66 [nd z.1 z.2.1,.int 1,.bool b] [] (.str z.2.2) []/\P))
def pU(l:List Vp):List Nat:=[118,97,114,32]++cf [44,32] (l.map lF)
noncomputable def yL(m n:List Nat)(a b:It):List<|List Vp:=[[(m,none)],[(m,some a)],[(m,none),(n,none)],[(m,none),(n,some b)],[(m,some a),(n,none)],[(m,some a),(n,some b)]]
def Gh(h:l∈yL m n bv aK)(hl:(pU l).length<=ae)(hp:CU N b 0 l True):Sp (N+2) 78 [.lst<|l.map pY,.bool b] [] (.str<|pU l) []:=
 gP (L:=yL m n bv aK) (d:=N) (n:=1) (as:=λl=>[.lst<|l.map pY,.bool b]) (c:=λ_=>[]) (c':=λ_=>[]) (sc:=D0) (v:=λl=>.str<|pU l)
  (P:=λl=>(pU l).length<=ae/\(cf [44,32]<|l.map lF).length<=ae/\CU N b 0 l True) (by ext) l h ⟨hl,iD hl,hp⟩
structure Vr(S:Bool)(N B:Nat)(xs:List V)(b:Bool)(s:List Nat)(t:Tk)(r:Rr):Prop where
 sh:Sp N 78 [.lst xs,.bool b] [] (.str s) []
 l:Ln B 2 60 s
 lex:∀(c:Nat) u ts,(cQ.any λx=>bA x c)=true->Nat.beq c 46=false->aq (c::u) ts->aq (s++c::u) (.kw fG::t::r ts)
 c:∃s',s=118::s'
 pa:∀x t' ab,Cy S x->bI (!b) t' 0->sg t' [61]=false->Pa x N 11136 [.bool<|!b] (t,r<|t'::ab) (.lst xs) (t',ab)
structure V1(S:Bool)(N B:Nat)(b:Bool)(a:Vp)(t:Tk)(r:Rr):Prop where
 l:Ln B 1 23<|lF a
 lex:∀(c:Nat) u ts,(cQ.any λx=>bA x c)=true->Nat.beq c 46=false->aq (c::u) ts->aq (lF a++c::u) (t::r ts)
 c:∃c s',lF a=c::s'/\Nat.beq c 32=false
 p:∀i P,i<ae->P->i<ae/\(lF a).length<=ae/\Sp N 58 [.str a.1] [] (.str<|bU a.1) []/\(match a.2 with
  |none=>P
  |some z=>(yX a.2).length<=ae/\Sp N 66 [nd z.1 z.2.1,.int 1,.bool b] [] (.str z.2.2) []/\P)
def CB(h:s∈cq):(bU s).length<=20/\∃c s',bU s=c::s'/\Nat.beq c 32=false:=by
 have e:=cp (show cq.all (λs=>Nat.ble (bU s).length 20&& !(bU s).isEmpty&& !Nat.beq (dL<|bU s) 32)=true by ext) s h;simp only[cS,dg] at e;obtain⟨⟨e1,e2⟩,e3⟩:=e;refine⟨ia e1,?_⟩;cases q:bU s with
 |nil=>rw[q] at e2;exact nk e2
 |cons c r=>rw[q] at e3;exact aW c r rfl e3
def vV(hN:10<=N)(hB:4*B+200<=ae)(h:s∈cq):V1 S N B b (s,none) (.nm s<|eY s) λts=>ts:=by
 obtain⟨h1,o1⟩:=CB h;refine bJ o1 λc s' e q=>?_;have el:lF (s,none)=bU s:=List.append_nil _;refine⟨?_,λc u ts m _ l=>?_,?_,λi P hi hp=>⟨hi,?_,(oN<|.tail _ h).mono hN,hp⟩⟩
 ·rw[el];unfold Ln;exact ju h1
 ·rw[el];exact aq.nm (.tail _ h) (cu m) l
 ·rw[el];exact aW c s' e q
 ·rw[el];exact ju h1
def v7(hN:10<=N)(hB:4*B+200<=ae)(h:s∈cq)(pe:Pe S N (B+2) k ps 1 b af t r L' dot hc):V1 S N B b (s,some (k,ps,af)) (.nm s<|eY s) λts=>.pt [61]::t::r ts:=by
 obtain⟨h1,o2⟩:=CB h;refine bJ o2 λc s' e q=>?_;have ln:(lF (s,some (k,ps,af))).length<=B+2+23:=by show(bU s++([32,61,32]++af)).length<=_;have:=pe.l;simp only[bO,ec,List.length_nil];lia
 refine⟨?_,λc u ts m n l=>?_,?_,λi P hi hp=>⟨hi,by lia,(oN<|.tail _ h).mono hN,?_,pe.sh,hp⟩⟩
 ·unfold Ln;lia
 ·have a:=pe.fm.lex _ _ (cu m) (wi n) l;have a:=(aq.sp (s:=[61]) (by ext)<|pe.fm.bl a).b<|aW 61 _ rfl rfl;have a:=aq.nm (.tail _ h) cu a;show aq (bU s++([32,61,32]++af)++_) _;exact a.cast wb
 ·exact aW c (s'++([32,61,32]++af)) (by show bU s++_=_;rw[e];rfl) q
 ·exact aG (iD (show(bU s++yX (some (k,ps,af))).length<=_ from ln))<|by lia
def Jf(c:∃c s',T=c::s'/\Nat.beq c 32=false)(l:aq (T++u)<|t::ts):aq ([118,97,114,32]++T++u)<|.kw fG::t::ts:=by rw[bz];refine aq.kw (s:=fG) (u:=32::(T++u)) (by ext) cu<|l.b ?_;obtain⟨c,s',rfl,q⟩:=c;exact⟨c,s'++u,rfl,q⟩
def JT(hB:4*B+200<=ae)(v:V1 S N B b a t r)(h:[a]∈yL m n bv aK)(pa:∀x t' ab,Cy S x->bI (!b) t' 0->sg t' [61]=false->Pa x (N+2) 11136 [.bool<|!b] (t,r<|t'::ab) (.lst [pY a]) (t',ab)):∃s,Vr S (N+2) B [pY a] b s t r:=by have ln:Ln B 1 27<|pU [a]:=(Ln.lit (s:=[118,97,114,32]) (m:=4) rfl).app v.l;refine⟨pU [a],Gh h (aG (ln.fin rfl) hB)<|v.p 0 True (bF (n:=0)) trivial,aG ln jo,λc u ts m q l=>Jf v.c<|v.lex c u ts m q l,⟨_,rfl⟩,pa⟩
def y9(hB:4*B+200<=ae)(v:V1 S N B b a t r)(v':V1 S N B b a' t' aM)(h:[a,a']∈yL m n bv aK)(pa:∀x aD ab,Cy S x->bI (!b) aD 0->sg aD [61]=false->Pa x (N+2) 11136 [.bool<|!b] (t,r<|.pt [44]::t'::aM (aD::ab)) (.lst [pY a,pY a']) (aD,ab)):∃s,Vr S (N+2) B [pY a,pY a'] b s t λts=>r<|.pt [44]::t'::aM ts:=by
 have ln:Ln B 2 52<|pU [a,a']:=(Ln.lit (s:=[118,97,114,32]) (m:=4) rfl).app<|(v.l.app<|Ln.lit (s:=[44,32]) (m:=2) rfl).app v'.l;refine⟨pU [a,a'],Gh h (aG (ln.fin rfl) hB)<|v'.p 1 _ (bF (n:=1))<|v.p 0 True (bF (n:=0)) trivial,aG ln jo,λc u ts m q l=>?_,⟨_,rfl⟩,pa⟩;have a2:=(v'.lex c u ts m q l).b (by refine bJ v'.c λc s' e q=>?_;rw[e];exact(aW c _ rfl q));have a1:=v.lex 44 _ _ (by ext) rfl<|aq.so (s:=[44]) a2;show aq ([118,97,114,32]++(lF a++[44,32]++lF a')++c::u) _;refine Jf ?_ ?_
 ·exact bJ v.c λc s' e q=>aW c (s'++[44,32]++lF a') (by rw[e];rfl) q
 ·exact a1.cast iS
def X0(hN:28<=N)(hB:4*B+200<=ae)(h:m∈cq):∃s t r,Vr S (N+2) B [.tup [.str m,.none]] b s t r/\lL t=true:=by obtain⟨s,v⟩:=JT (S:=S) (N:=N) (b:=b) (m:=m) (n:=m) (bv:=([],[],[])) (aK:=([],[],[])) hB (vV (N:=N) (jc hN) hB h) (.head _) λx t' ab hx hs e=>(XM (q':=(t',ab)) h e<|hs.f.1<|aV 0).mono<|jb hN;exact fK s _ _ v rfl
def Yq(hN:22<=N)(hB:4*B+200<=ae)(h:m∈cq)(o:Va S N B k ps L hc aX):∃s t r,Vr S (N+42) B [.tup [.str m,nd k ps]] b s t r/\lL t=true:=by refine o.pe hN (jl hB) 1 (by ext) b _ λai a8 fT L' dot dB pe _ _=>?_;have mX:Pe S (N+40) (B+2) k ps 1 b ai a8 fT L' dot dB:=⟨pe.sh.mono ja,pe.l,pe.le,pe.fm,pe.ks.mono ja⟩;obtain⟨s,v⟩:=JT (m:=m) (n:=m) (aK:=([],[],[])) hB (v7 ia hB h mX) (.tail _<|.head _) λx t' ab hx hs e=>(YY (ak:=(a8,fT<|t'::ab)) (q':=(t',ab)) ia h (pe.ks.k1 pe.le (N+20) x t' ab (aV _) hx<|hs.le<|by ext)<|hs.f.1<|aV 0).mono<|@ja _ 40 42 rfl;exact fK s _ _ v rfl
def We(hN:28<=N)(hB:4*B+200<=ae)(h:m∈cq)(aL:n∈cq):∃s t r,Vr S (N+2) B [.tup [.str m,.none],.tup [.str n,.none]] b s t r/\lL t=true:=by obtain⟨s,v⟩:=y9 (S:=S) (N:=N) (b:=b) (bv:=([],[],[])) (aK:=([],[],[])) hB (vV (N:=N) (jc hN) hB h) (vV (jc hN) hB aL) (.tail _<|.tail _<|.head _) λx t' ab hx hs e=>(U5 (q':=(t',ab)) h aL e<|hs.f.1<|aV 0).mono<|jb hN;exact fK s _ _ v rfl
variable{S:Bool}{N M B L:Nat}{k:List Nat}{ps:List V}{b hc dot:Bool}{t:Tk}{r:Rr}{s:List Nat} in
def Pe.up(pe:Pe S N B k ps M b s t r L dot hc):Pe S (N+20) B k ps M b s t r L dot hc:=⟨pe.sh.mono<|bh _ _,pe.l,pe.le,pe.fm,pe.ks.mono<|bh _ _⟩
def VJ(hN:22<=N)(hB:4*B+200<=ae)(h:m∈cq)(aL:n∈cq)(o:Va S N B k ps L hc aX):∃s t r,Vr S (N+42) B [.tup [.str m,.none],.tup [.str n,nd k ps]] b s t r/\lL t=true:=by refine o.pe hN (jl hB) 1 (by ext) b _ λai a8 fT L' dot dB pe _ _=>?_;obtain⟨s,v⟩:=y9 (bv:=([],[],[])) hB (vV ia hB h) (v7 ia hB aL pe.up) (.tail _<|.tail _<|.tail _<|.head _) λx t' ab hx hs e=>(UO (aC:=(a8,fT<|t'::ab)) (q':=(t',ab)) ia h aL (pe.ks.k1 pe.le (N+20) x t' ab (aV _) hx<|hs.le<|by ext)<|hs.f.1<|aV 0).mono<|@ja _ 40 42 rfl;exact fK s _ _ v rfl
def V7(hN:22<=N)(hB:4*B+200<=ae)(h:m∈cq)(aL:n∈cq)(o:Va S N B k ps L hc aX):∃s t r,Vr S (N+42) B [.tup [.str m,nd k ps],.tup [.str n,.none]] b s t r/\lL t=true:=by refine o.pe hN (jl hB) 1 (by ext) b _ λai a8 fT L' dot dB pe _ _=>?_;obtain⟨s,v⟩:=y9 (aK:=([],[],[])) hB (v7 ia hB h pe.up) (vV ia hB aL) (.tail _<|.tail _<|.tail _<|.tail _<|.head _) λx t' ab hx hs e=>(Wn (ak:=(a8,fT<|.pt [44]::.nm n (eY n)::t'::ab)) (q':=(t',ab)) ia h aL (pe.ks.k1 pe.le (N+20) x (.pt [44]) _ (aV _) hx<|bI.pt (by cases b<;>ext)) e<|hs.f.1<|aV 0).mono<|@ja _ 40 42 rfl;exact fK s _ _ v rfl
def UR(hN:22<=N)(hB:4*B+200<=ae)(h:m∈cq)(aL:n∈cq)(o:Va S N B k ps L hc aX)(d8:Va S N B ay aw eD d7 eM):∃s t r,Vr S (N+42) B [.tup [.str m,nd k ps],.tup [.str n,nd ay aw]] b s t r/\lL t=true:=by refine o.pe hN (jl hB) 1 (by ext) b _ λai a8 fT L' dot dB pe _ _=>?_;refine d8.pe hN (jl hB) 1 (by ext) b _ λaf aD aM qO mu qJ cB _ _=>?_;obtain⟨s,v⟩:=y9 hB (v7 ia hB h pe.up) (v7 ia hB aL cB.up) (.tail _<|.tail _<|.tail _<|.tail _<|.tail _<|.head _) λx t' ab hx hs e=>(UZ (ak:=(a8,fT<|.pt [44]::.nm n (eY n)::.pt [61]::aD::aM (t'::ab))) (aC:=(aD,aM<|t'::ab)) (q':=(t',ab)) ia h aL (pe.ks.k1 pe.le (N+20) x (.pt [44]) _ (aV _) hx<|bI.pt (by cases b<;>ext)) (cB.ks.k1 cB.le (N+20) x t' ab (aV _) hx<|hs.le<|by ext)<|hs.f.1<|aV 0).mono<|@ja _ 40 42 rfl;exact fK s _ _ v rfl
def T2(hN:20<=N)(hl:g.nl<=3)(hB:4*B+200<=ae)(v:Vr g.S N B xs false s t r):Rw (N+8) (4*B+200) g false eK [.lst xs] (s++[59]) (.kw fG) λts=>t::r (.pt [59]::ts):=by have ln:=(v.l.app<|Ln.lit (s:=[59]) (m:=1) rfl).fin rfl;exact Rw.mk' ((sq<|wk 1<|.q v.sh<|.p (aG ln hB) .nil).mono (show N+2<=N+8 by exact ja rfl)) ln (λu ts hl=>by rw[bz];exact v.lex 59 u _ (by ext) rfl<|aq.so (s:=[59]) hl) (by obtain⟨s',e⟩:=v.c;exact(aW 118 (s'++[59]) (by rw[e];rfl) rfl)) (by ext) λx aR t' ab hx _=>(hU<|UN (q:=(t,r<|.pt [59]::t'::ab)) (q':=(t',ab)) hN<|v.pa x (.pt [59]) (t'::ab) (hx.cy hl) bI.pt rfl).mono<|@ja _ 7 8 rfl
structure Fr(S:Bool)(N B:Nat)(k:List Nat)(ps:List V)(s:List Nat)(r:Rr):Prop where
 sh:Sp N 79 [nd k ps] [] (.str s) []
 lex:∀u ts,aq u ts->aq (s++u) (.pt [40]::r ts)
 c:∃s',s=40::s'
 l:Ln B 1 2 s
 pa:∀x t' ab,Cy S x->Pa x N 12136 [] (.pt [40],r<|t'::ab) (nd k ps) (t',ab)
structure Bl(N B:Nat)(g:Gc)(xs:List V)(s:List Nat)(r:Rr):Prop where
 sh:Sp N 77 [.lst xs] [] (.str s) []
 lex:∀u ts,aq u ts->aq (s++u) (.pt [123]::r ts)
 c:∃s',s=123::s'
 l:Ln B 2 3 s
 pa:∀x t' ab,Cr g x->Pz N 10136 [] (x,[],.pt [123],r<|t'::ab) (.lst xs) (x,[],t',ab)
def Ln.kC(h:Ln B a m s)(q:(Nat.ble a 10&&Nat.ble m 270)):s.length<=10*B+300:=by unfold Ln at h;obtain⟨q1,q2⟩:=cK q;have q1:=ia q1;have q2:=ia q2;have:=Nat.mul_le_mul_right (B+2) q1;lia
theorem Ln.row(h:s.length<=B):Ln B 1 0 s:=by unfold Ln;lia
def WR(a:Sp N 66 [nd k ps,.int 0,.bool false] [] (.str s) [])(hl:([40]++s++[41]).length<=ae):Sp (N+2) 79 [nd k ps] [] (.str<|[40]++s++[41]) []:=sq (wk 1<|.q a<|.p (bw hl)<|.p hl .nil)
def fr(hN:22<=N)(hB:10*B+300<=ae)(o:Va S N B k ps L hc aX)(J:Prop)(ko:∀s r,Fr S (N+45) B k ps s r->J):J:=by refine o.ke hN (jm hB) _ λs t r e=>?_;have ln:=((Ln.lit (B:=B) (s:=[40]) (m:=1) rfl).app<|Ln.sub e.l).app<|Ln.lit (s:=[41]) (m:=1) rfl;refine ko _ (λts=>t::r (.pt [41]::ts)) ⟨(WR e.sh<|aG (ln.kC rfl) hB).mono<|@ja _ 4 45 rfl,λu ts hl=>?_,⟨s++[41],by rw[bz];rfl⟩,ln,λx t' ab hx=>(X7 (q:=(t,r<|.pt [41]::t'::ab)) (q':=(t',ab)) ia<|e.pa x (.pt [41]) (t'::ab) hx bI.pt).mono<|@ja _ 25 45 rfl⟩;have a:=aq.so (s:=[40])<|e.lex 41 u (.pt [41]::ts) (by ext) rfl<|aq.so (s:=[41]) hl;exact a.cast iS
theorem Rw.iq(h:Rw N B g el k ps s t r)(x:Px)(t':Tk)(ab:List Tk)(hx:Cr g x)(he:(el&&gU t')=false):Pz N 7136 [] (x,[],t,r<|t'::ab) (nd k ps) (x,[],t',ab):=by refine fz (h.pa x [] t' ab hx (.inl rfl) he) λmn _ h0 p=>?_;have:=h0<|.inl rfl;subst this;exact p
def lP(h:kj t):sg t [125]=false/\lq t.k xR=false/\wd t mC=false/\wd t mP=false/\wd t mJ=false/\wd t iH=false/\wd t k6=false:=by simp only[kj,cS,dg] at h;exact⟨h.1.1.1.1.1.1,h.1.1.1.1.1.2,h.1.1.1.1.2,h.1.1.1.2,h.1.1.2,h.1.2,h.2⟩
def Rw.KT(h:Rw N B g el k ps s t r):(AZ&&gU t)=false:=by have q:=lP h.f.1;rw[show gU t=false from Bool.or_eq_false_iff.mpr ⟨q.2.2.1,q.2.2.2.2.2.1⟩,Bool.and_false]
def Rw.bl(h:Rw N B g el k ps s t r)(l:aq (s++u)<|t::ts):aq (32::(s++u))<|t::ts:=by refine bJ h.c λc s' q3 e=>?_;subst q3;exact l.b<|aW c (s'++u) rfl e
def PT(a:Sp N 80 [nd k ps] [] (.str s) [])(hl:([123]++s++[125]).length<=ae):Sp (N+2) 77 [.lst [nd k ps]] [] (.str<|[123]++s++[125]) []:=
 have h1:=bw hl
 sq (wk 1<|.q a<|.p (iD h1)<|.p h1<|.p hl .nil)
def PE(a:Sp N 80 [nd k ps] [] (.str s) [])(aK:Sp N 80 [nd ay aw] [] (.str af) [])(hl:([123]++(s++[32]++af)++[125]).length<=ae):Sp (N+2) 77 [.lst [nd k ps,nd ay aw]] [] (.str<|[123]++(s++[32]++af)++[125]) []:=
 have h1:=bw hl
 sq (wk 1<|.q a<|.q aK<|.p (iD h1)<|.p h1<|.p hl .nil)
def bl0(hN:28<=N):Bl N B g [] [123,125] λts=>.pt [125]::ts:={
 sh:=(sq<|wk 1 (.p (a6 (n:=0))<|.p (a6 (n:=1))<|.p (a6 (n:=2)) .nil) (d:=10)).mono (show 12<=N by exact jc hN rfl)
 lex:=λu ts h=>aq.so (s:=[123])<|aq.so (s:=[125]) h
 c:=⟨_,rfl⟩
 l:=by unfold Ln;show 2<=_;exact ia
 pa:=λx t' ab hx=>(De (d:=20) (q:=(.pt [125],t'::ab)) (by ext)<|eF.mono (by ext)<|C0).mono<|jc hN}
def bl1(hN:22<=N)(hB:10*B+300<=ae)(h:Rw N B g el k ps s t r):Bl (N+5) B g [nd k ps] ([123]++s++[125]) λts=>t::r (.pt [125]::ts):=by
 have ln:=((Ln.lit (B:=B) (s:=[123]) (m:=1) rfl).app<|Ln.row h.l).app<|Ln.lit (s:=[125]) (m:=1) rfl;refine⟨(PT h.pr<|aG (ln.kC rfl) hB).mono ja,λu ts hl=>?_,⟨s++[125],by rw[bz];rfl⟩,aG ln jo,λx t' ab hx=>?_⟩
 ·have a:=aq.so (s:=[123]) (h.lex _ _<|aq.so (s:=[125]) hl);exact a.cast iS
 ·have p:=h.iq x (.pt [125]) (t'::ab) hx (by cases el<;>rfl);exact De (q:=(t,r<|.pt [125]::t'::ab)) (jc hN)<|eF.mono ja<|DJ (jc hN) (bF (n:=0)) (lP h.f.1).1 p<|eF.mono (jb hN)<|C0
def bl2(hN:22<=N)(hB:10*B+300<=ae)(h:Rw N B g el k ps s t r)(aL:Rw N B g AZ ay aw af aD aM):Bl (N+5) B g [nd k ps,nd ay aw] ([123]++(s++[32]++af)++[125]) λts=>t::r (aD::aM (.pt [125]::ts)):=by
 have ln:=((Ln.lit (B:=B) (s:=[123]) (m:=1) rfl).app<|((Ln.row h.l).app<|Ln.lit (s:=[32]) (m:=1) rfl).app<|Ln.row aL.l).app<|Ln.lit (s:=[125]) (m:=1) rfl;refine⟨(PE h.pr aL.pr<|aG (ln.kC rfl) hB).mono ja,λu ts hl=>?_,⟨s++[32]++af++[125],by rw[bz];rfl⟩,aG ln<|aV _,λx t' ab hx=>?_⟩
 ·have a:=aq.so (s:=[123]) (h.lex _ _<|aL.bl<|aL.lex _ _<|aq.so (s:=[125]) hl);simp only[bz];exact a
 ·have p:=h.iq x aD (aM<|.pt [125]::t'::ab) hx aL.KT;have ck:=aL.iq x (.pt [125]) (t'::ab) hx (by cases AZ<;>rfl);exact De (q:=(t,r<|aD::aM (.pt [125]::t'::ab))) (jc hN)<|eF.mono ja<|DJ (jc hN) (bF (n:=0)) (lP h.f.1).1 p<|DJ (jc hN) (bF (n:=1)) (lP aL.f.1).1 ck<|eF.mono (jb hN)<|C0
def FZ(hN:22<=N)(hB:10*B+300<=ae)(h:Bl N B g xs s r):Rw (N+5) (2*B+7) g false B2 [.lst xs] s (.pt [123]) r:=Rw.mk' ((sq<|wk 1<|.q h.sh .nil).mono (show N+2<=N+5 by exact ja rfl)) (by have:=h.l;unfold Ln at this;exact this) h.lex (by obtain⟨s',e⟩:=h.c;exact(aW 123 s' e rfl)) (by ext) λx aR t' ab hx _=>(stB<|h.pa x t' ab hx).mono ja
noncomputable def Gc.lo(g:Gc):Gc:=⟨g.S,g.nl,g.ret,true,true⟩
noncomputable def Gc.sw(g:Gc):Gc:=⟨g.S,g.nl,g.ret,g.lp,true⟩
def Cr.lo(h:Cr g x):Cr g.lo<|xl x<|x.l+1:=
 have p:=h.p
 ⟨h.s,h.l,h.d,λ_=>kT (show(0:Int)<x.l+1 by lia),λ_=>kT (show(0:Int)<x.l+1+x.w by lia),⟨p.1,show(0:Int)<=x.l+1 by lia,p.2.2⟩⟩
def Cr.sw(h:Cr g x):Cr g.sw<|xw x<|x.w+1:=
 have p:=h.p
 ⟨h.s,h.l,h.d,h.lp,λ_=>kT (show(0:Int)<x.l+(x.w+1) by lia),⟨p.1,p.2.1,show(0:Int)<=x.w+1 by lia⟩⟩
def Rw.lb(h:Rw N B g.lo el k ps s t r)(x:Px)(t':Tk)(ab:List Tk)(hx:Cr g x)(he:(el&&gU t')=false):Pz (N+2) 15136 [] (x,[],t,r<|t'::ab) (nd k ps) (x,[],t',ab):=by have p:=loB<|h.iq (xl x<|x.l+1) t' ab hx.lo he;rw[O9] at p;exact p
def RM(a:Sp N 79 [nd k ps] [] (.str s) [])(aK:Sp N 80 [nd ay aw] [] (.str af) [])(hl:([105,102,32]++s++[32]++af).length<=ae):Sp (N+2) 80 [nd t7 [nd k ps,nd ay aw,.none]] [] (.str<|[105,102,32]++s++[32]++af) []:=
 have h1:=bw hl
 sq (wk 1<|.q a<|.p (bw h1)<|.p h1<|.q aK<|.p hl .nil)
def Uc(a:Sp N 79 [nd k ps] [] (.str s) [])(aK:Sp N 80 [nd ay aw] [] (.str af) [])(bq:Sp N 80 [nd ba bo] [] (.str aH) [])(hl:([105,102,32]++s++[32]++af++[32,101,108,115,101,32]++aH).length<=ae):Sp (N+2) 80 [nd t7 [nd k ps,nd ay aw,nd ba bo]] [] (.str<|[105,102,32]++s++[32]++af++[32,101,108,115,101,32]++aH) []:=
 have h1:=bw hl;have h2:=bw h1;have h3:=bw h2
 sq (wk 1<|.q a<|.p (bw h3)<|.p h3<|.q aK<|.p h2<|.p h1<|.q bq<|.p hl .nil)
def u5(h:dD iw q)(f:Fr S N B k ps s r)(l:aq u ts):aq (q++(32::(s++u)))<|.kw q::.pt [40]::r ts:=by obtain⟨s',e⟩:=f.c;exact aq.kw (hZ h) cu<|(f.lex u ts l).b<|aW 40 (s'++u) (by rw[e];rfl) rfl
def GK(hN:22<=N)(hl:g.nl<=3)(hB:10*B+300<=ae)(f:Fr g.S N B k ps s r)(h:Rw N (2*B+7) g el ay aw af aD aM):Rw (N+5) (10*B+300) g true t7 [nd k ps,nd ay aw,.none] ([105,102,32]++s++[32]++af) (.kw qi) λts=>.pt [40]::r (aD::aM ts):=by
 have ln:=((((Ln.lit (B:=B) (s:=[105,102,32]) (m:=3) rfl).app f.l).app<|Ln.lit (s:=[32]) (m:=1) rfl).app (show Ln B 2 3 af by have:=h.l;unfold Ln;exact this)).kC rfl;refine Rw.mk' ((RM f.sh h.pr<|aG ln hB).mono ja) ln (λu ts hl=>?_) (aW 105 _ rfl rfl) (by ext) λx aR t' ab hx he=>?_
 ·have a:=u5 (q:=qi) (by ext) f (h.bl<|h.lex u ts hl);exact a.cast iS
 ·have he:gU t'=false:=he;have p:=h.iq x t' ab hx<|by rw[he,Bool.and_false]
  exact(hU<|XB (q:=(.pt [40],r<|aD::aM (t'::ab))) (ak:=(aD,aM<|t'::ab)) (q':=(t',ab)) (jc hN) (f.pa x aD _<|hx.cy hl) p (Bool.or_eq_false_iff.mp he).1).mono<|@ja _ 5 5 rfl
def T8(hN:22<=N)(hl:g.nl<=3)(hB:10*B+300<=ae)(f:Fr g.S N B k ps s r)(h:Rw N (2*B+7) g false ay aw af aD aM)(bW:Rw N B g el ba bo aH bM cm):Rw (N+6) (10*B+300) g el t7 [nd k ps,nd ay aw,nd ba bo] ([105,102,32]++s++[32]++af++[32,101,108,115,101,32]++aH) (.kw qi) λts=>.pt [40]::r (aD::aM (.kw mC::bM::cm ts)):=by
 have ln:=((((((Ln.lit (B:=B) (s:=[105,102,32]) (m:=3) rfl).app f.l).app<|Ln.lit (s:=[32]) (m:=1) rfl).app (show Ln B 2 3 af by have:=h.l;unfold Ln;exact this)).app<|Ln.lit (s:=[32,101,108,115,101,32]) (m:=6) rfl).app<|Ln.row bW.l).kC rfl;refine Rw.mk' ((Uc f.sh h.pr bW.pr<|aG ln hB).mono ja) ln (λu ts hl=>?_) (aW 105 _ rfl rfl) (by ext) λx aR t' ab hx he=>?_
 ·have a:=(aq.kw (s:=mC) (by ext) cu<|bW.bl<|bW.lex u ts hl).b (aW 101 _ rfl rfl);have a:=u5 (q:=qi) (by ext) f<|h.bl<|h.lex _ _ a;exact a.cast zd
 ·have p:=h.iq x (.kw mC) (bM::cm (t'::ab)) hx rfl;have B6:=bW.iq x t' ab hx he;exact(hU<|WB (q:=(.pt [40],r<|aD::aM (.kw mC::bM::cm (t'::ab)))) (ak:=(aD,aM<|.kw mC::bM::cm (t'::ab))) (aC:=(bM,cm<|t'::ab)) (q':=(t',ab)) (jc hN) (f.pa x aD _<|hx.cy hl) p B6).mono<|@ja _ 6 6 rfl
def Rw.loop(hn:g.nl<=1)(pr:Sp (N+2) 80 [nd k ps] [] (.str s) [])(l:s.length<=B)(lex:∀u ts,aq u ts->aq (s++u) (.kw w::r ts))(c:∃c s',s=c::s'/\Nat.beq c 32=false)(f:(kj (.kw w)&& !wd (.kw w) er))(A:∀x t' ab,Cr g x->(el&&gU t')=false->Pz N 9136 [.str w,.lst []] (x,[],.kw w,r<|t'::ab) (nd k ps) (x,[],t',ab))(C:∀T S D L w' b t' ab,Cr g (x1 T S D L w' true)->(el&&gU t')=false->Pz N 9136 [.str w,.lst [.ptr 4]] (x1 T S D L w' b,[],.kw w,r<|t'::ab) (nd k ps) (x1 T S D L w' true,[],t',ab)):Rw (N+2) B g el k ps s (.kw w) r:=by
 refine⟨pr,l,lex,c,⟨(cK f).1,by rw[<-dg];exact(cK f).2⟩,λx aR t' ab hx hp he=>?_⟩;rcases hp with rfl|⟨h1,rfl⟩|h2
 ·exact fA x.fl rfl (λ_=>rfl)<|hU<|A x t' ab hx he
 ·obtain⟨T,S,D,L,w',fl⟩:=x;have hl:fl.length=1:=hx.l.trans h1
  match fl,hl with
  |[b],_=>exact fA [true] rfl (λe=>e.elim (λe=>absurd e<|List.cons_ne_nil _ _) λe=>absurd (h1.symm.trans e)<|by ext)<|hU<|C T S D L w' b t' ab ⟨hx.s,hx.l,hx.d,hx.lp,hx.br,hx.p⟩ he
 ·lia
def Tn(a:Sp N 79 [nd k ps] [] (.str s) [])(aK:Sp N 80 [nd ay aw] [] (.str af) [])(hl:([119,104,105,108,101,32]++s++[32]++af).length<=ae):Sp (N+3) 80 [nd yi [nd k ps,nd ay aw]] [] (.str<|[119,104,105,108,101,32]++s++[32]++af) []:=
 have h1:=bw hl
 sq (wk 2<|.q a<|.p (bw h1)<|.p h1<|.q aK<|.p hl .nil)
def Ua(hN:22<=N)(hn:g.nl<=1)(hB:10*B+300<=ae)(f:Fr g.S N B k ps s r)(h:Rw N B g.lo el ay aw af aD aM):Rw (N+7) (10*B+300) g el yi [nd k ps,nd ay aw] ([119,104,105,108,101,32]++s++[32]++af) (.kw iZ) λts=>.pt [40]::r (aD::aM ts):=by
 have ln:=((((Ln.lit (B:=B) (s:=[119,104,105,108,101,32]) (m:=6) rfl).app f.l).app<|Ln.lit (s:=[32]) (m:=1) rfl).app<|Ln.row h.l).kC rfl;refine Rw.loop (N:=N+5) hn ((Tn f.sh h.pr<|aG ln hB).mono<|@ja _ 3 7 rfl) ln (λu ts hl=>?_) (aW 119 _ rfl rfl) (by ext) (λx t' ab hx he=>?_) λT S D L w' b t' ab hx he=>?_
 ·have a:=u5 (q:=iZ) (by ext) f (h.bl<|h.lex u ts hl);exact a.cast iS
 ·exact loW (d:=N+2) (q:=(.pt [40],r<|aD::aM (t'::ab))) (jb hN) ((f.pa x aD (aM<|t'::ab)<|hx.cy<|ju hn).mono<|bh _ _)<|h.lb x t' ab hx he
 ·exact XJ (d:=N+2) (q:=(.pt [40],r<|aD::aM (t'::ab))) (jb hN) ((f.pa _ aD (aM<|t'::ab)<|hx.cy<|ju hn).mono<|bh _ _)<|h.lb _ t' ab hx he
def VU(a:Sp N 80 [nd k ps] [] (.str s) [])(aK:Sp N 79 [nd ay aw] [] (.str af) [])(hl:([100,111,32]++s++[32,119,104,105,108,101,32]++af++[59]).length<=ae):Sp (N+4) 80 [nd wu [nd k ps,nd ay aw]] [] (.str<|[100,111,32]++s++[32,119,104,105,108,101,32]++af++[59]) []:=
 have h1:=bw hl;have h2:=bw h1;have e:Sp (N+2) 82 [.str wu,.lst [nd k ps,nd ay aw]] [] (.str<|[100,111,32]++s++[32,119,104,105,108,101,32]++af++[59]) []:=sq<|wk 1<|.q a<|.p (bw h2)<|.p h2<|.q aK<|.p h1<|.p hl .nil
 sq (wk 1<|.q e .nil)
def VZ(hN:22<=N)(hn:g.nl<=1)(hB:10*B+300<=ae)(h:Rw N B g.lo el k ps s t r)(f:Fr g.S N B ay aw af aM):Rw (N+10) (10*B+300) g false wu [nd k ps,nd ay aw] ([100,111,32]++s++[32,119,104,105,108,101,32]++af++[59]) (.kw ry) λts=>t::r (.kw iZ::.pt [40]::aM (.pt [59]::ts)):=by
 have ln:=(((((Ln.lit (B:=B) (s:=[100,111,32]) (m:=3) rfl).app<|Ln.row h.l).app<|Ln.lit (s:=[32,119,104,105,108,101,32]) (m:=7) rfl).app f.l).app<|Ln.lit (s:=[59]) (m:=1) rfl).kC rfl;refine Rw.loop (N:=N+8) hn ((VU h.pr f.sh<|aG ln hB).mono<|@ja _ 4 10 rfl) ln (λu ts hl=>?_) (aW 100 _ rfl rfl) (by ext) (λx t' ab hx he=>?_) λT S D L w' b t' ab hx he=>?_
 ·have a:=(u5 (q:=iZ) (by ext) f<|aq.so (s:=[59]) hl).b (aW 119 _ rfl rfl);have a:=aq.kw (s:=ry) (by ext) cu<|h.bl<|h.lex _ _ a;exact a.cast ul
 ·exact loD (d:=N+2) (q:=(t,r<|.kw iZ::.pt [40]::aM (.pt [59]::t'::ab))) (ak:=(.pt [40],aM<|.pt [59]::t'::ab)) (q':=(t',ab)) (jb hN) (h.lb x (.kw iZ) _ hx (by cases el<;>rfl))<|(f.pa x (.pt [59]) (t'::ab)<|hx.cy<|ju hn).mono<|bh _ _
 ·exact Zb (d:=N+2) (q:=(t,r<|.kw iZ::.pt [40]::aM (.pt [59]::t'::ab))) (ak:=(.pt [40],aM<|.pt [59]::t'::ab)) (q':=(t',ab)) (jb hN) (h.lb _ (.kw iZ) _ hx (by cases el<;>rfl))<|(f.pa _ (.pt [59]) (t'::ab)<|hx.cy<|ju hn).mono<|bh _ _
noncomputable abbrev ip:List Nat:=[102,111,114,32,40]
structure Hd(S:Bool)(N B le:Nat)(v:V)(s:List Nat)(t:Tk)(r:Rr):Prop where
 l:Ln B 2 60 s
 lex:∀(c:Nat) u ts,(cQ.any λx=>bA x c)=true->Nat.beq c 46=false->aq (c::u) ts->aq (s++c::u) (t::r ts)
 pr:(∃xs,v=nd eK [.lst xs]/\Sp N 78 [.lst xs,.bool true] [] (.str s) [])\/∃k ps,v=nd k ps/\lq k eK=false/\Sp N 66 [nd k ps,.int (le:Nat),.bool true] [] (.str s) []
noncomputable abbrev tw(s af aH:List Nat):List Nat:=ip++s++[32,105,110,32]++af++[41,32]++aH
def UA(h:Hd S N B 15 v s t r)(a:Sp N 66 [nd ay aw,.int 0,.bool false] [] (.str af) [])(bq:Sp N 80 [nd ba bo] [] (.str aH) [])(hl:(tw s af aH).length<=ae):Sp (N+4) 80 [nd mQ [v,nd ay aw,nd ba bo]] [] (.str<|tw s af aH) []:=by
 have h1:=bw hl;have h2:=bw h1;have h3:=bw h2;rcases h.pr with⟨xs,rfl,e⟩|⟨k,ps,rfl,q,e⟩
 ·exact Sp.mono (d:=N+3) ja<|sq<|wk 2<|.q e<|.p (bw h3)<|.p h3<|.q a<|.p h2<|.p h1<|.q bq<|.p hl .nil
 ·have e2:Sp (N+2) 82 [.str mQ,.lst [nd k ps,nd ay aw,nd ba bo]] [] (.str<|tw s af aH) []:=sq (wk 1<|.b 3 false q<|.q e<|.p (bw h3)<|.p h3<|.q a<|.p h2<|.p h1<|.q bq<|.p hl .nil);exact sq<|wk 1 (.q e2 .nil) (d:=N+2)
variable{N B:Nat}{g:Gc}{k:List Nat}{ps:List V}{el:Bool}{t':Tk}{ts:List Tk}{r:Rr}{x:Px}{s u:List Nat} in
def Gu(hN:20<=N)(hn:g.nl<=1)(pr:Sp (N+5) 80 [nd k ps] [] (.str<|ip++s) [])(l:(ip++s).length<=B)(lex:∀u ts,aq u ts->aq (s++u) (r ts))
    (pz:∀x t' ab,Cr g x->(el&&gU t')=false->Pz N 16136 [.int 1] (x,[],.pt [40],r<|t'::ab) (nd k ps) (x,[],t',ab)):Rw (N+5) B g el k ps (ip++s) (.kw fk) λts=>.pt [40]::r ts:=by
 refine Rw.loop (N:=N+3) hn pr l (λu ts hl=>?_) (aW 102 _ rfl rfl) (by ext) (λx t' ab hx he=>loF (q:=(.pt [40],r<|t'::ab)) hN<|pz x t' ab hx he) λT S D L w' b t' ab hx he=>Yk (q:=(.pt [40],r<|t'::ab)) hN<|pz _ t' ab hx he;have a:=aq.kw (s:=fk) (by ext) cu<|(aq.so (s:=[40])<|lex u ts hl).b<|aW 40 _ rfl rfl;exact a.cast wb
def F3(hN:22<=N)(hn:g.nl<=1)(hB:10*B+300<=ae)(h:Hd g.S N B 15 v s t r)(e:Ke g.S N B ay aw af aD aM)(b:Rw N B g.lo el ba bo aH bM cm)(pz:∀x t' ab,Cr g x->(el&&gU t')=false->Pz (N+24) 16136 [.int 1] (x,[],.pt [40],t::r (.kw fM::aD::aM (.pt [41]::bM::cm (t'::ab)))) (nd mQ [v,nd ay aw,nd ba bo]) (x,[],t',ab)):∃s r,Rw (N+29) (10*B+300) g el mQ [v,nd ay aw,nd ba bo] s (.kw fk) r:=by
 have ln:=((((((Ln.lit (B:=B) (s:=ip) (m:=5) rfl).app h.l).app<|Ln.lit (s:=[32,105,110,32]) (m:=4) rfl).app<|Ln.sub e.l).app<|Ln.lit (s:=[41,32]) (m:=2) rfl).app<|Ln.row b.l).kC rfl;have ea:tw s af aH=ip++(s++([32,105,110,32]++(af++([41,32]++aH)))):=by simp only[tw,bz]
 have pr:=UA h e.sh b.pr<|aG ln hB;rw[show ip++s++[32,105,110,32]++af++[41,32]++aH=tw s af aH from rfl,ea] at ln;rw[ea] at pr;refine bT _ _<|Gu (N:=N+24) (r:=λts=>t::r (.kw fM::aD::aM (.pt [41]::bM::cm ts))) ia hn (pr.mono<|@ja _ 4 29 rfl) ln (λu ts hl=>?_) pz;have a:=e.lex 41 _ _ (by ext) rfl<|aq.so (s:=[41])<|b.bl<|b.lex u ts hl;have a:=(aq.kw (s:=fM) (by ext) cu<|e.bl a).b<|aW 105 _ rfl rfl;have a:=h.lex 32 _ _ (by ext) rfl a;simp only[bz];exact a
def uK(h:fS false t):wd t fG=false:=by
 induction t with
 |kw s=>
  cases e:wd (.kw s) er with
  |true=>have e:=(dR _ _).mp e;refine zc e ?_;rfl
  |false=>have:=cp (show tm.all (λs=> !lq s fG)=true by ext) s<|BE h e;rw[<-dg];exact this
 |_=>rfl
theorem Vr.hd(v:Vr S N B xs true s t r):Hd S N B le (nd eK [.lst xs]) s (.kw fG) λts=>t::r ts:=⟨v.l,v.lex,.inl<|au xs rfl v.sh⟩
def Gk:bI false (.kw fM) 0:=⟨.head _,by show ext false (.kw fM)<=0;decide⟩
def O4(hN:22<=N)(hn:g.nl<=1)(hB:10*B+300<=ae)(fj:V)(h:Vr g.S N B [fj] true s t r)(e:Ke g.S N B ay aw af aD aM)(b:Rw N B g.lo el ba bo aH bM cm):∃s r,Rw (N+29) (10*B+300) g el mQ [nd eK [.lst [fj]],nd ay aw,nd ba bo] s (.kw fk) r:=F3 hN hn hB h.hd e b λx t' ab hx he=>Y5 (d:=N+18) (q:=(t,r<|.kw fM::aD::aM (.pt [41]::bM::cm (t'::ab)))) (ak:=(aD,aM<|.pt [41]::bM::cm (t'::ab))) (aC:=(bM,cm<|t'::ab)) (jb hN) ((h.pa x (.kw fM) _ (hx.cy<|ju hn) Gk rfl).mono<|bh _ _) (e.pa x (.pt [41]) _ (hx.cy<|ju hn) bI.pt)<|(b.lb x t' ab hx he).mono ja
def QZ(hN:22<=N)(hn:g.nl<=1)(hB:10*B+300<=ae)(o:Va g.S N B k ps L hc aX)(hk:lq k eK=false)(tg:Tg k ps)(e:Ke g.S (N+20) B ay aw af aD aM)(b:Rw (N+20) B g.lo el ba bo aH bM cm):∃s r,Rw (N+49) (10*B+300) g el mQ [nd k ps,nd ay aw,nd ba bo] s (.kw fk) r:=by refine o.pe hN (jl hB) 15 (by ext) true _ λs t r L' dot dB pe _ _=>?_;have h:Hd g.S (N+20) B 15 (nd k ps) s t r:=⟨aG pe.l jq,λc u ts ak aC l=>pe.fm.lex _ _ (cu ak) (wi aC) l,.inr<|dA k ps rfl hk pe.sh⟩;have f:=nT pe.fm.f;exact F3 (jj hN) hn hB h e b λx t' ab hx he=>Zp (d:=N+38) (q:=(t,r<|.kw fM::aD::aM (.pt [41]::bM::cm (t'::ab)))) (ak:=(aD,aM<|.pt [41]::bM::cm (t'::ab))) (aC:=(bM,cm<|t'::ab)) ia tg (uK f) (eR f).2.2.2.2 (pe.ks.k0 (N+20) x (.kw fM) _ (aV _) (hx.cy<|ju hn) Gk) (e.pa x (.pt [41]) _ (hx.cy<|ju hn) bI.pt)<|(b.lb x t' ab hx he).mono<|@ja _ 22 38 rfl
noncomputable def i9:Option It->List Nat
 |none=>[]
 |some a=>[32]++a.2.2
def tP:Option It->List An
 |none=>[]
 |some a=>[ca 66 (.str a.2.2) []]
def wC(N:Nat):Option It->Prop->Prop
 |none,P=>P
 |some a,P=>([32]++a.2.2).length<=ae/\Sp N 66 [nd a.1 a.2.1,.int 0,.bool false] [] (.str a.2.2) []/\P
abbrev m9(s:List Nat)(o o':Option It)(s':List Nat):List Nat:=ip++s++[59]++i9 o++[59]++i9 o'++[41,32]++s'
noncomputable def vX(a b:It):List<|Option It×Option It:=[(none,none),(some a,none),(none,some b),(some a,some b)]
def zh(N:Nat)(Yj:V)(s a5:List Nat)(P:Prop)(z:Option It×Option It):Prop:=(m9 s z.1 z.2 a5).length<=ae/\Sp N 80 [Yj] [] (.str a5) []/\(ip++s++[59]++i9 z.1++[59]++i9 z.2++[41,32]).length<=ae/\(ip++s++[59]++i9 z.1++[59]++i9 z.2).length<=ae/\(ip++s++[59]++i9 z.1++[59]).length<=ae/\(ip++s++[59]++i9 z.1).length<=ae/\(ip++s++[59]).length<=ae/\(ip++s).length<=ae/\wC N z.2 (wC N z.1<|4<=ae/\P)
structure Oe(N B:Nat)(o:Option It)(q:List Tk->List Tk):Prop where
 lex:∀(c:Nat) u ts,(cQ.any λx=>bA x c)=true->Nat.beq c 46=false->aq (c::u) ts->aq (i9 o++c::u) (q ts)
 p:∀P,P->wC N o P
 l:Ln B 1 3<|i9 o
section
variable{S:Bool}{d N B L:Nat}{g:Gc}{k ay ba cL z:List Nat}{ps aw bo bV as xs:List V}{b c el hc aX dot p:Bool}{t t' aD bM cJ:Tk}{ts:List Tk}{q':Ts}{r aM cm cI:Rr}{x:Px}{s af aH a5 u:List Nat}{a m:Nat}{v:V}{o o':Option It}{q ak:List Tk->List Tk}{bv aK:It}
def Ug(h:Hd S N B 0 v s t r\/(v=.none/\s=[]))(m:(o,o')∈vX bv aK)(p:∀P,P->wC N o P)(p':∀P,P->wC N o' P)(b:Sp N 80 [nd cL bV] [] (.str a5) [])(hl:(m9 s o o' a5).length<=ae):Sp (N+4) 80 [nd dO [v,f5 o,f5 o',nd cL bV]] [] (.str<|m9 s o o' a5) []:=by
 have e:Sp (N+2) 82 [.str dO,.lst [v,f5 o,f5 o',nd cL bV]] [] (.str<|m9 s o o' a5) []:=by
  have cb:∀P:Prop,P->zh N (nd cL bV) s a5 P (o,o'):=λP hp=>by have h1:=bw hl;have h2:=bw h1;have h3:=bw h2;have h4:=bw h3;have h5:=bw h4;exact⟨hl,b,h1,h2,h3,h4,h5,bw h5,p' _<|p _ ⟨a6 (n:=4),hp⟩⟩
  rcases h with h|⟨rfl,rfl⟩
  ·rcases h.pr with⟨xs,rfl,e⟩|⟨k,ps,rfl,q,e⟩
   ·exact gP (L:=vX bv aK) (d:=N) (n:=1) (as:=λz=>[.str dO,.lst [nd eK [.lst xs],f5 z.1,f5 z.2,nd cL bV]]) (c:=λ_=>[]) (c':=λ_=>[]) (sc:=λz=>ca 78 (.str s) []::(tP z.1++(tP z.2++[ca 80 (.str a5) []]))) (v:=λz=>.str<|m9 s z.1 z.2 a5)
     (P:=zh N (nd cL bV) s a5<|Sp N 78 [.lst xs,.bool true] [] (.str s) []/\True) (by ext) (o,o') m (cb _ ⟨e,trivial⟩)
   ·exact gP (L:=vX bv aK) (d:=N) (n:=1) (as:=λz=>[.str dO,.lst [nd k ps,f5 z.1,f5 z.2,nd cL bV]]) (c:=λ_=>[]) (c':=λ_=>[]) (sc:=λz=>.br 4 false::ca 66 (.str s) []::(tP z.1++(tP z.2++[ca 80 (.str a5) []]))) (v:=λz=>.str<|m9 s z.1 z.2 a5)
     (P:=zh N (nd cL bV) s a5<|Sp N 66 [nd k ps,.int 0,.bool true] [] (.str s) []/\lq k eK=false/\True) (by ext) (o,o') m (cb _ ⟨e,q,trivial⟩)
  ·exact gP (L:=vX bv aK) (d:=N) (n:=1) (as:=λz=>[.str dO,.lst [.none,f5 z.1,f5 z.2,nd cL bV]]) (c:=λ_=>[]) (c':=λ_=>[]) (sc:=λz=>tP z.1++(tP z.2++[ca 80 (.str a5) []])) (v:=λz=>.str<|m9 [] z.1 z.2 a5)
    (P:=zh N (nd cL bV) [] a5 True) (by ext) (o,o') m (cb _ trivial)
 exact sq<|wk 1 (.q e .nil) (d:=N+2)
def lx:Oe N B none λts=>ts:=⟨λc u ts _ _ l=>l,λP h=>h,by unfold Ln;show 0<=_;exact Nat.zero_le _⟩
def ly(hB:10*B+300<=ae)(e:Ke S N B k ps s t r):Oe N B (some (k,ps,s)) λts=>t::r ts:=by
 have l:(i9<|some (k,ps,s)).length<=B+3:=by show([32]++s).length<=_;have:=e.l;rw[bO];show 1+_<=_;lia
 exact⟨λc u ts m n l=>by show aq ([32]++s++c::u) _;rw[bz];exact e.bl<|e.lex c u ts m n l,λP h=>⟨aG l<|jl hB,e.sh,h⟩,by unfold Ln;lia⟩
def kS(hN:22<=N)(hn:g.nl<=1)(hB:10*B+300<=ae){hq:List Tk->List Tk}(h:Hd g.S N B 0 v s t r\/(v=.none/\s=[]))(hs:∀(c:Nat) u ts,(cQ.any λx=>bA x c)=true->Nat.beq c 46=false->aq (c::u) ts->aq (s++c::u) (hq ts))(m:(o,o')∈vX bv aK)(e:Oe N B o q)(e':Oe N B o' ak)(b:Rw N B g.lo el cL bV a5 cJ cI)
    (pz:∀x t' ab,Cr g x->(el&&gU t')=false->Pz (N+23) 16136 [.int 1] (x,[],.pt [40],hq<|.pt [59]::q (.pt [59]::ak (.pt [41]::cJ::cI (t'::ab)))) (nd dO [v,f5 o,f5 o',nd cL bV]) (x,[],t',ab)):∃s r,Rw (N+29) (10*B+300) g el dO [v,f5 o,f5 o',nd cL bV] s (.kw fk) r:=by
 have hl:Ln B 2 60 s:=by
  rcases h with h|⟨_,rfl⟩
  ·exact h.l
  ·unfold Ln;show 0<=_;exact Nat.zero_le _
 have ln:=((((((((Ln.lit (B:=B) (s:=ip) (m:=5) rfl).app hl).app<|Ln.lit (s:=[59]) (m:=1) rfl).app e.l).app<|Ln.lit (s:=[59]) (m:=1) rfl).app e'.l).app<|Ln.lit (s:=[41,32]) (m:=2) rfl).app<|Ln.row b.l).kC rfl;have ea:m9 s o o' a5=ip++(s++([59]++(i9 o++([59]++(i9 o'++([41,32]++a5)))))):=by simp only[m9,bz]
 have pr:=Ug h m e.p e'.p b.pr<|aG ln hB;rw[show ip++s++[59]++i9 o++[59]++i9 o'++[41,32]++a5=m9 s o o' a5 from rfl,ea] at ln;rw[ea] at pr;refine bT _ _<|Gu (N:=N+24) (r:=λts=>hq<|.pt [59]::q (.pt [59]::ak (.pt [41]::cJ::cI ts))) ia hn (pr.mono<|@ja _ 4 29 rfl) ln (λu ts hl=>?_) λx t' ab hx he=>(pz x t' ab hx he).mono ja;have a:=e'.lex 41 _ _ (by ext) rfl<|aq.so (s:=[41])<|b.bl<|b.lex u ts hl;have a:=e.lex 59 _ _ (by ext) rfl<|aq.so (s:=[59]) a;have a:=hs 59 _ _ (by ext) rfl<|aq.so (s:=[59]) a;simp only[bz];exact a
structure He(S:Bool)(N B:Nat)(k:List Nat)(ps:List V)(s:List Nat)(t:Tk)(r:Rr):Prop where
 hd:Hd S N B 0 (nd k ps) s t r
 f:fS false t=true
 pa:∀x t' ab,Cy S x->bI false t' 0->Pa x (N+18) 2133 [.bool false] (t,r<|t'::ab) (nd k ps) (t',ab)
theorem he(hN:22<=N)(hB:10*B+300<=ae)(o:Va S N B k ps L hc aX)(hk:lq k eK=false)(J:Prop)(ko:∀s t r,He S (N+20) B k ps s t r->J):J:=by exact o.pe hN (jl hB) 0 (by ext) true _ λs t r L' dot dB pe _ _=>ko s t r ⟨⟨aG pe.l jq,λc u ts ak aC l=>pe.fm.lex _ _ (cu ak) (wi aC) l,.inr<|dA k ps rfl hk pe.sh⟩,nT pe.fm.f,λx t' ab hx hs=>pe.ks.k0 (N+20) x t' ab (aV _) hx hs⟩
def MJ(hN:22<=N)(hn:g.nl<=1)(hB:10*B+300<=ae)(h:Vr g.S N B xs true s t r)(bj:Ke g.S N B ay aw af aD aM)(cD:Ke g.S N B ba bo aH bM cm)(b:Rw N B g.lo el cL bV a5 cJ cI):∃s r,Rw (N+29) (10*B+300) g el dO [nd eK [.lst xs],nd ay aw,nd ba bo,nd cL bV] s (.kw fk) r:=kS (hq:=λts=>.kw fG::t::r ts) (bv:=(ay,aw,af)) (aK:=(ba,bo,aH)) hN hn hB (.inl h.hd) h.lex (.tail _<|.tail _<|.tail _<|.head _) (ly hB bj) (ly hB cD) b λx t' ab hx he=>Rg (d:=N+18) (cG:=(cJ,cI<|t'::ab)) (q:=(t,r<|.pt [59]::aD::aM (.pt [59]::bM::cm (.pt [41]::cJ::cI (t'::ab))))) (aC:=(aD,aM<|.pt [59]::bM::cm (.pt [41]::cJ::cI (t'::ab)))) (de:=(bM,cm<|.pt [41]::cJ::cI (t'::ab))) (q':=(t',ab)) (jb hN) ((h.pa x (.pt [59]) _ (hx.cy<|ju hn) bI.pt rfl).mono<|bh _ _) (eR bj.f).2.2.2.2 (bj.pa x (.pt [59]) _ (hx.cy<|ju hn) bI.pt) (eR cD.f).1 (cD.pa x (.pt [41]) _ (hx.cy<|ju hn) bI.pt)<|(b.lb x t' ab hx he).mono ja
def MM(hN:22<=N)(hn:g.nl<=1)(hB:10*B+300<=ae)(h:Vr g.S N B xs true s t r)(bj:Ke g.S N B ay aw af aD aM)(b:Rw N B g.lo el cL bV a5 cJ cI):∃s r,Rw (N+29) (10*B+300) g el dO [nd eK [.lst xs],nd ay aw,.none,nd cL bV] s (.kw fk) r:=kS (hq:=λts=>.kw fG::t::r ts) (bv:=(ay,aw,af)) (aK:=([],[],[])) hN hn hB (.inl h.hd) h.lex (.tail _<|.head _) (ly hB bj) (lx) b λx t' ab hx he=>S8 (d:=N+18) (cG:=(cJ,cI<|t'::ab)) (q:=(t,r<|.pt [59]::aD::aM (.pt [59]::.pt [41]::cJ::cI (t'::ab)))) (aC:=(aD,aM<|.pt [59]::.pt [41]::cJ::cI (t'::ab))) (q':=(t',ab)) (jb hN) ((h.pa x (.pt [59]) _ (hx.cy<|ju hn) bI.pt rfl).mono<|bh _ _) (eR bj.f).2.2.2.2 (bj.pa x (.pt [59]) _ (hx.cy<|ju hn) bI.pt)<|(b.lb x t' ab hx he).mono ja
def MH(hN:22<=N)(hn:g.nl<=1)(hB:10*B+300<=ae)(h:Vr g.S N B xs true s t r)(cD:Ke g.S N B ba bo aH bM cm)(b:Rw N B g.lo el cL bV a5 cJ cI):∃s r,Rw (N+29) (10*B+300) g el dO [nd eK [.lst xs],.none,nd ba bo,nd cL bV] s (.kw fk) r:=kS (hq:=λts=>.kw fG::t::r ts) (bv:=([],[],[])) (aK:=(ba,bo,aH)) hN hn hB (.inl h.hd) h.lex (.tail _<|.tail _<|.head _) (lx) (ly hB cD) b λx t' ab hx he=>Ro (d:=N+18) (cG:=(cJ,cI<|t'::ab)) (q:=(t,r<|.pt [59]::.pt [59]::bM::cm (.pt [41]::cJ::cI (t'::ab)))) (de:=(bM,cm<|.pt [41]::cJ::cI (t'::ab))) (q':=(t',ab)) (jb hN) ((h.pa x (.pt [59]) _ (hx.cy<|ju hn) bI.pt rfl).mono<|bh _ _) (eR cD.f).1 (cD.pa x (.pt [41]) _ (hx.cy<|ju hn) bI.pt)<|(b.lb x t' ab hx he).mono ja
def M9(hN:22<=N)(hn:g.nl<=1)(hB:10*B+300<=ae)(h:Vr g.S N B xs true s t r)(b:Rw N B g.lo el cL bV a5 cJ cI):∃s r,Rw (N+29) (10*B+300) g el dO [nd eK [.lst xs],.none,.none,nd cL bV] s (.kw fk) r:=kS (hq:=λts=>.kw fG::t::r ts) (bv:=([],[],[])) (aK:=([],[],[])) hN hn hB (.inl h.hd) h.lex (.head _) (lx) (lx) b λx t' ab hx he=>Ul (d:=N+18) (cG:=(cJ,cI<|t'::ab)) (q:=(t,r<|.pt [59]::.pt [59]::.pt [41]::cJ::cI (t'::ab))) (q':=(t',ab)) (jb hN) ((h.pa x (.pt [59]) _ (hx.cy<|ju hn) bI.pt rfl).mono<|bh _ _)<|(b.lb x t' ab hx he).mono ja
def M1(hN:22<=N)(hn:g.nl<=1)(hB:10*B+300<=ae)(h:He g.S N B k ps s t r)(bj:Ke g.S N B ay aw af aD aM)(cD:Ke g.S N B ba bo aH bM cm)(b:Rw N B g.lo el cL bV a5 cJ cI):∃s r,Rw (N+29) (10*B+300) g el dO [nd k ps,nd ay aw,nd ba bo,nd cL bV] s (.kw fk) r:=kS (hq:=λts=>t::r ts) (bv:=(ay,aw,af)) (aK:=(ba,bo,aH)) hN hn hB (.inl h.hd) h.hd.lex (.tail _<|.tail _<|.tail _<|.head _) (ly hB bj) (ly hB cD) b λx t' ab hx he=>TL (d:=N+18) (cG:=(cJ,cI<|t'::ab)) (q:=(t,r<|.pt [59]::aD::aM (.pt [59]::bM::cm (.pt [41]::cJ::cI (t'::ab))))) (aC:=(aD,aM<|.pt [59]::bM::cm (.pt [41]::cJ::cI (t'::ab)))) (de:=(bM,cm<|.pt [41]::cJ::cI (t'::ab))) (q':=(t',ab)) (jb hN) (uK h.f) (eR h.f).2.2.2.2 (h.pa x (.pt [59]) _ (hx.cy<|ju hn) bI.pt) (eR bj.f).2.2.2.2 (bj.pa x (.pt [59]) _ (hx.cy<|ju hn) bI.pt) (eR cD.f).1 (cD.pa x (.pt [41]) _ (hx.cy<|ju hn) bI.pt)<|(b.lb x t' ab hx he).mono ja
def NN(hN:22<=N)(hn:g.nl<=1)(hB:10*B+300<=ae)(h:He g.S N B k ps s t r)(bj:Ke g.S N B ay aw af aD aM)(b:Rw N B g.lo el cL bV a5 cJ cI):∃s r,Rw (N+29) (10*B+300) g el dO [nd k ps,nd ay aw,.none,nd cL bV] s (.kw fk) r:=kS (hq:=λts=>t::r ts) (bv:=(ay,aw,af)) (aK:=([],[],[])) hN hn hB (.inl h.hd) h.hd.lex (.tail _<|.head _) (ly hB bj) (lx) b λx t' ab hx he=>Sk (d:=N+18) (cG:=(cJ,cI<|t'::ab)) (q:=(t,r<|.pt [59]::aD::aM (.pt [59]::.pt [41]::cJ::cI (t'::ab)))) (aC:=(aD,aM<|.pt [59]::.pt [41]::cJ::cI (t'::ab))) (q':=(t',ab)) (jb hN) (uK h.f) (eR h.f).2.2.2.2 (h.pa x (.pt [59]) _ (hx.cy<|ju hn) bI.pt) (eR bj.f).2.2.2.2 (bj.pa x (.pt [59]) _ (hx.cy<|ju hn) bI.pt)<|(b.lb x t' ab hx he).mono ja
def NA(hN:22<=N)(hn:g.nl<=1)(hB:10*B+300<=ae)(h:He g.S N B k ps s t r)(cD:Ke g.S N B ba bo aH bM cm)(b:Rw N B g.lo el cL bV a5 cJ cI):∃s r,Rw (N+29) (10*B+300) g el dO [nd k ps,.none,nd ba bo,nd cL bV] s (.kw fk) r:=kS (hq:=λts=>t::r ts) (bv:=([],[],[])) (aK:=(ba,bo,aH)) hN hn hB (.inl h.hd) h.hd.lex (.tail _<|.tail _<|.head _) (lx) (ly hB cD) b λx t' ab hx he=>Tb (d:=N+18) (cG:=(cJ,cI<|t'::ab)) (q:=(t,r<|.pt [59]::.pt [59]::bM::cm (.pt [41]::cJ::cI (t'::ab)))) (de:=(bM,cm<|.pt [41]::cJ::cI (t'::ab))) (q':=(t',ab)) (jb hN) (uK h.f) (eR h.f).2.2.2.2 (h.pa x (.pt [59]) _ (hx.cy<|ju hn) bI.pt) (eR cD.f).1 (cD.pa x (.pt [41]) _ (hx.cy<|ju hn) bI.pt)<|(b.lb x t' ab hx he).mono ja
def ML(hN:22<=N)(hn:g.nl<=1)(hB:10*B+300<=ae)(h:He g.S N B k ps s t r)(b:Rw N B g.lo el cL bV a5 cJ cI):∃s r,Rw (N+29) (10*B+300) g el dO [nd k ps,.none,.none,nd cL bV] s (.kw fk) r:=kS (hq:=λts=>t::r ts) (bv:=([],[],[])) (aK:=([],[],[])) hN hn hB (.inl h.hd) h.hd.lex (.head _) (lx) (lx) b λx t' ab hx he=>T3 (d:=N+18) (cG:=(cJ,cI<|t'::ab)) (q:=(t,r<|.pt [59]::.pt [59]::.pt [41]::cJ::cI (t'::ab))) (q':=(t',ab)) (jb hN) (uK h.f) (eR h.f).2.2.2.2 (h.pa x (.pt [59]) _ (hx.cy<|ju hn) bI.pt)<|(b.lb x t' ab hx he).mono ja
def MP(hN:22<=N)(hn:g.nl<=1)(hB:10*B+300<=ae)(bj:Ke g.S N B ay aw af aD aM)(cD:Ke g.S N B ba bo aH bM cm)(b:Rw N B g.lo el cL bV a5 cJ cI):∃s r,Rw (N+29) (10*B+300) g el dO [.none,nd ay aw,nd ba bo,nd cL bV] s (.kw fk) r:=kS (hq:=λts=>ts) (bv:=(ay,aw,af)) (aK:=(ba,bo,aH)) (t:=.en) (r:=λts=>ts) hN hn hB (.inr ⟨rfl,rfl⟩) (λc u ts _ _ l=>l) (.tail _<|.tail _<|.tail _<|.head _) (ly hB bj) (ly hB cD) b λx t' ab hx he=>Ry (d:=N+18) (cG:=(cJ,cI<|t'::ab)) (aC:=(aD,aM<|.pt [59]::bM::cm (.pt [41]::cJ::cI (t'::ab)))) (de:=(bM,cm<|.pt [41]::cJ::cI (t'::ab))) (q':=(t',ab)) (jb hN) (eR bj.f).2.2.2.2 (bj.pa x (.pt [59]) _ (hx.cy<|ju hn) bI.pt) (eR cD.f).1 (cD.pa x (.pt [41]) _ (hx.cy<|ju hn) bI.pt)<|(b.lb x t' ab hx he).mono ja
def Nt(hN:22<=N)(hn:g.nl<=1)(hB:10*B+300<=ae)(bj:Ke g.S N B ay aw af aD aM)(b:Rw N B g.lo el cL bV a5 cJ cI):∃s r,Rw (N+29) (10*B+300) g el dO [.none,nd ay aw,.none,nd cL bV] s (.kw fk) r:=kS (hq:=λts=>ts) (bv:=(ay,aw,af)) (aK:=([],[],[])) (t:=.en) (r:=λts=>ts) hN hn hB (.inr ⟨rfl,rfl⟩) (λc u ts _ _ l=>l) (.tail _<|.head _) (ly hB bj) (lx) b λx t' ab hx he=>Su (d:=N+18) (cG:=(cJ,cI<|t'::ab)) (aC:=(aD,aM<|.pt [59]::.pt [41]::cJ::cI (t'::ab))) (q':=(t',ab)) (jb hN) (eR bj.f).2.2.2.2 (bj.pa x (.pt [59]) _ (hx.cy<|ju hn) bI.pt)<|(b.lb x t' ab hx he).mono ja
def M8(hN:22<=N)(hn:g.nl<=1)(hB:10*B+300<=ae)(cD:Ke g.S N B ba bo aH bM cm)(b:Rw N B g.lo el cL bV a5 cJ cI):∃s r,Rw (N+29) (10*B+300) g el dO [.none,.none,nd ba bo,nd cL bV] s (.kw fk) r:=kS (hq:=λts=>ts) (bv:=([],[],[])) (aK:=(ba,bo,aH)) (t:=.en) (r:=λts=>ts) hN hn hB (.inr ⟨rfl,rfl⟩) (λc u ts _ _ l=>l) (.tail _<|.tail _<|.head _) (lx) (ly hB cD) b λx t' ab hx he=>S1 (d:=N+18) (cG:=(cJ,cI<|t'::ab)) (de:=(bM,cm<|.pt [41]::cJ::cI (t'::ab))) (q':=(t',ab)) (jb hN) (eR cD.f).1 (cD.pa x (.pt [41]) _ (hx.cy<|ju hn) bI.pt)<|(b.lb x t' ab hx he).mono ja
def MS(hN:22<=N)(hn:g.nl<=1)(hB:10*B+300<=ae)(b:Rw N B g.lo el cL bV a5 cJ cI):∃s r,Rw (N+29) (10*B+300) g el dO [.none,.none,.none,nd cL bV] s (.kw fk) r:=kS (hq:=λts=>ts) (bv:=([],[],[])) (aK:=([],[],[])) (t:=.en) (r:=λts=>ts) hN hn hB (.inr ⟨rfl,rfl⟩) (λc u ts _ _ l=>l) (.head _) (lx) (lx) b λx t' ab hx he=>RV (d:=N+18) (cG:=(cJ,cI<|t'::ab)) (q':=(t',ab)) (jb hN)<|(b.lb x t' ab hx he).mono ja
end
noncomputable abbrev pE(s af aH:List Nat):List Nat:=[116,114,121,32]++s++[32,99,97,116,99,104,32,40]++af++[41,32]++aH
noncomputable abbrev pR(s af:List Nat):List Nat:=s++[32,102,105,110,97,108,108,121,32]++af
def Q2(a:Sp N 77 [.lst xs] [] (.str s) [])(n:Sp N 58 [.str w] [] (.str af) [])(bq:Sp N 77 [.lst ys] [] (.str aH) [])(hl:(pE s af aH).length<=ae):Sp (N+3) 80 [nd oj [.lst xs,.str w,.lst ys,.none]] [] (.str<|pE s af aH) []:=
 have h1:=bw hl;have h2:=bw h1;have h3:=bw h2
 sq (wk 2<|.q a<|.p (bw h3)<|.p h3<|.q n<|.p h2<|.p h1<|.q bq<|.p hl .nil)
def Pj(a:Sp N 77 [.lst xs] [] (.str s) [])(bq:Sp N 77 [.lst ys] [] (.str aH) [])(hl:(pR ([116,114,121,32]++s) aH).length<=ae):Sp (N+3) 80 [nd oj [.lst xs,.none,.none,.lst ys]] [] (.str<|pR ([116,114,121,32]++s) aH) []:=
 have h1:=bw hl
 sq (wk 2<|.q a<|.p (bw h1)<|.p h1<|.q bq<|.p hl .nil)
def O6(a:Sp N 77 [.lst xs] [] (.str s) [])(n:Sp N 58 [.str w] [] (.str af) [])(bq:Sp N 77 [.lst ys] [] (.str aH) [])(fE:Sp N 77 [.lst us] [] (.str a5) [])(hl:(pR (pE s af aH) a5).length<=ae):Sp (N+3) 80 [nd oj [.lst xs,.str w,.lst ys,.lst us]] [] (.str<|pR (pE s af aH) a5) []:=
 have h6:=bw hl;have h5:=bw h6;have h1:=bw h5;have h2:=bw h1;have h3:=bw h2
 sq (wk 2<|.q a<|.p (bw h3)<|.p h3<|.q n<|.p h2<|.p h1<|.q bq<|.p h5<|.p h6<|.q fE<|.p hl .nil)
def Bl.bl(h:Bl N B g xs s r)(l:aq u ts):aq (32::(s++u))<|.pt [123]::r ts:=by obtain⟨s',e⟩:=h.c;exact(h.lex u ts l).b<|aW 123 (s'++u) (by rw[e];rfl) rfl
def FI(h:Bl N B g xs s r)(l:aq u ts):aq (32::102::105::110::97::108::108::121::32::(s++u))<|.kw iH::.pt [123]::r ts:=(aq.kw (s:=iH) (by ext) cu<|h.bl l).b (aW 102 _ rfl rfl)
def Fp(h:Bl N B g xs s r)(l:aq u ts):aq (32::99::97::116::99::104::32::40::101::41::32::(s++u))<|.kw k6::.pt [40]::.nm [101] true::.pt [41]::.pt [123]::r ts:=by have a:=aq.so (s:=[41])<|h.bl l;have a:=aq.nm (s:=[101]) (by ext) cu a;have a:=(aq.so (s:=[40]) a).b<|aW 40 _ rfl rfl;exact(aq.kw (s:=k6) (by ext) cu a).b<|aW 99 _ rfl rfl
def z7(h:Bl N B g xs s r)(l:aq u ts):aq (116::114::121::32::(s++u))<|.kw lM::.pt [123]::r ts:=aq.kw (s:=lM) (by ext) cu (h.bl l)
def Qq(hN:22<=N)(hB:10*B+300<=ae)(h:Bl N B g xs s r)(aL:Bl N B g ys af aM):Rw (N+20) (10*B+300) g true oj [.lst xs,.str [101],.lst ys,.none] (pE s [101] af) (.kw lM) λts=>.pt [123]::r (.kw k6::.pt [40]::.nm [101] true::.pt [41]::.pt [123]::aM ts):=by
 have ln:=((((((Ln.lit (B:=B) (s:=[116,114,121,32]) (m:=4) rfl).app h.l).app<|Ln.lit (s:=[32,99,97,116,99,104,32,40]) (m:=8) rfl).app<|Ln.lit (s:=[101]) (m:=1) rfl).app<|Ln.lit (s:=[41,32]) (m:=2) rfl).app aL.l).kC rfl;refine Rw.mk' ((Q2 h.sh ((oN (s:=[101])<|by ext).mono<|jc hN) aL.sh<|aG ln hB).mono ja) ln (λu ts hl=>?_) (aW 116 _ rfl rfl) (by ext) λx aR t' ab hx he=>?_
 ·have a:=z7 h (Fp aL hl);simp only[pE,bz];exact a
 ·have p:=h.pa x (.kw k6) (.pt [40]::.nm [101] true::.pt [41]::.pt [123]::aM (t'::ab)) hx;exact(hU<|YL (d:=N+1) (s:=[101]) (p:=true) (q:=(.pt [123],r<|.kw k6::.pt [40]::.nm [101] true::.pt [41]::.pt [123]::aM (t'::ab))) (ak:=(.pt [123],aM<|t'::ab)) (q':=(t',ab)) (Nat.succ_le_succ hN) (by ext) (p.mono<|bh _ _) ((aL.pa x t' ab hx).mono<|bh _ _) (Bool.or_eq_false_iff.mp he).2).mono<|@ja _ 9 20 rfl
def PZ(hN:22<=N)(hB:10*B+300<=ae)(h:Bl N B g xs s r)(aL:Bl N B g ys af aM):Rw (N+20) (10*B+300) g false oj [.lst xs,.none,.none,.lst ys] (pR ([116,114,121,32]++s) af) (.kw lM) λts=>.pt [123]::r (.kw iH::.pt [123]::aM ts):=by
 have ln:=((((Ln.lit (B:=B) (s:=[116,114,121,32]) (m:=4) rfl).app h.l).app<|Ln.lit (s:=[32,102,105,110,97,108,108,121,32]) (m:=9) rfl).app aL.l).kC rfl;refine Rw.mk' ((Pj h.sh aL.sh<|aG ln hB).mono ja) ln (λu ts hl=>?_) (aW 116 _ rfl rfl) (by ext) λx aR t' ab hx he=>?_
 ·have a:=z7 h (FI aL hl);simp only[pR,bz];exact a
 ·have p:=h.pa x (.kw iH) (.pt [123]::aM (t'::ab)) hx;exact(hU<|XH (d:=N+1) (q:=(.pt [123],r<|.kw iH::.pt [123]::aM (t'::ab))) (ak:=(.pt [123],aM<|t'::ab)) (q':=(t',ab)) (jb hN) (p.mono<|bh _ _)<|(aL.pa x t' ab hx).mono<|bh _ _).mono<|@ja _ 9 20 rfl
def OZ(hN:22<=N)(hB:10*B+300<=ae)(h:Bl N B g xs s r)(aL:Bl N B g ys af aM)(bW:Bl N B g us aH cm):Rw (N+20) (10*B+300) g false oj [.lst xs,.str [101],.lst ys,.lst us] (pR (pE s [101] af) aH) (.kw lM) λts=>.pt [123]::r (.kw k6::.pt [40]::.nm [101] true::.pt [41]::.pt [123]::aM (.kw iH::.pt [123]::cm ts)):=by
 have ln:=((((((((Ln.lit (B:=B) (s:=[116,114,121,32]) (m:=4) rfl).app h.l).app<|Ln.lit (s:=[32,99,97,116,99,104,32,40]) (m:=8) rfl).app<|Ln.lit (s:=[101]) (m:=1) rfl).app<|Ln.lit (s:=[41,32]) (m:=2) rfl).app aL.l).app<|Ln.lit (s:=[32,102,105,110,97,108,108,121,32]) (m:=9) rfl).app bW.l).kC rfl;refine Rw.mk' ((O6 h.sh ((oN (s:=[101])<|by ext).mono<|jc hN) aL.sh bW.sh<|aG ln hB).mono ja) ln (λu ts hl=>?_) (aW 116 _ rfl rfl) (by ext) λx aR t' ab hx he=>?_
 ·have a:=z7 h (Fp aL<|FI bW hl);simp only[pR,pE,bz];exact a
 ·have p:=h.pa x (.kw k6) (.pt [40]::.nm [101] true::.pt [41]::.pt [123]::aM (.kw iH::.pt [123]::cm (t'::ab))) hx;exact(hU<|X6 (d:=N+1) (s:=[101]) (p:=true) (q:=(.pt [123],r<|.kw k6::.pt [40]::.nm [101] true::.pt [41]::.pt [123]::aM (.kw iH::.pt [123]::cm (t'::ab)))) (ak:=(.pt [123],aM<|.kw iH::.pt [123]::cm (t'::ab))) (aC:=(.pt [123],cm<|t'::ab)) (q':=(t',ab)) (Nat.succ_le_succ hN) (by ext) (p.mono<|bh _ _) ((aL.pa x (.kw iH) (.pt [123]::cm (t'::ab)) hx).mono<|bh _ _)<|(bW.pa x t' ab hx).mono<|bh _ _).mono<|@ja _ 9 20 rfl
noncomputable def Gc.lb(g:Gc):Gc:=⟨g.S,g.nl+1,g.ret,g.lp,g.br⟩
def RH(n:Sp N 58 [.str w] [] (.str w) [])(a:Sp N 80 [nd k ps] [] (.str s) [])(hl:(w++[58,32]++s).length<=ae):Sp (N+2) 80 [nd ki [.str w,nd k ps]] [] (.str<|w++[58,32]++s) []:=sq (wk 1<|.q n<|.p (bw hl)<|.q a<|.p hl .nil)
def Uz(hN:23<=N)(hB:10*B+300<=ae)(hv:aT<|nd k ps)(hw:aT<|nd ki [.str w,nd k ps])(hn:(g.nl=0/\w=[108])\/(g.nl=1/\w=[109]))(h:Rw N B g.lb el k ps s t r):Rw (N+8) (10*B+300) g el ki [.str w,nd k ps] (w++[58,32]++s) (.nm w true) λts=>.pt [58]::t::r ts:=by
 have zo:w=[108]\/w=[109]:=hn.elim (λh=>.inl h.2) λh=>.inr h.2;have ln:(w++[58,32]++s).length<=10*B+300:=by refine(((Ln.le (m:=1) ?_).app<|Ln.lit (s:=[58,32]) (m:=2) rfl).app<|Ln.row h.l).kC rfl;rcases zo with rfl|rfl<;>decide
 have hm:w∈gX/\bU w=w/\eY w=true/\∃c s',w=c::s'/\Nat.beq c 32=false:=by
  rcases zo with rfl|rfl
  ·exact JC (by ext) rfl rfl<|aW 108 _ rfl rfl
  ·exact JC (by ext) rfl rfl<|aW 109 _ rfl rfl
 have sh:=oN hm.1;rw[hm.2.1] at sh;refine⟨(RH (sh.mono<|jc hN) h.pr<|aG ln hB).mono ja,ln,λu ts hl=>?_,by exact bJ hm.2.2.2 λc s' e q=>(aW c (s'++[58,32]++s) (by rw[e];rfl) q),⟨by ext,rfl⟩,λx aR t' ab hx hp he=>?_⟩
 ·have a:=aq.nm hm.1 cu (aq.so (s:=[58])<|h.bl<|h.lex u ts hl);rw[hm.2.1,hm.2.2.1] at a;exact a.cast iS
 ·obtain⟨T,S,D,L,w',fl⟩:=x;rcases hn with⟨n0,rfl⟩|⟨n1,rfl⟩
  ·have hl:fl.length=0:=hx.l.trans n0
   match fl,hl with
   |[],_=>
    obtain rfl:aR=[]:=by rcases hp with h|⟨h,_⟩|h<;>first|exact h|lia
    refine fz (h.pa ⟨T,S,D,L,w',[false]⟩ [.ptr 4] t' ab ⟨hx.s,by show 1=g.nl+1;lia,hx.d,hx.lp,hx.br,hx.p⟩ (.inr<|.inl ⟨by show g.nl+1=1;lia,rfl⟩) he) λmn l1 _ p=>?_
    match mn,l1 with
    |[b'],_=>exact fA [] rfl (λ_=>rfl)<|(J1 (jb hN)<|Wg (x:=⟨T,S,D,L,w',[]⟩) (q:=(t,r<|t'::ab)) hN hv hw p).mono<|@ja _ 6 8 rfl
  ·have hl:fl.length=1:=hx.l.trans n1
   match fl,hl with
   |[c],_=>
    have fx:aR=[]\/aR=[.ptr 4]:=by rcases hp with h|⟨_,h⟩|h<;>first|exact .inl h|exact .inr h|lia
    refine fz (h.pa ⟨T,S,D,L,w',[c,false]⟩ (aR++[.ptr 5]) t' ab ⟨hx.s,by show 2=g.nl+1;lia,hx.d,hx.lp,hx.br,hx.p⟩ (.inr<|.inr (by show g.nl+1=2;lia)) he) λmn l1 z p=>?_;obtain rfl:=z<|.inr (by show g.nl+1=2;lia);exact fA [c] rfl (λ_=>rfl)<|(J1 (jb hN)<|Xc (x:=⟨T,S,D,L,w',[c]⟩) (q:=(t,r<|t'::ab)) hN hv hw fx p).mono<|@ja _ 6 8 rfl
def T1(hN:40<=N)(hB:20<=B)(hn:(g.nl=1/\w=[108])\/(g.nl=2/\(w=[108]\/w=[109]))):Rw N B g false u8 [.str w] (kg++[32]++w++[59]) (.kw kg) λts=>.nm w true::.pt [59]::ts:=by
 have zo:w=[108]\/w=[109]:=hn.elim (λh=>.inl h.2) λh=>h.2;have hm:w∈gX/\bU w=w/\eY w=true/\(∃c s',w=c::s'/\Nat.beq c 32=false)/\(kg++[32]++w++[59]).length<=20:=by
  rcases zo with rfl|rfl
  ·exact⟨by ext,rfl,rfl,(aW 108 _ rfl rfl),by ext⟩
  ·exact⟨by ext,rfl,rfl,(aW 109 _ rfl rfl),by ext⟩
 have hl:(kg++[32]++w++[59]).length<=ae:=aG hm.2.2.2.2<|a6 (n:=20);have h1:=bw hl;have sh:=oN hm.1;rw[hm.2.1] at sh;refine Rw.mk' ((sq<|wk 2<|.p (bw h1)<|.q sh<|.p h1<|.p hl .nil).mono (show 13<=N by exact jc hN rfl)) (aG hm.2.2.2.2 hB) (λu ts hl=>?_) (aW 98 _ rfl rfl) (by ext) λx aR t' ab hx he=>?_
 ·have a:=aq.nm hm.1 cu (aq.so (s:=[59]) hl);rw[hm.2.1,hm.2.2.1] at a;have a:=aq.kw (s:=kg) (by ext) cu<|a.b<|by exact bJ hm.2.2.2.1 λc s' e q=>(aW c (s'++([59]++u)) (by rw[e];rfl) q)
  exact a.cast iS
 ·obtain⟨T,S,D,L,w',fl⟩:=x;rcases hn with⟨n0,rfl⟩|⟨n1,hw⟩
  ·have hl:fl.length=1:=hx.l.trans n0
   match fl,hl with
   |[b],_=>exact(hU<|YT).mono<|jc hN
  ·have hl:fl.length=2:=hx.l.trans n1
   match fl,hl with
   |[b,b'],_=>exact(hU<|X1 hw).mono<|jc hN
abbrev qw:=List Nat×(List Tk->List Tk)
structure Pi(p:qw):Prop where
 lex:∀u ts,aq u ts->aq (p.1++u) (p.2 ts)
 c:∃c s',p.1=c::s'/\Nat.beq c 32=false
 h:∀ts,∃t r,p.2 ts=t::r
noncomputable def jn:List qw->List Tk->List Tk
 |[],ts=>ts
 |p::r,ts=>p.2<|jn r ts
abbrev Ci:=Nat×List Nat×List V×List Nat
noncomputable abbrev tB:List Nat:=[40,34,117,115,101,32,115,116,114,105,99,116,34,41,59]
def d6(a:Ci):V:=match a.1 with
 |0=>nd di [nd dm [.str fi]]
 |1=>nd di [nd dm [.str a.2.1]]
 |3=>nd di [nd a.2.1 a.2.2.1]
 |_=>nd a.2.1 a.2.2.1
noncomputable def dG(a:Ci):List Nat:=match a.1 with
 |0=>tB
 |_=>a.2.2.2
def oW(S:Bool):Nat->List Ci->List An
 |_,[]=>[]
 |o,a::r=>match a.1 with
  |0=>oW S (o+6) r
  |1=>bif S then ca 80 (.str a.2.2.2) []::oW S 0 r else .br (o+4) false::ca 80 (.str a.2.2.2) []::oW S 0 r
  |2=>.br (o+1) false::ca 80 (.str a.2.2.2) []::oW S 0 r
  |3=>.br (o+2) false::ca 80 (.str a.2.2.2) []::oW S 0 r
  |4=>ca 80 (.str a.2.2.2) []::oW S 0 r
  |_=>.br o false::ca 80 (.str a.2.2.2) []::oW S 0 r
def mf(N:Nat)(S:Bool):Nat->List Nat->List Ci->Prop->Prop
 |_,_,[],P=>P
 |i,p,a::r,P=>match a.1 with
  |0=>mf N S (i+1) p r<|i<ae/\P
  |1=>mf N S (i+1) p r<|i<ae/\Sp N 80 [d6 a] [] (.str a.2.2.2) []/\(bif S then P else lq a.2.1 fi=false/\P)
  |2=>mf N S (i+1) p r<|i<ae/\Sp N 80 [d6 a] [] (.str a.2.2.2) []/\lq a.2.1 di=false/\P
  |3=>mf N S (i+1) a.2.1 r<|i<ae/\Sp N 80 [d6 a] [] (.str a.2.2.2) []/\lq a.2.1 dm=false/\P
  |4=>mf N S (i+1) p r<|i<ae/\Sp N 80 [d6 a] [] (.str a.2.2.2) []/\P
  |_=>mf N S (i+1) p r<|i<ae/\Sp N 80 [d6 a] [] (.str a.2.2.2) []/\lq p dm=false/\P
abbrev C3:=List Nat×List V×List Nat
noncomputable def tg(n:Nat)(a:C3):Ci:=(n,a.1,a.2.1,a.2.2)
noncomputable def wr(l:List Nat)(a:C3):List<|List Ci:=l.map λn=>[tg n a]
def v9(l:List Nat)(a b:C3):List<|List Ci:=l.flatMap λn=>match n with
 |2=>[[tg 2 a,tg 4 b]]
 |3=>[[tg 3 a,tg 5 b]]
 |n=>(wr l b).map λr=>tg n a::r
def tR(l:List Nat)(z:Ci)(a b:C3):List<|List Ci:=wr l a++(v9 l a b++((wr l a).map (λr=>z::r)++(v9 l a b).map λr=>z::r))
def AB:∀{l:List qw} {u:List Nat} {ts:List Tk},(∀p∈l,Pi p)->aq u ts->aq (cf [32] (l.map Prod.fst)++u) (jn l ts)
 |[],_,_,_,h=>h
 |[p],u,ts,hp,h=>(hp p<|.head _).lex u ts h
 |p::p'::r,u,ts,hp,h=>by
  have a:=AB (l:=p'::r) (λq hq=>hp q<|.tail _ hq) h;refine cX ((hp p'<|.tail _<|.head _).h<|jn r ts) λt r' e=>?_;refine bJ ((hp p'<|.tail _<|.head _).c) λc s' bj q=>?_;have a':aq (32::(cf [32] ((p'::r).map Prod.fst)++u))<|jn (p'::r) ts:=by
   show aq _<|p'.2<|jn r ts;have a:aq _<|p'.2<|jn r ts:=a;rw[e] at a⊢;refine a.b ?_;clear hp e a;induction r using bx with
   |nil=>exact aW c (s'++u) (by show p'.1++u=_;rw[bj];rfl) q
   |cons p'' r=>exact aW c _ (by show p'.1++[32]++cf [32] _++u=_;rw[bj];rfl) q
  have:=(hp p<|.head _).lex _ _ a';show aq (p.1++[32]++cf [32] ((p'::r).map Prod.fst)++u) _;exact this.cast iS
def WP(h:l∈tR [0,1,2,3] (tg 0 bq) bv aK)(hl:(cf [32]<|l.map dG).length<=ae)(p:mf N false 0 [] l True):Sp (N+2) 76 [.lst<|l.map d6,.bool false] [] (.str<|cf [32]<|l.map dG) []:=gP (L:=tR [0,1,2,3] (tg 0 bq) bv aK) (d:=N) (n:=1) (as:=λl=>[.lst<|l.map d6,.bool false]) (c:=λ_=>[]) (c':=λ_=>[]) (sc:=oW false 0) (v:=λl=>.str<|cf [32]<|l.map dG) (P:=λl=>(cf [32]<|l.map dG).length<=ae/\mf N false 0 [] l True) (by ext) l h ⟨hl,p⟩
def Vb(h:l∈tR [1,2,3] (tg 1 bq) bv aK)(hl:(cf [32]<|l.map dG).length<=ae)(p:mf N true 0 [] l True):Sp (N+2) 76 [.lst<|l.map d6,.bool true] [] (.str<|cf [32]<|l.map dG) []:=gP (L:=tR [1,2,3] (tg 1 bq) bv aK) (d:=N) (n:=1) (as:=λl=>[.lst<|l.map d6,.bool true]) (c:=λ_=>[]) (c':=λ_=>[]) (sc:=oW true 0) (v:=λl=>.str<|cf [32]<|l.map dG) (P:=λl=>(cf [32]<|l.map dG).length<=ae/\mf N true 0 [] l True) (by ext) l h ⟨hl,p⟩
def oG(N:Nat)(g:Gc)(ah qd:Bool)(t:Tk)(r:Rr)(v:V):Prop:=∀ie x t' ab ys zs x' q',Cr g x->gU t'=false->ys.length<ae->cY (N+4) ie (ys++[v]) qd (x,[],t',ab) zs (x',[],q')->cY (N+4) ie ys ah (x,[],t,r<|t'::ab) zs (x',[],q')
structure El(N:Nat)(g:Gc)(k:List Nat)(ps:List V)(t:Tk)(r:Rr):Prop where
 f:kj t=true
 el:∀x t' ab,Cr g x->gU t'=false->Pz N 3136 [] (x,[],t,r<|t'::ab) (nd k ps) (x,[],t',ab)
def Cp(N:Nat)(S:Bool)(i:Nat)(p:List Nat)(l:List Ci):Prop:=∀P,P->mf N S i p l P
structure Bo(N B:Nat)(g:Gc)(n:Nat)(a:C3)(ah:Bool)(t:Tk)(r:Rr):Prop where
 l:(dG<|tg n a).length<=B
 pi:Pi (dG<|tg n a,λts=>t::r ts)
 f:kj t=true
 sT:oG N g true ah t r<|d6<|tg n a
 sF:oG N g false false t r<|d6<|tg n a
 p:∀i p r,i<ae->(n=3->lq a.1 dm=false->Cp N g.S (i+1) a.1 r)->(n≠3->Cp N g.S (i+1) p r)->Cp N g.S i p (tg n a::r)
def Rw.pi(h:Rw N B g el k ps s t r):Pi (s,λts=>t::r ts):=⟨h.lex,h.c,λts=>(bT t (r ts) rfl)⟩
theorem Rw.e(hN:20<=N)(h:Rw N B g el k ps s t r):El (N+2) g k ps t r:=⟨h.f.1,λx t' ab hx he=>Lg hN h.f.2<|h.iq x t' ab hx<|by rw[he,Bool.and_false]⟩
def qz(hN:22<=N)(f:kj t):Pz N 2136 [.bool ie] (x,[],t,tl) (.bool false) (x,[],t,tl):=(atN (lP f).2.1 (lP f).1).mono hN
def uN(hN:22<=N)(h:El N g k ps t r):oG N g false false t r<|nd k ps:=λie x t' ab ys zs x' q' hx he hl l=>cY.beh (d:=N+2) hl (qz (jj hN) h.f) ((h.el x t' ab hx he).mono<|bh _ _) l
def AE(hN:22<=N)(e:lq t.k qT=false)(h:El N g k ps t r):oG N g true false t r<|nd k ps:=λie x t' ab ys zs x' q' hx he hl l=>cY.fst (d:=N+2) (q:=(t,r<|t'::ab)) hl e (qz (jj hN) h.f) ((h.el x t' ab hx he).mono<|bh _ _) (by rw[show lq (t,r<|t'::ab).1.k qT=false from e];exact l)
def ac7(hN:22<=N)(e:lq k dm=false)(h:Rw N B g el di [nd k ps] s (.tx z p) r):oG N g true false (.tx z p) r<|nd di [nd k ps]:=λie x t' ab ys zs x' q' hx he hl l=>cY.txt (d:=N+2) hl e (qz (jj hN) h.f.1) ((h.iq x t' ab hx<|by rw[he,Bool.and_false]).mono<|bh _ _) (by rw[e];exact l)
theorem Vm(h:x.s):dH x=x:=by obtain⟨T,s,d,l,w,fl⟩:=x;have h:s:=h;refine zc h ?_;rfl
def S3(hN:22<=N)(e:lq z fi=true->g.S=true/\p=true)(h:Rw N B g el di [nd dm [.str z]] s (.tx z p) r):oG N g true true (.tx z p) r<|nd di [nd dm [.str z]]:=λie x t' ab ys zs x' q' hx he hl l=>by
 have h7:=(h.iq x t' ab hx<|by rw[he,Bool.and_false]);cases q:lq z fi with
 |true=>obtain⟨e1,rfl⟩:=e q;have q:=(dR _ _).mp q;subst q;exact cY.use (d:=N) (aN:=x) hl (qz hN h.f.1) h7 (by rw[Vm<|hx.s.trans e1];exact l)
 |false=>
  clear e;induction p with
  |true=>exact cY.dir (d:=N+2) hl q (qz (jj hN) h.f.1) (h7.mono<|bh _ _) l
  |false=>exact cY.Zt (d:=N+2) hl (qz (jj hN) h.f.1) (h7.mono<|bh _ _) l
def GV(hN:22<=N)(hk:lq k di=false)(e:lq t.k qT=false)(h:El N g k ps t r)(pr:Sp N 80 [nd k ps] [] (.str s) [])(l:s.length<=B)(pi:Pi (s,λts=>t::r ts)):Bo N B g 2 (k,ps,s) false t r:=⟨l,pi,h.f,AE hN e h,uN hN h,λi p r hi _ c P hp=>c (by ext) _ ⟨hi,pr,hk,hp⟩⟩
def UC(hN:22<=N)(hk:lq k dm=false)(h:Rw N B g el di [nd k ps] s t r):Bo (N+2) B g 3 (k,ps,s) false t r:=by
 have e:=h.e<|jc hN;refine⟨h.l,h.pi,e.f,?_,uN (jj hN) e,λi p r hi c _ P hp=>c rfl hk _ ⟨hi,h.pr.mono<|bh _ _,hk,hp⟩⟩;induction t with
 |tx z p=>exact λie x t' ab ys zs x' q' hx he hl l=>cY.txt (d:=N+4) hl hk (qz (jj hN) h.f.1) ((h.iq x t' ab hx<|by rw[he,Bool.and_false]).mono<|bh _ _) (by rw[hk];exact l)
 |_=>exact AE (jj hN) rfl e
def uS(hN:22<=N)(hl:g.nl<=3)(hB:4*B+200<=ae)(oQ:20<=B)(h:q∈kJ):Ke g.S (N+2) B dm [.str q.1.v] q.1.1 (.tx q.1.v q.1.2.2) (λts=>ts)/\Rw (N+52) (4*B+200) g false di [nd dm [.str q.1.v]] (q.1.1++[59]) (.tx q.1.v q.1.2.2) (λts=>.pt [59]::ts):=by have e:=(HT (S:=g.S) hN oQ h false).ke<|H2 hN oQ h;exact⟨e,G1 (jj hN) hl hB e rfl rfl⟩
def S2(hN:22<=N)(hl:g.nl<=3)(hB:4*B+200<=ae)(oQ:20<=B)(h:q∈kJ)(hu:g.S=false->lq q.1.v fi=false):Bo (N+54) (4*B+200) g 1 (q.1.v,[],q.1.1++[59]) true (.tx q.1.v q.1.2.2) λts=>.pt [59]::ts:=by
 obtain⟨_,r⟩:=uS (g:=g) hN hl hB oQ h;have e:=r.e ia;have f:=cp (show kJ.all (λq=> !lq q.1.v fi||q.1.2.2)=true by ext) q h;refine⟨r.l,r.pi,e.f,λie x t' ab ys zs x' q' hx he hl l=>S3 (N:=N+54) (jj hN) (λz=>?_) ⟨r.pr.mono ja,r.l,r.lex,r.c,r.f,λx aR t' ab a b c=>by refine fz (r.pa x aR t' ab a b c) λmn a b c=>?_;exact(fA mn a b<|c.mono ja)⟩ ie x t' ab ys zs x' q' hx he hl l,uN (jj hN) e,λi p r' hi _ c P hp=>c (by ext) _ ⟨hi,r.pr.mono ja,?_⟩⟩
 ·rw[z,Bool.not_true,Bool.false_or] at f;refine⟨?_,f⟩;cases q:g.S with
  |true=>rfl
  |false=>rw[hu q] at z;exact nj z
 ·cases q:g.S with
  |true=>exact hp
  |false=>exact⟨hu q,hp⟩
noncomputable def pJ:Tx×List Nat:=(([34,117,115,101,32,115,116,114,105,99,116,34],[[117],[115],[101],[32],[115],[116],[114],[105],[99],[116]],true),[1,2,3,4,5,6,7,8,9,10,10,11,12])
def G4:∃q∈kJ,q.1=pJ.1:=au _ (.tail _<|.head _) rfl
def Gm(hN:22<=N)(hl:g.nl<=3)(hB:4*B+200<=ae)(oQ:20<=B)(hS:g.S=false)(a:C3):Bo (N+54) (4*B+200) g 0 a false (.pt [40]) λts=>.tx fi true::.pt [41]::.pt [59]::ts:=by refine aA G4 λq hq e=>?_;obtain⟨k,_⟩:=uS (g:=g) hN hl hB oQ hq;rw[e] at k;have el:El (N+54) g di [nd dm [.str fi]] (.pt [40]) λts=>.tx fi true::.pt [41]::.pt [59]::ts:=⟨by ext,λx t' ab hx he=>Lg ia rfl<|GF (jj hN) hl k x [] t' ab hx⟩;exact⟨by show 15<=_;exact ia,⟨λu ts l=>FD k l,(aW 40 _ rfl rfl),λts=>(bT _ _ rfl)⟩,el.f,AE (jj hN) rfl el,uN (jj hN) el,λi p r hi _ c P hp=>c (by ext) _ ⟨hi,hp⟩⟩
structure Bj(N B:Nat)(g:Gc)(a:C3)(t:Tk)(r:Rr):Prop where
 l:a.2.2.length<=B
 pi:Pi (a.2.2,λts=>t::r ts)
 f:kj t=true
 sF:oG N g false false t r<|nd a.1 a.2.1
 pr:Sp N 80 [nd a.1 a.2.1] [] (.str a.2.2) []
def xc(hN:22<=N)(h:El N g k ps t r)(pr:Sp N 80 [nd k ps] [] (.str s) [])(l:s.length<=B)(pi:Pi (s,λts=>t::r ts)):Bj N B g (k,ps,s) t r:=⟨l,pi,h.f,uN hN h,pr⟩
noncomputable def mY(S:Bool):List Nat:=bif S then [1,2,3] else [0,1,2,3]
def lZ(S:Bool)(a:C3):Ci:=bif S then tg 1 a else tg 0 a
structure Bd(N B:Nat)(g:Gc)(xs:List V)(w:List Nat)(f:List Tk->List Tk):Prop where
 code:Sp N 76 [.lst xs,.bool g.S] [] (.str w) []
 cz:∀a:C3,(g.S=true->Sp 78 80 [d6<|tg 1 a] [] (.str a.2.2) [])->(dG (lZ g.S a)++[32]++w).length<=ae->Sp N 76 [.lst<|d6 (lZ g.S a)::xs,.bool g.S] [] (.str<|dG (lZ g.S a)++[32]++w) []
 c:∃c s',w=c::s'/\Nat.beq c 32=false
 lex:∀u ts,aq u ts->aq (w++u) (f ts)
 l:w.length<=2*B+1
 lp:∀ie ah ys x t' ab,Cr g x->ys.length<=1->gU t'=false->Pz 23 2136 [.bool ie] (x,[],t',ab) (.bool true) (x,[],t',ab)->∃t r,f (t'::ab)=t::r/\gU t=false/\cY (N+4) ie ys ah (x,[],t,r) (ys++xs) (x,[],t',ab)
section
variable{S:Bool}{d N B n m:Nat}{g:Gc}{z:List Nat}{xs ys:List V}{c ah Hl:Bool}{t t' aD:Tk}{ts:List Tk}{r aM:Rr}{x:Px}{s w u:List Nat}{l:List Ci}{a bv aK bq:C3}
def Jy(h:l∈tR (mY S) (lZ S bq) bv aK)(hl:(cf [32]<|l.map dG).length<=ae)(p:Cp N S 0 [] l):Sp (N+2) 76 [.lst<|l.map d6,.bool S] [] (.str<|cf [32]<|l.map dG) []:=by
 induction S with
 |true=>exact Vb h hl<|p True trivial
 |false=>exact WP h hl<|p True trivial
def BP{l:List Nat}(h:n∈l):[tg n a]∈wr l a:=List.mem_map_of_mem h
def Xq{l:List Nat}(h:n∈l)(h':m∈l)(hn:n=0\/n=1):[tg n a,tg m aK]∈v9 l a aK:=by
 refine List.mem_flatMap.mpr<|au n h ?_;rcases hn with rfl|rfl
 ·exact List.mem_map_of_mem (f:=λr=>tg 0 a::r)<|BP h'
 ·exact List.mem_map_of_mem (f:=λr=>tg 1 a::r)<|BP h'
def Za{l:List Nat}(h:n∈l)(hn:n=2\/n=3):[tg n a,tg (n+2) aK]∈v9 l a aK:=by refine List.mem_flatMap.mpr<|au n h ?_;rcases hn with rfl|rfl<;>exact .head _
theorem Cp.nil:Cp N S i p []:=λ_ h=>h
def Bj.c4(h:Bj N B g a t r)(hi:i<ae)(c:Cp N S (i+1) p l):Cp N S i p<|tg 4 a::l:=λP hp=>c _ ⟨hi,h.pr,hp⟩
def Bj.c5(h:Bj N B g a t r)(hi:i<ae)(hp:lq p dm=false)(c:Cp N S (i+1) p l):Cp N S i p<|tg 5 a::l:=λP q=>c _ ⟨hi,h.pr,hp,q⟩
def JG(h:Pi (s,f))(h':Pi (s',f')){ts:List Tk}(l:aq u ts):aq (cf [32] [s,s']++u)<|f<|f' ts:=AB (l:=[(s,f),(s',f')]) (ao h<|ao h' aP) l
def IM(h:s.length<=B)(h':s'.length<=B):(cf [32] [s,s']).length<=2*B+1:=by show(s++[32]++s').length<=_;simp only[bO,ec,List.length_nil];lia
theorem Bo.nx(h:Bo N B g n a ah t r):gU t=false:=by have q:=lP h.f;exact Bool.or_eq_false_iff.mpr ⟨q.2.2.1,q.2.2.2.2.2.1⟩
theorem Bj.nx(h:Bj N B g a t r):gU t=false:=by have q:=lP h.f;exact Bool.or_eq_false_iff.mpr ⟨q.2.2.1,q.2.2.2.2.2.1⟩
theorem cY.mono(h:d<=e)(l:cY d ie xs ah q ys q'):cY e ie xs ah q ys q':=λo=>(l o).imp λ_ l=>l.imp λ_ l=>eF.mono h l
def vL(h:xs.length<=n)(q:Nat.blt (n+m) 8388608):xs.length+m<ae:=eP (Nat.add_le_add_right h m)<|bF q
theorem Bo.st(h:Bo N B g n a ah t r)(nX:Bool):∃qd,oG N g nX qd t r<|d6<|tg n a:=by
 induction nX with
 |true=>exact⟨ah,h.sT⟩
 |false=>exact⟨false,h.sF⟩
def Cv(hN:78<=N)(hm:l∈wr (mY S) a++v9 (mY S) a aK)(hc:∀i,i<=1->Cp N S i [] l)(ne:∃c r,l=c::r)(hl:(cf [32]<|l.map dG).length<=ae):Sp (N+2) 76 [.lst<|l.map d6,.bool S] [] (.str<|cf [32]<|l.map dG) []/\∀bq:C3,(S=true->Sp 78 80 [d6<|tg 1 bq] [] (.str bq.2.2) [])->(dG (lZ S bq)++[32]++cf [32] (l.map dG)).length<=ae->Sp (N+2) 76 [.lst<|d6 (lZ S bq)::l.map d6,.bool S] [] (.str<|dG (lZ S bq)++[32]++cf [32] (l.map dG)) []:=by
 refine⟨Jy (bq:=a) (bv:=a) (aK:=aK) ?_ hl<|hc 0<|by ext,λbq hz hl=>?_⟩
 ·rcases List.mem_append.mp hm with h|h
  ·exact gq _ h
  ·exact ei _<|gq _ h
 ·have m:lZ S bq::l∈tR (mY S) (lZ S bq) a aK:=by
   refine ei _<|ei _ ?_;rcases List.mem_append.mp hm with h|h
   ·exact gq _<|List.mem_map_of_mem (f:=λr=>lZ S bq::r) h
   ·exact ei _<|List.mem_map_of_mem (f:=λr=>lZ S bq::r) h
  refine cX ne λc r q1=>?_;clear ne;subst q1;refine Jy (bq:=bq) (bv:=a) (aK:=aK) m hl λP hp=>?_;clear hm hl m;induction S with
  |true=>exact hc 1 (by ext) _ ⟨bF (n:=0),(hz rfl).mono hN,hp⟩
  |false=>exact hc 1 (by ext) _ ⟨bF (n:=0),hp⟩
def bd1(hN:78<=N)(hB:2*B+1<=ae)(hn:n∈mY g.S)(h:Bo N B g n a ah t r):Bd (N+2) B g [d6<|tg n a] (dG<|tg n a) λts=>t::r ts:=by
 obtain⟨c1,c2⟩:=Cv (N:=N) (S:=g.S) (l:=[tg n a]) (aK:=a) hN (gq _<|BP hn) (λi hi=>h.p i [] [] (eP hi<|bF (n:=1)) (λ_ _=>Cp.nil) λ_=>Cp.nil) (bT _ _ rfl)<|aG h.l<|by lia
 refine⟨c1,c2,h.pi.c,λu ts l=>h.pi.lex u ts l,aG h.l jq,λie nX ys x t' ab hx hy he e=>(dA t _ rfl h.nx<|cY.mono (show N+4<=_ by exact @ja _ 4 6 rfl) ?_)⟩;obtain⟨qd,st⟩:=h.st nX;exact st ie x t' ab ys _ x (t',ab) hx he (vL (m:=0) hy rfl)<|cY.stop (d:=N+2) (jb hN)<|Sw.mono (jb hN) e
def bd2(hN:78<=N)(hB:2*B+1<=ae)(hn:n∈mY g.S)(mV:n=0\/n=1)(hm:m∈mY g.S)(h:Bo N B g n a ah t r)(aL:Bo N B g m aK Hl aD aM):Bd (N+2) B g [d6<|tg n a,d6<|tg m aK] (cf [32] [dG<|tg n a,dG<|tg m aK]) λts=>t::r (aD::aM ts):=by
 have ln:=IM h.l aL.l;have q:∀i p,i<=2->Cp N g.S i p [tg m aK]:=λi p hi=>aL.p i p [] (eP hi<|bF (n:=2)) (λ_ _=>Cp.nil) λ_=>Cp.nil;obtain⟨c1,c2⟩:=Cv (N:=N) (S:=g.S) (l:=[tg n a,tg m aK]) hN (ei _<|Xq hn hm mV) (λi hi=>h.p i [] _ (eP hi<|bF (n:=1)) (λ_ _=>q _ _<|Nat.succ_le_succ hi) λ_=>q _ _<|Nat.succ_le_succ hi) (bT _ _ rfl)<|aG ln hB;refine⟨c1,c2,?_,λu ts l=>JG h.pi aL.pi l,ln,λie nX ys x t' ab hx hy he e=>(dA t _ rfl h.nx<|cY.mono (show N+4<=_ by exact @ja _ 4 6 rfl) ?_)⟩
 ·refine bJ h.pi.c λc s' e q=>?_;have e:dG (tg n a)=c::s':=e;exact aW c (s'++[32]++dG (tg m aK)) (by show dG (tg n a)++_++_=_;rw[e];rfl) q
 ·obtain⟨qd,st⟩:=h.st nX;obtain⟨adl,xo⟩:=aL.st qd;refine st ie x aD _ ys _ x (t',ab) hx aL.nx (vL (m:=0) hy rfl)<|xo ie x t' ab _ _ x (t',ab) hx he (by rw[bO];exact vL (m:=1) hy rfl) ?_;rw[bz];exact cY.stop (d:=N+2) (jb hN)<|Sw.mono (jb hN) e
theorem A1(h:n=2\/n=3):d6 (tg (n+2) a)=nd a.1 a.2.1/\dG (tg (n+2) a)=a.2.2:=by rcases h with rfl|rfl<;>exact⟨rfl,rfl⟩
def bd3(hN:78<=N)(hB:2*B+1<=ae)(hn:n∈mY g.S)(mV:n=2\/n=3)(h:Bo N B g n a false t r)(aL:Bj N B g aK aD aM):Bd (N+2) B g [d6<|tg n a,nd aK.1 aK.2.1] (cf [32] [dG<|tg n a,aK.2.2]) λts=>t::r (aD::aM ts):=by
 have ln:=IM h.l aL.l;obtain⟨c1,c2⟩:=Cv (N:=N) (S:=g.S) (l:=[tg n a,tg (n+2) aK]) hN (ei _<|Za hn mV) (λi hi=>h.p i [] _ (eP hi<|bF (n:=1)) (λe hp=>by exact zc e<|aL.c5 (eP (Nat.succ_le_succ hi)<|bF (n:=2)) hp Cp.nil) λe=>by
  rcases mV with rfl|rfl
  ·exact aL.c4 (eP (Nat.succ_le_succ hi)<|bF (n:=2)) Cp.nil
  ·exact absurd rfl e) (bT _ _ rfl) (by
  show(cf [32] [dG<|tg n a,dG<|tg (n+2) aK]).length<=ae;rw[(A1 mV).2];exact aG ln hB)
 have ev:[tg n a,tg (n+2) aK].map d6=[d6<|tg n a,nd aK.1 aK.2.1]:=by show [d6<|tg n a,d6<|tg (n+2) aK]=_;rw[(A1 mV).1]
 have et:[tg n a,tg (n+2) aK].map dG=[dG<|tg n a,aK.2.2]:=by show [dG<|tg n a,dG<|tg (n+2) aK]=_;rw[(A1 mV).2]
 rw[ev,et] at c1 c2;refine⟨c1,c2,?_,λu ts l=>JG h.pi aL.pi l,ln,λie nX ys x t' ab hx hy he e=>(dA t _ rfl h.nx<|cY.mono (show N+4<=_ by exact @ja _ 4 6 rfl) ?_)⟩
 ·refine bJ h.pi.c λc s' e q=>?_;have e:dG (tg n a)=c::s':=e;exact aW c (s'++[32]++aK.2.2) (by show dG (tg n a)++_++_=_;rw[e];rfl) q
 ·have st:oG N g nX false t r<|d6<|tg n a:=by
   induction nX with
   |true=>exact h.sT
   |false=>exact h.sF
  refine st ie x aD _ ys _ x (t',ab) hx aL.nx (vL (m:=0) hy rfl)<|aL.sF ie x t' ab _ _ x (t',ab) hx he (by rw[bO];exact vL (m:=1) hy rfl) ?_;rw[bz];exact cY.stop (d:=N+2) (jb hN)<|Sw.mono (jb hN) e
theorem Bd.mono(h:Bd N B g xs w f)(hn:N<=N')(hb:B<=B'):Bd N' B' g xs w f:=
 ⟨h.code.mono hn,λa z l=>(h.cz a z l).mono hn,h.c,h.lex,aG h.l<|by lia,λie ah ys x t' ab hx hy he e=>by refine dW (h.lp ie ah ys x t' ab hx hy he e) λt r e1 e2 l=>?_;exact(dA t r e1 e2<|cY.mono (ji hn) l)⟩
end
noncomputable def gF(S:Bool):Gc:=⟨S,0,true,false,false⟩
def qm(ps:List<|List Nat):List Nat:=cf [44,32]<|ps.map bU
abbrev iu(ps:List<|List Nat)(w:List Nat):List Nat:=[40]++qm ps++[41,32,123]++w++[125]
def wE:Option (List Nat)->List Nat
 |none=>[]
 |some s=>bU s
def Kq(N:Nat):List (List Nat)->Prop->Prop
 |[],P=>P
 |s::r,P=>Kq N r<|Sp N 58 [.str s] [] (.str<|bU s) []/\P
def Bt(h:ps∈iK)(c:Sp N 76 [.lst xs,.bool S] [] (.str w) [])(hN:10<=N)(hl:(iu ps w).length<=ae):Sp (N+2) 75 [nd dE [nv,.lst<|ps.map .str,.lst xs,.bool S,.str s]] [] (.str<|iu ps w) []:=by
 have h1:=bw hl;have h2:=bw h1;have h3:=bw h2;have sh:∀s∈gX,Sp N 58 [.str s] [] (.str<|bU s) []:=λs h=>(oN h).mono hN;refine gP (L:=iK) (d:=N) (n:=1) (as:=λps=>[nd dE [nv,.lst<|ps.map .str,.lst xs,.bool S,.str s]]) (c:=λ_=>[]) (c':=λ_=>[]) (sc:=λps=>ps.map (λs=>ca 58 (.str<|bU s) [])++[ca 76 (.str w) []]) (v:=λps=>.str<|iu ps w)
  (P:=λps=>(iu ps w).length<=ae/\([40]++qm ps++[41,32,123]++w).length<=ae/\Sp N 76 [.lst xs,.bool S] [] (.str w) []/\([40]++qm ps++[41,32,123]).length<=ae/\([40]++qm ps).length<=ae/\(qm ps).length<=ae/\Kq N ps True) (by ext) ps h ⟨hl,h1,c,h2,h3,iD h3,?_⟩
 have h':=h;simp only[iK,List.mem_cons,List.not_mem_nil,or_false] at h';rcases h' with rfl|rfl|rfl
 ·trivial
 ·exact⟨sh [97]<|by ext,trivial⟩
 ·exact⟨sh [112]<|by ext,sh [97]<|by ext,trivial⟩
def Hu(h:o∈vk)(hN:10<=N)(c:Sp N 75 [nd dE [fU o,.lst us,.lst xs,.bool S,.str s]] [] (.str w) [])(hl:(wE o++w).length<=ae):Sp (N+2) 74 [nd dE [fU o,.lst us,.lst xs,.bool S,.str s]] [] (.str<|wE o++w) []:=by
 induction o with
 |none=>exact sq<|wk 1<|.q c<|.p hl .nil
 |some a=>
  have ha:a∈gX:=by
   rcases dZ h with h|h
   ·exact nh h
   ·refine aA (List.mem_map.mp h) λb hb e=>?_;cases e;exact .tail _ hb
  exact sq<|wk 1<|.q ((oN ha).mono hN)<|.q c<|.p hl .nil
structure Pp(ps:List<|List Nat)(r:Rr):Prop where
 lex:∀u ts,aq u ts->aq ([40]++qm ps++[41]++u) (.pt [40]::r ts)
 pa:∀x t' ab,Pa x 28 6136 [] (.pt [40],r<|t'::ab) (.lst<|ps.map .str) (t',ab)
 l:(qm ps).length<=10
def pp(h:ps∈iK):∃r,Pp ps r:=by
 simp only[iK,List.mem_cons,List.not_mem_nil,or_false] at h;rcases h with rfl|rfl|rfl
 ·exact⟨λts=>.pt [41]::ts,λu ts l=>aq.so (s:=[40])<|aq.so (s:=[41]) l,λx t' ab=>(iq).mono<|by ext,by ext⟩
 ·exact⟨λts=>.nm [97] true::.pt [41]::ts,λu ts l=>aq.so (s:=[40])<|aq.nm (s:=[97]) (by ext) cu<|aq.so (s:=[41]) l,λx t' ab=>pa1<|by ext,by ext⟩
 ·exact⟨λts=>.nm [97] true::.pt [44]::.nm [112] true::.pt [41]::ts,λu ts l=>aq.so (s:=[40])<|aq.nm (s:=[97]) (by ext) cu<|aq.so (s:=[44])<|(aq.nm (s:=[112]) (by ext) cu<|aq.so (s:=[41]) l).b<|aW 112 _ rfl rfl,λx t' ab=>pa2 (by ext)<|by ext,by ext⟩
def R0(h:Cy S x):Cr (gF S)<|iQ x x.s:=
 have d:=h.d
 ⟨h.s,rfl,λ_=>Bool.eq_false_iff.mpr λe=>by have e:x.d+1=0:=(Z.eqB_iff _ _).mp e;lia,(λe=>by exact nj e),(λe=>by exact nj e),⟨show(0:Int)<=x.d+1 by lia,Int.le_refl 0,Int.le_refl 0⟩⟩
def NI:aT<|fU o:=by cases o<;>first|exact Np.none|exact Np.str
variable{xs:List V}{b:Bool}{s:List Nat}{v:V}{ps:List (List Nat)}{o:Option (List Nat)} in
def z4(h:∀v∈xs,aT v):aT<|nd dE [fU o,.lst<|ps.map .str,.lst xs,.bool b,.str s]:=Np.inst (ao Np.str<|ao Np.int<|ao (Np.lst<|ao NI<|ao (Np.lst zP)<|ao (Np.lst h)<|ao Np.bool<|ao Np.str aP)<|ao Np.none aP)
def w4(hN:30<=N)(hf:∀v∈xs,aT v)(bd:Bd N B (gF S) xs w f)(pp:Pp ps r)(hp:ps∈iK)(ho:o∈vk)(hx:Cy S x)(t':Tk)(ab:List Tk)(nf:Pa x (N+5) 5136 [.str s] q (fU o) (.pt [40],r<|.pt [123]::f (.pt [125]::t'::ab))):
    Pa x (N+10) 4136 [.str s] q (nd dE [fU o,.lst<|ps.map .str,.lst xs,.bool S,.str s]) (t',ab):=by
 have hs:=hx.s;refine zb hs ?_;refine dW (bd.lp false true [] (iQ x x.s) (.pt [125]) (t'::ab) (R0 hx) (by ext) rfl<|atB) λt r' e _ l=>?_;rw[e] at nf;exact Y7 (ak:=(.pt [40],r<|.pt [123]::t::r')) (aC:=(t,r')) (q':=(t',ab)) hx.l (jb hN) (z4 hf) (Np.lst hf) nf ((pp.pa x (.pt [123])<|t::r').mono<|jb hN) ((zr (d:=N+3) l)) λC=>ZT (jb hN) ho hp x.s C
def AU(bd:Bd N B g xs w f)(pp:Pp ps r)(l:aq u ts):aq (iu ps w++u)<|.pt [40]::r (.pt [123]::f (.pt [125]::ts)):=by
 have a:=bd.lex _ _<|aq.so (s:=[125]) l;have a:=pp.lex _ _<|(aq.so (s:=[123]) a).b<|aW 123 _ rfl rfl;have e:iu ps w++u=[40]++qm ps++[41]++(32::([123]++(w++([125]++u)))):=by simp only[iu,bz,List.cons_append,List.nil_append]
 rw[e];exact a
def AK(bd:Bd N B g xs w f)(pp:Pp ps r):(iu ps w).length<=2*B+20:=by have h1:=bd.l;have h2:=pp.l;simp only[iu,bO,ec,List.length_nil];lia
structure Fw(S:Bool)(N B:Nat)(so:List Nat)(v:V)(F:List Nat)(q:List Tk->Ts):Prop where
 sh:Sp N 74 [v] [] (.str F) []
 lex:∀u ts,aq u ts->aq (32::(F++u)) ((q ts).1::(q ts).2)
 l:F.length<=2*B+40
 pa:∀x t' ab,Cy S x->Pa x N 4136 [.str so] (q<|t'::ab) v (t',ab)
def PX(hN:30<=N)(hB:2*B+40<=ae)(hf:∀v∈xs,aT v)(bd:Bd N B (gF S) xs w f)(hp:ps∈iK):∃F q,Fw S (N+10) B jI (nd dE [fU none,.lst<|ps.map .str,.lst xs,.bool S,.str jI]) F q:=by obtain⟨r,pp⟩:=pp hp;have ln:=AK bd pp;have sb:=Bt (nv:=fU none) (s:=jI) hp bd.code (jc hN)<|aG ln<|jm hB;exact bT (wE none++iu ps w) (λts=>(.pt [40],r<|.pt [123]::f (.pt [125]::ts))) ⟨(Hu (o:=none) (.head _) (jb hN) sb<|aG ln<|jm hB).mono<|@ja _ 4 10 rfl,λu ts l=>(AU bd pp l).b<|aW 40 _ rfl rfl,aG ln jo,λx t' ab hx=>w4 (o:=none) hN hf bd pp hp (.head _) hx t' ab<|(fnO).mono<|jb hN⟩
def FF(hN:30<=N)(hB:2*B+40<=ae)(hf:∀v∈xs,aT v)(bd:Bd N B (gF S) xs w f)(hp:ps∈iK)(ha:a∈cq)(ZZ:so=jI\/so=kO):∃F q,Fw S (N+10) B so (nd dE [fU<|some a,.lst<|ps.map .str,.lst xs,.bool S,.str so]) F q:=by
 obtain⟨r,pp⟩:=pp hp;obtain⟨oQ,o1⟩:=CB ha;refine bJ o1 λc s' e q=>?_;have ho:some a∈vk:=.tail _<|List.mem_map_of_mem ha;have ln:(wE (some a)++iu ps w).length<=2*B+40:=by have:=AK bd pp;rw[bO];show(bU a).length+_<=_;lia
 have sb:=Bt (nv:=fU<|some a) (s:=so) hp bd.code (jc hN)<|aG (iD ln) hB;refine bT (wE (some a)++iu ps w) (λts=>(.nm a<|eY a,.pt [40]::r (.pt [123]::f (.pt [125]::ts)))) ⟨(Hu (o:=some a) ho (jb hN) sb<|aG ln hB).mono<|@ja _ 4 10 rfl,λu ts l=>?_,ln,λx t' ab hx=>w4 (o:=some a) hN hf bd pp hp ho hx t' ab ?_⟩
 ·have l:=aq.nm (.tail _ ha) cu (AU bd pp l);show aq (32::(bU a++iu ps w++u)) _;rw[bz];exact l.b<|aW c (s'++(iu ps w++u)) (by rw[e];rfl) q
 ·rcases ZZ with rfl|rfl
  ·exact(fnE ha).mono<|jb hN
  ·exact(fnD ha).mono<|jb hN
noncomputable abbrev qS:List Nat:=[102,117,110,99,116,105,111,110,32]
def F2(h:Fw S N B so v F q)(l:aq u ts):aq (qS++F++u)<|.kw er::(q ts).1::(q ts).2:=by rw[bz];exact aq.kw (s:=er) (by ext) cu<|h.lex u ts l
def G2(hN:30<=N)(hB:4*B+200<=ae)(h:Fw S N B jI (nd dE l) F q):Va S (N+20) (4*B+200) dE l 16 false false:=by
 have ln:(qS++F).length<=4*B+200:=by have:=h.l;rw[bO];show 9+_<=_;lia
 refine Va.leaf (s:=qS++F) (t:=.kw er) (r:=λts=>(q ts).1::(q ts).2) (jb hN) (by ext) (λb=>?_) ln ⟨λu ts hu _ hl=>F2 h hl,rfl,(aW 102 _ rfl<|by ext),λu=>⟨rfl,rfl⟩,λe=>by exact nj e⟩ rfl λd x t' ab hd hx=>?_
 ·cases b<;>exact(sq<|wk 1<|.q h.sh<|.p (aG ln hB) .nil).mono (show N+2<=N+20 by exact ja rfl)
 ·exact(Ll<|ZS (jc hN)<|h.pa x t' ab hx).mono<|jy (a:=5) hd
def T0(hN:30<=N)(hB:4*B+200<=ae)(hl:g.nl<=3)(h:Fw g.S N B kO (nd dE l) F q):El (N+3) g dE l (.kw er) (λts=>(q ts).1::(q ts).2)/\Sp (N+3) 80 [nd dE l] [] (.str<|qS++F) []/\(qS++F).length<=4*B+200/\Pi (qS++F,λts=>.kw er::(q ts).1::(q ts).2):=by
 have ln:(qS++F).length<=4*B+200:=by have:=h.l;rw[bO];show 9+_<=_;lia
 exact⟨⟨by ext,λx t' ab hx _=>elF (q:=q<|t'::ab) (jc hN)<|cP<|h.pa x t' ab<|hx.cy hl⟩,(sq<|wk 1<|.q h.sh<|.p (aG ln hB) .nil).mono<|@ja _ 2 3 rfl,ln,λu ts l=>F2 h l,(aW 102 _ rfl rfl),λts=>(bT _ _ rfl)⟩
noncomputable def mj(so k:List Nat)(v:V):V:=.tup [.str so,.str k,v]
structure Ey(S:Bool)(N B:Nat)(so k:List Nat)(v:V)(s:List Nat)(t:Tk)(r:Rr):Prop where
 sh:Sp N 69 [mj so k v] [] (.str s) []
 lex:∀(c:Nat) u ts,(cQ.any λx=>bA x c)=true->Nat.beq c 46=false->aq (c::u) ts->aq (s++c::u) (t::r ts)
 c:∃c s',s=c::s'/\Nat.beq c 32=false
 l:s.length<=B
 f:sg t [125]=false
 pa:∀x t' ab,Cy S x->bI true t' 1->Pa x N 18133 [] (t,r<|t'::ab) (mj so k v) (t',ab)
 fl:aT v
 so:∀b,(so,b)∈tV
structure Kt(k ks:List Nat)(t:Tk):Prop where
 lex:∀u ts,hd u∈cQ->aq u ts->aq (ks++u) (t::ts)
 c:∃c s',ks=c::s'/\Nat.beq c 32=false
 pa:∀x t' ab,Pa x 24 19133 [] (t,t'::ab) (.str k) (t',ab)
 f:sg t [125]=false/\lq t.k [112,117,110,99,116]=false
 sh:Sp 14 59 [.str k] [] (.str ks) []
 l:ks.length<=10
 i:(∃p,t=.nm [97] p)\/(∃s,t=.kw s)\/∃s p,t=.tx s p
def kt(h:k∈dS):∃ks t,Kt k ks t:=by
 simp only[dS,List.mem_cons,List.not_mem_nil,or_false] at h;rcases h with rfl|rfl|rfl|rfl
 ·exact bT [97] (.nm [97] true) ⟨λu ts hu l=>aq.nm (s:=[97]) (by ext) hu l,(aW 97 _ rfl rfl),λx t' ab=>ekN,⟨rfl,by ext⟩,yW (q:=([97],[97],[1]))<|by ext,by ext,.inl ⟨_,rfl⟩⟩
 ·exact bT [105,102] (.kw [105,102]) ⟨λu ts hu l=>aq.kw (s:=[105,102]) (by ext) hu l,(aW 105 _ rfl rfl),λx t' ab=>ekK,⟨rfl,by ext⟩,yW (q:=([105,102],[105,102],[2]))<|by ext,by ext,.inr<|.inl ⟨_,rfl⟩⟩
 ·exact bT [34,49,34] (.tx [49] true) ⟨λu ts hu l=>aq.tx (q:=([34,49,34],[[49]],true)) (by ext) l,(aW 34 _ rfl rfl),λx t' ab=>(KX).mono<|by ext,⟨rfl,by ext⟩,yW (q:=([49],[34,49,34],[1,1,2,3]))<|by ext,by ext,.inr<|.inr<|bT _ _ rfl⟩
 ·exact bT [34,120,32,121,34] (.tx [120,32,121] true) ⟨λu ts hu l=>aq.tx (q:=([34,120,32,121,34],[[120],[32],[121]],true)) (by ext) l,(aW 34 _ rfl rfl),λx t' ab=>(KX).mono<|by ext,⟨rfl,by ext⟩,yW (q:=([120,32,121],[34,120,32,121,34],[1,2,3,3,4,5]))<|by ext,by ext,.inr<|.inr<|bT _ _ rfl⟩
def TM(h:Sp N 59 [.str k] [] (.str ks) [])(a:Sp N 66 [nd z ps,.int 1,.bool false] [] (.str s) [])(hl:(ks++[58,32]++s).length<=ae):Sp (N+2) 69 [mj iI k<|nd z ps] [] (.str<|ks++[58,32]++s) []:=sq (wk 1<|.q h<|.p (bw hl)<|.q a<|.p hl .nil)
def RD(hN:22<=N)(hB:4*B+200<=ae)(hk:k∈dS)(o:Va S N B z ps L hc aX)(fl:aT<|nd z ps):∃s t r,Ey S (N+45) (B+20) iI k (nd z ps) s t r:=by
 refine cX (kt hk) λks t kt=>?_;refine o.pe hN (jl hB) 1 (by ext) false _ λs a8 r L' dot dB pe _ _=>?_;have ln:(ks++[58,32]++s).length<=B+20:=by have h1:=kt.l;have h2:=pe.l;simp only[bO,ec,List.length_nil];lia
 refine gp _ t (λts=>.pt [58]::a8::r ts) ⟨(TM (kt.sh.mono ia) pe.sh<|aG ln<|jl hB).mono<|@ja _ 22 45 rfl,λc u ts m n l=>?_,?_,ln,kt.f.1,λx t' ab hx hs=>?_,fl,λb=>by cases b<;>decide⟩
 ·have a:=kt.lex _ _ cu (aq.so (s:=[58])<|pe.fm.bl<|pe.fm.lex _ _ (cu m) (wi n) l);exact a.cast iS
 ·exact bJ kt.c λc s' e q=>aW c (s'++[58,32]++s) (by rw[e];rfl) q
 ·have p:=pe.ks.k1 pe.le (N+20) x t' ab (aV _) hx hs;have e:=(kt.pa x (.pt [58])<|a8::r (t'::ab)).mono (show 24<=N+36 by exact ia rfl);rcases kt.i with⟨p',rfl⟩|⟨s',rfl⟩|⟨s',p',rfl⟩
  ·exact(enN (d:=N+36) (ak:=(a8,r<|t'::ab)) (q':=(t',ab)) ia e p).mono<|@ja _ 41 45 rfl
  ·exact(enK (d:=N+36) (ak:=(a8,r<|t'::ab)) (q':=(t',ab)) ia e p).mono<|@ja _ 41 45 rfl
  ·exact(enT (d:=N+36) (ak:=(a8,r<|t'::ab)) (q':=(t',ab)) ia e p).mono<|@ja _ 41 45 rfl
def TY(h:Sp N 59 [.str k] [] (.str ks) [])(hs:so=fW\/so=fV)(a:Sp N 75 [v] [] (.str s) [])(hl:(so++[32]++ks++s).length<=ae):Sp (N+2) 69 [mj so k v] [] (.str<|so++[32]++ks++s) []:=by
 have h1:=bw hl;rcases hs with rfl|rfl
 ·exact sq<|wk 1<|.p (bw h1)<|.q h<|.p h1<|.q a<|.p hl .nil
 ·exact sq<|wk 1<|.p (bw h1)<|.q h<|.p h1<|.q a<|.p hl .nil
def SN(hN:30<=N)(hB:4*B+200<=ae)(hk:k∈dS)(hf:∀v∈xs,aT v)(bd:Bd N B (gF S) xs w f)(hs:(so=fW/\pl=[])\/(so=fV/\pl=[[97]])):∃s t r,Ey S (N+15) (2*B+50) so k (nd dE [.none,.lst<|pl.map .str,.lst xs,.bool S,.str so]) s t r:=by
 refine cX (kt hk) λks tk kt=>?_;have hp:pl∈iK:=by rcases hs with⟨_,rfl⟩|⟨_,rfl⟩<;>decide
 obtain⟨r,pp⟩:=pp hp;have nG:so=fW\/so=fV:=hs.elim (λh=>.inl h.1) λh=>.inr h.1;have l3:so.length<=3:=by rcases nG with rfl|rfl<;>decide
 have ln:(so++[32]++ks++iu pl w).length<=2*B+50:=by have h1:=kt.l;have h2:=AK bd pp;rw[bO,bO,bO];show so.length+1+_+_<=_;lia
 have sb:=Bt (nv:=.none) (s:=so) hp bd.code (jc hN)<|aG (iD ln)<|jm hB;refine gp _ (.nm so true) (λts=>tk::.pt [40]::r (.pt [123]::f (.pt [125]::ts))) ⟨(TY (kt.sh.mono<|jb hN) nG sb<|aG ln<|jm hB).mono<|@ja _ 4 15 rfl,λc u ts m n l=>?_,?_,ln,by rcases nG with rfl|rfl<;>rfl,λx t' ab hx ik=>?_,z4 (o:=none) hf,λb=>by rcases nG with rfl|rfl<;>cases b<;>decide⟩
 ·have a:=kt.lex _ _ cu (AU bd pp l);have a:=a.b<|by exact bJ kt.c λc' s' e q=>(aW c' (s'++(iu pl w++c::u)) (by rw[e];rfl) q)
  have e:so∈gX/\bU so=so/\eY so=true:=by rcases nG with rfl|rfl<;>exact⟨by ext,rfl,rfl⟩
  have a:=aq.nm e.1 cu a;rw[e.2.1,e.2.2] at a;show aq (so++[32]++ks++iu pl w++c::u) _;exact a.cast ul
 ·rcases nG with rfl|rfl
  ·exact aW 103 _ rfl rfl
  ·exact aW 115 _ rfl rfl
 ·have e:=(kt.pa x (.pt [40])<|r<|.pt [123]::f (.pt [125]::t'::ab)).mono (show 24<=N+10 by exact jb hN rfl);rcases hs with⟨rfl,rfl⟩|⟨rfl,rfl⟩
  ·exact(ZF (d:=N+10) (jb hN) kt.f.2 e<|w4 (o:=none) hN hf bd pp hp (.head _) hx t' ab<|(fnG).mono<|jb hN).mono<|@ja _ 13 15 rfl
  ·exact(enS (d:=N+10) (jb hN) kt.f.2 e<|w4 (o:=none) hN hf bd pp hp (.head _) hx t' ab<|(fnS).mono<|jb hN).mono<|@ja _ 13 15 rfl
structure Oi where
 so:List Nat
 k:List Nat
 v:V
 s:List Nat
def Oi.V(a:Oi):V:=mj a.so a.k a.v
def ut(N:Nat):List Oi->Prop->Prop
 |[],P=>P
 |a::r,P=>ut N r<|Sp N 69 [a.V] [] (.str a.s) []/\P
def rK(l:List Oi):List Nat:=[123]++cf [44,32] (l.map Oi.s)++[125]
noncomputable def wc(a b c e:Oi):List<|List Oi:=[[],[a],[a,b],[a,b,c],[a,b,c,e]]
def TG(h:l∈wc bv aK bq fE)(hl:(rK l).length<=ae)(p:ut N l True):Sp (N+2) 67 [nd pM [.lst<|l.map Oi.V],.bool b] [] (.str<|rK l) []:=
 have h1:=bw hl
 gP (L:=wc bv aK bq fE) (d:=N) (n:=1) (as:=λl=>[nd pM [.lst<|l.map Oi.V],.bool b]) (c:=λ_=>[]) (c':=λ_=>[]) (sc:=λl=>l.map λa=>ca 69 (.str a.s) []) (v:=λl=>.str<|rK l)
  (P:=λl=>(rK l).length<=ae/\([123]++cf [44,32] (l.map Oi.s)).length<=ae/\(cf [44,32]<|l.map Oi.s).length<=ae/\ut N l True) (by ext) l h ⟨hl,h1,iD h1,p⟩
def J0(h:(so,b)∈tV):∀{i:Nat} {ss:List<|List Nat},ss.length=i->dS[i]? =some k->rM (so,b) k ss
 |0,[],_,e=>by exact zb (aE e)<|ef0 _ h
 |1,[_],_,e=>by exact zb (aE e)<|ef1 _ h
 |2,[_,_],_,e=>by exact zb (aE e)<|ef2 _ h
 |3,[_,_,_],_,e=>by exact zb (aE e)<|ef3 _ h
 |i+4,_,_,e=>by exact ng e
structure Oc(S:Bool)(N B i:Nat)(l:List Oi)(w:List Nat)(q:List Tk->Ts):Prop where
 e:cf [44,32] (l.map Oi.s)++[125]=w
 lex:∀u ts,aq u ts->aq (w++u) ((q ts).1::(q ts).2)
 c:∃c w',w=c::w'/\Nat.beq c 32=false
 p:ut N l True
 lp:∀x t' ab ys ss,Cy S x->ss.length=i->ys.length+l.length<ae->∃lC,gy x (N+4) ys ss (q<|t'::ab) (ys++l.map Oi.V) lC (.pt [125],t'::ab)
 fl:∀v∈l.map Oi.V,aT v
 l:w.length<=l.length*(B+4)+2
def FX:∀{l:List Oi} {P Q:Prop},(P->Q)->ut N l P->ut N l Q
 |[],_,_,f,h=>f h
 |a::r,_,_,f,h=>FX (l:=r) (λp=>⟨p.1,f p.2⟩) h
theorem gy.mono(h:d<=e)(l:gy x d xs ss q ys lC q'):gy x e xs ss q ys lC q':=λo=>(l o).imp λ_ l=>eF.mono h l
def Th(hN:22<=N):Oc S N B i [] [125] λts=>(.pt [125],ts):={
 e:=rfl
 lex:=λu ts h=>aq.so (s:=[125]) h
 c:=aW 125 [] rfl rfl
 p:=trivial
 lp:=λx t' ab ys ss hx _ _=>⟨ss,by rw[List.map_nil,List.append_nil];exact gy.mono (jj hN)<|gy.stop hx.l⟩
 l:=by show 1<=_;exact Nat.succ_pos _
 fl:=aP}
def FN(e:Ey S N B so k v s t r):aT<|mj so k v:=Np.tup<|ao Np.str<|ao Np.str<|ao e.fl aP
def Qz(hN:22<=N)(hk:dS[i]? =some k)(e:Ey S N B so k v s t r):Oc S N B i [⟨so,k,v,s⟩] (s++[125]) λts=>(t,r<|.pt [125]::ts):={
 e:=rfl
 lex:=λu ts h=>by rw[bz];exact e.lex 125 u _ (by ext) rfl<|aq.so (s:=[125]) h
 c:=by exact bJ e.c λc s' e q=>aW c (s'++[125]) (by rw[e];rfl) q
 p:=⟨e.sh,trivial⟩
 lp:=λx t' ab ys ss hx hs hl=>⟨ss++[so],gy.last (q:=(t,r<|.pt [125]::t'::ab)) hx.l (jc hN) (eP (bh _ _) hl) e.f e.fl (e.pa x (.pt [125]) (t'::ab) hx bI.pt) (J0 (e.so _) hs hk)<|gy.mono (jj hN)<|gy.stop hx.l⟩
 l:=by have:=e.l;simp only[bO,ec,List.length_nil];lia
 fl:=ao (FN e) aP}
def QW(hN:22<=N)(hk:dS[i]? =some k)(e:Ey S N B so k v s t r)(h:Oc S N B (i+1) (a::l) w q):Oc S N B i (⟨so,k,v,s⟩::a::l) (s++44::32::w) λts=>(t,r<|.pt [44]::(q ts).1::(q ts).2):={
 e:=by rw[<-h.e];show(s++[44,32]++cf [44,32] ((a::l).map Oi.s))++_=_;rw[bz,bz];rfl
 lex:=λu ts hl=>by rw[bz];exact e.lex 44 _ _ (by ext) rfl<|aq.so (s:=[44])<|(h.lex u ts hl).b<|by exact bJ h.c λc w' e q=>(aW c (w'++u) (by rw[e];rfl) q)
 c:=by exact bJ e.c λc s' e q=>aW c (s'++44::32::w) (by rw[e];rfl) q
 p:=FX (l:=a::l) (λt=>⟨e.sh,t⟩) h.p
 lp:=λx t' ab ys ss hx hs hl=>by obtain⟨lC,p⟩:=h.lp x t' ab (ys++[mj so k v]) (ss++[so]) hx (by rw[bO,hs];rfl) (by rw[bO];simp only[ec,List.length_nil] at hl⊢;lia);rw[bz] at p;exact⟨lC,gy.more (q:=(t,r<|.pt [44]::(q<|t'::ab).1::(q<|t'::ab).2)) (aC:=q<|t'::ab) hx.l (jc hN) (eP (bh _ _) hl) e.f e.fl (e.pa x (.pt [44]) _ hx bI.pt) (J0 (e.so _) hs hk) p⟩
 l:=by have:=h.l;have:=e.l;simp only[bO,ec] at*;rw[Nat.add_mul (l.length+1) 1];lia
 fl:=ao (FN e) h.fl}
def SI(hN:22<=N)(hB:4*B+200<=ae)(h:l∈wc bv aK bq fE)(a:Oc S N B 0 l w q):Va S (N+10) (4*B+200) pM [.lst<|l.map Oi.V] 16 false false:=by
 have h4:l.length<=4:=ia<|cp (show(wc bv aK bq fE).all (λl=>Nat.ble l.length 4)=true by ext) l h;have ej:rK l=123::w:=by rw[<-a.e];show [123]++_++_=_;rw[bz];rfl
 have ln:(rK l).length<=4*B+200:=by rw[ej,ec];have:=a.l;have:=Nat.mul_le_mul_right (B+4) h4;lia
 refine Va.leaf (s:=rK l) (t:=.pt [123]) (r:=λts=>(q ts).1::(q ts).2) (jj hN) (by ext) (λb=>(TG h (aG ln hB) a.p).mono ja) ln ⟨λu ts hu _ hl=>?_,rfl,?_,λu=>?_,λe=>by exact nj e⟩ rfl λd x t' ab hd hx=>?_
 ·rw[ej];exact aq.so (s:=[123])<|a.lex u ts hl
 ·rw[ej];exact aW 123 w rfl<|by ext
 ·rw[ej];exact⟨rfl,rfl⟩
 ·obtain⟨lC,p⟩:=a.lp x t' ab [] [] hx rfl (by rw[List.length_nil,Nat.zero_add];exact eP h4<|bF (n:=4));exact(prO<|Zf (d:=N) hx.l (jc hN) (Np.lst a.fl) p).mono<|jy (a:=9) hd
abbrev Ri:=V×List Nat
abbrev Sc:=Option It×List Ri
def v8(N:Nat):List Ri->Prop->Prop
 |[],P=>P
 |a::r,P=>v8 N r<|Sp N 80 [a.1] [] (.str a.2) []/\P
noncomputable abbrev oa:List Nat:=[99,97,115,101,32]
noncomputable def qp:Option It->List Nat
 |none=>[100,101,102,97,117,108,116,58]
 |some a=>oa++a.2.2++[58]
def yH(N:Nat):Nat->List Sc->Prop->Prop
 |_,[],P=>P
 |i,e::r,P=>yH N (i+1+e.2.length) r (i+1+e.2.length<ae/\v8 N e.2 (i<ae/\(match e.1 with
  |none=>P
  |some a=>(oa++a.2.2++[58]).length<=ae/\(oa++a.2.2).length<=ae/\Sp N 66 [nd a.1 a.2.1,.int 0,.bool false] [] (.str a.2.2) []/\P)))
def Kf:List Sc->List An
 |[]=>[]
 |e::r=>(match e.1 with
  |none=>[]
  |some a=>[ca 66 (.str a.2.2) []])++(e.2.map (λa=>ca 80 (.str a.2) [])++Kf r)
def oX:List Sc->List (List Nat)
 |[]=>[]
 |e::r=>qp e.1::(e.2.map Prod.snd++oX r)
def nr(e:Sc):V:=.tup [f5 e.1,.lst<|e.2.map Prod.fst]
noncomputable def mU(a b:Ri):List<|List Ri:=[[],[a],[a,b]]
def oB(p q:It)(a b c d e f:Ri):List<|List Sc:=
 let z:List<|List Sc:=[]::(mU e f).map λr=>[(none,r)];let y:List<|List Sc:=(mU c d).flatMap λr=>z.map λl=>(some q,r)::l
 z++(y++(mU a b).flatMap λr=>y.map λl=>(some p,r)::l)
abbrev rJ(s:List Nat)(l:List Sc):List Nat:=[115,119,105,116,99,104,32]++s++[32,123]++cf [32] (oX l)++[125]
def V8(h:l∈oB cR ck bv aK bq fE gf jL)(f:Sp N 79 [nd k ps] [] (.str s) [])(hl:(rJ s l).length<=ae)(p:yH N 0 l True):Sp (N+2) 83 [.lst [nd k ps,.lst<|l.map nr]] [] (.str<|rJ s l) []:=
 have h1:=bw hl;have h2:=bw h1
 gP (L:=oB cR ck bv aK bq fE gf jL) (d:=N) (n:=1) (as:=λl=>[.lst [nd k ps,.lst<|l.map nr]]) (c:=λ_=>[]) (c':=λ_=>[]) (sc:=λl=>Kf l++[ca 79 (.str s) []]) (v:=λl=>.str<|rJ s l)
  (P:=λl=>(rJ s l).length<=ae/\([115,119,105,116,99,104,32]++s++[32,123]++cf [32] (oX l)).length<=ae/\(cf [32]<|oX l).length<=ae/\([115,119,105,116,99,104,32]++s++[32,123]).length<=ae/\([115,119,105,116,99,104,32]++s).length<=ae/\Sp N 79 [nd k ps] [] (.str s) []/\yH N 0 l True) (by ext) l h ⟨hl,h1,iD h1,h2,bw h2,f,p⟩
def sZ(t:Tk):Prop:=t=.pt [125]\/t=.kw mP\/t=.kw mJ
structure Rl(N B:Nat)(g:Gc)(rs:List Ri)(cF:List qw):Prop where
 e:rs.map Prod.snd=cF.map Prod.fst
 pi:∀p∈cF,Pi p
 p:∀P,P->v8 N rs P
 n:rs.length<=2
 l:(rs.map λa=>a.2.length+1).sum<=2*(B+1)
 ca:∀x t' ab,Cr g x->sZ t'->∃t r,jn cF (t'::ab)=t::r/\lg (N+2) 22136 1 (gw []) (x,[],t,r) (gw<|rs.map Prod.fst) (x,[],t',ab)
structure En(N B:Nat)(g:Gc)(l:List Sc)(cF:List qw):Prop where
 e:oX l=cF.map Prod.fst
 pi:∀p∈cF,Pi p
 p:∀i P,i+3*l.length<=100->P->yH N i l P
 n:l.length<=3
 lw:∀x ts ys v,Cr g x->ys.length+l.length<ae->∃t r,jn cF (.pt [125]::ts)=t::r/\sZ t/\gl (N+22) v ys false (x,[],t,r) (ys++l.map nr) (x,[],.pt [125],ts)
 l:(l.map λe=>(qp e.1).length+1+(e.2.map λa=>a.2.length+1).sum).sum<=l.length*(3*B+20)
theorem sZ.nx(h:sZ t):gU t=false:=by rcases h with rfl|rfl|rfl<;>rfl
theorem sZ.st(hN:22<=N)(h:sZ t'):lg (N+2) 22136 1 (gw xs) (x,[],t',ab) (gw xs) (x,[],t',ab):=eF.mono (jb hN)<|caS (q:=(t',ab)) h
def rl0(hN:22<=N):Rl N B g [] []:=⟨rfl,aP,λP h=>h,by ext,Nat.zero_le _,λx t' ab hx h=>(aW t' ab rfl<|h.st hN)⟩
def rl1(hN:22<=N)(h:Rw N B g el k ps s t r):Rl N B g [(nd k ps,s)] [(s,λts=>t::r ts)]:=
 ⟨rfl,ao h.pi aP,λP hp=>⟨h.pr,hp⟩,by show 1<=2;decide,by have:=h.l;show s.length+1+0<=_;lia,λx t' ab hx he=>by have f:=lP h.f.1;exact(aW t _ rfl<|C5 (q:=(t,r<|t'::ab)) (ak:=(t',ab)) (jc hN) (bF (n:=0)) f.1 f.2.2.2.1 f.2.2.2.2.1 (h.iq x t' ab hx<|by rw[he.nx,Bool.and_false])<|he.st hN)⟩
def rl2(hN:22<=N)(h:Rw N B g el k ps s t r)(aL:Rw N B g AZ ay aw af aD aM):Rl N B g [(nd k ps,s),(nd ay aw,af)] [(s,λts=>t::r ts),(af,λts=>aD::aM ts)]:=
 ⟨rfl,ao h.pi<|ao aL.pi aP,λP hp=>⟨aL.pr,h.pr,hp⟩,by show 2<=2;decide,by have:=h.l;have:=aL.l;show s.length+1+(af.length+1+0)<=_;lia,λx t' ab hx he=>by have f:=lP h.f.1;have CM:=lP aL.f.1;exact(aW t _ rfl<|C5 (q:=(t,r<|aD::aM (t'::ab))) (ak:=(aD,aM<|t'::ab)) (jc hN) (bF (n:=0)) f.1 f.2.2.2.1 f.2.2.2.2.1 (h.iq x aD _ hx aL.KT)<|C5 (q:=(aD,aM<|t'::ab)) (ak:=(t',ab)) (jc hN) (bF (n:=1)) CM.1 CM.2.2.2.1 CM.2.2.2.2.1 (aL.iq x t' ab hx<|by rw[he.nx,Bool.and_false])<|he.st hN)⟩
def ET:∀{l:List<|List Nat},(cf [32] l).length<=(l.map λa=>a.length+1).sum
 |[]=>Nat.zero_le _
 |[a]=>by show a.length<=a.length+1+0;exact bh _ _
 |a::b::r=>by have:=ET (l:=b::r);show(a++[32]++cf [32] (b::r)).length<=a.length+1+_;rw[bO,bO];exact Nat.add_le_add_left this _
def T4(h:(l.map λe=>(qp e.1).length+1+(e.2.map λa=>a.2.length+1).sum).sum<=m):(cf [32]<|oX l).length<=m:=by
 refine aG ET<|aG (Nat.le_of_eq ?_) h;clear h;induction l with
 |nil=>rfl
 |cons e r ih=>show(qp e.1).length+1+((e.2.map Prod.snd++oX r).map λa=>a.length+1).sum=_;rw[List.map_append,List.sum_append,ih,List.map_map,List.map_cons,List.sum_cons,<-Nat.add_assoc];rfl
theorem gl.mono(h:d<=e)(l:gl d v' xs b q ys q'):gl e v' xs b q ys q':=by unfold gl at*;exact λo=>(l o).imp λ_ l=>l.imp λ_ l=>eF.mono h l
theorem GE:∀{l:List qw} {ts:List Tk},jn (l++cF) ts=jn l (jn cF ts)
 |[],_=>rfl
 |p::r,ts=>congrArg p.2 GE
variable{qK:List qw} in
def R7(h:∀p∈cF,Pi p)(aL:∀p∈qK,Pi p):∀p∈cF++qK,Pi p:=λp hp=>(List.mem_append.mp hp).elim (h p)<|aL p
def Rz(hN:22<=N):En N B g [] []:=⟨rfl,aP,λ_ P _ h=>h,by ext,λx ts ys v hx _=>(dA (.pt [125]) ts rfl (.inl rfl) (by rw[List.map_nil,List.append_nil];exact gl.mono (jb hN)<|gl.stop)),Nat.zero_le _⟩
def Ru(hN:22<=N)(r:Rl N B g rs cF):En N B g [(none,rs)]<|(qp none,λts=>.kw mJ::.pt [58]::ts)::cF:=by
 refine⟨?_,ao ⟨λu ts l=>?_,(aW 100 _ rfl rfl),λts=>(bT _ _ rfl)⟩ r.pi,λi P hi hp=>⟨?_,r.p _ ⟨?_,hp⟩⟩,by show 1<=3;decide,λx ts ys v hx hl=>?_,?_⟩
 ·show qp none::(rs.map Prod.snd++[])=qp none::cF.map Prod.fst;rw[List.append_nil,r.e]
 ·exact aq.kw (s:=mJ) (by ext) cu<|aq.so (s:=[58]) l
 ·have:=r.n;have hi:i+3*1<=100:=hi;exact eP (show i+1+rs.length<=103 by lia)<|bF (n:=103)
 ·exact eP (show i<=100 by exact jt hi)<|bF (n:=100)
 ·refine bJ (r.ca x (.pt [125]) ts hx<|.inl rfl) λt r' e c=>?_;exact dA (.kw mJ) (.pt [58]::t::r') (by show Tk.kw mJ::.pt [58]::jn cF _=_;rw[e]) (.inr<|.inr rfl)<|gl.mono (@ja _ 7 22 rfl)<|gl.dflt (d:=N+3) (ak:=(t,r')) (jb hN) (eP (bh _ _) hl) (Jv (d:=N+1) c)<|gl.mono (jb (c:=7) hN)<|gl.stop
 ·have:=r.l;show 8+1+(rs.map λa=>a.2.length+1).sum+0<=1*_;lia
variable{N:Nat} in
def Pv(hN:22<=N)(hn:g.nl<=3)(hB:10*B+300<=ae)(e:Ke g.S N B k ps s t r)(rl:Rl N B g rs cF)(h:En N B g l qK)(h2:l.length<=2):En N B g ((some (k,ps,s),rs)::l)<|(oa++s++[58],λts=>.kw mP::t::r (.pt [58]::ts))::(cF++qK):=by
 have ls:=e.l;have lc:(oa++s++[58]).length<=B+8:=by simp only[bO,ec,List.length_nil];lia
 have n2:=rl.n;refine⟨?_,ao ⟨λu ts l=>?_,(aW 99 _ rfl rfl),λts=>(bT _ _ rfl)⟩<|R7 rl.pi h.pi,λi P hi hp=>?_,by show l.length+1<=3;exact Nat.succ_le_succ h2,λx ts ys v hx hl=>?_,?_⟩
 ·show(oa++s++[58])::(rs.map Prod.snd++oX l)=(oa++s++[58])::(cF++qK).map Prod.fst;rw[rl.e,h.e,List.map_append]
 ·have a:=e.lex 58 u (.pt [58]::ts) (by ext) rfl (aq.so (s:=[58]) l);have a:=aq.kw (s:=mP) (by ext) cu<|e.bl a;show aq (oa++s++[58]++u) _;exact a.cast iS
 ·have hi:i+3*(l.length+1)<=100:=hi;exact h.p _ _ (show i+1+rs.length+3*l.length<=100 by lia) ⟨eP (show i+1+rs.length<=103 by lia)<|bF (n:=103),rl.p _ ⟨eP (show i<=100 by exact jt hi)<|bF (n:=100),aG lc<|jl hB,aG (bw lc)<|jl hB,e.sh,hp⟩⟩
 ·have hl:ys.length+(l.length+1)<ae:=hl;refine dW (h.lw x ts (ys++[.tup [nd k ps,.lst<|rs.map Prod.fst]]) v hx (by rw[bO];show ys.length+1+_<_;lia)) λa8 fT da cE ac=>?_;refine bJ (rl.ca x a8 fT hx cE) λaD aM bj an=>?_;have ej:jn (cF++qK) (.pt [125]::ts)=aD::aM:=by rw[GE,da,bj]
  refine dA (.kw mP) (t::r (.pt [58]::aD::aM)) (by show Tk.kw mP::t::r (.pt [58]::jn (cF++qK) _)=_;rw[ej]) (.inr<|.inl rfl) ?_;rw[bz] at ac;exact gl.case (d:=N+18) (q:=(t,r<|.pt [58]::aD::aM)) (ak:=(aD,aM)) (jb hN) (by lia) (e.pa x (.pt [58]) (aD::aM) (hx.cy hn) bI.pt) ((Jv (d:=N+1) an).mono<|@ja _ 3 18 rfl) ac
 ·have:=h.l;have:=rl.l;show(oa++s++[58]).length+1+(rs.map λa=>a.2.length+1).sum+(l.map λe=>(qp e.1).length+1+(e.2.map λa=>a.2.length+1).sum).sum<=(l.length+1)*(3*B+20);rw[Nat.add_mul];lia
def UJ(hN:22<=N)(hn:g.nl<=3)(hB:10*B+300<=ae)(f:Fr g.S N B k ps s r)(h:l∈oB cR ck bv aK bq fE gf jL)(e:En N B g.sw l cF):∃s r,Rw (N+40) (10*B+300) g false xT [nd k ps,.lst<|l.map nr] s (.kw tf) r:=by
 have n3:=e.n;have lf:=f.l;have lj:=T4<|aG e.l<|Nat.mul_le_mul_right _ n3;have ln:(rJ s l).length<=10*B+300:=by unfold Ln at lf;simp only[rJ,bO,ec,List.length_nil];lia
 obtain⟨s',es⟩:=f.c;have pr:=V8 h f.sh (aG ln hB)<|e.p 0 True (by lia) trivial;refine bT (rJ s l) (λts=>.pt [40]::r (.pt [123]::jn cF (.pt [125]::ts)))<|Rw.mk' ((sq<|wk 1<|.q pr .nil).mono (show N+2+2<=N+40 by exact @ja _ 4 40 rfl)) ln (λu ts hl=>?_) (aW 115 _ rfl rfl) (by ext) λx aR t' ab hx _=>?_
 ·have a:=AB e.pi (aq.so (s:=[125]) hl);rw[<-e.e] at a;have a:=u5 (q:=tf) (by ext) f<|(aq.so (s:=[123]) a).b<|aW 123 _ rfl rfl;show aq ([115,119,105,116,99,104,32]++s++[32,123]++cf [32] (oX l)++[125]++u) _;exact a.cast ul
 ·refine dW (e.lw (xw x<|x.w+1) (t'::ab) [] (nd k ps) hx.sw (by rw[List.length_nil,Nat.zero_add];exact eP n3<|bF (n:=3))) λaD aM ej _ w=>?_;have p:=swP (d:=N+17) (q:=(.pt [40],r<|.pt [123]::aD::aM)) (ak:=(aD,aM)) (q':=(t',ab)) (jb hN) ((f.pa x (.pt [123]) (aD::aM)<|hx.cy hn).mono<|bh _ _) w;rw[Qh] at p;rw[ej];exact(hU<|Yt p).mono<|@ja _ 27 40 rfl
structure Td(N D:Nat)(v T:V):Prop where
 sh:Sp N 157 [v] [] T []
 q:∀j,D<=j->gY j T T=true
 fl:aT v
 ft:aT T
def u9(N:Nat):List (V×V)->Prop->Prop
 |[],P=>P
 |a::r,P=>u9 N r<|Sp N 157 [a.1] [] a.2 []/\P
def DK:List (V×V)->List An
 |[]=>[]
 |a::r=>.call 1 157 a.2 []::r.map λa=>ca 157 a.2 []
noncomputable def qj(a b c d e:V×V):List<|List<|V×V:=[[],[a],[a,b],[a,b,c],[a,b,c,d],[a,b,c,d,e]]
section
variable{N M D E:Nat}{k s:List Nat}{v T:V}{l:List (V×V)}{bv aK bq fE gf:V×V}{i:Int}{b:Bool}
theorem Td.mono(h:Td N D v T)(n:N<=M)(d:D<=E):Td M E v T:=⟨h.sh.mono n,λj hj=>h.q j<|aG d hj,h.fl,h.ft⟩
def zL:∀{l:List V} {j:Nat},(∀T∈l,gY j T T=true)->kU (gY j) l l=true
 |[],_,_=>rfl
 |a::l,j,h=>Bool.and_eq_true_iff.mpr ⟨h a<|.head _,zL λT hT=>h T<|.tail _ hT⟩
def wT:∀{l:List<|V×V} {P:Prop},(∀p∈l,Td N D p.1 p.2)->P->u9 N l P
 |[],_,_,h=>h
 |a::r,_,hl,h=>wT (l:=r) (λp hp=>hl p<|.tail _ hp) ⟨(hl a<|.head _).sh,h⟩
def Bq{l:List V}(h:∀T∈l,∀j,D<=j->gY j T T=true):∀j,D+1<=j->gY j (.lst l) (.lst l)=true
 |0,hj=>absurd hj<|Nat.not_succ_le_zero _
 |j+1,hj=>zL λT hT=>h T hT j<|Nat.le_of_succ_le_succ hj
def Hz{l:List V}(h:∀T∈l,∀j,D<=j->gY j T T=true):∀j,D+1<=j->gY j (.tup l) (.tup l)=true
 |0,hj=>absurd hj<|Nat.not_succ_le_zero _
 |j+1,hj=>zL λT hT=>h T hT j<|Nat.le_of_succ_le_succ hj
def A4:∀j,1<=j->gY j (.str s) (.str s)=true
 |0,hj=>absurd hj<|Nat.not_succ_le_zero _
 |j+1,_=>sr s
def se{P:V->Prop}(h:∀p∈l,P p.2):∀T∈l.map Prod.snd,P T:=λT hT=>by refine aA (List.mem_map.mp hT) λp hp q1=>?_;refine zb q1 ?_;exact h p hp
def Aq{P:V->Prop}(h:∀p∈l,P p.1):∀T∈l.map Prod.fst,P T:=λT hT=>by refine aA (List.mem_map.mp hT) λp hp q2=>?_;refine zb q2 ?_;exact h p hp
def H0(hN:10<=N)(hD:1<=D)(hl:l∈qj bv aK bq fE gf)(h:∀p∈l,Td N D p.1 p.2):Td (N+2) (D+2) (nd k<|l.map Prod.fst)<|.tup [.str k,.lst<|l.map Prod.snd]:=
 ⟨gP (L:=qj bv aK bq fE gf) (d:=N) (n:=1) (as:=λl=>[nd k<|l.map Prod.fst]) (c:=λ_=>[]) (c':=λ_=>[]) (sc:=DK) (v:=λl=>.tup [.str k,.lst<|l.map Prod.snd]) (P:=λl=>u9 N l True) (by ext) l hl<|wT h trivial,
  Hz (D:=D+1) (ao (λj hj=>A4 j<|aG (Nat.le_add_left 1 D) hj)<|ao (Bq<|se λp hp=>(h p hp).q) aP),
  Np.inst (ao Np.str<|ao Np.int<|ao (Np.lst<|Aq λp hp=>(h p hp).fl)<|ao Np.none aP),Np.tup<|ao Np.str<|ao (Np.lst<|se λp hp=>(h p hp).ft) aP⟩
def TQ(hN:10<=N)(hl:l∈qj bv aK bq fE gf)(h:∀p∈l,Td N D p.1 p.2):Td (N+2) (D+1) (.lst<|l.map Prod.fst)<|.lst<|l.map Prod.snd:=
 ⟨gP (L:=qj bv aK bq fE gf) (d:=N) (n:=1) (as:=λl=>[.lst<|l.map Prod.fst]) (c:=λ_=>[]) (c':=λ_=>[]) (sc:=DK) (v:=λl=>.lst<|l.map Prod.snd) (P:=λl=>u9 N l True) (by ext) l hl<|wT h trivial,
  Bq (se λp hp=>(h p hp).q),Np.lst<|Aq λp hp=>(h p hp).fl,Np.lst<|se λp hp=>(h p hp).ft⟩
def SV(hN:10<=N)(hl:l∈qj bv aK bq fE gf)(h:∀p∈l,Td N D p.1 p.2):Td (N+2) (D+1) (.tup<|l.map Prod.fst)<|.lst<|l.map Prod.snd:=
 ⟨gP (L:=qj bv aK bq fE gf) (d:=N) (n:=1) (as:=λl=>[.tup<|l.map Prod.fst]) (c:=λ_=>[]) (c':=λ_=>[]) (sc:=DK) (v:=λl=>.lst<|l.map Prod.snd) (P:=λl=>u9 N l True) (by ext) l hl<|wT h trivial,
  Bq (se λp hp=>(h p hp).q),Np.tup<|Aq λp hp=>(h p hp).fl,Np.lst<|se λp hp=>(h p hp).ft⟩
def SZ:Td 10 1 (.str s)<|.str s:=⟨go (d:=8) (n:=1) (sc:=[]) trivial<|by ext,A4,Np.str,Np.str⟩
def Ql:Td 10 1 .none .none:=⟨go (d:=8) (n:=1) (sc:=[]) trivial<|by ext,λj hj=>by induction j using Nat.casesAuxOn with|zero=>cases hj|succ j=>rfl,Np.none,Np.none⟩
def RX:Td 10 1 (.int i)<|.int i:=⟨go (d:=8) (n:=1) (sc:=[]) trivial<|by ext,λj hj=>by induction j using Nat.casesAuxOn with|zero=>cases hj|succ j=>exact(Z.eqB_iff i i).mpr rfl,Np.int,Np.int⟩
noncomputable def Yh:List Nat:=[98,111,111,108]
def QK:Td 10 2 (.bool b)<|.tup [.str Yh,.bool b]:=⟨go (d:=8) (n:=1) (sc:=[]) trivial<|by ext,Hz<|ao A4<|ao (λj hj=>by induction j using Nat.casesAuxOn with|zero=>cases hj|succ j=>cases b<;>rfl) aP,Np.bool,Np.tup<|ao Np.str<|ao Np.bool aP⟩
def Tv(N D:Nat)(v:V):Prop:=∃T,Td N D v T
def Tvs(N D:Nat)(xs:List V):Prop:=∃l:List<|V×V,l.map Prod.fst=xs/\∀p∈l,Td N D p.1 p.2
end
@[elab_as_elim] theorem Zi{P:Nat->Prop}(h:j<15)(aa:P 0)(bb:P 1)(cc:P 2)(dd:P 3)(ee:P 4)(ff:P 5)(gg:P 6)(hh:P 7)(ii:P 8)(jj:P 9)(kk:P 10)(ll:P 11)(mm:P 12)(nn:P 13)(oo:P 14):P j:=match j,h with
  |0,_=>aa
  |j+1,h=>IA (P:=λi=>P<|i+1) (Nat.lt_of_succ_lt_succ h) bb cc dd ee ff gg hh ii jj kk ll mm nn oo
@[elab_as_elim] theorem Yo{P:Nat->Prop}(h:j<16)(aa:P 0)(bb:P 1)(cc:P 2)(dd:P 3)(ee:P 4)(ff:P 5)(gg:P 6)(hh:P 7)(ii:P 8)(jj:P 9)(kk:P 10)(ll:P 11)(mm:P 12)(nn:P 13)(oo:P 14)(pp:P 15):P j:=match j,h with
  |0,_=>aa
  |j+1,h=>Zi (P:=λi=>P<|i+1) (Nat.lt_of_succ_lt_succ h) bb cc dd ee ff gg hh ii jj kk ll mm nn oo pp
structure Gs where
 lp:Int
 d:Int
 S:Bool
 bH:List V
noncomputable def Lc(j:Nat)(z:Int)(g:Gs):O:=.dict [(.str [108,101,102,116],.ptr 1),(.str [115,101,101,100],.int z),(.str [108,97,98,101,108,115],.ptr j),(.str [108,111,111,112,115],.int g.lp),(.str [100,101,112,116,104],.int g.d),(.str [115,116,114,105,99,116],.bool g.S)]
noncomputable def gh(xs:List Int)(z:Int)(g:Gs):List O:=[Lc 2 z g,.lst<|xs.map .int,.lst g.bH]
def Gn(N f:Nat)(as:List V)(g:Gs)(P:V->Prop):Prop:=∀xs z (J:Prop),(∀v dH z',P v->Sp N f (.ptr 0::as) (gh xs z g) v (gh dH z' g)->J)->J
def Pk(n:Nat)(v:V):Prop:=∃k:Nat,k<n/\v=.int k
def Ps(l:List<|List Nat)(v:V):Prop:=∃s∈l,v=.str s
def Ve(S:Bool)(N B D:Nat)(v:V):Prop:=∃k ps L hc aX,v=nd k ps/\Va S N B k ps L hc aX/\Tv N D (nd k ps)/\lq k eK=false/\(lq k dm=true->∃q∈kJ,ps=[.str q.1.v])
noncomputable def btT:List Int:=[4607182418800017408,4602678819172646912,4611686018427387904,4607182418800017408,4613937818241073152,4609434218613702656,4616189618054758400,4611686018427387904,4617315517961601024,4612811918334230528,4618441417868443648,4613937818241073152,4619567317775286272,4615063718147915776,4620693217682128896,4616189618054758400,4621256167635550208,4616752568008179712,4621819117588971520,4617315517961601024,4622382067542392832,4617878467915022336,4622945017495814144,4618441417868443648,4623507967449235456,4619004367821864960,4624070917402656768,4619567317775286272,4624633867356078080,4620130267728707584,4625196817309499392,4620693217682128896,4625478292286210048,4620974692658839552,4625759767262920704,4621256167635550208,4626041242239631360,4621537642612260864,4626322717216342016,4621819117588971520]
def bt(k h:Nat):Int:=(hX (2*k+h) btT).getD 0
noncomputable def yG:List<|Nat×Nat:=(List.range 20).flatMap λk=>[(k,0),(k,1)]
noncomputable def y2:List<|List Nat:=[[97],[98],[111,102],[103,101,116],[102,117,110,99,116,105,111,110,115],[233]]
def tsL:List<|List Nat:=kJ.map λq=>q.1.v
section
variable{S:Bool}{N N' M B B' D D' n L:Nat}{g:Gs}{k s:List Nat}{v:V}{ps as:List V}{hc aX b:Bool}{xs:List Int}{z i:Int}{P Q:V->Prop}{t:Tk}{r:Rr}
theorem Vq.mono(h:Vq S N B k ps L hc b s t r)(hn:N<=N')(hb:B<=B'):Vq S N' B' k ps L hc b s t r:=⟨h.pr.mono hn,aG h.l hb,h.fm,h.ks.mono hn⟩
theorem Va.mono(h:Va S N B k ps L hc aX)(hn:N<=N')(hb:B<=B'):Va S N' B' k ps L hc aX:=⟨h.le,h.st.mono hn,by refine bJ h.h λa b c d=>?_;exact(aW a b (c.HS hn) d),h.tS,h.i,λb oR=>by exact m5 (h.pr b oR) λs t r q=>(gp s t r<|q.mono hn hb)⟩
theorem Tv.mono(h:Tv N D v)(hn:N<=N')(hd:D<=D'):Tv N' D' v:=h.imp λ_ h=>h.mono hn hd
theorem Ve.mono(h:Ve S N B D v)(hn:N<=N')(hb:B<=B')(hd:D<=D'):Ve S N' B' D' v:=by exact DN h λk ps L hc aX e a t q=>tX k ps L hc aX e (a.mono hn hb) (t.mono hn hd) q
theorem Gn.mono(h:Gn N f as g P)(hn:N<=M)(hp:∀v,P v->Q v):Gn M f as g Q:=λxs z J ko=>h xs z J λv dH z' p s=>ko v dH z' (hp v p)<|s.mono hn
theorem Gn.en(h:Gn N f as g<|Ve S M B D)(xs z)(J:Prop)(ko:∀k ps L hc aX dH z',Va S M B k ps L hc aX->Tv M D (nd k ps)->Sp N f (.ptr 0::as) (gh xs z g) (nd k ps) (gh dH z' g)->J):J:=h xs z J λv dH z' p s=>by refine DN p λk ps L hc aX e a t q=>?_;clear p;subst e;exact ko k ps L hc aX dH z' a t s
def Gn.kn(h:Gn N f as g<|Pk n)(xs z)(J:Prop)(ko:∀(k:Nat) dH z',k<n->Sp N f (.ptr 0::as) (gh xs z g) (.int (k:Int)) (gh dH z' g)->J):J:=h xs z J λv dH z' p s=>by refine aA p λk h q1=>?_;clear p;subst q1;exact ko k dH z' h s
def Gn.sn(h:Gn N f as g<|Ps l)(xs z)(J:Prop)(ko:∀s dH z',s∈l->Sp N f (.ptr 0::as) (gh xs z g) (.str s) (gh dH z' g)->J):J:=h xs z J λv dH z' p s=>by refine aA p λk h q2=>?_;clear p;subst q2;exact ko k dH z' h s
def I1(hn:0<n):∃k:Nat,k<n/\a%(n:Int)=k:=by have h1:=Int.emod_nonneg a (show(n:Int)≠0 by lia);have h2:=Int.emod_lt_of_pos a (show(0:Int)<n by lia);exact au ((a%(n:Int)).toNat) (by lia)<|by lia
theorem vR(hn:0<n)(a:Int):n7 .Mod (.int a) (.int (n:Int))=some (.p<|.int<|a%(n:Int)):=by show(bK (bQ 0 (n:Int))<|some<|a%(n:Int)).bind (λz=>some<|TV.p<|.int z)=_;rw[kT (show(0:Int)<n by lia)];rfl
def Xp(a:Int):n7 .Mult (.int a) (.int 48271)=some (.p<|.int<|a*48271):=by show(bK (mr a||mr 48271)<|some<|TV.p<|.int<|a*48271)=_;rw[show mr 48271=true from by ext,Bool.or_true];rfl
def GG(hn:0<n):Gn 10 140 [.int (n:Int)] g<|Pk n:=λxs z J ko=>by
 induction xs using bx with
 |cons i r=>exact aA (I1 (a:=i) hn) λk hk e=>ko (.int<|i%(n:Int)) r z (au k hk<|by rw[e])<|go (d:=8) (n:=1) (sc:=[.ov 2<|.p<|.int<|i%(n:Int)]) (c1<|vR hn i)<|by ext
 |nil=>exact aA (I1 (a:=(z*48271+11)%2147483647/97) hn) λk hk e=>ko (.int<|(z*48271+11)%2147483647/97%(n:Int)) [] ((z*48271+11)%2147483647) (au k hk<|by rw[e])<|go (d:=8) (n:=1) (sc:=[.ov 2<|.p<|.int<|z*48271,.ov 3<|.p<|.int<|(z*48271+11)%2147483647/97%(n:Int)]) (c2 (Xp z)<|vR hn<|(z*48271+11)%2147483647/97)<|by ext
def Gp(h0:0<l.length)(h1:l.length<=100):Gn 12 141 [.lst<|l.map .str] g<|Ps l:=λxs z J ko=>by
 refine(GG (g:=g) h0).kn xs z _ λk dH z' hk s=>?_;have el:(l.map V.str).length=l.length:=List.length_map ..;refine ko (.str l[k]) dH z' (au _ (List.getElem_mem hk) rfl) ?_;rw[<-el] at s;have e:((pF (gh dH z' g) (.lst<|l.map V.str)<|.int (k:Int)).bind λv=>some<|TV.p v)=some (TV.p<|.str l[k]):=by show(((bK (Nat.ble (l.map V.str).length ae)<|ir (l.map V.str) (k:Int))).bind λv=>some<|TV.p v)=_;rw[el,Nat.ble_eq_true_of_le<|aG h1<|a6 (n:=100)];unfold ir;rw[xr<|Int.natCast_nonneg k];show((l.map V.str)[k]?).bind _=_;rw[List.getElem?_map,List.getElem?_eq_getElem hk];rfl
 exact sq<|wk 1<|.p (show(l.map V.str).length<=ae by rw[el];exact aG h1<|a6 (n:=100))<|.q s<|.o (n:=0) (t:=.p<|.str l[k]) e .nil
theorem tk(hM:17<=M)(hn:0<n)(zs:List Int)(z:Int)(J:Prop)(ko:∀(k:Nat) bg z',k<n->Sp M 140 [.ptr 0,.int (n:Int)] (gh zs z g) (.int (k:Int)) (gh bg z' g)->J):J:=(GG hn).kn zs z J λk bg z' h s=>ko k bg z' h<|s.mono<|jc hM
def qo(hM:17<=M)(zs:List Int)(z:Int)(J:Prop)(a:∀bg z',Sp M 140 [.ptr 0,.int 2] (gh zs z g) (.int 0) (gh bg z' g)->J)(b:∀bg z',Sp M 140 [.ptr 0,.int 2] (gh zs z g) (.int 1) (gh bg z' g)->J):J:=tk (n:=2) hM (by ext) zs z J λk bg z' h=>lE (P:=λk=>Sp M 140 [.ptr 0,.int 2] (gh zs z g) (.int (k:Nat)) (gh bg z' g)->J) h (a bg z')<|b bg z'
def wp(hM:17<=M)(zs:List Int)(z:Int)(J:Prop)(a:∀bg z',Sp M 140 [.ptr 0,.int 3] (gh zs z g) (.int 0) (gh bg z' g)->J)(b:∀bg z',Sp M 140 [.ptr 0,.int 3] (gh zs z g) (.int 1) (gh bg z' g)->J)(c:∀bg z',Sp M 140 [.ptr 0,.int 3] (gh zs z g) (.int 2) (gh bg z' g)->J):J:=tk (n:=3) hM (by ext) zs z J λk bg z' h=>wF (P:=λk=>Sp M 140 [.ptr 0,.int 3] (gh zs z g) (.int (k:Nat)) (gh bg z' g)->J) h (a bg z') (b bg z')<|c bg z'
def tk4(hM:17<=M)(zs:List Int)(z:Int)(J:Prop)(a:∀bg z',Sp M 140 [.ptr 0,.int 4] (gh zs z g) (.int 0) (gh bg z' g)->J)(b:∀bg z',Sp M 140 [.ptr 0,.int 4] (gh zs z g) (.int 1) (gh bg z' g)->J)(c:∀bg z',Sp M 140 [.ptr 0,.int 4] (gh zs z g) (.int 2) (gh bg z' g)->J)(d:∀bg z',Sp M 140 [.ptr 0,.int 4] (gh zs z g) (.int 3) (gh bg z' g)->J):J:=tk (n:=4) hM (by ext) zs z J λk bg z' h=>KO (P:=λk=>Sp M 140 [.ptr 0,.int 4] (gh zs z g) (.int (k:Nat)) (gh bg z' g)->J) h (a bg z') (b bg z') (c bg z')<|d bg z'
def pk(hM:17<=M){l:List<|List Nat}(h:(Nat.blt 0 l.length&&Nat.ble l.length 100))(zs:List Int)(z:Int)(J:Prop)(ko:∀s bg z',s∈l->Sp M 141 [.ptr 0,.lst<|l.map .str] (gh zs z g) (.str s) (gh bg z' g)->J):J:=(Gp (Nat.blt_eq.mp (cK h).1)<|ia (cK h).2).sn zs z J λs bg z' h s=>ko _ bg z' h<|s.mono<|jc hM
end
def J9:∀{xs:List V},(∀v∈xs,Tv N D v)->∃l:List<|V×V,l.map Prod.fst=xs/\∀p∈l,Td N D p.1 p.2
 |[],_=>au [] rfl λ_ h=>nomatch h
 |a::r,h=>by
  refine aA (J9 (xs:=r) λv hv=>h v<|.tail _ hv) λl e q=>?_;obtain⟨T,t⟩:=h a<|.head _;refine au ((a,T)::l) (by rw[List.map_cons,e]) λp hp=>?_;cases hp with
  |head=>exact t
  |tail _ hp=>exact q p hp
def tdm:∀{l:List<|V×V},l.length<=5->∃a b c d e,l∈qj a b c d e
 |[],_=>uh (.none,.none) (.none,.none) (.none,.none) (.none,.none) (.none,.none)<|.head _
 |[a],_=>uh a a a a a<|.tail _<|.head _
 |[a,b],_=>uh a b a a a<|.tail _<|.tail _<|.head _
 |[a,b,c],_=>uh a b c a a<|.tail _<|.tail _<|.tail _<|.head _
 |[a,b,c,d],_=>uh a b c d a<|.tail _<|.tail _<|.tail _<|.tail _<|.head _
 |[a,b,c,d,e],_=>uh a b c d e<|.tail _<|.tail _<|.tail _<|.tail _<|.tail _<|.head _
 |_::_::_::_::_::_::_,h=>by simp only[ec] at h;lia
def xW(h:∀v∈xs,Tv N D v)(hl:xs.length<=5)(J:Prop)(ko:∀l a b c d e,l.map Prod.fst=xs->l∈qj a b c d e->(∀p∈l,Td N D p.1 p.2)->J):J:=by refine aA (J9 h) λl e q=>?_;exact ZV (tdm (l:=l) (by rw[<-List.length_map (f:=Prod.fst),e];exact hl)) λa b c d e' m=>ko l a b c d e' e m q
def il(hN:10<=N)(hD:1<=D)(hl:xs.length<=5)(h:∀v∈xs,Tv N D v):Tv (N+2) (D+2)<|nd k xs:=by refine xW h hl _ λl a b c d e q1 m q=>?_;refine zb q1 ?_;exact⟨_,H0 hN hD m q⟩
def iC(hN:10<=N)(hl:xs.length<=5)(h:∀v∈xs,Tv N D v):Tv (N+2) (D+1)<|.lst xs:=by refine xW h hl _ λl a b c d e q2 m q=>?_;refine zb q2 ?_;exact⟨_,TQ hN m q⟩
def w3(hN:10<=N)(hl:xs.length<=5)(h:∀v∈xs,Tv N D v):Tv (N+2) (D+1)<|.tup xs:=by refine xW h hl _ λl a b c d e q3 m q=>?_;refine zb q3 ?_;exact⟨_,SV hN m q⟩
def g8(hN:10<=N)(hD:1<=D):Tv N D<|.str s:=⟨_,(SZ).mono hN hD⟩
def jF(hN:10<=N)(hD:1<=D):Tv N D .none:=⟨_,(Ql).mono hN hD⟩
def uH(hN:10<=N)(hD:2<=D):Tv N D<|.bool b:=⟨_,(QK).mono hN hD⟩
def S6(hN:10<=N)(hD:1<=D):Tv N D<|.int i:=⟨_,(RX).mono hN hD⟩
def Tv.flat(h:Tv N D v):aT v:=h.elim λ_ t=>t.fl
def qL:Gn 14 144 [] g<|Ps y2:=λxs z J ko=>by exact(Gp (g:=g) (l:=y2) (by ext)<|by ext).sn xs z _ λs dH z' hs p=>ko (.str s) dH z' (au s hs rfl)<|sq<|wk 1<|.q p .nil
def U6:∀q∈yG,Sp 10 143 [.int<|1+(q.1:Int),.int (q.2:Int)] [] (.int<|bt q.1 q.2) []:=jW (L:=yG) (as:=λq=>[.int<|1+(q.1:Int),.int (q.2:Int)]) (v:=λq=>.int<|bt q.1 q.2) (n:=1) (d:=8) (by ext)
def WY:yG.all λq=>gm.any λp=>bA p.2.2<|bt q.1 q.2:=by ext
def Ib(hk:k<20)(hh:h<2):(k,h)∈yG:=List.mem_flatMap.mpr<|au k (List.mem_range.mpr hk) (by rcases h with _|_|h<;>first|exact .head _|exact .tail _ (.head _)|lia)
def VN(hk:k<20)(hh:h<2):∃q∈gm,q.2.2=bt k h:=by exact aA (List.any_eq_true.mp<|cp WY _<|Ib hk hh) λq hq e=>au q hq<|(Z.eqB_iff _ _).mp e
def pg:∀s∈y2,s∈cq:=λs h=>by have:=cp (show y2.all (dD cq)=true by ext) s h;exact hZ this
def Hi(h:s∈cq):Ve S 22 20 4<|nd nb [.str s]:=v3 nb _ 16 false false rfl (VM (by ext) (by ext) h) ((il (N:=10) (D:=1) (by ext) (by ext) (by show 1<=5;decide)<|ao (g8 (by ext)<|by ext) aP).mono (by ext)<|by ext) (by ext) λe=>by exact nj e
def VV(h:q∈gm):Ve S 22 20 4<|nd hR [.int q.2.2]:=v3 hR _ 16 false false rfl (Vc (by ext) (by ext) h) ((il (N:=10) (D:=1) (by ext) (by ext) (by show 1<=5;decide)<|ao (S6 (by ext)<|by ext) aP).mono (by ext)<|by ext) (by ext) λe=>by exact nj e
def Xh(h:q∈kJ):Ve S 22 20 4<|nd dm [.str q.1.v]:=v3 dm _ 16 false false rfl (H2 (by ext) (by ext) h) ((il (N:=10) (D:=1) (by ext) (by ext) (by show 1<=5;decide)<|ao (g8 (by ext)<|by ext) aP).mono (by ext)<|by ext) (by ext) λ_=>(au q h rfl)
def xF(h:q∈mL):Ve S 22 20 4<|nd q.2.1 q.2.2:=by
 refine v3 q.2.1 q.2.2 16 false false rfl (Wm (by ext) (by ext) h) ?_ ?_ λe=>?_
 ·simp only[mL,List.mem_cons,List.not_mem_nil,or_false] at h;rcases h with rfl|rfl|rfl|rfl
  ·exact(il (N:=10) (D:=1) (by ext) (by ext) (by show 0<=5;decide) aP).mono (by ext)<|by ext
  ·exact(il (N:=10) (D:=1) (by ext) (by ext) (by show 0<=5;decide) aP).mono (by ext)<|by ext
  ·exact(il (N:=10) (D:=2) (by ext) (by ext) (by show 1<=5;decide)<|ao (uH (by ext)<|by ext) aP).mono (by ext)<|by ext
  ·exact(il (N:=10) (D:=2) (by ext) (by ext) (by show 1<=5;decide)<|ao (uH (by ext)<|by ext) aP).mono (by ext)<|by ext
 ·have:=cp (show mL.all (λq=> !lq q.2.1 eK)=true by ext) q h;rw[<-dg];exact this
 ·have:=cp (show mL.all (λq=> !lq q.2.1 dm)=true by ext) q h;rw[e] at this;exact nj this
def O7:Gn 20 145 [] g<|Ve S 22 20 4:=λxs z J ko=>by
 have t8:17<=17:=aV _;refine tk (g:=g) t8 (n:=8) (by ext) xs z _ λk az aB hk=>?_;have nm:∀k,k=0\/k=1->Sp 17 140 [.ptr 0,.int 8] (gh xs z g) (.int (k:Nat)) (gh az aB g)->J:=λk hk ai=>by refine(qL (g:=g)).sn az aB _ λs aN am hs af=>?_;refine ko _ aN am (Hi<|pg s hs) ?_;rcases hk with rfl|rfl<;>exact sq<|wk 2<|.q ai<|.q (af.mono (show 14<=17 by ext)) .nil
 have nu:∀k,k=2\/k=3->Sp 17 140 [.ptr 0,.int 8] (gh xs z g) (.int (k:Nat)) (gh az aB g)->J:=λk hk ai=>by refine tk (g:=g) t8 (n:=20) (by ext) az aB _ λm aN am hm af=>?_;refine tk (g:=g) t8 (n:=2) (by ext) aN am _ λh dx aZ hh aH=>?_;refine aA (VN hm hh) λq hq e=>?_;have b:=Sp.pure (U6 _<|Ib hm hh) (gh dx aZ g) Np.int<|ao Np.int<|ao Np.int aP;refine ko (nd hR [.int<|bt m h]) dx aZ (e▸VV hq) ?_;rcases hk with rfl|rfl<;>exact sq<|wk 2<|.q ai<|.q af<|.q aH<|.q (b.mono (show 10<=17 by ext)) .nil
 have lt:∀k,k=6\/k=7->Sp 17 140 [.ptr 0,.int 8] (gh xs z g) (.int (k:Nat)) (gh az aB g)->J:=λk hk ai=>by
  refine pk (g:=g) t8 (l:=[x8,xO]) (by ext) az aB _ λs aN am hs af=>?_;have v:Ve S 22 20 4<|nd s []:=by
   rcases dZ hs with rfl|hs
   ·exact xF (q:=([110,117,108,108],x8,[]))<|.tail _<|.head _
   ·rw[fo hs];exact xF (q:=([116,104,105,115],xO,[]))<|.head _
  refine ko _ aN am v ?_;rcases hk with rfl|rfl<;>exact sq<|wk 2<|.q ai<|.q af .nil
 refine J6 hk (nm 0<|.inl rfl) (nm 1<|.inr rfl) (nu 2<|.inl rfl) (nu 3<|.inr rfl) (λai=>?_) (λai=>?_) (lt 6<|.inl rfl)<|lt 7<|.inr rfl
 ·refine pk (g:=g) t8 (l:=tsL) (by ext) az aB _ λs aN am hs af=>?_;refine aA (List.mem_map.mp hs) λq hq q4=>?_;subst q4;exact ko _ aN am (Xh hq)<|sq<|wk 2<|.q ai<|.q af .nil
 ·refine qo (g:=g) t8 az aB _ (λaN am af=>?_) λaN am af=>?_
  ·exact ko _ aN am (xF (q:=([116,114,117,101],vF,[.bool true]))<|.tail _<|.tail _<|.head _)<|sq<|wk 2<|.q ai<|.q af .nil
  ·exact ko _ aN am (xF (q:=([102,97,108,115,101],vF,[.bool false]))<|.tail _<|.tail _<|.tail _<|.head _)<|sq<|wk 2<|.q ai<|.q af .nil
def Vt(S:Bool)(N B D:Nat)(v:V):Prop:=Ve S N B D v/\∃k ps,v=nd k ps/\Tg k ps
def Go(N f:Nat)(as:List V)(g:Gs)(P:V->Prop)(xs:List Int)(z:Int):Prop:=∃v dH z',P v/\Sp N f (.ptr 0::as) (gh xs z g) v (gh dH z' g)
section
variable{S:Bool}{N N' M B B' D D' n L eD:Nat}{g:Gs}{k ay s:List Nat}{v:V}{ps aw as xs:List V}{hc d7 aX eM b:Bool}{zs bg:List Int}{z z' dp:Int}{P:V->Prop}{t:Tk}{r:Rr}
theorem Ve.mk(a:Va S N B k ps L hc aX)(t:Tv N D<|nd k ps)(h:(lq k eK||lq k dm)=false):Ve S N B D<|nd k ps:=by obtain⟨h1,h2⟩:=Bool.or_eq_false_iff.mp h;exact v3 k ps L hc aX rfl a t h1 (λe=>by rw[h2] at e;exact nj e)
theorem Vt.mono(h:Vt S N B D v)(hn:N<=N')(hb:B<=B')(hd:D<=D'):Vt S N' B' D' v:=⟨h.1.mono hn hb hd,h.2⟩
def Gn.tn(h:Gn N f as g<|Vt S M B D)(xs z)(J:Prop)(ko:∀k ps L hc aX dH z',Va S M B k ps L hc aX->Tv M D (nd k ps)->Tg k ps->lq k eK=false->Sp N f (.ptr 0::as) (gh xs z g) (nd k ps) (gh dH z' g)->J):J:=h xs z J λv dH z' p s=>by obtain⟨o1,o2⟩:=p;refine bJ o2 λk' fZ e tg=>?_;clear o2;obtain⟨k,ps,L,hc,aX,rfl,a,t,q,_⟩:=o1;injection e with _ e;injection e with e1 e;injection e with _ e;injection e with e2 _;injection e1 with _ e1;injection e1 with e1;injection e2 with _ e2;injection e2 with e2;subst e1 e2;exact ko k ps L hc aX dH z' a t tg q s
def l8(hN:10<=N)(hD:2<=D)(ha:Tv N D a):Tv (N+2) (D+2)<|nd k [a]:=il hN (Nat.le_of_lt hD) (by show 1<=5;decide)<|ao ha aP
def oO{b:V}(hN:10<=N)(hD:2<=D)(ha:Tv N D a)(hb:Tv N D b):Tv (N+2) (D+2)<|nd k [a,b]:=il hN (Nat.le_of_lt hD) (by show 2<=5;decide)<|ao ha<|ao hb aP
def m0{b:V}(hN:10<=N)(hD:2<=D)(ha:Tv N D a)(hb:Tv N D b)(hc:Tv N D c):Tv (N+2) (D+2)<|nd k [a,b,c]:=il hN (Nat.le_of_lt hD) (by show 3<=5;decide)<|ao ha<|ao hb<|ao hc aP
def EV(hM:20<=M)(hN:22<=N)(hB:4*B+200<=ae)(cv:20<=B)(hD:4<=D)(Hv:Gn M 147 [.int<|dp-1] g<|Ve S N B D):Gn (M+3) 146 [.int dp] g<|Vt S (N+50) (4*B+200)<|D+2:=λzs z J ko=>by
 refine wp (M:=M) (g:=g) (jc hM) zs z _ (λaB ac ai=>?_) (λaB ac ai=>?_) λaB ac ai=>?_
 ·
   exact(qL (g:=g)).sn aB ac _ λs am an hs af=>ko _ am an ⟨(Hi<|pg s hs).mono (jj hN) ia<|jj hD,(aW _ _ rfl<|.nm s<|pg s hs)⟩<|sq<|wk 2<|.q ai<|.q (af.mono (jc hM rfl:14<=M)) .nil
 ·
   refine Hv.en aB ac _ λk ps L hc aX am an a t af=>?_;exact pk (M:=M) (g:=g) (jc hM) (l:=rV) (by ext) am an _ λs aZ a9 hs aH=>ko _ aZ a9 ⟨.mk (Uw hN hB a hs) ((oO (jc hN) (jc hD) t<|g8 (jc hN)<|jc hD).mono ja<|aV _)<|by ext,(aW _ _ rfl<|.mem _)⟩<|sq<|wk 2<|.q ai<|.q af<|.q aH .nil
 ·
   refine Hv.en aB ac _ λk ps L hc aX am an a t af=>?_;exact Hv.en am an _ λay aw eD d7 eM aZ a9 aK aD aH=>ko _ aZ a9 ⟨.mk (SL hN hB a aK) ((oO (jc hN) (jc hD) t aD).mono ja<|aV _)<|by ext,(aW _ _ rfl<|.idx _)⟩<|sq<|wk 2<|.q ai<|.q af<|.q aH .nil
def Ti(h:dQ dp 0):Gn 22 147 [.int dp] g<|Ve S 22 20 4:=λzs z J ko=>by refine O7 (S:=S) (g:=g) zs z _ λ_ aB ac p ai=>?_;refine DZ p λk ps L hc aX q1 q=>?_;clear p;subst q1;exact ko _ aB ac (Kj k ps L hc aX rfl q)<|sq<|wk 1<|.b 0 true h<|.q ai .nil
def Gx(hM:20<=M)(hN:22<=N)(hB:4*B+200<=ae)(hD:4<=D)(Hv:Gn M 147 [.int<|dp-1] g<|Ve S N B D)(m:Nat)(hm:m<=2)(zs:List Int)(z:Int)(J:Prop)(ko:∀as s r bg z',Sp (M+2) 148 [.ptr 0,.int dp,.int (m:Nat)] (gh zs z g) (.lst as) (gh bg z' g)->Ag S (N+45) B as s r->Tv (N+2) (D+1) (.lst as)->J):J:=by
 have rg:∀m:Nat,m<=2->(-8388608:Int)<=(m:Int)/\(m:Int)<=(ae:Int):=λm hm=>⟨by lia,Int.ofNat_le.mpr<|aG hm<|a6 (n:=2)⟩;revert ko;refine wF (Nat.lt_succ_of_le hm) (λko=>?_) (λko=>?_) λko=>?_
 ·exact ko [] _ _ zs z (sq<|wk 1 (.p (rg 0<|by ext) .nil) (d:=M)) (ZQ ia)<|iC (jc hN) (by show 0<=5;decide) aP
 ·refine Hv.en zs z _ λk ps L hc aX am an a t af=>?_;exact cX (ag1 hN hB a) λs r ag=>ko _ _ _ am an (sq<|wk 1<|.p (rg 1<|by ext)<|.q af .nil) ag<|iC (jc hN) (by show 1<=5;decide)<|ao t aP
 ·refine Hv.en zs z _ λk ps L hc aX am an a t af=>?_;refine Hv.en am an _ λay aw eD d7 eM aZ a9 aK aD aH=>?_;exact cX (ag2 hN hB a aK) λs r ag=>ko _ _ _ aZ a9 (sq<|wk 1<|.p (rg 2<|by ext)<|.q af<|.q aH .nil) ag<|iC (jc hN) (by show 2<=5;decide)<|ao t<|ao aD aP
end
noncomputable def IR:List<|List Nat:=[[45],[43],[45],[105,110]]++[[43],[45],[42],[47],[37],[60,60],[62,62],[62,62,62],[38],[124],[94],[61,61],[33,61],[61,61,61],[33,61,61],[60],[62],[60,61],[62,61]]++[[105,110],[105,110,115,116,97,110,99,101,111,102]]
def Du:List<|List Nat:=[[45],[43],[33],[126],[116,121,112,101,111,102],[118,111,105,100],lV]
noncomputable def IP:List Nat:=[118,111,105,100]
section
variable{S:Bool}{N M B D n L:Nat}{g:Gs}{k s op:List Nat}{v:V}{ps as:List V}{hc aX b:Bool}{zs bg aB:List Int}{z z' dp ac:Int}{t:Tk}
structure Vh(S:Bool)(M N B D:Nat)(dp:Int)(g:Gs):Prop where
 hM:20<=M
 hN:22<=N
 hB:4*B+200<=ae
 cv:20<=B
 hD:4<=D
 v:Gn M 147 [.int<|dp-1] g<|Ve S N B D
 t:Gn M 146 [.int<|dp-1] g<|Vt S N B D
 p:dQ dp 0=false
abbrev Gv(S:Bool)(M N B D:Nat)(dp:Int)(g:Gs)(zs:List Int)(z:Int):Prop:=∀J:Prop,(∀v bg z',Ve S (N+50) (4*B+200) (D+4) v->Sp (M+13) 147 [.ptr 0,.int dp] (gh zs z g) v (gh bg z' g)->J)->J
abbrev lY(M:Nat)(g:Gs)(zs:List Int)(z:Int)(k:Nat)(aB:List Int)(ac:Int):Prop:=Sp (M+10) 140 [.ptr 0,.int 16] (gh zs z g) (.int (k:Nat))<|gh aB ac g
def Bn(h:Vh S M N B D dp g)(hk:k'=0\/k'=1\/k'=2)(ai:lY M g zs z k' aB ac):Gv S M N B D dp g zs z:=by intro J ko;refine EV (S:=S) h.hM h.hN h.hB h.cv h.hD h.v aB ac _ λ_ am an o1 af=>?_;obtain⟨p,o2⟩:=o1;refine bJ o2 λk ps q1 _=>?_;clear o2;subst q1;refine ko _ am an (p.mono (aV _) (aV _) ja) ?_;have af:=af.mono (ja rfl:M+3<=M+10);rcases hk with rfl|rfl|rfl<;>exact sq<|wk 2<|.b 0 false h.p<|.q ai<|.q af .nil
def Rt(h:Vh S M N B D dp g)(ai:lY M g zs z 3 aB ac):Gv S M N B D dp g zs z:=by intro J ko;obtain⟨hM,hN,hB,cv,hD,hv,ht,hp⟩:=h;refine hv.en aB ac _ λk ps L hc aX am an a t af=>?_;refine tk (M:=M+10) (g:=g) (jb hM) (n:=3) (by ext) am an _ λm aZ a9 hm aH=>?_;exact Gx hM hN hB hD hv m (Nat.le_of_lt_succ hm) aZ a9 _ λas _ _ a4 bm a5 ag ta=>ko _ a4 bm (.mk (PN hN hB a ag) ((oO (jb hN) (jb hD) (t.mono (bh _ _:N<=N+2) (bh _ _:D<=D+1)) ta).mono (@ja _ 4 50 rfl)<|@ja _ 3 4 rfl)<|by ext)<|sq<|wk 2<|.b 0 false hp<|.q ai<|.q (af.mono (bh _ _:M<=M+10))<|.q aH<|.q (a5.mono (ja rfl:M+2<=M+10)) .nil
def WA(h:Vh S M N B D dp g)(ai:lY M g zs z 4 aB ac):Gv S M N B D dp g zs z:=by intro J ko;obtain⟨hM,hN,hB,cv,hD,hv,ht,hp⟩:=h;refine hv.en aB ac _ λk ps L hc aX am an a t af=>?_;refine tk (M:=M+10) (g:=g) (jb hM) (n:=2) (by ext) am an _ λm aZ a9 hm aH=>?_;exact Gx hM hN hB hD hv m (Nat.le_of_lt hm) aZ a9 _ λas _ _ a4 bm a5 ag ta=>ko _ a4 bm (.mk (UF hN hB a ag) ((oO (jb hN) (jb hD) (t.mono (bh _ _:N<=N+2) (bh _ _:D<=D+1)) ta).mono (@ja _ 4 50 rfl)<|@ja _ 3 4 rfl)<|by ext)<|sq<|wk 2<|.b 0 false hp<|.q ai<|.q (af.mono (bh _ _:M<=M+10))<|.q aH<|.q (a5.mono (ja rfl:M+2<=M+10)) .nil
def UM(h:Vh S M N B D dp g)(ai:lY M g zs z 5 aB ac):Gv S M N B D dp g zs z:=by
 intro J ko;obtain⟨hM,hN,hB,cv,hD,hv,ht,hp⟩:=h;refine pk (M:=M+10) (g:=g) (jb hM) (l:=Du) (by ext) aB ac _ λop am an ho af=>?_;refine hv.en am an _ λk ps L hc aX aZ a9 a t aH=>?_;have aH:=aH.mono (bh _ _:M<=M+10);have tv:∀s,Tv (N+50) (D+4)<|nd lr [.str s,nd k ps]:=λs=>(oO (jc hN) (jc hD) (g8 (jc hN)<|jc hD) t).mono ja ja;have va:∀op∈Du,(op=lV->lq k nb=false)->Va S (N+50) (4*B+200) lr [.str op,nd k ps] 13 false false:=λop ho hd=>by
  have e:=cp (show Du.all (λop=>dD [[45],[43],[33],[126]] op||dD mS op)=true by ext) op ho;rcases Bool.or_eq_true_iff.mp e with e|e
  ·exact SD hN hB a e
  ·exact R3 hN hB a (hZ e) hd
 cases e:lq op lV with
 |false=>exact ko _ aZ a9 (.mk (va op ho λq=>by rw[q,sr] at e;exact nk e) (tv _)<|by ext)<|sq<|wk 2<|.b 0 false hp<|.q ai<|.q af<|.q aH<|.b 0 false e .nil
 |true=>
  cases bj:lq k nb with
  |false=>exact ko _ aZ a9 (.mk (va op ho λ_=>bj) (tv _)<|by ext)<|sq<|wk 2<|.b 0 false hp<|.q ai<|.q af<|.q aH<|.b 0 true e<|.b 0 false bj .nil
  |true=>exact ko (nd lr [.str IP,nd k ps]) aZ a9 (.mk (va IP (by ext) λq=>by cases q) (tv _)<|by ext)<|sq<|wk 2<|.b 0 false hp<|.q ai<|.q af<|.q aH<|.b 0 true e<|.b 0 true bj .nil
def Xj(h:Vh S M N B D dp g)(ai:lY M g zs z 6 aB ac):Gv S M N B D dp g zs z:=by
 intro J ko;obtain⟨hM,hN,hB,cv,hD,hv,ht,hp⟩:=h;refine pk (M:=M+10) (g:=g) (jb hM) (l:=[[43,43],[45,45]]) (by ext) aB ac _ λop am an ho af=>?_;refine tk (M:=M+10) (g:=g) (jb hM) (n:=2) (by ext) am an _ λm aZ a9 hm aH=>?_;refine ht.tn aZ a9 _ λk ps L hc aX a4 bm a t tg _ a5=>?_;have a5:=a5.mono (bh _ _:M<=M+10);have tv:∀b,Tv (N+50) (D+4)<|nd oF [.str op,.bool b,nd k ps]:=λb=>(m0 (jc hN) (jc hD) (g8 (jc hN)<|jc hD) (uH (jc hN)<|jc hD) t).mono ja ja;have ho:dD [[43,43],[45,45]] op:=List.any_eq_true.mpr<|au op ho<|sr op;revert aH;refine lE hm (λaH=>?_) λaH=>?_
 ·exact ko _ a4 bm (.mk (Tq hN hB a ho tg) (tv true)<|by ext)<|sq<|wk 2<|.b 0 false hp<|.q ai<|.q af<|.q aH<|.q a5 .nil
 ·exact ko _ a4 bm (.mk (Rq hN hB a ho tg) (tv false)<|by ext)<|sq<|wk 2<|.b 0 false hp<|.q ai<|.q af<|.q aH<|.q a5 .nil
end
section
variable{S:Bool}{N M B D n L eD:Nat}{g:Gs}{k ay op:List Nat}{v:V}{ps aw:List V}{hc d7 aX eM b:Bool}{zs aB:List Int}{z dp ac:Int}{t:Tk}
def ac8{k k':List Nat}{ps fZ:List V}(e:nd k ps=nd k' fZ):k=k'/\ps=fZ:=by injection e with _ e;injection e with e1 e;injection e with _ e;injection e with e2 _;injection e1 with _ e1;injection e1 with e1;injection e2 with _ e2;injection e2 with e2;exact⟨e1,e2⟩
def HH(h:Vh S M N B D dp g)(hk:k'=7\/k'=8)(ai:lY M g zs z k' aB ac):Gv S M N B D dp g zs z:=by intro J ko;obtain⟨hM,hN,hB,cv,hD,hv,ht,hp⟩:=h;refine pk (M:=M+10) (g:=g) (jb hM) (l:=IR) (by ext) aB ac _ λop am an ho af=>?_;refine hv.en am an _ λk ps L hc aX aZ a9 a t aH=>?_;refine hv.en aZ a9 _ λay aw eD d7 eM a4 bm aK aD a5=>?_;have aH:=aH.mono (bh _ _:M<=M+10);have a5:=a5.mono (bh _ _:M<=M+10);have e:=cp (show IR.all (λop=>mE.any λq=>lq q.1 op&& !Nat.blt q.2 3)=true by ext) op ho;refine aA (List.any_eq_true.mp e) λq hq e=>?_;obtain⟨e1,e2⟩:=cK e;have e1:=(dR _ _).mp e1;subst e1;obtain⟨aX,va⟩:=G5 hN hB a aK hq;rw[show gA q.2=rk by unfold gA;rw[show Nat.blt q.2 3=false by rw[<-dg];exact e2];rfl] at va;refine ko _ a4 bm (.mk va ((m0 (jc hN) (jc hD) (g8 (jc hN)<|jc hD) t aD).mono ja ja)<|by ext) ?_;rcases hk with rfl|rfl<;>exact sq<|wk 2<|.b 0 false hp<|.q ai<|.p (a6 (n:=23))<|.p (a6 (n:=25))<|.q af<|.q aH<|.q a5 .nil
def UK(h:Vh S M N B D dp g)(ai:lY M g zs z 9 aB ac):Gv S M N B D dp g zs z:=by
 intro J ko;obtain⟨hM,hN,hB,cv,hD,hv,ht,hp⟩:=h;refine pk (M:=M+10) (g:=g) (jb hM) (l:=[[38,38],[124,124]]) (by ext) aB ac _ λop am an ho af=>?_;refine hv.en am an _ λk ps L hc aX aZ a9 a t aH=>?_;refine hv.en aZ a9 _ λay aw eD d7 eM a4 bm aK aD a5=>?_;have aH:=aH.mono (bh _ _:M<=M+10);have a5:=a5.mono (bh _ _:M<=M+10);have e:∃p,(op,p)∈mE/\gA p=Xz:=by
  rcases dZ ho with rfl|ho
  ·exact au 2 (by ext) rfl
  ·rw[fo ho];exact au 1 (by ext) rfl
 refine aA e λp hq e=>?_;obtain⟨aX,va⟩:=G5 hN hB a aK hq;have va:Va S (N+50) (4*B+200) (gA p) [.str op,nd k ps,nd ay aw] (p+2) false aX:=va;rw[e] at va;exact ko _ a4 bm (.mk va ((m0 (jc hN) (jc hD) (g8 (jc hN)<|jc hD) t aD).mono ja ja)<|by ext)<|sq<|wk 2<|.b 0 false hp<|.q ai<|.q af<|.q aH<|.q a5 .nil
def VO(h:Vh S M N B D dp g)(ai:lY M g zs z 10 aB ac):Gv S M N B D dp g zs z:=by
 intro J ko;obtain⟨hM,hN,hB,cv,hD,hv,ht,hp⟩:=h;refine hv.en aB ac _ λk ps L hc aX am an a t af=>?_;refine hv.en am an _ λay aw eD d7 eM aZ a9 aK aD aH=>?_;refine hv.en aZ a9 _ λba bo tI sN sI a4 bm bq bM a5=>?_;have rg:(-8388608:Int)<=3/\(3:Int)<=(ae:Int):=⟨by ext,Int.ofNat_le.mpr<|a6 (n:=3)⟩;have m:=show M<=M+10 by exact bh _ _
 exact ko _ a4 bm (.mk (Ui hN hB a aK bq) ((m0 (jc hN) (jc hD) t aD bM).mono ja ja)<|by ext)<|sq<|wk 2<|.b 0 false hp<|.q ai<|.p rg<|.q (af.mono m)<|.q (aH.mono m)<|.q (a5.mono m) .nil
def WM(h:Vh S M N B D dp g)(ai:lY M g zs z 11 aB ac):Gv S M N B D dp g zs z:=by
 intro J ko;obtain⟨hM,hN,hB,cv,hD,hv,ht,hp⟩:=h;refine pk (M:=M+10) (g:=g) (jb hM) (l:=tz) (by ext) aB ac _ λop am an ho af=>?_;refine ht.tn am an _ λk ps L hc aX aZ a9 a t tg _ aH=>?_;refine hv.en aZ a9 _ λay aw eD d7 eM a4 bm aK aD a5=>?_;have m:=show M<=M+10 by exact bh _ _
 exact ko _ a4 bm (.mk (SO hN hB a tg aK ho) ((m0 (jc hN) (jc hD) (g8 (jc hN)<|jc hD) t aD).mono ja ja)<|by ext)<|sq<|wk 2<|.b 0 false hp<|.q ai<|.q af<|.q (aH.mono m)<|.q (a5.mono m) .nil
def Vx(h:Vh S M N B D dp g)(ai:lY M g zs z 12 aB ac):Gv S M N B D dp g zs z:=by
 intro J ko;obtain⟨hM,hN,hB,cv,hD,hv,ht,hp⟩:=h;have m':=show M<=M+10 by exact bh _ _
 have rg:∀m:Nat,m<=3->(-8388608:Int)<=(m:Int)/\(m:Int)<=(ae:Int):=λm hm=>⟨by lia,Int.ofNat_le.mpr<|aG hm<|a6 (n:=3)⟩;refine tk (M:=M+10) (g:=g) (jb hM) (n:=2) (by ext) aB ac _ λm am an hm af=>?_;refine hv.en am an _ λk ps L hc aX aZ a9 a t aH=>?_;refine hv.en aZ a9 _ λay aw eD d7 eM a4 bm aK aD a5=>?_;refine hv.en a4 bm _ λba bo tI sN sI fR eA bq bM bR=>?_;revert af;refine lE hm (λaf=>?_) λaf=>?_
 ·
   have v:Sp (M+2) 148 [.ptr 0,.int dp,.int 2] (gh am an g) (.lst [nd k ps,nd ay aw])<|gh a4 bm g:=sq<|wk 1<|.p (rg 2<|by ext)<|.q aH<|.q a5 .nil;exact ko _ a4 bm (.mk (Qg hN hB a aK) ((l8 (jb hN) (jb hD)<|iC (jc hN) (by show 2<=5;decide)<|ao t<|ao aD aP).mono (@ja _ 4 50 rfl)<|@ja _ 3 4 rfl)<|by ext)<|sq<|wk 2<|.b 0 false hp<|.q ai<|.q af<|.q (v.mono (ja rfl:M+2<=M+10)) .nil
 ·
   have v:Sp (M+2) 148 [.ptr 0,.int dp,.int 3] (gh am an g) (.lst [nd k ps,nd ay aw,nd ba bo])<|gh fR eA g:=sq<|wk 1<|.p (rg 3<|by ext)<|.q aH<|.q a5<|.q bR .nil;exact ko _ fR eA (.mk (PI hN hB a aK bq) ((l8 (jb hN) (jb hD)<|iC (jc hN) (by show 3<=5;decide)<|ao t<|ao aD<|ao bM aP).mono (@ja _ 4 50 rfl)<|@ja _ 3 4 rfl)<|by ext)<|sq<|wk 2<|.b 0 false hp<|.q ai<|.q af<|.q (v.mono (ja rfl:M+2<=M+10)) .nil
end
abbrev Ar(S:Bool)(N B D:Nat)(xs:List V):Prop:=Ve S (N+50) (4*B+200) (D+4)<|nd vx [.lst xs]
theorem Ar.mk(hN:22<=N)(hD:4<=D)(v:Va S (N+50) (4*B+200) vx [.lst xs] 16 false false)(hl:xs.length<=5)(h:∀v∈xs,Tv N D v):Ar S N B D xs:=Ve.mk v ((l8 (jb hN) (jb hD)<|iC (jc hN) hl h).mono (@ja _ 4 50 rfl)<|@ja _ 3 4 rfl)<|by ext
def Yz(hN:22<=N)(hB:4*B+200<=ae)(hD:4<=D):Ar S N B D []:=by have dT:22<=N+20:=jj hN;exact Ar.mk hN hD (mw (bv:=([],[],[])) (aK:=([],[],[])) (bq:=([],[],[])) hN hB (.head _)<|RL dT) (by show 0<=5;decide) aP
def Jc(hN:22<=N)(hB:4*B+200<=ae)(hD:4<=D)(o:Va S N B k ps L hc aX)(t:Tv N D<|nd k ps):Ar S N B D [nd k ps]:=by have dT:22<=N+20:=jj hN;exact o.pe hN (jl hB) 1 (by ext) false _ λs0 u0 r0 l0 d0 h0 p0 _ _=>Ar.mk hN hD (mw (bv:=(k,ps,s0)) (aK:=([],[],[])) (bq:=([],[],[])) hN hB (.tail _<|.head _)<|sx dT p0) (by show 1<=5;decide)<|ao t aP
def H9(hN:22<=N)(hB:4*B+200<=ae)(hD:4<=D)(o:Va S N B k ps L hc aX)(t:Tv N D<|nd k ps)(d8:Va S N B ay aw eD d7 eM)(aD:Tv N D<|nd ay aw):Ar S N B D [nd k ps,nd ay aw]:=by have dT:22<=N+20:=jj hN;refine o.pe hN (jl hB) 1 (by ext) false _ λs0 u0 r0 l0 d0 h0 p0 _ _=>?_;exact d8.pe hN (jl hB) 1 (by ext) false _ λs1 u1 r1 l1 d1 h1 p1 _ _=>Ar.mk hN hD (mw (bv:=(k,ps,s0)) (aK:=(ay,aw,s1)) (bq:=([],[],[])) hN hB (.tail _<|.tail _<|.head _)<|nS dT p0<|sx dT p1) (by show 2<=5;decide)<|ao t<|ao aD aP
def SE(hN:22<=N)(hB:4*B+200<=ae)(hD:4<=D)(o:Va S N B k ps L hc aX)(t:Tv N D<|nd k ps)(d8:Va S N B ay aw eD d7 eM)(aD:Tv N D<|nd ay aw)(pH:Va S N B ba bo tI sN sI)(bM:Tv N D<|nd ba bo):Ar S N B D [nd k ps,nd ay aw,nd ba bo]:=by have dT:22<=N+20:=jj hN;refine o.pe hN (jl hB) 1 (by ext) false _ λs0 u0 r0 l0 d0 h0 p0 _ _=>?_;refine d8.pe hN (jl hB) 1 (by ext) false _ λs1 u1 r1 l1 d1 h1 p1 _ _=>?_;exact pH.pe hN (jl hB) 1 (by ext) false _ λs2 u2 r2 l2 d2 h2 p2 _ _=>Ar.mk hN hD (mw (bv:=(k,ps,s0)) (aK:=(ay,aw,s1)) (bq:=(ba,bo,s2)) hN hB (.tail _<|.tail _<|.tail _<|.head _)<|nS dT p0<|nS dT p1<|sx dT p2) (by show 3<=5;decide)<|ao t<|ao aD<|ao bM aP
def Zv(hN:22<=N)(hB:4*B+200<=ae)(hD:4<=D):Ar S N B D [.none]:=by have dT:22<=N+20:=jj hN;exact Ar.mk hN hD (mw (bv:=([],[],[])) (aK:=([],[],[])) (bq:=([],[],[])) hN hB (.tail _<|.tail _<|.tail _<|.tail _<|.head _)<|zS dT) (by show 1<=5;decide)<|ao (jF (jc hN)<|jc hD) aP
def Wy(hN:22<=N)(hB:4*B+200<=ae)(hD:4<=D)(o:Va S N B k ps L hc aX)(t:Tv N D<|nd k ps):Ar S N B D [.none,nd k ps]:=by have dT:22<=N+20:=jj hN;exact o.pe hN (jl hB) 1 (by ext) false _ λs0 u0 r0 l0 d0 h0 p0 _ _=>Ar.mk hN hD (mw (bv:=(k,ps,s0)) (aK:=([],[],[])) (bq:=([],[],[])) hN hB (.tail _<|.tail _<|.tail _<|.tail _<|.tail _<|.head _)<|Ah dT<|sx dT p0) (by show 2<=5;decide)<|ao (jF (jc hN)<|jc hD)<|ao t aP
def WI(hN:22<=N)(hB:4*B+200<=ae)(hD:4<=D)(o:Va S N B k ps L hc aX)(t:Tv N D<|nd k ps):Ar S N B D [nd k ps,.none]:=by have dT:22<=N+20:=jj hN;exact o.pe hN (jl hB) 1 (by ext) false _ λs0 u0 r0 l0 d0 h0 p0 _ _=>Ar.mk hN hD (mw (bv:=(k,ps,s0)) (aK:=([],[],[])) (bq:=([],[],[])) hN hB (.tail _<|.tail _<|.tail _<|.tail _<|.tail _<|.tail _<|.head _)<|nS dT p0<|zS dT) (by show 2<=5;decide)<|ao t<|ao (jF (jc hN)<|jc hD) aP
def S9(hN:22<=N)(hB:4*B+200<=ae)(hD:4<=D)(o:Va S N B k ps L hc aX)(t:Tv N D<|nd k ps)(d8:Va S N B ay aw eD d7 eM)(aD:Tv N D<|nd ay aw):Ar S N B D [nd k ps,.none,nd ay aw]:=by have dT:22<=N+20:=jj hN;refine o.pe hN (jl hB) 1 (by ext) false _ λs0 u0 r0 l0 d0 h0 p0 _ _=>?_;exact d8.pe hN (jl hB) 1 (by ext) false _ λs1 u1 r1 l1 d1 h1 p1 _ _=>Ar.mk hN hD (mw (bv:=(k,ps,s0)) (aK:=(ay,aw,s1)) (bq:=([],[],[])) hN hB (.tail _<|.tail _<|.tail _<|.tail _<|.tail _<|.tail _<|.tail _<|.head _)<|nS dT p0<|Ah dT<|sx dT p1) (by show 3<=5;decide)<|ao t<|ao (jF (jc hN)<|jc hD)<|ao aD aP
def Ud(hN:22<=N)(hB:4*B+200<=ae)(hD:4<=D)(o:Va S N B k ps L hc aX)(t:Tv N D<|nd k ps)(d8:Va S N B ay aw eD d7 eM)(aD:Tv N D<|nd ay aw):Ar S N B D [nd k ps,nd ay aw,.none]:=by have dT:22<=N+20:=jj hN;refine o.pe hN (jl hB) 1 (by ext) false _ λs0 u0 r0 l0 d0 h0 p0 _ _=>?_;exact d8.pe hN (jl hB) 1 (by ext) false _ λs1 u1 r1 l1 d1 h1 p1 _ _=>Ar.mk hN hD (mw (bv:=(k,ps,s0)) (aK:=(ay,aw,s1)) (bq:=([],[],[])) hN hB (.tail _<|.tail _<|.tail _<|.tail _<|.tail _<|.tail _<|.tail _<|.tail _<|.head _)<|nS dT p0<|nS dT p1<|zS dT) (by show 3<=5;decide)<|ao t<|ao aD<|ao (jF (jc hN)<|jc hD) aP
def QA(hN:22<=N)(hB:4*B+200<=ae)(hD:4<=D)(o:Va S N B k ps L hc aX)(t:Tv N D<|nd k ps)(d8:Va S N B ay aw eD d7 eM)(aD:Tv N D<|nd ay aw)(pH:Va S N B ba bo tI sN sI)(bM:Tv N D<|nd ba bo):Ar S N B D [nd k ps,nd ay aw,.none,nd ba bo]:=by have dT:22<=N+20:=jj hN;refine o.pe hN (jl hB) 1 (by ext) false _ λs0 u0 r0 l0 d0 h0 p0 _ _=>?_;refine d8.pe hN (jl hB) 1 (by ext) false _ λs1 u1 r1 l1 d1 h1 p1 _ _=>?_;exact pH.pe hN (jl hB) 1 (by ext) false _ λs2 u2 r2 l2 d2 h2 p2 _ _=>Ar.mk hN hD (mw (bv:=(k,ps,s0)) (aK:=(ay,aw,s1)) (bq:=(ba,bo,s2)) hN hB (.tail _<|.tail _<|.tail _<|.tail _<|.tail _<|.tail _<|.tail _<|.tail _<|.tail _<|.head _)<|nS dT p0<|nS dT p1<|Ah dT<|sx dT p2) (by show 4<=5;decide)<|ao t<|ao aD<|ao (jF (jc hN)<|jc hD)<|ao bM aP
variable{S:Bool}{N M B D:Nat}{g:Gs}{zs aB:List Int}{z dp ac:Int} in
def W9(h:Vh S M N B D dp g)(ai:lY M g zs z 13 aB ac):Gv S M N B D dp g zs z:=by
 intro J ko;obtain⟨hM,hN,hB,cv,hD,hv,ht,hp⟩:=h;have m':=show M+2<=M+10 by exact ja rfl
 have rg:∀m:Nat,m<=3->(-8388608:Int)<=(m:Int)/\(m:Int)<=(ae:Int):=λm hm=>⟨by lia,Int.ofNat_le.mpr<|aG hm<|a6 (n:=3)⟩;have v0:∀zs z,Sp (M+2) 148 [.ptr 0,.int dp,.int 0] (gh zs z g) (.lst [])<|gh zs z g:=λzs z=>sq<|wk 1 (.p (rg 0<|by ext) .nil) (d:=M);have v1:∀{zs z} {v:List Nat×List V} {bg z'},Sp M 147 [.ptr 0,.int<|dp-1] (gh zs z g) (nd v.1 v.2) (gh bg z' g)->Sp (M+2) 148 [.ptr 0,.int dp,.int 1] (gh zs z g) (.lst [nd v.1 v.2]) (gh bg z' g):=λs=>sq<|wk 1<|.p (rg 1<|by ext)<|.q s .nil;have v2:∀{zs z} {v u:List Nat×List V} {bg z' Iw K6},Sp M 147 [.ptr 0,.int<|dp-1] (gh zs z g) (nd v.1 v.2) (gh bg z' g)->Sp M 147 [.ptr 0,.int<|dp-1] (gh bg z' g) (nd u.1 u.2) (gh Iw K6 g)->Sp (M+2) 148 [.ptr 0,.int dp,.int 2] (gh zs z g) (.lst [nd v.1 v.2,nd u.1 u.2]) (gh Iw K6 g):=λs s'=>sq<|wk 1<|.p (rg 2<|by ext)<|.q s<|.q s' .nil;refine wp (M:=M+10) (g:=g) (jb hM) aB ac _ (λam an af=>?_) (λam an af=>?_) λam an af=>?_
 ·
   have sv:=(v0 am an).mono m';refine tk (M:=M+10) (g:=g) (jb hM) (n:=2) (by ext) am an _ λh x3 y3 hh sh=>?_;refine tk (M:=M+10) (g:=g) (jb hM) (n:=2) (by ext) x3 y3 _ λp x4 y4 fx sp=>?_;refine hv.en x4 y4 _ λk ps L hc aX x5 y5 a t e5=>?_;revert sh sp;refine lE hh ?_ ?_<;>refine lE fx ?_ ?_<;>intro sh sp
   ·exact ko _ x4 y4 (Yz hN hB hD)<|sq<|wk 2<|.b 0 false hp<|.q ai<|.q af<|.q sv<|.q sh<|.p (a6 (n:=0))<|.q sp<|.q ((v0 x4 y4).mono m')<|.p (a6 (n:=0)) .nil
   ·exact ko _ x5 y5 (Jc hN hB hD a t)<|sq<|wk 2<|.b 0 false hp<|.q ai<|.q af<|.q sv<|.q sh<|.p (a6 (n:=0))<|.q sp<|.q ((v1 (v:=(k,ps)) e5).mono m')<|.p (a6 (n:=1)) .nil
   ·exact ko _ x4 y4 (Zv hN hB hD)<|sq<|wk 2<|.b 0 false hp<|.q ai<|.q af<|.q sv<|.q sh<|.p (a6 (n:=1))<|.q sp<|.q ((v0 x4 y4).mono m')<|.p (a6 (n:=1)) .nil
   ·exact ko _ x5 y5 (Wy hN hB hD a t)<|sq<|wk 2<|.b 0 false hp<|.q ai<|.q af<|.q sv<|.q sh<|.p (a6 (n:=1))<|.q sp<|.q ((v1 (v:=(k,ps)) e5).mono m')<|.p (a6 (n:=2)) .nil
 ·
   refine hv.en am an _ λk ps L hc aX x3 y3 a t e3=>?_;have sv:=(v1 (v:=(k,ps)) e3).mono m';refine tk (M:=M+10) (g:=g) (jb hM) (n:=2) (by ext) x3 y3 _ λh x4 y4 hh sh=>?_;refine tk (M:=M+10) (g:=g) (jb hM) (n:=2) (by ext) x4 y4 _ λp x5 y5 fx sp=>?_;refine hv.en x5 y5 _ λay aw eD d7 eM x6 y6 aK aD e6=>?_;revert sh sp;refine lE hh ?_ ?_<;>refine lE fx ?_ ?_<;>intro sh sp
   ·exact ko _ x5 y5 (Jc hN hB hD a t)<|sq<|wk 2<|.b 0 false hp<|.q ai<|.q af<|.q sv<|.q sh<|.p (a6 (n:=1))<|.q sp<|.q ((v0 x5 y5).mono m')<|.p (a6 (n:=1)) .nil
   ·exact ko _ x6 y6 (H9 hN hB hD a t aK aD)<|sq<|wk 2<|.b 0 false hp<|.q ai<|.q af<|.q sv<|.q sh<|.p (a6 (n:=1))<|.q sp<|.q ((v1 (v:=(ay,aw)) e6).mono m')<|.p (a6 (n:=2)) .nil
   ·exact ko _ x5 y5 (WI hN hB hD a t)<|sq<|wk 2<|.b 0 false hp<|.q ai<|.q af<|.q sv<|.q sh<|.p (a6 (n:=2))<|.q sp<|.q ((v0 x5 y5).mono m')<|.p (a6 (n:=2)) .nil
   ·exact ko _ x6 y6 (S9 hN hB hD a t aK aD)<|sq<|wk 2<|.b 0 false hp<|.q ai<|.q af<|.q sv<|.q sh<|.p (a6 (n:=2))<|.q sp<|.q ((v1 (v:=(ay,aw)) e6).mono m')<|.p (a6 (n:=3)) .nil
 ·
   refine hv.en am an _ λk ps L hc aX x3 y3 a t e3=>?_;refine hv.en x3 y3 _ λay aw eD d7 eM x4 y4 aK aD e4=>?_;have sv:=(v2 (v:=(k,ps)) (u:=(ay,aw)) e3 e4).mono m';refine tk (M:=M+10) (g:=g) (jb hM) (n:=2) (by ext) x4 y4 _ λh x5 y5 hh sh=>?_;refine tk (M:=M+10) (g:=g) (jb hM) (n:=2) (by ext) x5 y5 _ λp x6 y6 fx sp=>?_;refine hv.en x6 y6 _ λba bo tI sN sI x7 y7 bq bM e7=>?_;revert sh sp;refine lE hh ?_ ?_<;>refine lE fx ?_ ?_<;>intro sh sp
   ·exact ko _ x6 y6 (H9 hN hB hD a t aK aD)<|sq<|wk 2<|.b 0 false hp<|.q ai<|.q af<|.q sv<|.q sh<|.p (a6 (n:=2))<|.q sp<|.q ((v0 x6 y6).mono m')<|.p (a6 (n:=2)) .nil
   ·exact ko _ x7 y7 (SE hN hB hD a t aK aD bq bM)<|sq<|wk 2<|.b 0 false hp<|.q ai<|.q af<|.q sv<|.q sh<|.p (a6 (n:=2))<|.q sp<|.q ((v1 (v:=(ba,bo)) e7).mono m')<|.p (a6 (n:=3)) .nil
   ·exact ko _ x6 y6 (Ud hN hB hD a t aK aD)<|sq<|wk 2<|.b 0 false hp<|.q ai<|.q af<|.q sv<|.q sh<|.p (a6 (n:=3))<|.q sp<|.q ((v0 x6 y6).mono m')<|.p (a6 (n:=3)) .nil
   ·exact ko _ x7 y7 (QA hN hB hD a t aK aD bq bM)<|sq<|wk 2<|.b 0 false hp<|.q ai<|.q af<|.q sv<|.q sh<|.p (a6 (n:=3))<|.q sp<|.q ((v1 (v:=(ba,bo)) e7).mono m')<|.p (a6 (n:=4)) .nil
noncomputable def jU(g:Gs):Gs:=⟨0,g.d+1,g.S,[]⟩
def g4(xs:List Int)(z:Int)(g:Gs):List O:=[Lc 3 z<|jU g,.lst<|xs.map .int,.lst g.bH,.lst []]
noncomputable def zj:List Nat:=[0,1,3]
def gc(g:Gs):Gc:=⟨g.S,g.bH.length,bQ 0 g.d,bQ 0<|g.lp%100,bQ 0 g.lp⟩
def Ab:∀{l:List Int},gk ι (l.map V.int) (l.map V.int)
 |[]=>.nil
 |a::l=>.cons (aT.rn Np.int) Ab
def Kv(j i:Nat)(o:O)(e:zj[j]? =some i)(e':(gh zs z<|jU g)[j]? =some o):∃o',(g4 zs z g)[i]? =some o'/\iO zj o o':=by
 rcases j with _|_|_|j
 ·refine zb (aE e) ?_;refine zb (aE e') ?_;exact au _ rfl<|.dict (.cons (d5 rfl)<|.cons (aT.rn Np.int)<|.cons (d5 rfl)<|.cons (aT.rn Np.int)<|.cons (aT.rn Np.int)<|.cons (aT.rn Np.bool) .nil) rfl rfl
 ·refine zb (aE e) ?_;exact zb (aE e')<|au _ rfl<|.lst Ab
 ·refine zb (aE e) ?_;exact zb (aE e')<|au _ rfl<|.lst .nil
 ·exact ng e
variable{M:Nat} in
def GN(hv:aT v)(ha:∀v∈as,aT v)(s:Sp M f (.ptr 0::as) (gh zs z<|jU g) v<|gh bg z'<|jU g):Sp M f (.ptr 0::as) (g4 zs z g) v<|g4 bg z' g:=Sp.frame (ι:=zj) s (by ext) rfl rfl (by decide:∀i∈zj,i<4) (Kv) (Kv) rfl (λi hi=>by rcases i with _|_|_|_|i<;>first|rfl|exact absurd (by ext) hi) (.cons (d5 rfl)<|xM ha) hv.rn
def Qj{l:List Int}:∀v∈l.map V.int,Np n v:=λv hv=>by refine aA (List.mem_map.mp hv) λi _ q1=>?_;refine zb q1 ?_;exact Np.int
variable{zs:List Int} in
def W6(hl:∀v∈g.bH,aT v):∀o∈gh zs z g,∀v∈o.vals,Np 3 v:=ao (ao (Np.ptr (show 1<3 by ext))<|ao Np.int<|ao (Np.ptr (show 2<3 by ext))<|ao Np.int<|ao Np.int<|ao Np.bool aP) (ao Qj<|ao (λv hv=>(hl v hv).np) aP)
def Gd(S:Bool)(N B D:Nat)(v:V):Prop:=∃xs w f,v=.lst xs/\Bd N B (gF S) xs w f/\(∀v∈xs,Tv N D v)/\xs.length<=2
def Pf(S:Bool)(N B D:Nat)(so:List Nat)(Q:Option (List Nat)->List (List Nat)->Prop)(v:V):Prop:=∃o pl xs w f,v=nd dE [fU o,.lst<|pl.map .str,.lst xs,.bool S,.str so]/\Q o pl/\pl∈iK/\Bd N B (gF S) xs w f/\(∀v∈xs,Tv N D v)/\xs.length<=2
noncomputable def JA(g:Gs):Gs:=⟨g.lp,g.d+1-1,g.S,g.bH⟩
section
variable{S:Bool}{N M B D n m k:Nat}{g:Gs}{s so:List Nat}{v:V}{as xs:List V}{b:Bool}{zs bg aB am aZ a4:List Int}{z z' dp ac an a9 bm:Int}{t:Tk}{Q:Option (List Nat)->List (List Nat)->Prop}{o:Option (List Nat)}{pl:List (List Nat)}
theorem To:JA g=g:=by obtain⟨a,d,S,l⟩:=g;show Gs.mk a (d+1-1) S l=_;rw[Int.add_sub_cancel]
def gZ(zs:List Int)(z:Int)(g:Gs):List O:=gh zs z (JA g)++[.lst []]
def uD(hl:∀v∈g.bH,aT v)(hv:aT v)(s:Sp M f as (gh zs z g) v<|gZ bg z' g):Sp M f as (gh zs z g) v<|gh bg z' g:=by unfold gZ at s;rw[To] at s;exact s.trim (aV 3) hv.np<|W6 hl
def uF(h:∀v∈xs,Tv N D v):aT<|nd dE [fU o,.lst<|pl.map .str,.lst xs,.bool b,.str s]:=z4 λv hv=>(h v hv).flat
def wX(hM:17<=M)(H:∀k:Nat,k<2->Gn M 151 [.int<|dp-1,.int<|1+(k:Int)] (jU g) (Gd S N B D))(zs:List Int)(z:Int)(J:Prop)(ko:∀(k:Nat) (xs:List V) (w:List Nat) (f:List Tk->List Tk) (aB:List Int) (ac:Int) (am:List Int) (an:Int),Sp M 140 [.ptr 0,.int 2] (g4 zs z g) (.int (k:Int)) (g4 aB ac g)->Sp M 151 [.ptr 0,.int<|dp-1,.int<|1+(k:Int)] (g4 aB ac g) (.lst xs) (g4 am an g)->Bd N B (gF S) xs w f->(∀v∈xs,Tv N D v)->xs.length<=2->J):J:=by refine tk (M:=M) (g:=jU g) hM (n:=2) (by ext) zs z _ λk aB ac hk s=>?_;refine H k hk aB ac _ λ_ am an o1 af=>?_;refine fH o1 λxs w f q1 bd t l=>?_;clear o1;subst q1;exact ko k xs w f aB ac am an (GN Np.int (ao Np.int aP) s) (GN (Np.lst λv hv=>(t v hv).flat) (ao Np.int<|ao Np.int aP) af) bd t l
def HX(hM:17<=M)(hl:∀v∈g.bH,aT v)(hs:(so=fW/\pl=[])\/(so=fV/\pl=[[97]]))(H:∀k:Nat,k<2->Gn M 151 [.int<|dp-1,.int<|1+(k:Int)] (jU g) (Gd g.S N B D)):Gn (M+3) 150 [.int dp,.str so] g<|Pf g.S N B D so λo p=>o=none/\p=pl:=λzs z J ko=>by
 refine wX hM H zs z _ λk xs w f aB ac am an ai af bd t l=>?_;rcases hs with⟨rfl,rfl⟩|⟨rfl,rfl⟩
 ·exact ko (nd dE [fU none,.lst [],.lst xs,.bool g.S,.str fW]) am an (ui none [] xs w f rfl ⟨rfl,rfl⟩ (.head _) bd t l)<|uD hl (uF (o:=none) (pl:=[]) t)<|sq<|wk 2<|.p (a6 (n:=2))<|.p (a6 (n:=0))<|.x (g4 zs z g)<|.q ai<|.q af<|.x (gZ am an g) .nil
 ·exact ko (nd dE [fU none,.lst [.str [97]],.lst xs,.bool g.S,.str fV]) am an (ui none [[97]] xs w f rfl ⟨rfl,rfl⟩ (.tail _<|.head _) bd t l)<|uD hl (uF (o:=none) (pl:=[[97]]) t)<|sq<|wk 2<|.p (a6 (n:=2))<|.p (a6 (n:=0))<|.x (g4 zs z g)<|.q ai<|.q af<|.x (gZ am an g) .nil
def Bw(hm:m<3):∃pl∈iK,(m=0/\pl=[])\/(m=1/\pl=[[97]])\/(m=2/\pl=[[97],[112]]):=by
 rcases m with _|_|_|m
 ·exact au _ (.head _)<|.inl ⟨rfl,rfl⟩
 ·exact au _ (.tail _<|.head _)<|.inr<|.inl ⟨rfl,rfl⟩
 ·exact au _ (.tail _<|.tail _<|.head _)<|.inr<|.inr ⟨rfl,rfl⟩
 ·lia
def R1(hM:17<=M)(hl:∀v∈g.bH,aT v)(H:∀k:Nat,k<2->Gn M 151 [.int<|dp-1,.int<|1+(k:Int)] (jU g) (Gd g.S N B D)):Gn (M+3) 150 [.int dp,.str kO] g (Pf g.S N B D kO λo p=>∃s∈cq,o=some s):=λzs z J ko=>by refine(qL (g:=g)).sn zs z _ λs aB ac hs ai=>?_;have ai:=ai.mono (jc hM rfl:14<=M);refine tk (M:=M) (g:=g) hM (n:=3) (by ext) aB ac _ λm am an hm af=>?_;refine wX hM H am an _ λk xs w f aZ a9 a4 bm aH a5 bd t l=>?_;refine aA (Bw hm) λpl hp q=>?_;refine ko (nd dE [fU<|some s,.lst<|pl.map .str,.lst xs,.bool g.S,.str kO]) a4 bm (ui (some s) pl xs w f rfl (au s (pg s hs) rfl) hp bd t l)<|uD hl (uF (o:=some s) t) ?_;rcases q with⟨rfl,rfl⟩|⟨rfl,rfl⟩|⟨rfl,rfl⟩<;>exact sq<|wk 2<|.q ai<|.q af<|.p (a6 (n:=2))<|.p (a6 (n:=0))<|.x (g4 am an g)<|.q aH<|.q a5<|.x (gZ a4 bm g) .nil
def Tp(hM:17<=M)(hl:∀v∈g.bH,aT v)(H:∀k:Nat,k<2->Gn M 151 [.int<|dp-1,.int<|1+(k:Int)] (jU g) (Gd g.S N B D)):Gn (M+3) 150 [.int dp,.str jI] g (Pf g.S N B D jI λo p=>o=none\/∃s∈cq,o=some s):=λzs z J ko=>by
 refine qo (M:=M) (g:=g) hM zs z _ (λCk lT lU=>?_) λCk lT lU=>?_
 ·
   refine(qL (g:=g)).sn Ck lT _ λs aB ac hs ai=>?_;have ai:=ai.mono (jc hM rfl:14<=M);refine tk (M:=M) (g:=g) hM (n:=3) (by ext) aB ac _ λm am an hm af=>?_;refine wX hM H am an _ λk xs w f aZ a9 a4 bm aH a5 bd t l=>?_;refine aA (Bw hm) λpl hp q=>?_;refine ko (nd dE [fU<|some s,.lst<|pl.map .str,.lst xs,.bool g.S,.str jI]) a4 bm (ui (some s) pl xs w f rfl (.inr<|au s (pg s hs) rfl) hp bd t l)<|uD hl (uF (o:=some s) t) ?_;rcases q with⟨rfl,rfl⟩|⟨rfl,rfl⟩|⟨rfl,rfl⟩<;>exact sq<|wk 2<|.q lU<|.q ai<|.q af<|.p (a6 (n:=2))<|.p (a6 (n:=0))<|.x (g4 am an g)<|.q aH<|.q a5<|.x (gZ a4 bm g) .nil
 ·
   refine tk (M:=M) (g:=g) hM (n:=3) (by ext) Ck lT _ λm am an hm af=>?_;refine wX hM H am an _ λk xs w f aZ a9 a4 bm aH a5 bd t l=>?_;refine aA (Bw hm) λpl hp q=>?_;refine ko (nd dE [fU none,.lst<|pl.map .str,.lst xs,.bool g.S,.str jI]) a4 bm (ui none pl xs w f rfl (.inl rfl) hp bd t l)<|uD hl (uF (o:=none) t) ?_;rcases q with⟨rfl,rfl⟩|⟨rfl,rfl⟩|⟨rfl,rfl⟩<;>exact sq<|wk 2<|.q lU<|.q af<|.p (a6 (n:=2))<|.p (a6 (n:=0))<|.x (g4 am an g)<|.q aH<|.q a5<|.x (gZ a4 bm g) .nil
end
abbrev E4:=List Nat×V×List O×List O
abbrev Eb:=Bool×E4
noncomputable def qX:List E4->List (List Eb)
 |[]=>[[]]
 |e::r=>(qX r).flatMap λl=>[(true,e)::l,(false,e)::l]
def DY:V:=.lst [.str iI,.str iI,.str fW,.str fV]
def KZ:List Eb->List An
 |[]=>[]
 |e::r=>ca 141 (.str e.2.1) e.2.2.2.1::.br 0 e.1::ca (bif e.1 then 147 else 150) e.2.2.1 e.2.2.2.2::KZ r
def rI:List (List Nat)->List Eb->List V
 |_,[]=>[]
 |[],_::_=>[]
 |k::ks,e::r=>mj e.2.1 k e.2.2.1::rI ks r
noncomputable def wh(h:List O):List Eb->List O
 |[]=>h
 |e::r=>wh e.2.2.2.2 r
def wg(M:Nat)(dp:Int):Nat->List O->List Eb->Prop->Prop
 |_,_,[],P=>P
 |i,h,e::r,P=>wg M dp (i+1) e.2.2.2.2 r<|i<ae/\Sp M (bif e.1 then 147 else 150) (.ptr 0::(bif e.1 then [.int<|dp-1] else [.int dp,.str e.2.1])) e.2.2.2.1 e.2.2.1 e.2.2.2.2/\lq e.2.1 iI=e.1/\Sp M 141 [.ptr 0,DY] h (.str e.2.1) e.2.2.2.1/\P
def DQ(a b c d:E4):List<|List Eb:=qX []++(qX [a]++(qX [a,b]++(qX [a,b,c]++qX [a,b,c,d])))
variable{M:Nat}{dp:Int}{l:List Eb}{h iY:List O}{da bj cD pT:E4} in
def VQ(hl:l∈DQ da bj cD pT)(s:Sp M 140 [.ptr 0,.int 5] h (.int (l.length:Nat)) iY)(p:wg M dp 0 iY l<|4<=ae/\Sp M 140 [.ptr 0,.int 5] h (.int (l.length:Nat)) iY/\True):Sp (M+3) 149 [.ptr 0,.int dp] h (nd pM [.lst<|rI dS l])<|wh iY l:=
 gP (L:=DQ da bj cD pT) (d:=M) (n:=2) (as:=λ_=>[.ptr 0,.int dp]) (c:=λ_=>h) (c':=wh iY) (sc:=λl=>ca 140 (.int (l.length:Nat)) iY::KZ l) (v:=λl=>nd pM [.lst<|rI dS l])
  (P:=λl=>wg M dp 0 iY l<|4<=ae/\Sp M 140 [.ptr 0,.int 5] h (.int (l.length:Nat)) iY/\True) (by ext) l hl p
def sJ:∀{l:List Eb},l∈qX (l.map Prod.snd)
 |[]=>.head _
 |(b,e)::l=>by
  refine List.mem_flatMap.mpr<|au l sJ ?_;cases b
  ·exact .tail _<|.head _
  ·exact .head _
def W2:∀{l:List Eb},l.length<=4->∃a b c d,l∈DQ a b c d
 |[],_=>lu ([],.none,[],[]) ([],.none,[],[]) ([],.none,[],[]) ([],.none,[],[])<|gq _ sJ
 |[a],_=>lu a.2 a.2 a.2 a.2<|ei _<|gq _ sJ
 |[a,b],_=>lu a.2 b.2 a.2 a.2<|ei _<|ei _<|gq _ sJ
 |[a,b,c],_=>lu a.2 b.2 c.2 a.2<|ei _<|ei _<|ei _<|gq _ sJ
 |[a,b,c,d],_=>lu a.2 b.2 c.2 d.2<|ei _<|ei _<|ei _<|ei _ sJ
 |_::_::_::_::_::_,h=>by simp only[ec] at h;lia
structure Ge(S:Bool)(M N B D:Nat)(dp:Int)(g:Gs)(i:Nat)(h:List O)(l:List Eb)(os:List Oi)(zs:List Int)(z:Int):Prop where
 p:∀P,P->wg M dp i h l P
 c:wh h l=gh zs z g
 v:rI (dS.drop i) l=os.map Oi.V
 n:l.length=os.length
 o:∃w q,Oc S N B i os w q
 t:∀v∈os.map Oi.V,Tv N D v
def Eg(S:Bool)(M N B D:Nat)(dp:Int)(g:Gs)(ky:List Nat)(zs:List Int)(z:Int):Prop:=∀J:Prop,(∀(e:Eb) (s:List Nat) (t:Tk) (r:Rr) (bg:List Int) (z':Int),e.2.2.2.2=gh bg z' g->Ey S (N+45) (2*B+50) e.2.1 ky e.2.2.1 s t r->Tv (N+45) (D+4) (mj e.2.1 ky e.2.2.1)->(∀i P,i<ae->P->(i<ae/\Sp M (bif e.1 then 147 else 150) (.ptr 0::(bif e.1 then [.int<|dp-1] else [.int dp,.str e.2.1])) e.2.2.2.1 e.2.2.1 e.2.2.2.2/\lq e.2.1 iI=e.1/\Sp M 141 [.ptr 0,DY] (gh zs z g) (.str e.2.1) e.2.2.2.1/\P))->J)->J
section
variable{S:Bool}{N N' M B B' D n m k i:Nat}{g:Gs}{s so ky:List Nat}{v:V}{ps xs:List V}{b:Bool}{zs bg aB am:List Int}{z z' dp ac an:Int}{P:V->Prop}{t:Tk}{r:Rr}{l:List Eb}{h:List O}{os:List Oi}
def AW(hN:10<=N)(hD:1<=D)(hp:pl∈iK)(h:∀v∈xs,Tv N D v)(hl:xs.length<=2):Tv (N+4) (D+3)<|nd dE [fU o,.lst<|pl.map .str,.lst xs,.bool b,.str so]:=by
 have l2:(pl.map V.str).length<=5:=by rw[List.length_map];exact ia<|cp (show iK.all (λp=>Nat.ble p.length 5)=true by ext) pl hp
 have ps:∀v∈pl.map V.str,Tv N D v:=λv hv=>by refine aA (List.mem_map.mp hv) λs _ q1=>?_;refine zb q1 ?_;exact g8 hN hD
 have ov:Tv (N+2) (D+1)<|fU o:=by
  induction o with
  |none=>exact jF (jj hN)<|Nat.succ_pos _
  |some s=>exact g8 (jj hN)<|Nat.succ_pos _
 exact il (N:=N+2) (D:=D+1) (jj hN) (Nat.succ_pos _) (by show 5<=5;decide)<|ao ov<|ao (iC hN l2 ps)<|ao (iC hN (ju hl) h)<|ao (uH (jj hN)<|Nat.succ_le_succ hD)<|ao (g8 (jj hN)<|Nat.succ_pos _) aP
def Ey.up(e:Ey S N B so ky v s t r)(hn:N<=N')(hb:B<=B'):Ey S N' B' so ky v s t r:=⟨e.sh.mono hn,e.lex,e.c,aG e.l hb,e.f,λx t' ab hx hs=>(e.pa x t' ab hx hs).mono hn,e.fl,e.so⟩
def QO(hN:22<=N)(hk:dS[i]? =some ky)(e:Ey S N B so ky v s t r)(h:∃w q,Oc S N B (i+1) os w q):∃w q,Oc S N B i (⟨so,ky,v,s⟩::os) w q:=by
 refine cX h λw q h=>?_;induction os using bx with
 |nil=>exact bT _ _<|Qz hN hk e
 |cons a os=>exact bT _ _<|QW hN hk e h
def VA(hM:17<=M)(hN:22<=N)(hb:30<=Nb/\Nb<=N+30)(hB:8*B+400<=ae)(hD:4<=D)(Hv:Gn M 147 [.int<|dp-1] g<|Ve S N B D)(Hg:Gn M 150 [.int dp,.str fW] g<|Pf S Nb B D fW λo p=>o=none/\p=[])(Hs:Gn M 150 [.int dp,.str fV] g<|Pf S Nb B D fV λo p=>o=none/\p=[[97]])(hk:ky∈dS)(zs:List Int)(z:Int):
    Eg S M N B D dp g ky zs z:=by
 refine pk (M:=M) (g:=g) hM (l:=[iI,iI,fW,fV]) (by ext) zs z _ λso aB ac hs ai=>?_;have tt:∀{n} so v,12<=n->n+2<=N+45->Tv n (D+3) v->Tv (N+45) (D+4) (mj so ky v):=λ{n} so v h1 h2 t=>(w3 (N:=n) (D:=D+3) (jc h1) (by show 3<=5;decide)<|ao (g8 (jc h1)<|Nat.succ_pos _)<|ao (g8 (jc h1)<|Nat.succ_pos _)<|ao t aP).mono h2<|@ja _ 4 4 rfl;have bN:∀so pl,(so=fW/\pl=[])\/(so=fV/\pl=[[97]])->Gn M 150 [.int dp,.str so] g (Pf S Nb B D so λo p=>o=none/\p=pl)->Sp M 141 [.ptr 0,DY] (gh zs z g) (.str so) (gh aB ac g)->lq so iI=false->Eg S M N B D dp g ky zs z:=λso pl hs H ai e J ko=>by refine H aB ac _ λ_ am an o2 af=>?_;refine wn o2 λo pl' xs w f q2 o1 hp bd t l=>?_;clear o2;subst q2;obtain⟨rfl,rfl⟩:=o1;refine m5 (SN (N:=Nb) hb.1 (jm hB) hk (λv hv=>(t v hv).flat) bd hs) λs tk r ey=>?_;have tv:Tv (Nb+4) (D+3)<|nd dE [.none,.lst<|pl'.map .str,.lst xs,.bool S,.str so]:=AW (o:=none) (jc hb.1) (jc hD) hp t l;exact ko (false,so,_,gh aB ac g,gh am an g) s tk r am an rfl (ey.up (by lia)<|aV _) (tt _ _ (jb hb.1) (by lia) tv) λi P hi hp=>⟨hi,af,e,ai,hp⟩
 have JS:so=iI->Eg S M N B D dp g ky zs z:=λe J ko=>by subst e;refine Hv.en aB ac _ λk ps L hc aX am an a t af=>?_;exact m5 (RD hN (jm hB) hk a t.flat) λs tk r ey=>ko (true,iI,_,gh aB ac g,gh am an g) s tk r am an rfl (ey.up (aV _) jp) (tt _ _ (jc hN rfl:12<=N) ja<|t.mono (aV _)<|bh _ _) λi P hi hp=>⟨hi,af,rfl,ai,hp⟩
 rcases dZ hs with e|hs
 ·exact JS e
 rcases dZ hs with e|hs
 ·exact JS e
 rcases dZ hs with rfl|hs
 ·exact bN _ _ (.inl ⟨rfl,rfl⟩) Hg ai<|by ext
 ·obtain rfl:=fo hs;exact bN _ _ (.inr ⟨rfl,rfl⟩) Hs ai<|by ext
def YB(h:dS[i]? =some ky):ky∈dS:=List.mem_of_getElem? h
theorem UP(h:dS[i]? =some ky):rI (dS.drop i) (e::l)=mj e.2.1 ky e.2.2.1::rI (dS.drop<|i+1) l:=by have hi:=(List.getElem?_eq_some_iff.mp h);rw[List.drop_eq_getElem_cons hi.1,hi.2];rfl
def GT(hM:17<=M)(hN:22<=N)(hb:30<=Nb/\Nb<=N+30)(hB:8*B+400<=ae)(hD:4<=D)(Hv:Gn M 147 [.int<|dp-1] g<|Ve S N B D)(Hg:Gn M 150 [.int dp,.str fW] g<|Pf S Nb B D fW λo p=>o=none/\p=[])(Hs:Gn M 150 [.int dp,.str fV] g<|Pf S Nb B D fV λo p=>o=none/\p=[[97]]):
    ∀(n i:Nat) (zs:List Int) (z:Int),i+n<=4->∀J:Prop,(∀l os bg z',l.length=n->Ge S M (N+45) (2*B+50) (D+4) dp g i (gh zs z g) l os bg z'->J)->J
 |0,i,zs,z,_,J,ko=>ko [] [] zs z rfl ⟨λP h=>h,rfl,(by cases dS.drop i<;>rfl),rfl,bT _ _<|Th<|jj hN,λ_ h=>nomatch h⟩
 |n+1,i,zs,z,h,J,ko=>by
  obtain⟨ky,hk⟩:∃ky,dS[i]? =some ky:=⟨_,List.getElem?_eq_getElem (show i<dS.length by show i<4;lia)⟩;refine VA hM hN hb hB hD Hv Hg Hs (YB hk) zs z _ λe s t r aB ac e1 ey tv p=>?_;refine GT hM hN hb hB hD Hv Hg Hs n (i+1) aB ac (by lia) _ λl os am an ln q=>?_;refine ko (e::l) (⟨e.2.1,ky,e.2.2.1,s⟩::os) am an (congrArg (· +1) ln) ⟨λP hp=>?_,?_,?_,congrArg (· +1) q.n,QO (jj hN) hk ey q.o,ao tv q.t⟩
  ·show wg M dp (i+1) e.2.2.2.2 l _;rw[e1];refine q.p _ ?_;have:=p i P (eP (jt h:i<=4)<|bF (n:=4)) hp;rw[e1] at this;exact this
  ·show wh e.2.2.2.2 l=_;rw[e1];exact q.c
  ·rw[UP hk,q.v];rfl
def VI:∀{l:List Oi},l.length<=4->∃a b c d,l∈wc a b c d
 |[],_=>lu ⟨[],[],.none,[]⟩ ⟨[],[],.none,[]⟩ ⟨[],[],.none,[]⟩ ⟨[],[],.none,[]⟩<|.head _
 |[a],_=>lu a a a a<|.tail _<|.head _
 |[a,b],_=>lu a b a a<|.tail _<|.tail _<|.head _
 |[a,b,c],_=>lu a b c a<|.tail _<|.tail _<|.tail _<|.head _
 |[a,b,c,d],_=>lu a b c d<|.tail _<|.tail _<|.tail _<|.tail _<|.head _
 |_::_::_::_::_::_,h=>by simp only[ec] at h;lia
def UT(hM:17<=M)(hN:22<=N)(hb:30<=Nb/\Nb<=N+30)(hB:8*B+400<=ae)(hD:4<=D)(Hv:Gn M 147 [.int<|dp-1] g<|Ve S N B D)(Hg:Gn M 150 [.int dp,.str fW] g<|Pf S Nb B D fW λo p=>o=none/\p=[])(Hs:Gn M 150 [.int dp,.str fV] g<|Pf S Nb B D fV λo p=>o=none/\p=[[97]]):Gn (M+3) 149 [.int dp] g<|Ve S (N+55) (8*B+400)<|D+7:=λzs z J ko=>by
 refine tk (M:=M) (g:=g) hM (n:=5) (by ext) zs z _ λm aB ac hm ai=>?_;refine GT hM hN hb hB hD Hv Hg Hs m 0 aB ac (by lia) _ λl os am an ln q=>?_;refine DI (W2 (l:=l)<|by lia) λa b c d ml=>?_;have n4:os.length<=4:=by rw[<-q.n];lia
 refine DI (VI n4) λa' b' c' d' mo=>?_;refine cX q.o λw qq oc=>?_;rw[<-ln] at ai;have s:=VQ ml ai<|q.p _ ⟨a6 (n:=4),ai,trivial⟩;rw[q.c,show rI dS l=os.map Oi.V from q.v] at s;refine ko _ am an (.mk ((SI (jj hN) (by lia) mo oc).mono (@ja _ 55 55 rfl)<|by lia) ((l8 ia ia<|iC ia (by rw[List.length_map];exact ju n4) q.t).mono (@ja _ 49 55 rfl)<|@ja _ 7 7 rfl)<|by ext) s
end
theorem Gd.mono(h:Gd S N B D v)(hn:N<=N')(hb:B<=B')(hd:D<=D'):Gd S N' B' D' v:=by exact fH h λxs w f e bd t l=>jE xs w f e (bd.mono hn hb) (λv hv=>(t v hv).mono hn hd) l
def Tw(hN:30<=N)(hB:8*B+400<=ae)(hD:4<=D)(h:Pf S N B D jI (λo p=>o=none\/∃s∈cq,o=some s) v):Ve S (N+30) (8*B+400) (D+7) v/\∃l,v=nd dE l:=by
 refine wn h λo pl xs w f q1 ho hp bd t l=>?_;clear h;subst q1;have hf:∀v∈xs,aT v:=λv hv=>(t v hv).flat;have tv:=AW (so:=jI) (b:=S) (o:=o) (jc hN) (jc hD) hp t l;refine⟨?_,⟨_,rfl⟩⟩;rcases ho with rfl|⟨s,hs,rfl⟩
 ·exact cX (PX hN (jm hB) hf bd hp) λF q fw=>.mk ((G2 (jj hN) (jm hB) fw).mono (@ja _ 30 30 rfl) jo) (tv.mono ja ja)<|by ext
 ·exact cX (FF hN (jm hB) hf bd hp hs<|.inl rfl) λF q fw=>.mk ((G2 (jj hN) (jm hB) fw).mono (@ja _ 30 30 rfl) jo) (tv.mono ja ja)<|by ext
variable{S:Bool}{N Nb M B D k:Nat}{g:Gs}{v:V}{dp:Int} in
def QT(h:Vh g.S M N B D dp g)(hN:22<=N)(hb:30<=Nb/\Nb+4<=N+29)(hB:8*B+400<=ae)(hl:∀v∈g.bH,aT v)(H:∀k:Nat,k<2->Gn M 151 [.int<|dp-1,.int<|1+(k:Int)] (jU g) (Gd g.S Nb B D)):Gn (M+13) 147 [.int dp] g<|Ve g.S (N+55) (8*B+400)<|D+7:=λzs z J ko=>by
 have hM:=h.hM;refine tk (M:=M+10) (g:=g) (jb hM) (n:=16) (by ext) zs z _ λk aB ac hk=>?_;have up:Gv g.S M N B D dp g zs z->J:=λh=>h J λv bg z' p s=>ko v bg z' (p.mono ja jo ja) s;have hv:Gn (M+3) 147 [.int<|dp-1] g<|Ve g.S N B D:=h.v.mono (bh _ _) λ_ h=>h;refine Yo hk (λai=>up<|Bn h (.inl rfl) ai) (λai=>up<|Bn h (.inr<|.inl rfl) ai) (λai=>up<|Bn h (.inr<|.inr rfl) ai) (λai=>up<|Rt h ai) (λai=>up<|WA h ai) (λai=>up<|UM h ai) (λai=>up<|Xj h ai) (λai=>up<|HH h (.inl rfl) ai) (λai=>up<|HH h (.inr rfl) ai) (λai=>up<|UK h ai) (λai=>up<|VO h ai) (λai=>up<|WM h ai) (λai=>up<|Vx h ai) (λai=>up<|W9 h ai) (λai=>?_) λai=>?_
 ·refine UT (jb hM) hN (by lia) hB h.hD hv (HX (jc hM) hl (.inl ⟨rfl,rfl⟩) H) (HX (jc hM) hl (.inr ⟨rfl,rfl⟩) H) aB ac _ λ_ am an p af=>?_;refine DZ p λk ps L hc aX q2 q=>?_;clear p;subst q2;exact ko _ am an (Kj k ps L hc aX rfl q)<|sq<|wk 2<|.b 0 false h.p<|.q ai<|.q (af.mono (@ja _ 6 10 rfl:M+3+3<=M+10)) .nil
 ·refine Tp (jc hM) hl H aB ac _ λ_ am an p af=>?_;obtain⟨p,o1⟩:=Tw hb.1 hB h.hD p;obtain⟨l,q3⟩:=o1;subst q3;exact ko _ am an (p.mono (jx hb.2) (aV _)<|aV _)<|sq<|wk 2<|.b 0 false h.p<|.q ai<|.q (af.mono (ja rfl:M+3<=M+10)) .nil
noncomputable def kE:Nat->List V
 |0=>[]
 |1=>[.str [108]]
 |_=>[.str [108],.str [109]]
def Rv(N B D:Nat)(g:Gs)(v:V):Prop:=Tv N D v/\((∃el k ps s t r,v=nd k ps/\(lq k di=false/\lq t.k qT=false)/\Rw N B (gc g) el k ps s t r)\/(∃el k ps s t r,v=nd di [nd k ps]/\lq k dm=false/\Rw N B (gc g) el di [nd k ps] s t r)\/∃q∈kJ,v=nd di [nd dm [.str q.1.v]])
section
variable{S:Bool}{N N' M B B' D D' n m k:Nat}{g:Gs}{c:Gc}{s:List Nat}{v:V}{ps as xs:List V}{b el:Bool}{zs bg aB am aZ:List Int}{z z' dp ac an a9:Int}{t:Tk}{r:Rr}{kk:List Nat}
theorem Rw.mono(h:Rw N B c el kk ps s t r)(hn:N<=N')(hb:B<=B'):Rw N' B' c el kk ps s t r:=⟨h.pr.mono hn,aG h.l hb,h.lex,h.c,h.f,λx aR t' ab a b d=>by refine fz (h.pa x aR t' ab a b d) λmn e1 e2 e3=>?_;exact(fA mn e1 e2<|e3.mono hn)⟩
theorem Rv.mono(h:Rv N B D g v)(hn:N<=N')(hb:B<=B')(hd:D<=D'):Rv N' B' D' g v:=by
 obtain⟨t,h⟩:=h;refine⟨t.mono hn hd,?_⟩;rcases h with⟨el,k,ps,s,t,r,e,q,w⟩|⟨el,k,ps,s,t,r,e,q,w⟩|h
 ·exact .inl<|yw el k ps s t r e q<|w.mono hn hb
 ·exact .inr<|.inl<|yw el k ps s t r e q<|w.mono hn hb
 ·exact .inr<|.inr h
theorem Rv.rw(hN:74<=N)(hB:280<=B)(hl:g.bH.length<=3)(h:Rv N B D g v):∃el k ps s t r,v=nd k ps/\Rw N B (gc g) el k ps s t r:=by
 rcases h.2 with⟨el,k,ps,s,t,r,e,q,w⟩|⟨el,k,ps,s,t,r,e,q,w⟩|⟨q,hq,e⟩
 ·exact Df el k ps s t r e w
 ·exact Df el _ _ s t r e w
 ·exact Df _ _ _ _ _ _ e<|(uS (g:=gc g) (N:=22) (B:=20) (by ext) hl (show 4*20+200<=ae from a6 (n:=280) rfl) (by ext) hq).2.mono hN hB
theorem Rv.mk(tv:Tv N D<|nd kk ps)(h:Rw N B (gc g) el kk ps s t r)(e:lq kk di=false/\lq t.k qT=false):Rv N B D g<|nd kk ps:=⟨tv,.inl<|yw el kk ps s t r rfl e h⟩
def Tf(hN:22<=N)(hB:4*B+200<=ae)(hl:g.bH.length<=3)(h:Ve g.S N B D v)(hD:2<=D):Rv (N+52) (4*B+200) (D+2) g<|nd di [v]:=by
 refine x54 h λk ps L hc aX q1 a t _ hs=>?_;clear h;subst q1;refine⟨(l8 (jc hN) hD t).mono ja ja,?_⟩;cases e:lq k dm with
 |true=>refine aA (hs e) λq hq q2=>?_;refine zc q2 ?_;have e:=(dR _ _).mp e;exact zc e<|.inr<|.inr<|au q hq rfl
 |false=>exact m5 (RC (g:=gc g) hN hl hB a) λs t r w=>.inr<|.inl<|yw _ k ps s t r rfl e w
def Gn.rn{f:Nat}{JL:List V}(h:Gn M f JL g<|Rv N B D g)(hN:74<=N)(hB:280<=B)(hl:g.bH.length<=3)(xs z)(J:Prop)(ko:∀el k ps s t r dH z',Rw N B (gc g) el k ps s t r->Tv N D (nd k ps)->Sp M f (.ptr 0::JL) (gh xs z g) (nd k ps) (gh dH z' g)->J):J:=h xs z J λv dH z' p s=>by have t:=p.1;refine x61 (p.rw hN hB hl) λel k ps s' t' r e w=>?_;subst e;exact ko el k ps s' t' r dH z' w t s
def WT(hM:17<=M)(hm:m=1\/m=2)(hg:g.bH=kE m)(zs:List Int)(z:Int)(J:Prop)(ko:∀s bg z',(s=[108]\/(m=2/\s=[109]))->Sp (M+2) 141 [.ptr 0,.ptr 2] (gh zs z g) (.str s) (gh bg z' g)->J):J:=by
 obtain⟨lp,d,S,l⟩:=g;have hg:l=kE m:=hg;subst hg;rcases hm with rfl|rfl
 ·refine tk (M:=M) (g:=⟨lp,d,S,kE 1⟩) hM (n:=1) (by ext) zs z _ λk aB ac hk s=>?_;obtain rfl:=Nat.lt_one_iff.mp hk;exact ko [108] aB ac (.inl rfl)<|sq<|wk 1<|.q s .nil
 ·refine qo (M:=M) (g:=⟨lp,d,S,kE 2⟩) hM zs z _ (λaB ac s=>?_) λaB ac s=>?_
  ·exact ko [108] aB ac (.inl rfl)<|sq<|wk 1<|.q s .nil
  ·exact ko [109] aB ac (.inr ⟨rfl,rfl⟩)<|sq<|wk 1<|.q s .nil
def JQ(hN:12<=N)(hD:4<=D):Tv N D<|nd kk []:=(il (N:=10) (D:=1) (by ext) (by ext) (by show 0<=5;decide) aP).mono hN<|Nat.le_of_lt hD
def DF(hN:12<=N)(hD:4<=D):Tv N D<|nd kk [.none]:=(il (N:=10) (D:=1) (by ext) (by ext) (by show 1<=5;decide)<|ao (jF (by ext)<|by ext) aP).mono hN<|Nat.le_of_lt hD
def OW(hM:20<=M)(hN:22<=N)(hB:4*B+200<=ae)(cv:20<=B)(hD:4<=D)(hm:m<=2)(hg:g.bH=kE m)(hd:0<=g.d)(Hv:Gn M 147 [.int dp] g<|Ve g.S N B D):Gn (M+3) 155 [.int dp] g<|Rv (N+52) (4*B+200) (D+2) g:=λzs z J ko=>by
 have oD:g.bH.length=m:=by rw[hg];rcases m with _|_|_|m<;>first|rfl|lia
 have hl:g.bH.length<=3:=by lia
 refine tk (M:=M) (g:=g) (jc hM) (n:=6) (by ext) zs z _ λk aB ac hk=>?_;have last:∀k:Nat,((k=1/\bQ 0 g.d=false)\/(k=2/\bQ 0 g.lp=false)\/(k=3/\bQ 0 (g.lp%100)=false)\/(k=4/\bQ 0 (m:Int)=false)\/k=5)->Sp M 140 [.ptr 0,.int 6] (gh zs z g) (.int (k:Nat)) (gh aB ac g)->J:=λk h ai=>by
  refine pk (M:=M) (g:=g) (jc hM) (l:=[CJ,BR]) (by ext) aB ac _ λs am an hs af=>?_;have p:Rv (N+52) (4*B+200) (D+2) g<|nd s []:=by
   rcases dZ hs with rfl|hs
   ·exact .mk (JQ ia<|jj hD) (TN ia<|Nat.succ_pos _) ⟨by ext,by ext⟩
   ·exact zc (fo hs)<|.mk (JQ ia<|jj hD) (Ue ia ia) ⟨by ext,by ext⟩
  refine ko _ am an p ?_;rcases h with⟨rfl,e⟩|⟨rfl,e⟩|⟨rfl,e⟩|⟨rfl,e⟩|rfl
  ·exact sq<|wk 2<|.q ai<|.b 2 false e<|.q af .nil
  ·exact sq<|wk 2<|.q ai<|.b 4 false e<|.q af .nil
  ·exact sq<|wk 2<|.q ai<|.b 6 false e<|.q af .nil
  ·rw[<-oD] at e;exact sq<|wk 2<|.q ai<|.b 8 false e<|.q af .nil
  ·exact sq<|wk 2<|.q ai<|.q af .nil
 refine JH hk (λai=>?_) (λai=>?_) (λai=>?_) (λai=>?_) (λai=>?_) λai=>?_
 ·refine Hv.en aB ac _ λk ps L hc aX am an a t af=>?_;exact a.ke hN hB _ λs uj r e=>ko _ am an (.mk ((l8 (jc hN) (jc hD) t).mono ja ja) (G0 (g:=gc g) (jj hN) hl hB (.inr rfl) tN ⟨(λe=>by cases e),λ_=>rfl⟩ e) ⟨by ext,by ext⟩)<|sq<|wk 2<|.q ai<|.q af .nil
 ·cases e:bQ 0 g.d with
  |false=>exact last _ (.inl ⟨rfl,e⟩) ai
  |true=>
   refine qo (M:=M) (g:=g) (jc hM) aB ac _ (λam an af=>?_) λam an af=>?_
   ·
     refine Hv.en am an _ λk ps L hc aX aZ a9 a t aH=>?_;exact a.ke hN hB _ λs uj r e'=>ko _ aZ a9 (.mk ((l8 (jc hN) (jc hD) t).mono ja ja) (G0 (g:=gc g) (jj hN) hl hB (.inl rfl) mD ⟨λ_=>⟨rfl,e⟩,λe=>by cases e⟩ e') ⟨by ext,by ext⟩)<|sq<|wk 2<|.q ai<|.b 2 true e<|.q af<|.q aH .nil
   ·exact ko _ am an (.mk (DF ia<|jj hD) (Uo (g:=gc g) ia ia e) ⟨by ext,by ext⟩)<|sq<|wk 2<|.q ai<|.b 2 true e<|.q af .nil
 ·cases e:bQ 0 g.lp with
  |false=>exact last _ (.inr<|.inl ⟨rfl,e⟩) ai
  |true=>exact ko _ aB ac (.mk (DF ia<|jj hD) (SR (g:=gc g) ia ia e) ⟨by ext,by ext⟩)<|sq<|wk 2<|.q ai<|.b 4 true e .nil
 ·cases e:bQ 0 (g.lp%100) with
  |false=>exact last _ (.inr<|.inr<|.inl ⟨rfl,e⟩) ai
  |true=>exact ko _ aB ac (.mk (DF ia<|jj hD) (S0 (g:=gc g) ia ia e) ⟨by ext,by ext⟩)<|sq<|wk 2<|.q ai<|.b 6 true e .nil
 ·rcases m with _|m
  ·exact last _ (.inr<|.inr<|.inr<|.inl ⟨rfl,by ext⟩) ai
  ·refine WT (M:=M-2) (jh hM) (show m+1=1\/m+1=2 by lia) hg aB ac _ λs am an hs af=>?_;have e:bQ 0 (g.bH.length:Int):=kT (show(0:Int)<_ by lia);refine ko _ am an (.mk ((il (N:=10) (D:=1) (by ext) (by ext) (by show 1<=5;decide)<|ao (g8 (by ext)<|by ext) aP).mono ia<|jb hD) (T1 (g:=gc g) ia ia (w:=s) ?_) ⟨by ext,by ext⟩)<|sq<|wk 2<|.q ai<|.b 8 true e<|.q (af.mono (show M-2+2<=M by lia)) .nil;show(g.bH.length=1/\s=[108])\/(g.bH.length=2/\(s=[108]\/s=[109]));rcases hs with rfl|⟨h,rfl⟩
   ·rcases m with _|m
    ·exact .inl ⟨oD,rfl⟩
    ·exact .inr ⟨by lia,.inl rfl⟩
   ·exact .inr ⟨by lia,.inr rfl⟩
 ·exact last _ (.inr<|.inr<|.inr<|.inr rfl) ai
end
def Vw(S:Bool)(N B D:Nat)(xs:List V):Prop:=(∀b,∃s t r,Vr S (N+44) B xs b s t r/\lL t=true)/\Tv (N+6) (D+4) (nd eK [.lst xs])
def Vs(N B D:Nat)(g:Gs)(xs:List V):Prop:=(∃s r,Bl (N+5) B (gc g) xs s r)/\(∃rs cF,rs.map Prod.fst=xs/\rs.length<=2/\Rl N B (gc g) rs cF/\∃a b,rs∈mU a b)/\Tv (N+2) (D+1) (.lst xs)
section
variable{S:Bool}{N N' M B D n m k:Nat}{g:Gs}{c:Gc}{s so:List Nat}{v:V}{ps xs:List V}{b el:Bool}{zs bg aB am aZ a4:List Int}{z z' dp ac an a9 bm:Int}{t:Tk}{r:Rr}
theorem Vr.mono(h:Vr S N B xs b s t r)(hn:N<=N'):Vr S N' B xs b s t r:=⟨h.sh.mono hn,h.l,h.lex,h.c,λx t' ab a b c=>(h.pa x t' ab a b c).mono hn⟩
def Vo(S:Bool)(N B D:Nat)(v:V):Prop:=v=.none\/∃k ps L hc aX,v=nd k ps/\Va S N B k ps L hc aX/\Tv N D (nd k ps)
def WW(hN:10<=N)(hD:1<=D)(h:Vo S N B D v):Tv N D v:=by
 rcases h with rfl|⟨k,ps,L,hc,aX,rfl,a,t⟩
 ·exact jF hN hD
 ·exact t
def DR(hN:10<=N)(hD:1<=D)(h:Vo S N B D v):Tv (N+2) (D+1)<|.tup [.str s,v]:=w3 hN (by show 2<=5;decide)<|ao (g8 hN hD)<|ao (WW hN hD h) aP
def Z4(hN:28<=N)(hB:4*B+200<=ae)(hD:1<=D)(hs:s∈cq)(h:Vo S N B D v):Vw S N B D [.tup [.str s,v]]:=by
 refine⟨λb=>?_,(il (N:=N+4) (D:=D+2) (jb hN) (jj hD) (by show 1<=5;decide)<|ao (iC (N:=N+2) (D:=D+1) (jb hN) (by show 1<=5;decide)<|ao (DR (jc hN) hD h) aP) aP).mono (@ja _ 6 6 rfl)<|@ja _ 4 4 rfl⟩;rcases h with rfl|⟨k,ps,L,hc,aX,rfl,a,t⟩
 ·exact gz (X0 (S:=S) (b:=b) (B:=B) hN hB hs) λs' t r v e=>fK s' t r (v.mono ja) e
 ·exact gz (Yq (b:=b) (jc hN) hB hs a) λs' t r v e=>fK s' t r (v.mono ja) e
def vw2(hN:28<=N)(hB:4*B+200<=ae)(hD:1<=D)(hs:s∈cq)(h:Vo S N B D v){eT:V}(ik:so∈cq)(aL:Vo S N B D eT):Vw S N B D [.tup [.str s,v],.tup [.str so,eT]]:=by
 refine⟨λb=>?_,(il (N:=N+4) (D:=D+2) (jb hN) (jj hD) (by show 1<=5;decide)<|ao (iC (N:=N+2) (D:=D+1) (jb hN) (by show 2<=5;decide)<|ao (DR (jc hN) hD h)<|ao (DR (jc hN) hD aL) aP) aP).mono (@ja _ 6 6 rfl)<|@ja _ 4 4 rfl⟩;rcases h with rfl|⟨k,ps,L,hc,aX,rfl,a,t⟩<;>rcases aL with rfl|⟨ay,aw,eD,d7,eM,rfl,aK,aD⟩
 ·exact gz (We (S:=S) (b:=b) (B:=B) hN hB hs ik) λs' t r v e=>fK s' t r (v.mono ja) e
 ·exact gz (VJ (b:=b) (jc hN) hB hs ik aK) λs' t r v e=>fK s' t r (v.mono ja) e
 ·exact gz (V7 (b:=b) (jc hN) hB hs ik a) λs' t r v e=>fK s' t r (v.mono ja) e
 ·exact gz (UR (b:=b) (jc hN) hB hs ik a aK) λs' t r v e=>fK s' t r (v.mono ja) e
def jQ{m n:Nat}(h:m<=n)(q:Nat.ble n 8388608):(-8388608:Int)<=(m:Int)/\(m:Int)<=(ae:Int):=⟨by lia,Int.ofNat_le.mpr<|aG h<|a6 q⟩
def A0(hM:20<=M)(Hv:Gn M 147 [.int<|dp-1] g<|Ve S N B D)(zs:List Int)(z:Int)(J:Prop)(ko:∀(k:Nat) (v:V) (aB:List Int) (ac:Int) (am:List Int) (an:Int),Vo S N B D v->Sp M 140 [.ptr 0,.int 2] (gh zs z g) (.int (k:Nat)) (gh aB ac g)->((k=0/\(∃l q,v=nd l q)/\Sp M 147 [.ptr 0,.int<|dp-1] (gh aB ac g) v (gh am an g))\/(k=1/\v=.none/\am=aB/\an=ac))->J):J:=by
 refine qo (M:=M) (g:=g) (jc hM) zs z _ (λaB ac ai=>?_) λaB ac ai=>?_
 ·
   exact Hv.en aB ac _ λk ps L hc aX am an a t af=>ko 0 _ aB ac am an (.inr<|i52 k ps L hc aX rfl a t) ai<|.inl ⟨rfl,(bT _ _ rfl),af⟩
 ·exact ko 1 .none aB ac aB ac (.inl rfl) ai<|.inr ⟨rfl,rfl,rfl,rfl⟩
def Xk(hM:20<=M)(Hv:Gn M 147 [.int<|dp-1] g<|Ve S N B D)(zs:List Int)(z:Int)(J:Prop)(a:∀k ps L hc aX aB ac am an,Va S N B k ps L hc aX->Tv N D (nd k ps)->Sp (M+3) 140 [.ptr 0,.int 2] (gh zs z g) (.int 0) (gh aB ac g)->Sp (M+3) 147 [.ptr 0,.int<|dp-1] (gh aB ac g) (nd k ps) (gh am an g)->J)(b:∀aB ac,Sp (M+3) 140 [.ptr 0,.int 2] (gh zs z g) (.int 1) (gh aB ac g)->J):J:=
 have m:=bh M 3
 qo (jc hM) zs z J (λaB ac s=>Hv.en aB ac J λk ps L hc aX am an v t af=>a k ps L hc aX aB ac am an v t (s.mono m)<|af.mono m) λaB ac s=>b aB ac<|s.mono m
def Fa(hM:20<=M)(hN:28<=N)(hB:4*B+200<=ae)(hD:1<=D)(Hv:Gn M 147 [.int<|dp-1] g<|Ve S N B D)(zs:List Int)(z:Int)(J:Prop)(ko:∀fj bg z',Sp (M+3) 153 [.ptr 0,.int dp,.int 1] (gh zs z g) (nd eK [.lst [fj]]) (gh bg z' g)->Vw S N B D [fj]->J):J:=by
 refine(qL (g:=g)).sn zs z _ λs aB ac hs ai=>?_;have ai:=ai.mono (jc hM rfl:14<=M);refine A0 hM Hv aB ac _ λk v am an aZ a9 hv af aH=>?_;refine ko _ aZ a9 ?_<|Z4 hN hB hD (pg s hs) hv;have rg:=jQ (m:=1) (n:=2) (by ext) rfl;rcases aH with⟨rfl,⟨l,q,rfl⟩,aH⟩|⟨rfl,rfl,rfl,rfl⟩
 ·exact sq<|wk 2<|.p rg<|.q ai<|.q af<|.q aH .nil
 ·exact sq<|wk 2<|.p rg<|.q ai<|.q af .nil
def Fy(hM:20<=M)(hN:28<=N)(hB:4*B+200<=ae)(hD:1<=D)(Hv:Gn M 147 [.int<|dp-1] g<|Ve S N B D)(zs:List Int)(z:Int)(J:Prop)(ko:∀fj eT bg z',Sp (M+3) 153 [.ptr 0,.int dp,.int 2] (gh zs z g) (nd eK [.lst [fj,eT]]) (gh bg z' g)->Vw S N B D [fj,eT]->J):J:=by
 refine(qL (g:=g)).sn zs z _ λs aB ac hs ai=>?_;have ai:=ai.mono (jc hM rfl:14<=M);refine A0 hM Hv aB ac _ λk v am an aZ a9 hv af aH=>?_;refine(qL (g:=g)).sn aZ a9 _ λs' a4 bm nG a5=>?_;have a5:=a5.mono (jc hM rfl:14<=M);refine A0 hM Hv a4 bm _ λk' v' fR eA X4 ya nt bR rp=>?_;refine ko _ _ X4 ya ?_<|vw2 hN hB hD (pg s hs) hv (pg s' nG) nt;have rg:=jQ (m:=2) (n:=2) (by ext) rfl;rcases aH with⟨rfl,⟨l,q,rfl⟩,aH⟩|⟨rfl,rfl,rfl,rfl⟩<;>rcases rp with⟨rfl,⟨l',q',rfl⟩,rp⟩|⟨rfl,rfl,rfl,rfl⟩
 ·exact sq<|wk 2<|.p rg<|.q ai<|.q af<|.q aH<|.q a5<|.q bR<|.q rp .nil
 ·exact sq<|wk 2<|.p rg<|.q ai<|.q af<|.q aH<|.q a5<|.q bR .nil
 ·exact sq<|wk 2<|.p rg<|.q ai<|.q af<|.q a5<|.q bR<|.q rp .nil
 ·exact sq<|wk 2<|.p rg<|.q ai<|.q af<|.q a5<|.q bR .nil
def qG(hM:20<=M)(hN:74<=N)(hB:10*B+300<=ae)(cv:280<=B)(hl:g.bH.length<=3)(Hr:Gn M 154 [.int dp] g<|Rv N B D g)(zs:List Int)(z:Int)(J:Prop)(ko:∀xs bg z',Sp (M+2) 152 [.ptr 0,.int dp] (gh zs z g) (.lst xs) (gh bg z' g)->Vs N B D g xs->J):J:=by
 refine wp (M:=M) (g:=g) (jc hM) zs z _ (λaB ac ai=>?_) (λaB ac ai=>?_) λaB ac ai=>?_
 ·exact ko [] aB ac (sq<|wk 1<|.q ai<|.p (jQ (m:=0) (n:=2) (by ext) rfl) .nil) ⟨bT _ _<|bl0<|jb hN,t6 [] [] rfl (by ext) (rl0<|jc hN)<|bT (.none,[]) (.none,[])<|.head _,iC (jc hN) (by show 0<=5;decide) aP⟩
 ·
   exact Hr.rn hN cv hl aB ac _ λel k ps s t r am an w p af=>ko _ am an (sq<|wk 1<|.q ai<|.p (jQ (m:=1) (n:=2) (by ext) rfl)<|.q af .nil) ⟨bT _ _<|bl1 (jc hN) hB w,t6 _ _ rfl (by show 1<=2;decide) (rl1 (jc hN) w)<|bT _ (.none,[])<|.tail _<|.head _,iC (jc hN) (by show 1<=5;decide)<|ao p aP⟩
 ·
   refine Hr.rn hN cv hl aB ac _ λel k ps s t r am an w p af=>?_;exact Hr.rn hN cv hl am an _ λel' k' fZ s' t' r' aZ a9 w' p' aH=>ko _ aZ a9 (sq<|wk 1<|.q ai<|.p (jQ (m:=2) (n:=2) (by ext) rfl)<|.q af<|.q aH .nil) ⟨bT _ _<|bl2 (jc hN) hB w w',t6 _ _ rfl (by show 2<=2;decide) (rl2 (jc hN) w w')<|bT _ _<|.tail _<|.tail _<|.head _,iC (jc hN) (by show 2<=5;decide)<|ao p<|ao p' aP⟩
end
structure Sg(S:Bool)(dp:Int)(g:Gs):Prop where
 S:g.S=S
 m:∃m:Nat,(m:Int)<=2-dp/\g.bH=kE m
 d:0<=g.d
 l:0<=g.lp
 q:g.lp%100<=2-dp
noncomputable def gL(g:Gs):Gs:=⟨g.lp+1,g.d,g.S,g.bH⟩
noncomputable def gW(g:Gs):Gs:=⟨g.lp+100,g.d,g.S,g.bH⟩
noncomputable def gB(g:Gs)(s:List Nat):Gs:=⟨g.lp,g.d,g.S,g.bH++[.str s]⟩
section
variable{S:Bool}{N du bP M B D n m k:Nat}{g:Gs}{s:List Nat}{v:V}{ps as xs:List V}{b el:Bool}{zs bg aB am aZ a4:List Int}{z z' dp ac an a9 bm:Int}{t:Tk}{r:Rr}
def Sg.down(h:Sg S dp g):Sg S (dp-1) g:=⟨h.S,by refine aA h.m λm a b=>?_;exact(au m (by lia) b),h.d,h.l,by have:=h.q;lia⟩
def Sg.loop(h:Sg S dp g)(hd:0<=dp):Sg S (dp-1)<|gL g:=⟨h.S,by refine aA h.m λm a b=>?_;exact(au m (by lia) b),h.d,by have:=h.l;show 0<=g.lp+1;lia,by have:=h.q;have:=h.l;show(g.lp+1)%100<=_;lia⟩
def Sg.sw(h:Sg S dp g):Sg S dp<|gW g:=⟨h.S,h.m,h.d,by have:=h.l;show 0<=g.lp+100;lia,by have:=h.q;show(g.lp+100)%100<=_;lia⟩
theorem Sg.len(h:Sg S dp g)(hd:0<=dp):g.bH.length<=2/\(0<dp->g.bH.length<=1):=by
 refine aA h.m λm a b=>?_;have e:g.bH.length=m:=by rw[b];rcases m with _|_|_|m<;>first|rfl|lia
 lia
theorem Sg.fl(h:Sg S dp g):∀v∈g.bH,aT v:=by
 refine aA h.m λm a b=>?_;rw[b];rcases m with _|_|m
 ·exact aP
 ·exact ao Np.str aP
 ·exact ao Np.str<|ao Np.str aP
theorem uU(h:Sg S dp g)(hd:0<=dp):gc (gL g)=(gc g).lo:=by have e1:bQ 0<|(g.lp+1)%100:=kT (by have:=h.q;have:=h.l;lia);have e2:bQ 0<|g.lp+1:=kT (by have:=h.l;lia);show Gc.mk _ _ _ (bQ 0<|(g.lp+1)%100) (bQ 0<|g.lp+1)=_;rw[e1,e2];rfl
theorem H6(h:Sg S dp g):gc (gW g)=(gc g).sw:=by
 have e1:(g.lp+100)%100=g.lp%100:=by lia
 have e2:bQ 0<|g.lp+100:=kT (by have:=h.l;lia);show Gc.mk _ _ _ (bQ 0<|(g.lp+100)%100) (bQ 0<|g.lp+100)=_;rw[e1,e2];rfl
theorem VE:gc (gB g s)=(gc g).lb:=by show Gc.mk g.S (g.bH++[V.str s]).length _ _ _=_;rw[bO];rfl
structure Rh(S:Bool)(M N du bP B D:Nat)(dp:Int):Prop where
 h3:N+80<=bP/\du+60<=bP/\22<=du
 hM:20<=M
 hN:74<=N
 hB:10*B+300<=ae
 cv:280<=B
 hD:4<=D
 v:∀g,Sg S (dp-1) g->Gn M 147 [.int<|dp-1] g (Ve S N B D)
 r:∀g,Sg S (dp-1) g->Gn M 154 [.int<|dp-1] g (Rv N B D g)
 t:∀g,Sg S (dp-1) g->Gn M 146 [.int dp] g (Vt S N B D)
 w:∀g,Sg S (dp-1) g->Gn M 147 [.int dp] g (Ve S du B D)
 p:bQ 0 dp=true
abbrev Gr(M N B D:Nat)(f:Nat)(as:List V)(g:Gs)(zs:List Int)(z:Int):Prop:=∀J:Prop,(∀v bg z',Rv N (10*B+300) (D+9) g v->Sp M f (.ptr 0::as) (gh zs z g) v (gh bg z' g)->J)->J
abbrev rO(M:Nat)(g:Gs)(zs:List Int)(z:Int)(k:Nat)(aB:List Int)(ac:Int):Prop:=Sp (M+10) 140 [.ptr 0,.int 14] (gh zs z g) (.int (k:Nat))<|gh aB ac g
def Rh.kL(h:Rh S M N du bP B D dp):0<dp:=(Z.ltB_iff _ _).mp h.p
def Vv(h:Rh S M N du bP B D dp)(hg:Sg S dp g)(ai:rO M g zs z 4 aB ac):Gr (M+13) bP B D 154 [.int dp] g zs z:=by intro J ko;have hd:=h.kL;have h3:=h.h3;refine qG h.hM h.hN h.hB h.cv (aG (hg.len<|by lia).1<|by ext) (h.r g hg.down) aB ac _ λxs am an af o=>?_;refine fp o λo1 _ t=>?_;clear o;obtain⟨s,r,bl⟩:=o1;exact ko _ am an (.mk ((l8 (by have:=h.hN;exact jb this) (by have:=h.hD;exact jb this) t).mono (jz (a:=4) h3.1)<|@ja _ 3 9 rfl) ((FZ (by have:=h.hN;exact jb this) h.hB bl).mono (jz (a:=10) h3.1) jo) ⟨by ext,by ext⟩)<|sq<|wk 2<|.b 0 true h.p<|.q ai<|.q (af.mono (ja rfl:M+2<=M+10)) .nil
def VD(h:Rh S M N du bP B D dp)(hg:Sg S dp g)(ai:rO M g zs z 13 aB ac):Gr (M+13) bP B D 154 [.int dp] g zs z:=by intro J ko;have hd:=h.kL;have h3:=h.h3;have hN:=h.hN;have hl:=(hg.len<|by lia).1;refine(h.v g hg.down).en aB ac _ λk ps L hc aX am an a t af=>?_;refine(h.r g hg.down).rn h.hN h.cv (ju hl) am an _ λel k' fZ s' t' r' aZ a9 w p aH=>?_;refine fr (S:=S) (jc hN) h.hB a _ λs r f=>?_;have S':=hg.S;subst S';exact ko _ aZ a9 (.mk ((m0 (jc hN) (by have:=h.hD;exact jc this) t p<|jF (jc hN) (by have:=h.hD;exact jc this)).mono (jz h3.1) ja) ((GK (g:=gc g) ia (ju hl rfl:g.bH.length<=3) h.hB f<|w.mono (bh _ _) jq).mono (jz (a:=50) h3.1) jo) ⟨by ext,by ext⟩)<|sq<|wk 2<|.b 0 true h.p<|.q ai<|.q (af.mono (bh _ _:M<=M+10))<|.q (aH.mono (bh _ _:M<=M+10)) .nil
def U3(h:Rh S M N du bP B D dp)(hg:Sg S dp g)(ai:rO M g zs z 5 aB ac):Gr (M+13) bP B D 154 [.int dp] g zs z:=by
 intro J ko;have hd:=h.kL;have h3:=h.h3;have hN:=h.hN;have hM:=h.hM;have hD:=h.hD;have hl:=(hg.len<|by lia).1;refine qG h.hM h.hN h.hB h.cv (ju hl) (h.r g hg.down) aB ac _ λxs am an af o=>?_;refine fp o λo2 _ tb=>?_;clear o;obtain⟨sb,rb,bl⟩:=o2;refine(h.r g hg.down).rn h.hN h.cv (ju hl) am an _ λel k' fZ s' t' r' aZ a9 w p aH=>?_;refine(h.v g hg.down).en aZ a9 _ λk ps L hc aX a4 bm a t a5=>?_;refine tk (M:=M+10) (g:=g) (jb hM) (n:=2) (by ext) a4 bm _ λj fR eA hj bR=>?_;have S':=hg.S;subst S';have af:=af.mono (ja rfl:M+2<=M+10);have aH:=aH.mono (bh _ _:M<=M+10);have a5:=a5.mono (bh _ _:M<=M+10);have bk:=FZ (jb hN) h.hB bl;refine fr (S:=g.S) (jc hN) h.hB a _ λs r f=>?_;have Kn:Tv (N+4) (D+3)<|nd B2 [.lst xs]:=l8 (jb hN) (jb hD) tb;have tt:=t.mono (bh _ _:N<=N+4) (bh _ _:D<=D+3);have tp:=p.mono (bh _ _:N<=N+4) (bh _ _:D<=D+3);revert bR;refine lE hj (λbR=>?_) λbR=>?_
 ·exact ko _ fR eA (.mk ((m0 (jb hN) ia tt Kn tp).mono (jz (a:=6) h3.1)<|@ja _ 5 9 rfl) ((T8 (N:=N+45) (g:=gc g) ia (ju hl rfl:g.bH.length<=3) h.hB f (bk.mono (@ja _ 10 45 rfl)<|aV _)<|w.mono (bh _ _)<|aV _).mono (jz (a:=51) h3.1) jo) ⟨by ext,by ext⟩)<|sq<|wk 2<|.b 0 true h.p<|.q ai<|.q af<|.q aH<|.q a5<|.q bR .nil
 ·exact ko _ fR eA (.mk ((m0 (jb hN) ia tt Kn<|jF (jb hN)<|Nat.succ_pos _).mono (jz (a:=6) h3.1)<|@ja _ 5 9 rfl) ((GK (N:=N+45) (g:=gc g) ia (ju hl rfl:g.bH.length<=3) h.hB f<|bk.mono (@ja _ 10 45 rfl)<|aV _).mono (jz (a:=50) h3.1) jo) ⟨by ext,by ext⟩)<|sq<|wk 2<|.b 0 true h.p<|.q ai<|.q af<|.q aH<|.q a5<|.q bR .nil
end
noncomputable def CV(g:Gs):Gs:=⟨g.lp+1-1,g.d,g.S,g.bH⟩
theorem RI:CV g=g:=by obtain⟨l,d,S,a⟩:=g;show Gs.mk (l+1-1) d S a=_;rw[Int.add_sub_cancel]
theorem Ke.mono(h:Ke S N B kk ps s t r)(hn:N<=N'):Ke S N' B kk ps s t r:=⟨h.sh.mono hn,h.l,h.lex,h.bl,h.f,h.bad,h.n2,h.c,λx t' ab a b=>(h.pa x t' ab a b).mono<|ji hn⟩
theorem Hd.mono(h:Hd S N B le v s t r)(hn:N<=N'):Hd S N' B le v s t r:=⟨h.l,h.lex,h.pr.imp (λ⟨xs,e,q⟩=>⟨xs,e,q.mono hn⟩) λ⟨k,ps,e,a,q⟩=>⟨k,ps,e,a,q.mono hn⟩⟩
theorem He.mono(h:He S N B kk ps s t r)(hn:N<=N'):He S N' B kk ps s t r:=⟨h.hd.mono hn,h.f,λx t' ab a b=>(h.pa x t' ab a b).mono<|ji hn⟩
abbrev vW(M N B D:Nat)(dp:Int)(k:Nat)(g:Gs)(zs:List Int)(z:Int):Prop:=∀J:Prop,(∀kk ps bg z',Tv N (D+9) (nd kk ps)->lq kk di=false->∀el s w r,Rw N (10*B+300) (gc g) el kk ps s (.kw w) r->Sp (M+6) 156 [.ptr 0,.int dp,.int (k:Nat)] (gh zs z<|gL g) (nd kk ps) (gh bg z'<|gL g)->J)->J
variable{M:Nat} in
def w7(hp:bQ 0 dp)(hk:k=6\/k=7\/k=8\/k=9)(ai:rO M g zs z k aB ac)(h:vW M bP B D dp k g aB ac):Gr (M+13) bP B D 154 [.int dp] g zs z:=by
 intro J ko;refine h _ λkk ps am an t e el s w r rw' af=>?_;refine ko _ am an (.mk t rw' ⟨e,rfl⟩) ?_;have af:=af.mono (ja rfl:M+6<=M+10);have f:Sp (M+13) 154 [.ptr 0,.int dp] (gh zs z g) (nd kk ps)<|gh am an<|CV g:=by rcases hk with rfl|rfl|rfl|rfl<;>exact sq<|wk 2<|.b 0 true hp<|.q ai<|.x (gh aB ac<|gL g)<|.q af<|.x (gh am an<|CV g) .nil
 rw[RI] at f;exact f
variable{M:Nat} in
def WU(h:Rh S M N du bP B D dp)(hg:Sg S dp g)(zs:List Int)(z:Int):vW M bP B D dp 6 g zs z:=by
 intro J ko;have hd:=h.kL;have h3:=h.h3;have hN:=h.hN;have hD:=h.hD;have hB:=h.hB;have eh:=hg.loop<|by lia
 have hn:g.bH.length<=1:=(hg.len<|by lia).2 hd;refine(h.v _ eh).en zs z _ λk ps L hc aX am an a t af=>?_;refine(h.r _ eh).rn (g:=gL g) h.hN h.cv (ju hn rfl:g.bH.length<=3) am an _ λel k' fZ s' t' r' aZ a9 w p aH=>?_;refine fr (S:=g.S) (jc hN) hB (hg.S.symm▸a) _ λs r f=>?_;rw[uU hg<|by lia] at w;exact ko _ _ aZ a9 ((oO (jc hN) (jc hD) t p).mono (jz h3.1) ja) (by ext) _ _ _ _ ((Ua (N:=N+45) (g:=gc g) ia hn hB f<|w.mono (bh _ _)<|aV _).mono (jz (a:=52) h3.1) jo)<|sq<|wk 2<|.q (af.mono (bh _ _:M<=M+3))<|.q (aH.mono (bh _ _:M<=M+3)) .nil
variable{M:Nat} in
def XZ(h:Rh S M N du bP B D dp)(hg:Sg S dp g)(zs:List Int)(z:Int):vW M bP B D dp 7 g zs z:=by
 intro J ko;have hd:=h.kL;have h3:=h.h3;have hN:=h.hN;have hD:=h.hD;have hB:=h.hB;have eh:=hg.loop<|by lia
 have hn:g.bH.length<=1:=(hg.len<|by lia).2 hd;refine(h.r _ eh).rn (g:=gL g) h.hN h.cv (ju hn rfl:g.bH.length<=3) zs z _ λel k' fZ s' t' r' aZ a9 w p aH=>?_;refine(h.v _ eh).en aZ a9 _ λk ps L hc aX am an a t af=>?_;refine fr (S:=g.S) (jc hN) hB (hg.S.symm▸a) _ λs r f=>?_;rw[uU hg<|by lia] at w;exact ko _ _ am an ((oO (jc hN) (jc hD) p t).mono (jz h3.1) ja) (by ext) _ _ _ _ ((VZ (N:=N+45) (g:=gc g) ia hn hB (w.mono (bh _ _)<|aV _) f).mono (jz (a:=55) h3.1) jo)<|sq<|wk 2<|.q (aH.mono (bh _ _:M<=M+3))<|.q (af.mono (bh _ _:M<=M+3)) .nil
def yS(hN:10<=N)(hD:2<=D)(ha:Tv N D a)(hb:Tv N D b)(hc:Tv N D c)(hd:Tv N D d):Tv (N+2) (D+2)<|nd kk [a,b,c,d]:=il hN (Nat.le_of_lt hD) (by show 4<=5;decide)<|ao ha<|ao hb<|ao hc<|ao hd aP
variable{S:Bool}{N du bP M B D:Nat}{g:Gs}{dp:Int} in
def V3(h:Rh S M N du bP B D dp)(hg:Sg S dp g)(zs:List Int)(z:Int):vW M bP B D dp 8 g zs z:=by
 intro J ko;have hd:=h.kL;have h3:=h.h3;have hN:=h.hN;have hM:=h.hM;have hD:=h.hD;have hB:=h.hB;have eh:=hg.loop<|by lia
 have hn:g.bH.length<=1:=(hg.len<|by lia).2 hd;refine tk (M:=M+3) (g:=gL g) (jb hM) (n:=3) (by ext) zs z _ λj aB ac hj ai=>?_;have e:=hg.S;subst e;have m:=show M<=M+3 by exact bh _ _
 have tg:∀j:Nat,(j=1\/j=2)->Sp (M+3) 140 [.ptr 0,.int 3] (gh zs z<|gL g) (.int (j:Nat)) (gh aB ac<|gL g)->J:=λj hj ai=>by refine(h.t _ eh).tn aB ac _ λk ps L hc aX am an a t q hk af=>?_;refine(h.v _ eh).en am an _ λay aw eD d7 eM aZ a9 aK aD aH=>?_;refine(h.r _ eh).rn (g:=gL g) h.hN h.cv (ju hn rfl:g.bH.length<=3) aZ a9 _ λel ba bo s' t' r' a4 bm w p a5=>?_;rw[uU hg<|by lia] at w;refine aK.ke (jc hN) (jm hB) _ λs uj r ke=>?_;exact cX (QZ (g:=gc g) (jc hN) hn hB a hk q (ke.mono (ja rfl:N+2<=N+20))<|w.mono (bh _ _:N<=N+20)<|aV _) λZM r'' f=>ko mQ _ a4 bm ((m0 (jc hN) (jc hD) t aD p).mono (jz h3.1) ja) (by ext) _ _ _ _ (f.mono (jz h3.1)<|aV _) (by rcases hj with rfl|rfl<;>exact sq<|wk 2<|.q ai<|.q (af.mono m)<|.q (aH.mono m)<|.q (a5.mono m) .nil)
 revert ai;refine wF hj (λai=>?_) (λai=>?_) λai=>?_
 ·
   refine Fa hM (jc hN) (jm hB) (jc hD) (h.v _ eh) aB ac _ λfj am an af vw=>?_;obtain⟨vw,tv⟩:=vw;refine(h.v _ eh).en am an _ λay aw eD d7 eM aZ a9 aK aD aH=>?_;refine(h.r _ eh).rn (g:=gL g) h.hN h.cv (ju hn rfl:g.bH.length<=3) aZ a9 _ λel ba bo s' t' r' a4 bm w p a5=>?_;rw[uU hg<|by lia] at w;refine aK.ke (jc hN) (jm hB) _ λs uj r ke=>?_;refine gz (vw true) λsv tv' rv vr _=>?_;exact cX (O4 (g:=gc g) ia hn hB fj vr (ke.mono (ja rfl:N+2<=N+44))<|w.mono (bh _ _:N<=N+44)<|aV _) λZM r'' f=>ko mQ _ a4 bm ((m0 (N:=N+6) (D:=D+4) (jb hN) ia tv (aD.mono (bh _ _)<|bh _ _)<|p.mono (bh _ _)<|bh _ _).mono (jz (a:=8) h3.1)<|@ja _ 6 9 rfl) (by ext) _ _ _ _ (f.mono (jz (a:=73) h3.1)<|aV _)<|sq<|wk 2<|.q ai<|.q af<|.q (aH.mono m)<|.q (a5.mono m) .nil
 ·exact tg 1 (.inl rfl) ai
 ·exact tg 2 (.inr rfl) ai
variable{S:Bool}{N du bP M B D:Nat}{g:Gs}{dp:Int} in
def V6(h:Rh S M N du bP B D dp)(hg:Sg S dp g)(zs:List Int)(z:Int):vW M bP B D dp 9 g zs z:=by
 intro J ko;have hd:=h.kL;have h3:=h.h3;have hN:=h.hN;have hM:=h.hM;have hD:=h.hD;have hB:=h.hB;have eh:=hg.loop<|by lia
 have hn:g.bH.length<=1:=(hg.len<|by lia).2 hd;have e:=hg.S;subst e;have m:=bh M 3;have rg:=jQ (m:=2) (n:=2) (by ext) rfl;have nn:Tv N D .none:=jF (jc hN)<|jc hD;have up:∀{v},Tv N D v->Tv (bP-10) (D+7) v:=λt=>t.mono (je h3.1)<|bh _ _;have cb:∀{hv fj eT ba bo x y el},Tv (bP-10) (D+7) hv->Tv N D fj->Tv N D eT->Tv N D (nd ba bo)->(∃s r,Rw (bP-30+29) (10*B+300) (gc g) el dO [hv,fj,eT,nd ba bo] s (.kw fk) r)->Sp (M+6) 156 [.ptr 0,.int dp,.int 9] (gh zs z<|gL g) (nd dO [hv,fj,eT,nd ba bo]) (gh x y<|gL g)->J:=λt0 t1 t2 t3 f s=>cX f λ_ _ f=>ko dO _ _ _ ((yS (jh h3.1) ia t0 (up t1) (up t2)<|up t3).mono (jg h3.1)<|@ja _ 9 9 rfl) (by ext) _ _ _ _ (f.mono (jg h3.1)<|aV _) s;have row:∀zs z,(∀el k ps s t r x y,Rw (bP-30) B (gc g).lo el k ps s t r->Tv N D (nd k ps)->Sp (M+3) 154 [.ptr 0,.int<|dp-1] (gh zs z<|gL g) (nd k ps) (gh x y<|gL g)->J)->J:=λzs z k=>(h.r _ eh).rn (g:=gL g) h.hN h.cv (ju hn rfl:g.bH.length<=3) zs z _ λel k' ps s t r x y w p bR=>by rw[uU hg<|by lia] at w;exact k el k' ps s t r x y (w.mono (je h3.1)<|aV B) p<|bR.mono m
 have op:∀zs z,(∀k ps s t r aB ac am an,Ke g.S (bP-30) B k ps s t r->Tv N D (nd k ps)->Sp (M+3) 140 [.ptr 0,.int 2] (gh zs z<|gL g) (.int 0) (gh aB ac<|gL g)->Sp (M+3) 147 [.ptr 0,.int<|dp-1] (gh aB ac<|gL g) (nd k ps) (gh am an<|gL g)->J)->(∀aB ac,Sp (M+3) 140 [.ptr 0,.int 2] (gh zs z<|gL g) (.int 1) (gh aB ac<|gL g)->J)->J:=λzs z a b=>Xk hM (h.v _ eh) zs z J (λk ps _ _ _ aB ac am an v t p q=>v.ke (jc hN) (jm hB) _ λs t' r e=>a k ps s t' r aB ac am an (e.mono<|jd h3.1) t p q) b;refine wp (M:=M+3) (g:=gL g) (jb hM) zs z _ (λaB ac ai=>?_) (λaB ac ai=>?_) λaB ac ai=>?_
 ·refine Fy hM (jc hN) (jm hB) (jc hD) (h.v _ eh) aB ac _ λva vb Cd BW af vw=>gz (vw.1 true) λ_ _ _ vr _=>?_;have vr:=vr.mono (jd h3.1 rfl:N+44<=bP-30);have ht:=vw.2.mono (jd h3.1 rfl:N+6<=bP-10) (ja rfl:D+4<=D+7);exact op Cd BW (λ_ _ _ _ _ _ _ aN iX da a8 cR ak=>op aN iX (λ_ _ _ _ _ _ _ dK eB bj aD ck aC=>row dK eB λ_ _ _ _ _ _ jJ kr w pr bR=>cb ht a8 aD pr (MJ (g:=gc g) (jh h3.1) hn hB vr da bj w)<|sq<|wk 2<|.q ai<|.q af<|.p rg<|.q cR<|.q ak<|.q ck<|.q aC<|.q bR .nil) λdK eB ck=>row dK eB λ_ _ _ _ _ _ jJ kr w pr bR=>cb ht a8 nn pr (MM (g:=gc g) (jh h3.1) hn hB vr da w)<|sq<|wk 2<|.q ai<|.q af<|.p rg<|.q cR<|.q ak<|.q ck<|.q bR .nil) λaN iX cR=>op aN iX (λ_ _ _ _ _ _ _ dK eB bj aD ck aC=>row dK eB λ_ _ _ _ _ _ jJ kr w pr bR=>cb ht nn aD pr (MH (g:=gc g) (jh h3.1) hn hB vr bj w)<|sq<|wk 2<|.q ai<|.q af<|.p rg<|.q cR<|.q ck<|.q aC<|.q bR .nil) λdK eB ck=>row dK eB λ_ _ _ _ _ _ jJ kr w pr bR=>cb ht nn nn pr (M9 (g:=gc g) (jh h3.1) hn hB vr w)<|sq<|wk 2<|.q ai<|.q af<|.p rg<|.q cR<|.q ck<|.q bR .nil
 ·refine h.w _ eh aB ac _ λ_ Cd BW o1 af=>?_;obtain⟨k₀,ada,adm,adk,ac9,rfl,a',ht,Vi,_⟩:=o1;refine he h3.2.2 hB a' Vi _ λ_ _ _ hh=>?_;have hh:=hh.mono (jd h3.2.1 rfl:du+20<=bP-30);have ht:=ht.mono (je h3.2.1 rfl:du<=bP-10)<|bh D 7;exact op Cd BW (λ_ _ _ _ _ _ _ aN iX da a8 cR ak=>op aN iX (λ_ _ _ _ _ _ _ dK eB bj aD ck aC=>row dK eB λ_ _ _ _ _ _ jJ kr w pr bR=>cb ht a8 aD pr (M1 (g:=gc g) (jh h3.1) hn hB hh da bj w)<|sq<|wk 2<|.q ai<|.q (af.mono m)<|.p rg<|.q cR<|.q ak<|.q ck<|.q aC<|.q bR .nil) λdK eB ck=>row dK eB λ_ _ _ _ _ _ jJ kr w pr bR=>cb ht a8 nn pr (NN (g:=gc g) (jh h3.1) hn hB hh da w)<|sq<|wk 2<|.q ai<|.q (af.mono m)<|.p rg<|.q cR<|.q ak<|.q ck<|.q bR .nil) λaN iX cR=>op aN iX (λ_ _ _ _ _ _ _ dK eB bj aD ck aC=>row dK eB λ_ _ _ _ _ _ jJ kr w pr bR=>cb ht nn aD pr (NA (g:=gc g) (jh h3.1) hn hB hh bj w)<|sq<|wk 2<|.q ai<|.q (af.mono m)<|.p rg<|.q cR<|.q ck<|.q aC<|.q bR .nil) λdK eB ck=>row dK eB λ_ _ _ _ _ _ jJ kr w pr bR=>cb ht nn nn pr (ML (g:=gc g) (jh h3.1) hn hB hh w)<|sq<|wk 2<|.q ai<|.q (af.mono m)<|.p rg<|.q cR<|.q ck<|.q bR .nil
 ·have ht:=up nn;exact op aB ac (λ_ _ _ _ _ _ _ aN iX da a8 cR ak=>op aN iX (λ_ _ _ _ _ _ _ dK eB bj aD ck aC=>row dK eB λ_ _ _ _ _ _ jJ kr w pr bR=>cb ht a8 aD pr (MP (g:=gc g) (jh h3.1) hn hB da bj w)<|sq<|wk 2<|.q ai<|.p rg<|.q cR<|.q ak<|.q ck<|.q aC<|.q bR .nil) λdK eB ck=>row dK eB λ_ _ _ _ _ _ jJ kr w pr bR=>cb ht a8 nn pr (Nt (g:=gc g) (jh h3.1) hn hB da w)<|sq<|wk 2<|.q ai<|.p rg<|.q cR<|.q ak<|.q ck<|.q bR .nil) λaN iX cR=>op aN iX (λ_ _ _ _ _ _ _ dK eB bj aD ck aC=>row dK eB λ_ _ _ _ _ _ jJ kr w pr bR=>cb ht nn aD pr (M8 (g:=gc g) (jh h3.1) hn hB bj w)<|sq<|wk 2<|.q ai<|.p rg<|.q cR<|.q ck<|.q aC<|.q bR .nil) λdK eB ck=>row dK eB λ_ _ _ _ _ _ jJ kr w pr bR=>cb ht nn nn pr (MS (g:=gc g) (jh h3.1) hn hB w)<|sq<|wk 2<|.q ai<|.p rg<|.q cR<|.q ck<|.q bR .nil
noncomputable def nH(g:Gs):Gs:=⟨g.lp+100-100,g.d,g.S,g.bH⟩
theorem Gz:nH g=g:=by obtain⟨l,d,S,a⟩:=g;show Gs.mk (l+100-100) d S a=_;rw[Int.add_sub_cancel]
variable{M:Nat} in
def Vu(h:Rh S M N du bP B D dp)(hg:Sg S dp g)(ai:rO M g zs z 11 aB ac):Gr (M+13) bP B D 154 [.int dp] g zs z:=by
 intro J ko;have hd:=h.kL;have h3:=h.h3;have hN:=h.hN;have hM:=h.hM;have hD:=h.hD;have hB:=h.hB;have hl:=(hg.len<|by lia).1;refine qG hM hN hB h.cv (ju hl) (h.r g hg.down) aB ac _ λxs am an af o=>?_;refine fp o λo1 _ a8=>?_;clear o;obtain⟨_,_,ri⟩:=o1;refine qG hM hN hB h.cv (ju hl) (h.r g hg.down) am an _ λys aZ a9 aH o=>?_;refine fp o λo2 _ aD=>?_;clear o;obtain⟨_,_,Co⟩:=o2;refine qG hM hN hB h.cv (ju hl) (h.r g hg.down) aZ a9 _ λus a4 bm a5 o=>?_;refine fp o λo3 _ bM=>?_;clear o;obtain⟨_,_,IZ⟩:=o3;refine tk (M:=M+10) (g:=g) (jb hM) (n:=3) (by ext) a4 bm _ λj fR eA hj bR=>?_;have m:=show M+2<=M+10 by exact ja rfl
 have af:=af.mono m;have aH:=aH.mono m;have a5:=a5.mono m;have tn:Tv (N+2) (D+1) .none:=jF (jb hN)<|Nat.succ_pos _;have te:Tv (N+2) (D+1)<|.str [101]:=g8 (jb hN)<|Nat.succ_pos _;revert bR;refine wF hj (λbR=>?_) (λbR=>?_) λbR=>?_
 ·exact ko _ fR eA (.mk ((yS (jb hN) (jb hD) a8 te aD tn).mono (jz (a:=4) h3.1)<|@ja _ 3 9 rfl) ((Qq (N:=N+5) (jb hN) hB ri Co).mono (jz (a:=25) h3.1)<|aV _) ⟨by ext,by ext⟩)<|sq<|wk 2<|.b 0 true h.p<|.q ai<|.q af<|.q aH<|.q a5<|.q bR .nil
 ·exact ko _ fR eA (.mk ((yS (jb hN) (jb hD) a8 te aD bM).mono (jz (a:=4) h3.1)<|@ja _ 3 9 rfl) ((OZ (N:=N+5) (jb hN) hB ri Co IZ).mono (jz (a:=25) h3.1)<|aV _) ⟨by ext,by ext⟩)<|sq<|wk 2<|.b 0 true h.p<|.q ai<|.q af<|.q aH<|.q a5<|.q bR .nil
 ·exact ko _ fR eA (.mk ((yS (jb hN) (jb hD) a8 tn tn bM).mono (jz (a:=4) h3.1)<|@ja _ 3 9 rfl) ((PZ (N:=N+5) (jb hN) hB ri IZ).mono (jz (a:=25) h3.1)<|aV _) ⟨by ext,by ext⟩)<|sq<|wk 2<|.b 0 true h.p<|.q ai<|.q af<|.q aH<|.q a5<|.q bR .nil
variable{M:Nat} in
def Vy(h:Rh S M N du bP B D dp)(hg:Sg S dp g)(ai:rO M g zs z 12 aB ac):Gr (M+13) bP B D 154 [.int dp] g zs z:=by
 intro J ko;have hd:=h.kL;have h3:=h.h3;have hN:=h.hN;have hM:=h.hM;have hD:=h.hD;have hB:=h.hB;refine aA hg.m λm hm vq=>?_;have mm:=show M<=M+10 by exact bh _ _
 have core:∀s,(g.bH.length=0/\s=[108])\/(g.bH.length=1/\s=[109])->Sg S (dp-1) (gB g s)->(∀k ps am an,Sp M 154 [.ptr 0,.int<|dp-1] (gh aB ac<|gB g s) (nd k ps) (gh am an<|gB g s)->Rv bP (10*B+300) (D+9) g (nd ki [.str s,nd k ps])->J)->J:=λs hs eh ko=>by
  have qx:(gB g s).bH.length<=3:=by show(g.bH++[V.str s]).length<=3;rw[bO];show g.bH.length+1<=3;rcases hs with⟨a,_⟩|⟨a,_⟩<;>lia
  refine(h.r _ eh).rn (g:=gB g s) hN h.cv qx aB ac _ λel k ps s' t' r' am an w p af=>?_;rw[VE] at w;have tl:Tv (N+2) (D+2)<|nd ki [.str s,nd k ps]:=oO (jc hN) (jc hD) (g8 (jc hN)<|jc hD) p;exact ko k ps am an af<|.mk (tl.mono (jz h3.1) ja) ((Uz (g:=gc g) (jc hN) hB p.flat tl.flat hs w).mono (jz h3.1)<|aV _) ⟨by ext,rfl⟩
 obtain⟨lp,d,S',bH⟩:=g;have vq:bH=kE m:=vq;subst vq;rcases m with _|_|m
 ·exact core [108] (.inl ⟨rfl,rfl⟩) ⟨hg.S,(au 1 (by lia) rfl),hg.d,hg.l,by have q:lp%100<=2-dp:=hg.q;show lp%100<=_;lia⟩ λk ps am an af rv=>ko _ am an rv<|sq<|wk 2<|.b 0 true h.p<|.q ai<|.p (bF (n:=0))<|.x (gh aB ac<|gB ⟨lp,d,S',kE 0⟩ [108])<|.q (af.mono mm)<|.x (gh am an ⟨lp,d,S',kE 0⟩) .nil
 ·exact core [109] (.inr ⟨rfl,rfl⟩) ⟨hg.S,(au 2 (by lia) rfl),hg.d,hg.l,by have q:lp%100<=2-dp:=hg.q;show lp%100<=_;lia⟩ λk ps am an af rv=>ko _ am an rv<|sq<|wk 2<|.b 0 true h.p<|.q ai<|.p (bF (n:=1))<|.x (gh aB ac<|gB ⟨lp,d,S',kE 1⟩ [109])<|.q (af.mono mm)<|.x (gh am an ⟨lp,d,S',kE 1⟩) .nil
 ·lia
noncomputable def pN(e f:Ri):List<|List Sc:=[]::(mU e f).map λr=>[(none,r)]
noncomputable def xV(q:It)(c d e f:Ri):List<|List Sc:=(mU c d).flatMap λr=>(pN e f).map λl=>(some q,r)::l
inductive Cs(N B D:Nat)(g:Gs)(k:List Nat)(ps xs:List V):Prop
 |mk (s t r rs cF a b) (e:xs=rs.map Prod.fst) (ke:Ke g.S (N+45) B k ps s t r) (rl:Rl (N+45) B (gc g).sw rs cF) (m:rs∈mU a b) (tv:Tv (N+4) (D+2) (.tup [nd k ps,.lst xs]))
def swz(h:l∈pN gf jL):l∈oB cR ck bv aK bq fE gf jL:=gq _ h
def ZR(h:l∈xV ck bq fE gf jL):l∈oB cR ck bv aK bq fE gf jL:=ei _<|gq _ h
def sw0:([]:List Sc)∈pN gf jL:=.head _
def ZY(h:rs∈mU gf jL):[((none:Option It),rs)]∈pN gf jL:=.tail _<|List.mem_map_of_mem (f:=λr=>[((none:Option It),r)]) h
def sw2(h:rs∈mU bq fE)(k:l∈pN gf jL):(some ck,rs)::l∈xV ck bq fE gf jL:=List.mem_flatMap.mpr<|au rs h<|List.mem_map_of_mem (f:=λl=>((some ck:Option It),rs)::l) k
def sw3(h:rs∈mU bv aK)(k:l∈xV ck bq fE gf jL):(some cR,rs)::l∈oB cR ck bv aK bq fE gf jL:=ei _<|ei _<|List.mem_flatMap.mpr<|au rs h<|List.mem_map_of_mem (f:=λl=>((some cR:Option It),rs)::l) k
def N0(hn:N<=N')(h:v8 N rs A)(f:A->A'):v8 N' rs A':=by
 induction rs generalizing A A' with
 |nil=>exact f h
 |cons a r ih=>exact ih h λh=>⟨h.1.mono hn,f h.2⟩
theorem Rl.mono(h:Rl N B c rs cF)(hn:N<=N'):Rl N' B c rs cF:=⟨h.e,h.pi,λP hp=>N0 hn (h.p P hp) id,h.n,h.l,λx t' ab hx hc=>by refine bJ (h.ca x t' ab hx hc) λt r e l=>?_;exact(aW t r e<|eF.mono (ji hn) l)⟩
def Rf(hN:74<=N)(hB:10*B+300<=ae)(hD:4<=D)(hl:g.bH.length<=3)(hx:xs.length<=3)(tc:∀v∈xs,Tv (N+4) (D+2) v)(h:∃l cF a b c d e f p q,l.map nr=xs/\l∈oB p q a b c d e f/\En (N+45) B (gc g).sw l cF)(a:Va g.S N B kk ps L hc aX)(t:Tv N D<|nd kk ps):Rv (N+85) (10*B+300) (D+9) g<|nd xT [nd kk ps,.lst xs]:=by refine WQ h λl cF bv aK bq fE gf jL p q q1 m e=>?_;subst q1;refine fr (S:=g.S) (jc hN) hB a _ λs r f=>?_;exact cX (UJ (g:=gc g) ia hl hB f m e) λs' r' w=>.mk ((oO (N:=N+6) (D:=D+3) (jb hN) ia (t.mono (bh _ _)<|bh _ _)<|iC (jb hN) (ju hx) tc).mono (@ja _ 8 85 rfl)<|@ja _ 5 9 rfl) (w.mono (@ja _ 85 85 rfl)<|aV _) ⟨by ext,by ext⟩
variable{S:Bool}{N du bP M B D k:Nat}{g:Gs}{ps xs:List V}{aB am:List Int}{dp ac an:Int} in
def B9(h:Rh S M N du bP B D dp)(hg:Sg S dp g)(zs:List Int)(z:Int)(J:Prop)(ko:∀k ps xs aB ac am an,Sp (M+10) 147 [.ptr 0,.int<|dp-1] (gh zs z<|gW g) (nd k ps) (gh aB ac<|gW g)->Sp (M+10) 152 [.ptr 0,.int<|dp-1] (gh aB ac<|gW g) (.lst xs) (gh am an<|gW g)->Cs N B D g k ps xs->J):J:=by have hN:=h.hN;have hM:=h.hM;have hB:=h.hB;have hd:=h.kL;have eh:=hg.sw.down;refine(h.v _ eh).en zs z _ λk ps L hc aX aB ac a t ai=>?_;refine qG (g:=gW g) hM hN hB h.cv (show g.bH.length<=3 by have:=(hg.len<|by lia).1;exact ju this) (h.r _ eh) aB ac _ λxs am an af o=>?_;refine fp o λ_ o1 aD=>?_;clear o;obtain⟨rs,cF,rfl,_,rl,bv,ri,m⟩:=o1;have S':=hg.S;subst S';refine a.ke (jc hN) (jm hB) _ λs t' r e=>?_;rw[H6 hg] at rl;exact ko k ps _ aB ac am an (ai.mono<|bh _ _) (af.mono ja)<|.mk s t' r rs cF bv ri rfl (e.mono ja) (rl.mono<|bh _ _) m<|w3 (N:=N+2) (D:=D+1) (jb hN) (by show 2<=5;decide)<|ao (t.mono (bh _ _)<|bh _ _)<|ao aD aP
variable{S:Bool}{N du bP M B D:Nat}{g:Gs}{xs:List V}{b:Bool}{aB:List Int}{dp ac:Int}{l:List Sc}{cF:List qw} in
def Xy(h:Rh S M N du bP B D dp)(hg:Sg S dp g)(zs:List Int)(z:Int)(J:Prop)(ko:∀xs aB ac,Sp (M+10) 152 [.ptr 0,.int<|dp-1] (gh zs z<|gW g) (.lst xs) (gh aB ac<|gW g)->Tv (N+4) (D+2) (.tup [.none,.lst xs])->(∃l cF a b,l.map nr=[V.tup [.none,.lst xs]]/\l∈pN a b/\En (N+45) B (gc g).sw l cF)->J):J:=by have hN:=h.hN;have hM:=h.hM;have hB:=h.hB;have hd:=h.kL;have eh:=hg.sw.down;refine qG (g:=gW g) hM hN hB h.cv (show g.bH.length<=3 by have:=(hg.len<|by lia).1;exact ju this) (h.r _ eh) zs z _ λxs am an af o=>?_;refine fp o λ_ o2 aD=>?_;clear o;obtain⟨rs,cF,rfl,_,rl,bv,ri,m⟩:=o2;rw[H6 hg] at rl;exact ko _ am an (af.mono ja) (w3 (N:=N+2) (D:=D+1) (jb hN) (by show 2<=5;decide)<|ao (jF (jb hN)<|Nat.succ_pos _)<|ao aD aP)<|rE [(none,rs)] _ bv ri rfl (ZY m)<|Ru ia<|rl.mono (bh _ _:N<=N+45)
def uc(h:Sp n f as cC v<|gh zs z<|nH g):Sp n f as cC v<|gh zs z g:=by rw[Gz] at h;exact h
noncomputable abbrev cV(k:List Nat)(ps xs:List V):V:=.tup [nd k ps,.lst xs]
inductive Ec(N B:Nat)(g:Gs)(n:Nat)(xs:List V):Prop
 |mk (l cF a b c d e f p q) (h1:l.map nr=xs) (h2:(match n with|0=>l∈pN e f|1=>l∈xV q c d e f|_=>l∈oB p q a b c d e f)) (h3:En (N+45) B (gc g).sw l cF) (h4:l.length<=n+1)
def CA(hN:74<=N):Ec N B g 0 []:=.mk [] [] (.none,[]) (.none,[]) (.none,[]) (.none,[]) (.none,[]) (.none,[]) ([],[],[]) ([],[],[]) rfl sw0 (Rz ia)<|Nat.zero_le _
theorem Ec.d(h:∃l cF a b,l.map nr=[v]/\l∈pN a b/\En (N+45) B (gc g).sw l cF):Ec N B g 0 [v]:=by
 refine me h λl cF a b e m n=>?_;refine .mk l cF a a a a a b ([],[],[]) ([],[],[]) e m n ?_;have:(l.map nr).length=1:=by rw[e];rfl
 rw[List.length_map] at this;exact Nat.le_of_eq this
theorem Ec.cs(hN:74<=N)(hl:g.bH.length<=3)(hB:10*B+300<=ae)(hn:n<=1)(h:Ec N B g n xs)(c:Cs N B D g kk ps as):Ec N B g (n+1)<|cV kk ps as::xs:=by
 obtain⟨s,t,r,rs,ads,a',b',q1,ke,rl,m',tv⟩:=c;refine zc q1 ?_;obtain⟨l,cF,a,b,c,d,e,f,p,q,q2,m,en,mV⟩:=h;subst q2;have JJ:=Pv (g:=(gc g).sw) ia hl hB ke rl en<|by omega
 rcases n with _|_|n
 ·exact .mk _ _ a b a' b' e f p (kk,ps,s) rfl (sw2 m' m) JJ (by show l.length+1<=_;exact Nat.succ_le_succ mV)
 ·exact .mk _ _ a' b' c d e f (kk,ps,s) q rfl (sw3 m' m) JJ (by show l.length+1<=_;exact Nat.succ_le_succ mV)
 ·lia
def Ec.up(h:Ec N B g n xs):∃l cF a b c d e f p q,l.map nr=xs/\l∈oB p q a b c d e f/\En (N+45) B (gc g).sw l cF:=by
 obtain⟨l,cF,a,b,c,d,e,f,p,q,h,m,en,_⟩:=h;rcases n with _|_|n
 ·exact A8 l cF a b c d e f p q h (swz m) en
 ·exact A8 l cF a b c d e f p q h (ZR m) en
 ·exact A8 l cF a b c d e f p q h m en
def Cs.tv(h:Cs N B D g k ps xs):Tv (N+4) (D+2)<|.tup [nd k ps,.lst xs]:=h.casesOn λ_ _ _ _ _ _ _ _ _ _ _ t=>t
variable{S:Bool}{N du bP M B D:Nat}{g:Gs}{zs aB:List Int}{z dp ac:Int} in
def Xw(h:Rh S M N du bP B D dp)(hg:Sg S dp g)(h3:N+85<=bP)(ai:rO M g zs z 10 aB ac):Gr (M+13) bP B D 154 [.int dp] g zs z:=by
 intro J ko;have hd:=h.kL;have hN:=h.hN;have hM:=h.hM;have hD:=h.hD;have hB:=h.hB;have rz:g.bH.length<=3:=ju (hg.len<|by lia).1;have cb:∀{n xs},Ec N B g n xs->xs.length<=3->(∀v∈xs,Tv (N+4) (D+2) v)->∀zs z,(∀k ps bg z',Sp (M+10) 147 [.ptr 0,.int<|dp-1] (gh zs z<|nH g) (nd k ps) (gh bg z'<|nH g)->Rv bP (10*B+300) (D+9) g (nd xT [nd k ps,.lst xs])->J)->J:=λ{n xs} e hx tc zs z ko=>by refine(h.v g hg.down).en zs z _ λk ps L hc aX am an a t af=>?_;rw[Gz] at ko;rw[<-hg.S] at a;exact ko k ps am an (af.mono<|bh _ _)<|(Rf hN hB hD rz hx tc e.up a t).mono h3 (aV _)<|aV _
 have d0:∀zs z,(∀xs aZ a9 a4 bm,Sp (M+10) 152 [.ptr 0,.int<|dp-1] (gh zs z<|gW g) (.lst xs) (gh aZ a9<|gW g)->Sp (M+10) 140 [.ptr 0,.int 2] (gh aZ a9<|gW g) (.int 0) (gh a4 bm<|gW g)->J)->(∀xs aZ a9 a4 bm,Sp (M+10) 152 [.ptr 0,.int<|dp-1] (gh zs z<|gW g) (.lst xs) (gh aZ a9<|gW g)->Sp (M+10) 140 [.ptr 0,.int 2] (gh aZ a9<|gW g) (.int 1) (gh a4 bm<|gW g)->Ec N B g 0 [.tup [.none,.lst xs]]->Tv (N+4) (D+2) (.tup [.none,.lst xs])->J)->J:=λzs z a b=>Xy h hg zs z _ λxs aZ a9 aH tv e=>qo (jb hM) aZ a9 _ (λa4 bm s=>a xs aZ a9 a4 bm aH s) λa4 bm s=>b xs aZ a9 a4 bm aH s (Ec.d e) tv
 refine wp (M:=M+10) (g:=gW g) (jb hM) aB ac _ (λam an af=>?_) (λam an af=>?_) λam an af=>?_
 ·refine d0 am an (λxs aZ a9 a4 bm aH a5=>?_) λxs aZ a9 a4 bm aH a5 e tv=>?_
  ·exact cb (CA hN) ia aP a4 bm λk ps fR eA bR rv=>ko _ fR eA rv<|uc<|sq<|wk 2<|.b 0 true h.p<|.q ai<|.x (gh aB ac<|gW g)<|.q af<|.p (jQ (m:=0) (n:=2) (by ext) rfl)<|.q aH<|.q a5<|.p (a6 (n:=0))<|.x (gh a4 bm<|nH g)<|.q bR .nil
  ·exact cb e ia (ao tv aP) a4 bm λk ps fR eA bR rv=>ko _ fR eA rv<|uc<|sq<|wk 2<|.b 0 true h.p<|.q ai<|.x (gh aB ac<|gW g)<|.q af<|.p (jQ (m:=0) (n:=2) (by ext) rfl)<|.q aH<|.q a5<|.p (a6 (n:=1))<|.x (gh a4 bm<|nH g)<|.q bR .nil
 ·refine B9 h hg am an _ λk₁ kP U1 az yk aN iX vn tL cE=>?_;refine d0 aN iX (λxs aZ a9 a4 bm aH a5=>?_) λxs aZ a9 a4 bm aH a5 e tv=>?_
  ·exact cb (Ec.cs hN rz hB ia (CA hN) cE) ia (ao cE.tv aP) a4 bm λk ps fR eA bR rv=>ko _ fR eA rv<|uc<|sq<|wk 2<|.b 0 true h.p<|.q ai<|.x (gh aB ac<|gW g)<|.q af<|.p (jQ (m:=1) (n:=2) (by ext) rfl)<|.q vn<|.q tL<|.p (bF (n:=0))<|.q aH<|.q a5<|.p (a6 (n:=1))<|.x (gh a4 bm<|nH g)<|.q bR .nil
  ·exact cb (Ec.cs hN rz hB ia e cE) ia (ao cE.tv<|ao tv aP) a4 bm λk ps fR eA bR rv=>ko _ fR eA rv<|uc<|sq<|wk 2<|.b 0 true h.p<|.q ai<|.x (gh aB ac<|gW g)<|.q af<|.p (jQ (m:=1) (n:=2) (by ext) rfl)<|.q vn<|.q tL<|.p (bF (n:=0))<|.q aH<|.q a5<|.p (a6 (n:=2))<|.x (gh a4 bm<|nH g)<|.q bR .nil
 ·refine B9 h hg am an _ λk₁ kP U1 az yk aN iX vn tL cE=>?_;refine B9 h hg aN iX _ λay aw adb dx xX dK eB Jb I0 iG=>?_;refine d0 dK eB (λxs aZ a9 a4 bm aH a5=>?_) λxs aZ a9 a4 bm aH a5 e tv=>?_
  ·exact cb (Ec.cs hN rz hB ia (Ec.cs hN rz hB ia (CA hN) iG) cE) ia (ao cE.tv<|ao iG.tv aP) a4 bm λk ps fR eA bR rv=>ko _ fR eA rv<|uc<|sq<|wk 2<|.b 0 true h.p<|.q ai<|.x (gh aB ac<|gW g)<|.q af<|.p (jQ (m:=2) (n:=2) (by ext) rfl)<|.q vn<|.q tL<|.p (bF (n:=0))<|.q Jb<|.q I0<|.p (bF (n:=1))<|.q aH<|.q a5<|.p (a6 (n:=2))<|.x (gh a4 bm<|nH g)<|.q bR .nil
  ·exact cb (Ec.cs hN rz hB ia (Ec.cs hN rz hB ia e iG) cE) ia (ao cE.tv<|ao iG.tv<|ao tv aP) a4 bm λk ps fR eA bR rv=>ko _ fR eA rv<|uc<|sq<|wk 2<|.b 0 true h.p<|.q ai<|.x (gh aB ac<|gW g)<|.q af<|.p (jQ (m:=2) (n:=2) (by ext) rfl)<|.q vn<|.q tL<|.p (bF (n:=0))<|.q Jb<|.q I0<|.p (bF (n:=1))<|.q aH<|.q a5<|.p (a6 (n:=3))<|.x (gh a4 bm<|nH g)<|.q bR .nil
abbrev Sr(M:Nat)(b:Bool)(g:Gs)(zs:List Int)(z:Int)(k:Nat)(aB:List Int)(ac:Int):Prop:=Sp (M+10) 140 [.ptr 0,.int<|bif b then 14 else 4] (gh zs z g) (.int (k:Nat))<|gh aB ac g
section
variable{S:Bool}{N du bP M B D n m k:Nat}{g:Gs}{s:List Nat}{v:V}{ps xs:List V}{b:Bool}{zs aB am aZ:List Int}{z dp ac an a9:Int}{t:Tk}{r:Rr}
def yJ(hN:22<=du)(h3:du+52<=bP)(hB:4*B+200<=ae)(hl:g.bH.length<=3)(hD:2<=D)(hw:Gn M 147 [.int dp] g<|Ve g.S du B D)(hp:bQ 0 dp=b)(hk:k=0\/k=1)(ai:Sr M b g zs z k aB ac):Gr (M+13) bP B D 154 [.int dp] g zs z:=by
 intro J ko;refine hw aB ac _ λv am an p af=>?_;have rv:=(Tf hN hB hl p hD).mono h3 (jo rfl:_<=10*B+300) (ja rfl:_<=D+9);have af:=af.mono (bh _ _:M<=M+10);refine DZ p λk ps _ _ _ q1 _=>?_;clear p;refine zb q1 ?_;refine ko _ am an rv ?_;cases b
 ·rcases hk with rfl|rfl<;>exact sq<|wk 2<|.b 0 false hp<|.q ai<|.q af .nil
 ·rcases hk with rfl|rfl<;>exact sq<|wk 2<|.b 0 true hp<|.q ai<|.q af .nil
def G3(hN:28<=N)(h3:N+52<=bP)(hB:4*B+200<=ae)(hl:g.bH.length<=3)(h:Vw g.S N B D xs):Rv bP (10*B+300) (D+9) g<|nd eK [.lst xs]:=by obtain⟨h,t⟩:=h;exact gz (h false) λs t' r v _=>.mk (t.mono (jz h3) ja) ((T2 (g:=gc g) ia hl hB v).mono h3 jo) ⟨by ext,by ext⟩
def J2(hM:20<=M)(hN:28<=N)(h3:N+52<=bP)(hB:4*B+200<=ae)(hl:g.bH.length<=3)(hD:2<=D)(hv:Gn M 147 [.int<|dp-1] g<|Ve g.S N B D)(hp:bQ 0 dp=b)(ai:Sr M b g zs z 2 aB ac):Gr (M+13) bP B D 154 [.int dp] g zs z:=by
 intro J ko;refine qo (M:=M+10) (g:=g) (jb hM) aB ac _ (λam an af=>?_) λam an af=>?_
 ·
   refine Fa hM hN hB (Nat.le_of_lt hD) hv am an _ λfj aZ a9 aH vw=>?_;have aH:=aH.mono (ja rfl:M+3<=M+10);refine ko _ aZ a9 (G3 hN h3 hB hl vw) ?_;cases b
   ·exact sq<|wk 2<|.b 0 false hp<|.q ai<|.q af<|.q aH .nil
   ·exact sq<|wk 2<|.b 0 true hp<|.q ai<|.q af<|.q aH .nil
 ·
   refine Fy hM hN hB (Nat.le_of_lt hD) hv am an _ λfj eT aZ a9 aH vw=>?_;have aH:=aH.mono (ja rfl:M+3<=M+10);refine ko _ aZ a9 (G3 hN h3 hB hl vw) ?_;cases b
   ·exact sq<|wk 2<|.b 0 false hp<|.q ai<|.q af<|.q aH .nil
   ·exact sq<|wk 2<|.b 0 true hp<|.q ai<|.q af<|.q aH .nil
def Jz(hM:20<=M)(hN:22<=du)(h3:du+52<=bP)(hB:4*B+200<=ae)(cv:20<=B)(hm:m<=2)(hg:g.bH=kE m)(hd:0<=g.d)(hD:4<=D)(hw:Gn M 147 [.int dp] g<|Ve g.S du B D)(hp:bQ 0 dp=b)(ai:Sr M b g zs z 3 aB ac):Gr (M+13) bP B D 154 [.int dp] g zs z:=by
 intro J ko;refine OW hM hN hB cv hD hm hg hd hw aB ac _ λv am an rv af=>?_;have af:=af.mono (ja rfl:M+3<=M+10);have rv:=rv.mono h3 (jo rfl:_<=10*B+300) (ja rfl:_<=D+9);have hv:∃k ps,v=nd k ps:=by rcases rv.2 with⟨_,k,ps,_,_,_,e,_⟩|⟨_,k,ps,_,_,_,e,_⟩|⟨_,_,e⟩<;>exact bT _ _ e
 refine cX hv λk ps q2=>?_;clear hv;subst q2;refine ko _ am an rv ?_;cases b
 ·exact sq<|wk 2<|.b 0 false hp<|.q ai<|.q af .nil
 ·exact sq<|wk 2<|.b 0 true hp<|.q ai<|.q af .nil
def UG(hM:20<=M)(hN:28<=N)(h3:N+52<=bP)(hB:4*B+200<=ae)(cv:20<=B)(hD:4<=D)(hm:m<=2)(hg:g.bH=kE m)(hd:0<=g.d)(hp:bQ 0 dp=false)(hv:Gn M 147 [.int<|dp-1] g<|Ve g.S N B D)(hw:Gn M 147 [.int dp] g<|Ve g.S N B D):Gn (M+13) 154 [.int dp] g<|Rv bP (10*B+300) (D+9) g:=λzs z J ko=>by
 have hl:g.bH.length<=3:=by rw[hg];rcases m with _|_|m<;>exact ia rfl
 refine tk4 (M:=M+10) (g:=g) (jb hM) zs z _ (λaB ac ai=>?_) (λaB ac ai=>?_) (λaB ac ai=>?_) λaB ac ai=>?_
 ·exact yJ (jc hN) h3 hB hl (jc hD) hw hp (.inl rfl) ai _ ko
 ·exact yJ (jc hN) h3 hB hl (jc hD) hw hp (.inr rfl) ai _ ko
 ·exact J2 hM hN h3 hB hl (jc hD) hv hp ai _ ko
 ·exact Jz hM (jc hN) h3 hB cv hm hg hd hD hw hp ai _ ko
def UX(h:Rh S M N du bP B D dp)(hg:Sg S dp g)(h3:N+85<=bP):Gn (M+13) 154 [.int dp] g<|Rv bP (10*B+300) (D+9) g:=λzs z J ko=>by have hd:=h.kL;have hN:=h.hN;have hM:=h.hM;have hD:=h.hD;have hB:=h.hB;have cv:=h.cv;have h4:=h.h3;have hl:=(hg.len<|by lia).1;refine aA hg.m λm hm vq=>?_;have hw:=h.w g hg.down;have hv:=h.v g hg.down;rw[<-hg.S] at hw hv;exact tk (M:=M+10) (g:=g) (jb hM) (n:=14) (by ext) zs z _ λk aB ac hk=>IA hk (λai=>yJ h4.2.2 (jz h4.2.1) (jm hB) (ju hl) (jc hD) hw h.p (.inl rfl) ai J ko) (λai=>yJ h4.2.2 (jz h4.2.1) (jm hB) (ju hl) (jc hD) hw h.p (.inr rfl) ai J ko) (λai=>J2 hM (jc hN) (jz h3) (jm hB) (ju hl) (jc hD) hv h.p ai J ko) (λai=>Jz hM h4.2.2 (jz h4.2.1) (jm hB) (jc cv) (show m<=2 by lia) vq hg.d hD hw h.p ai J ko) (λai=>Vv h hg ai J ko) (λai=>U3 h hg ai J ko) (λai=>w7 h.p (.inl rfl) ai (WU h hg _ _) J ko) (λai=>w7 h.p (.inr<|.inl rfl) ai (XZ h hg _ _) J ko) (λai=>w7 h.p (.inr<|.inr<|.inl rfl) ai (V3 h hg _ _) J ko) (λai=>w7 h.p (.inr<|.inr<|.inr rfl) ai (V6 h hg _ _) J ko) (λai=>Xw h hg h3 ai J ko) (λai=>Vu h hg ai J ko) (λai=>Vy h hg ai J ko) λai=>VD h hg ai J ko
end
def Be(N B:Nat)(g:Gc)(v:V):Prop:=(∃n a ah t r,v=d6 (tg n a)/\n∈mY g.S/\(n=0\/n=1\/((n=2\/n=3)/\ah=false))/\Bo N B g n a ah t r)/\∃a t r,v=nd a.1 a.2.1/\Bj N B g a t r
def Gb(N B D:Nat)(g:Gc)(v:V):Prop:=∃xs w f,v=.lst xs/\Bd N B g xs w f/\(∀v∈xs,Tv N D v)/\xs.length<=2
def Bo.up(h:Bo N B c n a ah t r)(hb:B<=B'):Bo N B' c n a ah t r:=⟨aG h.l hb,h.pi,h.f,h.sT,h.sF,h.p⟩
theorem El.mono(e:El N c kk ps t r)(hN:N<=N'):El N' c kk ps t r:=⟨e.f,λx t' ab hx he=>(e.el x t' ab hx he).mono hN⟩
def ye(h:n∈[1,2,3]):n∈mY S:=by
 induction S with
 |true=>exact h
 |false=>exact .tail _ h
def UQ(hN:74<=N)(hB:280<=B)(hl:g.bH.length<=3)(h:Rv N B D g v):Be (N+4) B (gc g) v:=by
 rcases h.2 with⟨el,k,ps,s,t,r,rfl,q,w⟩|⟨el,k,ps,s,t,r,rfl,q,w⟩|⟨q,hq,rfl⟩
 ·have e:=(w.mono (N':=N+2) (bh _ _)<|aV _).e (jb hN);have pr:=w.pr.mono (bh _ _:N<=N+4);exact⟨(tX 2 _ _ _ _ rfl (ye<|.tail _<|.head _) (.inr<|.inr ⟨.inl rfl,rfl⟩)<|GV (jb hN) q.1 q.2 e pr w.l w.pi),(fK _ _ _ rfl<|xc (jb hN) e pr w.l w.pi)⟩
 ·have w:=w.mono (N':=N+2) (bh _ _) (aV _);exact⟨(tX 3 _ _ _ _ rfl (ye<|.tail _<|.tail _<|.head _) (.inr<|.inr ⟨.inr rfl,rfl⟩)<|UC (jb hN) q w),(fK (di,[nd k ps],s) _ _ rfl<|xc (jb hN) (w.e<|jb hN) (w.pr.mono ja) w.l w.pi)⟩
 ·have hl:(gc g).nl<=3:=hl;have lm:4*20+200<=ae:=a6 (n:=280);obtain⟨n,rfl⟩:∃n,N=n+52:=⟨N-52,by lia⟩;have w:=((uS (g:=gc g) (N:=n) (B:=20) (jk hN) hl lm (by ext) hq).2.mono (N':=n+52+2) (B':=B) (@ja _ 52 54 rfl) hB);refine⟨?_,(fK (di,_,_) _ _ rfl<|xc ia (w.e ia) (w.pr.mono<|@ja _ 54 56 rfl) w.l w.pi)⟩;by_cases hu:(gc g).S=false/\lq q.1.v fi=true
  ·obtain⟨hS,hu⟩:=hu;have e:q.1.v=fi:=(dR _ _).mp hu;rw[e];exact tX 0 ([],[],[]) false _ _ rfl (by rw[hS];exact .head _) (.inl rfl)<|(Gm (N:=n+2) (j0 hN) hl lm (by ext) hS ([],[],[])).up hB
  ·exact tX 1 _ _ _ _ rfl (ye<|.head _) (.inr<|.inl rfl) ((S2 (N:=n+2) (j0 hN) hl lm (by ext) hq λhS=>by
    cases e:lq q.1.v fi with
    |true=>exact absurd ⟨hS,e⟩ hu
    |false=>rfl).up hB)
def Uu(hN:30<=N)(ze:N+13<=N')(hB:4*B+200<=ae)(ZX:4*B+200<=B')(hD:1<=D)(hl:g.bH.length<=3)(h:Pf g.S N B D kO (λo p=>∃s∈cq,o=some s) v):Be N' B' (gc g) v/\Tv (N+13) (D+3) v/\∃l,v=nd dE l:=by refine wn h λo pl xs w f q1 o1 hp bd t l=>?_;clear h;subst q1;refine aA o1 λs hs q2=>?_;clear o1;subst q2;refine cX (FF hN (jm hB) (λv hv=>(t v hv).flat) bd hp hs<|.inr rfl) λF q fw=>?_;refine rP (T0 (g:=gc g) (N:=N+10) (jj hN) hB hl fw) λe pr ln pi=>?_;have e:=e.mono ze;have pr:=pr.mono ze;have ln:=aG ln ZX;exact rx ⟨(tX 2 (dE,_,_) false _ _ rfl (ye<|.tail _<|.head _) (.inr<|.inr ⟨.inl rfl,rfl⟩)<|GV (ib hN ze) (by ext) (by ext) e pr ln pi),(fK (dE,_,_) _ _ rfl<|xc (ib hN ze) e pr ln pi)⟩ ((AW (so:=kO) (o:=some s) (b:=g.S) (jc hN) hD hp t l).mono ja ja) ⟨_,rfl⟩
def Zx(hN:78<=N)(hB:2*B+1<=ae)(h:Be N B c v):∃w f,Bd (N+2) B c [v] w f:=by obtain⟨⟨n,a,ah,t,r,rfl,hn,_,o⟩,_⟩:=h;exact bT _ _<|bd1 hN hB hn o
def YS(hN:78<=N)(hB:2*B+1<=ae)(h:Be N B c v)(aL:Be N B c eT):∃w f,Bd (N+2) B c [v,eT] w f:=by
 obtain⟨⟨n,a,ah,t,r,rfl,hn,k,o⟩,_⟩:=h;obtain⟨o2,o3⟩:=aL;refine gz o3 λCo bM cm cD j=>?_;refine DN o2 λm aK Hl aD aM e hm _ d8=>?_;have lo:n=0\/n=1->∃w f,Bd (N+2) B c [d6<|tg n a,eT] w f:=λhk=>by rw[e];exact bT _ _<|bd2 hN hB hn hk hm o d8
 rcases k with k|k|⟨k,rfl⟩
 ·exact lo<|.inl k
 ·exact lo<|.inr k
 ·rw[cD];exact bT _ _<|bd3 hN hB hn k o j
def Eb1(M:Nat)(g:Gs)(dp:Int)(l:List Nat)(q:List V)(zs:List Int)(z:Int)(bg:List Int)(z':Int):Prop:=(bQ 0 dp=false/\Sp M 154 [.ptr 0,.int dp] (gh zs z g) (nd l q) (gh bg z' g))\/(bQ 0 dp=true/\∃j:Nat,∃aB ac,Sp M 140 [.ptr 0,.int 5] (gh zs z g) (.int (j:Int)) (gh aB ac g)/\((j=0/\Sp M 150 [.ptr 0,.int dp,.str kO] (gh aB ac g) (nd l q) (gh bg z' g))\/((∃i,j=i+1)/\Sp M 154 [.ptr 0,.int dp] (gh aB ac g) (nd l q) (gh bg z' g))))
variable{M:Nat}{g:Gs}{v:V}{bg:List Int}{z' dp:Int}{P:V->Prop} in
def Jq(hM:17<=M)(hP:∀v,P v->∃l q,v=nd l q)(Hr:Gn M 154 [.int dp] g P)(Hf:bQ 0 dp=true->Gn M 150 [.int dp,.str kO] g P)(zs:List Int)(z:Int)(J:Prop)(ko:∀l q bg z',P (nd l q)->Eb1 M g dp l q zs z bg z'->J):J:=by
 cases hp:bQ 0 dp with
 |false=>refine Hr zs z _ λv aB ac p s=>?_;refine cX (hP v p) λl q q1=>?_;subst q1;exact ko l q aB ac p<|.inl ⟨hp,s⟩
 |true=>
  refine tk (M:=M) (g:=g) hM (n:=5) (by ext) zs z _ λj aB ac hj ai=>?_;rcases j with _|j
  ·refine Hf hp aB ac _ λv am an p s=>?_;refine cX (hP v p) λl q q2=>?_;subst q2;exact ko l q am an p<|.inr ⟨hp,(fK 0 aB ac ai<|.inl ⟨rfl,s⟩)⟩
  ·refine Hr aB ac _ λv am an p s=>?_;refine cX (hP v p) λl q q3=>?_;subst q3;exact ko l q am an p<|.inr ⟨hp,(fK (j+1) aB ac ai<|.inr ⟨⟨j,rfl⟩,s⟩)⟩
variable{N M B D:Nat}{g:Gs}{v:V}{dp:Int} in
def Ub(hM:17<=M)(hN:78<=N)(hB:2*B+1<=ae)(Hr:Gn M 154 [.int dp] g λv=>Be N B (gc g) v/\Tv (N+2) D v/\∃l q,v=nd l q)(Hf:bQ 0 dp=true->Gn M 150 [.int dp,.str kO] g λv=>Be N B (gc g) v/\Tv (N+2) D v/\∃l q,v=nd l q)(k:Nat)(hk:k<2):Gn (M+2) 151 [.int dp,.int<|1+(k:Int)] g<|Gb (N+2) B D<|gc g:=λzs z J ko=>by
 refine Jq hM (λv p=>p.2.2) Hr Hf zs z _ λrm ak aB ac cR da=>?_;revert ko;refine lE hk (λko=>?_) λko=>?_
 ·
   refine cX (Zx hN hB cR.1) λw f bd=>?_;refine ko _ aB ac (jE _ w f rfl bd (ao cR.2.1 aP) (by show 1<=2;decide)) ?_;have rg:=jQ (m:=1) (n:=2) (by ext) rfl;rcases da with⟨hp,s⟩|⟨hp,j,x,y,u,⟨rfl,s⟩|⟨⟨i,rfl⟩,s⟩⟩
   ·exact sq<|wk 1<|.p rg<|.b 0 false hp<|.q s<|.p (bF (n:=0)) .nil
   ·exact sq<|wk 1<|.p rg<|.b 0 true hp<|.q u<|.q s<|.p (bF (n:=0)) .nil
   ·exact sq<|wk 1<|.p rg<|.b 0 true hp<|.q u<|.q s<|.p (bF (n:=0)) .nil
 ·
   refine Jq hM (λv p=>p.2.2) Hr Hf aB ac _ λrh aC am an ck bj=>?_;refine cX (YS hN hB cR.1 ck.1) λw f bd=>?_;refine ko _ am an (jE _ w f rfl bd (ao cR.2.1<|ao ck.2.1 aP) (by show 2<=2;decide)) ?_;have rg:=jQ (m:=2) (n:=2) (by ext) rfl;rcases da with⟨hp,s⟩|⟨hp,j,x,y,u,⟨rfl,s⟩|⟨⟨i,rfl⟩,s⟩⟩<;>rcases bj with⟨fx,s'⟩|⟨fx,j',x',y',u',⟨rfl,s'⟩|⟨⟨i',rfl⟩,s'⟩⟩
   ·exact sq<|wk 1<|.p rg<|.b 0 false hp<|.q s<|.p (bF (n:=0))<|.b 0 false hp<|.q s'<|.p (bF (n:=1)) .nil
   ·rw[hp] at fx;exact nj fx
   ·rw[hp] at fx;exact nj fx
   ·rw[hp] at fx;exact nk fx
   ·exact sq<|wk 1<|.p rg<|.b 0 true hp<|.q u<|.q s<|.p (bF (n:=0))<|.b 0 true hp<|.q u'<|.q s'<|.p (bF (n:=1)) .nil
   ·exact sq<|wk 1<|.p rg<|.b 0 true hp<|.q u<|.q s<|.p (bF (n:=0))<|.b 0 true hp<|.q u'<|.q s'<|.p (bF (n:=1)) .nil
   ·rw[hp] at fx;exact nk fx
   ·exact sq<|wk 1<|.p rg<|.b 0 true hp<|.q u<|.q s<|.p (bF (n:=0))<|.b 0 true hp<|.q u'<|.q s'<|.p (bF (n:=1)) .nil
   ·exact sq<|wk 1<|.p rg<|.b 0 true hp<|.q u<|.q s<|.p (bF (n:=0))<|.b 0 true hp<|.q u'<|.q s'<|.p (bF (n:=1)) .nil
def Vk(S:Bool)(dp:Int)(M N B D:Nat):Prop:=∀e g,Sg S e g->Gn M 147 [.int dp] g (Ve S N B D)
def rS(S:Bool)(dp:Int)(M N B D:Nat):Prop:=∀e g,Sg S e g->Gn M 146 [.int dp] g (Vt S N B D)
def Rk(S:Bool)(dp:Int)(M N B D:Nat):Prop:=∀g,Sg S dp g->Gn M 154 [.int dp] g (Rv N B D g)
def Bk(S:Bool)(dp:Int)(M N B D:Nat):Prop:=∀g,Sg S dp g->∀k:Nat,k<2->Gn M 151 [.int dp,.int<|1+(k:Int)] g (Gb N B D<|gc g)
section
variable{S:Bool}{N N' Nb du bP M M' B B' D D' m k:Nat}{g:Gs}{v:V}{ps xs:List V}{b:Bool}{dp e:Int}{t:Tk}
theorem Vk.up(h:Vk S dp M N B D)(hm:M<=M')(hn:N<=N')(hb:B<=B')(hd:D<=D'):Vk S dp M' N' B' D':=λe g hg=>(h e g hg).mono hm λ_ p=>p.mono hn hb hd
theorem rS.up(h:rS S dp M N B D)(hm:M<=M')(hn:N<=N')(hb:B<=B')(hd:D<=D'):rS S dp M' N' B' D':=λe g hg=>(h e g hg).mono hm λ_ p=>p.mono hn hb hd
theorem Rk.up(h:Rk S dp M N B D)(hm:M<=M')(hn:N<=N')(hb:B<=B')(hd:D<=D'):Rk S dp M' N' B' D':=λg hg=>(h g hg).mono hm λ_ p=>p.mono hn hb hd
theorem Bk.up(h:Bk S dp M N B D)(hm:M<=M')(hn:N<=N')(hb:B<=B')(hd:D<=D'):Bk S dp M' N' B' D':=λg hg k hk=>(h g hg k hk).mono hm λ_ p=>by exact fH p λxs w f e bd t l=>jE xs w f e (bd.mono hn hb) (λv hv=>(t v hv).mono hn hd) l
theorem vU(h:dQ dp 0):Vk S dp 22 22 20 4:=λe g hg=>Ti h
theorem Ky(hM:20<=M)(hN:22<=N)(hB:4*B+200<=ae)(cv:20<=B)(hD:4<=D)(h:Vk S (dp-1) M N B D):rS S dp (M+3) (N+50) (4*B+200)<|D+2:=λe g hg=>EV hM hN hB cv hD<|h e g hg
theorem Sg.into(h:Sg S e g)(hd:dp<=2):Sg S dp<|jU g:=⟨h.S,(au 0 (by lia) rfl),by have:=h.d;show 0<=g.d+1;lia,Int.le_refl _,by show(0:Int)%100<=_;lia⟩
theorem Wq(h:Sg S e g):gc (jU g)=gF S:=by have e1:bQ 0<|g.d+1:=kT (by have:=h.d;lia);have e2:=h.S;show Gc.mk g.S 0 (bQ 0<|g.d+1) (bQ 0<|(0:Int)%100) (bQ 0 0)=_;rw[e1,e2];rfl
theorem Bk.gd(h:Bk S dp M N B D)(hd:dp<=2)(hg:Sg S e g):∀k:Nat,k<2->Gn M 151 [.int dp,.int<|1+(k:Int)] (jU g) (Gd g.S N B D):=λk hk=>by have:=h (jU g) (hg.into hd) k hk;rw[Wq hg] at this;rw[hg.S];exact this
theorem JW(hp:dQ dp 0=false)(hd:dp<=2)(hM:20<=M)(hN:22<=N)(hb:30<=Nb/\Nb+4<=N+29)(hB:8*B+400<=ae)(cv:20<=B)(hD:4<=D)(hv:Vk S (dp-1) M N B D)(ht:rS S (dp-1) M N B D)(h:Bk S (dp-1) M Nb B D):Vk S dp (M+13) (N+55) (8*B+400)<|D+7:=λe g hg=>by have S':=hg.S;subst S';exact QT ⟨hM,hN,jm hB,cv,hD,hv e g hg,ht e g hg,hp⟩ hN hb hB hg.fl<|h.gd (by lia) hg
theorem r_0(hM:20<=M)(hN:28<=N)(hB:4*B+200<=ae)(cv:20<=B)(hD:4<=D)(hv:Vk S (0-1) M N B D)(hw:Vk S 0 M N B D):Rk S 0 (M+13) (N+52) (10*B+300)<|D+9:=λg hg=>by refine aA hg.m λm hm e=>?_;have S':=hg.S;subst S';exact UG hM hN (aV _) hB cv hD (show m<=2 by lia) e hg.d (by ext) (hv 0 g hg)<|hw 0 g hg
theorem Ku(hp:bQ 0 dp)(hM:20<=M)(hN:74<=N)(dT:22<=du)(h3:N+85<=bP)(h4:du+60<=bP)(hB:10*B+300<=ae)(cv:280<=B)(hD:4<=D)(hv:Vk S (dp-1) M N B D)(hr:Rk S (dp-1) M N B D)(ht:rS S dp M N B D)(hw:Vk S dp M du B D):Rk S dp (M+13) bP (10*B+300)<|D+9:=λg hg=>UX ⟨⟨jz h3,h4,dT⟩,hM,hN,hB,cv,hD,λg hg=>hv _ g hg,hr,λg hg=>ht _ g hg,λg hg=>hw _ g hg,hp⟩ hg h3
theorem C9(hd:dp<=2)(Z8:0<=dp)(hM:20<=M)(hN:74<=N)(hb:30<=Nb/\Nb+9<=N)(hB:2*B+1<=ae)(cv:4*B'+200<=B)(h2:280<=B)(hD:1<=D')(hD':D'+3<=D)(hr:Rk S dp M N B D)(hf:bQ 0 dp=true->Bk S (dp-1) (M-3) Nb B' D'):Bk S dp (M+2) (N+6) B D:=λg hg=>by
 have hl:g.bH.length<=3:=by have:=(hg.len Z8).1;exact ju this
 have S':=hg.S;refine zb S' ?_;refine Ub (N:=N+4) (jc hM) (jb hN) hB ((hr g hg).mono (aV _) λv p=>⟨UQ hN h2 hl p,p.1.mono (bh _ 6)<|aV _,?_⟩) λhp=>(R1 (M:=M-3) (jh hM) hg.fl<|(hf hp).gd (by lia) hg).mono (by lia) λv p=>?_
 ·rcases p.2 with⟨_,k,ps,_,_,_,e,_⟩|⟨_,k,ps,_,_,_,e,_⟩|⟨_,_,e⟩<;>exact bT _ _ e
 ·refine fp (Uu hb.1 (jy hb.2 rfl:Nb+13<=N+4) (by lia) cv hD hl p) λb t o1=>?_;obtain⟨l,e⟩:=o1;exact rx b (t.mono (jy (b:=6) hb.2) hD')<|bT _ _ e
end
def C1(h:dQ (dp-1) 0):rS S dp 25 72 280 6:=Ky (by ext) (by ext) (a6 (n:=280)) (by ext) (by ext)<|vU h
def Ji:Rk S 0 35 80 500 13:=r_0 (by ext) (by ext) (a6 (n:=280)) (by ext) (by ext) ((vU<|by ext).up (by ext) (show 22<=28 by ext) (aV 20)<|aV 4)<|(vU<|by ext).up (by ext) (by ext) (by ext)<|by ext
def Jp:Bk S 0 37 86 500 13:=C9 (M:=35) (N:=80) (Nb:=30) (B':=20) (D':=4) (by ext) (by ext) (by ext) (by ext) (by ext) (a6 (n:=1001)) (by ext) (by ext) (by ext) (by ext) (Ji) λh=>Bool.noConfusion<|(show bQ 0 0=false by ext).symm.trans h
def x9:Vk S 1 50 127 4400 20:=JW (M:=37) (N:=72) (Nb:=86) (B:=500) (D:=13) (by ext) (by ext) (by ext) (by ext) (by ext) (a6 (n:=4400)) (by ext) (by ext) ((vU<|by ext).up (by ext) (by ext) (by ext)<|by ext) ((C1<|by ext).up (by ext) (by ext) (by ext)<|by ext)<|Jp
def Iq:Rk S 1 63 187 44300 29:=Ku (M:=50) (N:=80) (du:=127) (B:=4400) (D:=20) (by ext) (by ext) (by ext) (by ext) (by ext) (by ext) (a6 (n:=44300)) (by ext) (by ext) ((vU<|by ext).up (by ext) (by ext) (by ext)<|by ext) ((Ji).up (by ext) (by ext) (by ext)<|by ext) ((C1<|by ext).up (by ext) (by ext) (by ext)<|by ext)<|x9
def Jl:Bk S 1 65 193 44300 29:=C9 (M:=63) (N:=187) (Nb:=86) (B':=500) (D':=13) (by ext) (by ext) (by ext) (by ext) (by ext) (a6 (n:=88601)) (by ext) (by ext) (by ext) (by ext) (Iq) λ_=>(Jp).up (by ext) (by ext) (by ext)<|by ext
def YF:Vk S 2 78 223 354800 36:=JW (M:=65) (N:=168) (Nb:=193) (B:=44300) (D:=29) (by ext) (by ext) (by ext) (by ext) (by ext) (a6 (n:=354800)) (by ext) (by ext) ((x9).up (by ext) (by ext) (by ext)<|by ext) ((C1<|by ext).up (by ext) (by ext) (by ext)<|by ext)<|Jl
def YO:Rk S 2 91 283 3548300 45:=Ku (M:=78) (N:=187) (du:=223) (B:=354800) (D:=36) (by ext) (by ext) (by ext) (by ext) (by ext) (by ext) (a6 (n:=3548300)) (by ext) (by ext) ((x9).up (by ext) (by ext) (by ext)<|by ext) ((Iq).up (by ext) (by ext) (by ext)<|by ext) ((Ky (by ext) (by ext) (a6 (n:=17800)) (by ext) (by ext)<|x9).up (by ext) (by ext) (by ext)<|by ext)<|YF
def Zg:Bk S 2 93 289 3548300 45:=C9 (M:=91) (N:=283) (Nb:=193) (B':=44300) (D':=29) (by ext) (by ext) (by ext) (by ext) (by ext) (a6 (n:=7096601)) (by ext) (by ext) (by ext) (by ext) (YO) λ_=>(Jl).up (by ext) (by ext) (by ext)<|by ext
noncomputable def g0(S:Bool):Gs:=⟨0,0,S,[]⟩
noncomputable def io:V:=nd di [nd dm [.str fi]]
def Pg(N:Nat)(xs:List V)(S:Bool):Prop:=∃T,Sp N 76 [.lst xs,.bool S] [] (.str T) []/\Sp (N+9) 138 [.str T] [] (nd u7 [.lst xs,.bool S]) []
def wA:Cr (gc<|g0 S)<|x0 T S:=
 have e:bQ 0 0=false:=by ext
 ⟨rfl,rfl,λh=>Bool.noConfusion<|e.symm.trans h,λh=>Bool.noConfusion<|e.symm.trans h,λh=>Bool.noConfusion<|e.symm.trans h,Int.le_refl 0,Int.le_refl 0,Int.le_refl 0⟩
def CZ(h:T.length<=ae):At T 0 T:=⟨rfl,h,Nat.zero_le _⟩
def C8(bd:Bd N B (gc<|g0 S) xs w f):aq (w++[])<|f [.en]:=bd.lex [] [.en]<|aq.en<|.nil []
def YZ(hN:78<=N)(hB:2*B+50<=ae)(bd:Bd N B (gc<|g0 false) xs w f)(hf:aT<|.lst xs):Pg N xs false:=by refine dW (bd.lp true true [] (x0 w false) .en [] wA (by ext) rfl<|Dk) λt r e _ l=>?_;have a:=C8 bd;rw[List.append_nil,e] at a;exact au w bd.code<|AD (d:=N+5) (jb hN) hf (AN a 0<|CZ (by have:=bd.l;lia))<|zr l
def X3(hN:78<=N)(hB:2*B+50<=ae)(bd:Bd N B (gc<|g0 false) xs w f)(hf:aT<|.lst<|io::xs):Pg N (io::xs) false:=by
 obtain⟨n,rfl⟩:∃n,N=n+54:=⟨N-54,by lia⟩;have o:=Gm (N:=n) (B:=20) (g:=gc<|g0 false) (jk hN) (show 0<=3 by ext) (a6 (n:=280)) (by ext) rfl ([],[],[]);have ln:(tB++[32]++w).length<=ae:=by have:=bd.l;simp only[bO];show 15+1+w.length<=ae;lia
 refine dW (bd.lp true false [io] (x0 (tB++[32]++w) false) .en [] wA (by show 1<=1;decide) rfl<|Dk) λt r e nx l=>?_;have a:=C8 bd;rw[List.append_nil,e] at a;have a:aq (tB++(32::w))<|.pt [40]::.tx fi true::.pt [41]::.pt [59]::t::r:=o.pi.lex _ _<|a.b bd.c;rw[show tB++(32::w)=tB++[32]++w by rw[bz];rfl] at a;exact au _ (bd.cz ([],[],[]) (λh=>by exact nj h) ln)<|AD (d:=n+54+5) ia hf (AN a 0<|CZ ln)<|zr<|o.sT true _ t r [] _ _ _ wA nx (bF (n:=0)) l
def Xn(hN:78<=N)(hB:2*B+50<=ae)(bd:Bd N B (gc<|g0 true) xs w f)(hf:aT<|.lst<|io::xs):Pg N (io::xs) true:=by
 refine aA G4 λq hq e=>?_;have vS:=(uS (g:=gc<|g0 false) (N:=22) (B:=20) (by ext) (show 0<=3 by ext) (a6 (n:=280)) (by ext) hq).2;rw[e] at vS;have ln:(pJ.1.1++[59]++[32]++w).length<=ae:=by have:=bd.l;simp only[bO];show 12+1+1+w.length<=ae;lia
 refine dW (bd.lp true true [io] (x0 (pJ.1.1++[59]++[32]++w) true) .en [] wA (by show 1<=1;decide) rfl<|Dk) λt r e nx l=>?_;have a:=C8 bd;rw[List.append_nil,e] at a;have a:=vS.lex _ _<|a.b bd.c;rw[show pJ.1.1++[59]++(32::w)=pJ.1.1++[59]++[32]++w by rw[bz<|pJ.1.1++[59]];rfl] at a;have p:=vS.iq (x0 (pJ.1.1++[59]++[32]++w) false) t r wA (by rw[nx];rfl);exact au _ (bd.cz (fi,[],pJ.1.1++[59]) (λ_=>vS.pr.mono<|by ext) ln)<|AD (d:=N+5) (jb hN) hf (AN a 0<|CZ ln)<|zr<|cY.use (d:=N) (bF (n:=0)) (qz (jc hN) vS.f.1) (p.mono<|jc hN) l
noncomputable def Kp:Stmt:=fu 158 1
noncomputable def DC:Expr:=match Kp with
 |.For te _ _ _ _=>te
 |_=>default
noncomputable def DO:List Stmt:=match Kp with
 |.For _ _ b _ _=>b
 |_=>[]
noncomputable def X8(d n k:Nat):Stmt->Ex:=xn (Cn d n) (Sl (d+n+1)<|fJ 158) (fJ 158) k
noncomputable def Q8(d n:Nat)(vs:List V):Ex:=n8 (vz (fJ 158) DC) (eN (X8 d n 29) DO) vs
noncomputable def hW(v:V)(s:Int)(o:Option Int):Lo:=("script",.val v)::("seed",.val<|.int s)::o.elim [] λi=>[("one",.val<|.int i)]
noncomputable abbrev qe(s i:Int):Int:=(s*31+i)%2147483647
noncomputable def tQ:Int->List Int->List An
 |_,[]=>[]
 |s,i::r=>.ov 0 (.p<|.int<|s*31)::.ov 0 (.p<|.int<|qe s i)::tQ (qe s i) r
def W1(a:Int):n7 .Mult (.int a) (.int 31)=some (.p<|.int<|a*31):=by show(bK (mr a||mr 31)<|some<|TV.p<|.int<|a*31)=_;rw[show mr 31=true from by ext,Bool.or_true];rfl
def Wp:((vz (fJ 158) DC (.int i) (hW v s o) ⟨c,.ov 0 (.p<|.int<|s*31)::.ov 0 (.p<|.int<|qe s i)::sc,P⟩).bind λq=>eN (X8 d n 29) DO q.1 q.2)=some (.bu,hW v (qe s i)<|some i,⟨c,sc,n7 .Mod (.int<|s*31+i) (.int 2147483647)=some (.p<|.int<|qe s i)/\n7 .Mult (.int s) (.int 31)=some (.p<|.int<|s*31)/\P⟩):=by
 induction o with
 |none=>exact(by ext)
 |some j=>exact(by ext)
variable{d n:Nat}{ys:List Int}{s:Int}{c:List O}{sc:List An}{P:Prop}{v:V}{o:Option Int} in
def HV:∀(ys:List Int) (s:Int) (o:Option Int),∃s' o',∀(sc:List An) (P:Prop),∃P',(P->P')/\Q8 d n (ys.map .int) (hW v s o) ⟨c,tQ s ys++sc,P⟩=some (.bu,hW v s' o',⟨c,sc,P'⟩)
 |[],s,o=>bT s o λsc P=>(au P id rfl)
 |i::r,s,o=>by refine cX (HV r (qe s i)<|some i) λs' o' H=>?_;refine bT s' o' λsc P=>?_;refine aA (H sc<|n7 .Mod (.int<|s*31+i) (.int 2147483647)=some (.p<|.int<|qe s i)/\n7 .Mult (.int s) (.int 31)=some (.p<|.int<|s*31)/\P) λP' h e=>?_;refine au P' (λp=>h ⟨vR (n:=2147483647) (by ext) _,W1 s,p⟩) ?_;have t:=Wp (d:=d) (n:=n) (i:=i) (s:=s) (v:=v) (o:=o) (c:=c) (sc:=tQ (qe s i) r++sc) (P:=P);unfold Q8 at e⊢;rw[<-e];show((vz (fJ 158) DC (.int i) (hW v s o) _).bind λq=>(eN (X8 d n 29) DO q.1 q.2).bind _)=_;rw[<-Option.bind_assoc];exact congrArg (Option.bind · _) t
theorem Yn:X8 d n 30 (fu 158 0) [("script",.val v)] ⟨c,sc,P⟩=some (.bu,hW v 77 none,⟨c,sc,P⟩):=by ext
theorem YW(h:dF (cU vs none<|some 24).length ae):X8 d n 30 (fu 158 1) (hW (.lst vs) s none) ⟨c,sc,P⟩=Q8 d n (cU vs none<|some 24) (hW (.lst vs) s none) ⟨c,sc,vs.length<=ae/\P⟩:=by
 have e:X8 d n 30 (fu 158 1) (hW (.lst vs) s none) ⟨c,sc,P⟩=((bK (dF (cU vs none<|some 24).length ae)<|some<|cU vs none<|some 24).bind λa=>some (a,St.mk c sc<|vs.length<=ae/\P)).bind λq=>Q8 d n q.1 (hW (.lst vs) s none) q.2:=by ext
 rw[e,h];rfl
noncomputable def DB(i:Nat):Expr:=match fu 158 2 with
 |.Assign _ e _=>(match e with
  |.Dict _ vs _=>(hX i vs).getD default
  |_=>default)
 |_=>default
theorem Zc(h:dF (cU vs none<|some 24).length ae)(σ:St):(dn (Cn d n) 29 (fJ 158)<|DB 0).t (hW (.lst vs) s o) σ=some (.f<|cU vs none<|some 24,⟨σ.c,σ.sc,vs.length<=ae/\σ.P⟩):=by
 have e:(dn (Cn d n) 29 (fJ 158)<|DB 0).t (hW (.lst vs) s o) σ=((bK (dF (cU vs none<|some 24).length ae)<|some (TV.f<|cU vs none<|some 24,(none:Option Prop))).bind λa=>some (a,St.mk σ.c σ.sc<|vs.length<=ae/\σ.P)).bind λq=>iP q.1.2 (jK q.1.1) (hW (.lst vs) s o) q.2:=by
  induction o with
  |none=>exact(by ext)
  |some j=>exact(by ext)
 rw[e,h];rfl
noncomputable def DA:Option<|List (Option Expr)×List Expr×Expr:=match fu 158 2 with
 |.Assign ts e _=>(match e with
  |.Dict ks vs _=>some (ks,vs,ts.headD default)
  |_=>none)
 |_=>none
noncomputable def Kb:List<|Option Expr:=DA.elim [] (·.1)
noncomputable def f8V:List Expr:=DA.elim [] (·.2.1)
noncomputable def Z1:Expr:=DA.elim default (·.2.2)
noncomputable def F8(d n:Nat)(m:M TV):Ex:=
 let r:=dn (Cn d n) 29<|fJ 158;let p:M<|List<|V×V:=ar (r<|(Kb.head?.bind id).getD default).t λa=>ar (aS<|dY a) λa=>ar m λb=>i5 λc=>ar (aS<|rH c.length b) λq=>iP q.2.2<|pu (c++q.2.1)<|ar (uM r Kb.tail f8V.tail) λl=>aS<|some<|(a,q.1)::l;let t:M TV:=ar p λl=>gd (jC l)<|ar (yf<|.dict l) vT
 bu (ar t λt=>l9 (dn (Cn d n) 30<|fJ 158) (fJ 158) Z1 t)
noncomputable def l6(vs:List V)(s:Int):List O:=[.lst<|cU vs none<|some 24,.lst [],.dict [(.str [108,101,102,116],.ptr 0),(.str [115,101,101,100],.int s),(.str [108,97,98,101,108,115],.ptr 1),(.str [108,111,111,112,115],.int 0),(.str [100,101,112,116,104],.int 0),(.str [115,116,114,105,99,116],.bool false)]]
variable{d n:Nat}{m m':M TV}{ρ:Lo}{σ:St} in
theorem XY(h:∀σ,m ρ σ=m' ρ σ):F8 d n m ρ σ=F8 d n (λ_ σ=>m' ρ σ) ρ σ:=by have e:F8 d n m ρ σ=F8 d n (λ_ σ=>m ρ σ) ρ σ:=rfl;rw[e,show(λ(_:Lo) σ=>m ρ σ)=λ_ σ=>m' ρ σ from funext λ_=>funext h]
variable{d n:Nat}{s:Int}{sc:List An}{P:Prop}{vs:List V}{o:Option Int} in
def Yb(h:dF (cU vs none<|some 24).length ae):∃P',(P->vs.length<=ae->(cU vs none<|some 24).length<=ae->P')/\X8 d n 30 (fu 158 2) (hW (.lst vs) s o) ⟨[],sc,P⟩=some (.bu,(hW (.lst vs) s o++([("box",.val<|.ptr 2)]:Lo):Lo),⟨l6 vs s,sc,P'⟩):=by
 have e:X8 d n 30 (fu 158 2) (hW (.lst vs) s o) ⟨[],sc,P⟩=F8 d n (dn (Cn d n) 29 (fJ 158)<|DB 0).t (hW (.lst vs) s o) ⟨[],sc,P⟩:=by
  induction o with
  |none=>exact(by ext)
  |some j=>exact(by ext)
 rw[e,XY (m':=λ_ σ=>some (.f<|cU vs none<|some 24,⟨σ.c,σ.sc,vs.length<=ae/\σ.P⟩))<|Zc h];refine au (([]:List V).length<=ae/\(cU vs none<|some 24).length<=ae/\vs.length<=ae/\P) (λp h1 h2=>⟨Nat.zero_le _,h2,h1,p⟩) ?_;clear e;induction o with
 |none=>exact(by ext)
 |some j=>exact(by ext)
noncomputable def cH(zs:List Int)(z:Int)(g:Gs):List O:=[.lst<|zs.map .int,.lst g.bH,.dict [(.str [108,101,102,116],.ptr 0),(.str [115,101,101,100],.int z),(.str [108,97,98,101,108,115],.ptr 1),(.str [108,111,111,112,115],.int g.lp),(.str [100,101,112,116,104],.int g.d),(.str [115,116,114,105,99,116],.bool g.S)]]
noncomputable def Dq(v:V)(s:Int)(o:Option Int):Lo:=hW v s o++([("box",.val<|.ptr 2)]:Lo)
def Kh(hl:g.bH=[])(j i:Nat)(o:O)(e:[2,0,1][j]? =some i)(e':(gh zs z g)[j]? =some o):∃o',(cH zs z g)[i]? =some o'/\iO [2,0,1] o o':=by
 obtain⟨a,b,S,l⟩:=g;have hl:l=[]:=hl;subst hl;rcases j with _|_|_|j
 ·obtain rfl:=aE e;obtain rfl:=aE e';exact au _ rfl<|.dict (.cons (d5 rfl)<|.cons (aT.rn Np.int)<|.cons (d5 rfl)<|.cons (aT.rn Np.int)<|.cons (aT.rn Np.int)<|.cons (aT.rn Np.bool) .nil) rfl rfl
 ·obtain rfl:=aE e;obtain rfl:=aE e';exact au _ rfl<|.lst Ab
 ·obtain rfl:=aE e;obtain rfl:=aE e';exact au _ rfl<|.lst .nil
 ·exact ng e
variable{M f:Nat}{zs bg:List Int}{z z':Int}{v:V}{as:List V}{g:Gs} in
def Gf(hl:g.bH=[])(hv:aT v)(ha:∀v∈as,aT v)(s:Sp M f (.ptr 0::as) (gh zs z g) v<|gh bg z' g):Sp M f (.ptr 2::as) (cH zs z g) v<|cH bg z' g:=Sp.frame (ι:=[2,0,1]) s (by ext) rfl rfl (by decide:∀i∈[2,0,1],i<3) (Kh hl) (Kh hl) rfl (λi hi=>by rcases i with _|_|_|i<;>first|rfl|exact absurd (by ext) hi) (.cons (d5 rfl)<|xM ha) hv.rn
noncomputable def l5:List Stmt:=((sQ 158).drop 3).take 5
noncomputable abbrev i7(rs:List V)(S:Bool):V:=nd u7 [.lst rs,.bool S]
noncomputable def qu(v:V)(s:Int)(o:Option Int)(k:Nat)(ah rs:List V)(S:Bool)(T:List Nat):Lo:=Dq v s o++([("many",.val<|.int<|1+(k:Int)),("ahead",.own ah),("whole_tree",.val<|i7 rs S),("text",.val<|.str T),("found",.val<|i7 rs S)]:Lo)
noncomputable abbrev gj(j:Nat):Gs:=⟨0,0,bA (j:Int) 3,[]⟩
noncomputable def Db:List Expr:=match fu 158 8 with
 |.Return e _=>(match e with
  |some e=>(match e with
   |.BoolOp _ es _=>es
   |_=>[])
  |_=>[])
 |_=>[]
noncomputable def G8(d n:Nat)(z:Option<|TV×St)(ρ:Lo):Option<|Fl×Lo×St:=(z.bind λq=>(ar (aS<|jP q.1) λb=>ar (iN b) λb=>bif b==true then sP true (Db.tail.map<|dn (Cn d n) 29<|fJ 158) else vT (.bool b)) (nJ ρ) q.2).bind λq=>(ar (aS q.1.keep) λv=>ar (Av v) λv=>cb<|.ret v) ρ q.2
theorem Y8(e:kU (gY 300) us us):X8 d 2 30 (fu 158 8) (qu v s o k ah rs S T) ⟨h,[.call 0 157 (.tup us) h,.call 0 157 (.tup us) h,.call 0 76 (.str T) h],P⟩=some (.ret<|.bool<|lq T T,qu v s o k ah rs S T,⟨h,[],Sp d 76 [.lst rs,.bool S] h (.str T) h/\Sp d 157 [i7 rs S] h (.tup us) h/\Sp d 157 [i7 rs S] h (.tup us) h/\P⟩):=by
 let R:List An:=[.call 0 76 (.str T) h];have q:∀P,(dn (Cn d 2) 29 (fJ 158)<|Db.headD default).t (nJ<|qu v s o k ah rs S T) ⟨h,.call 0 157 (.tup us) h::.call 0 157 (.tup us) h::R,P⟩=((bK (kU (gY 300) us us)<|some true).bind λa=>some (a,St.mk h R<|Sp d 157 [i7 rs S] h (.tup us) h/\Sp d 157 [i7 rs S] h (.tup us) h/\P)).bind λq=>vT (.bool q.1) (nJ<|qu v s o k ah rs S T) q.2:=λP=>by
  induction o with
  |none=>exact(by ext)
  |some j=>exact(by ext)
 have a:X8 d 2 30 (fu 158 8) (qu v s o k ah rs S T) ⟨h,.call 0 157 (.tup us) h::.call 0 157 (.tup us) h::R,P⟩=G8 d 2 ((dn (Cn d 2) 29 (fJ 158)<|Db.headD default).t (nJ<|qu v s o k ah rs S T) ⟨h,.call 0 157 (.tup us) h::.call 0 157 (.tup us) h::R,P⟩) (qu v s o k ah rs S T):=by
  clear q;induction o with
  |none=>exact(by ext)
  |some j=>exact(by ext)
 refine a.trans ?_;rw[q,e];clear q a;induction o with
 |none=>exact(by ext)
 |some j=>exact(by ext)
def uk(h:Ch hI qr d (d+2) lU s')(hL:∀ρ,∃v c r,yq ρ h 0=.call 0 140 v c::r)(e:(λ(ρ:Nat->Rd) (R:List An) (kY:Prop)=>eN (X8 d 2 30) l5 n9 ⟨lU,yq ρ h 0++R,kY⟩)=λρ R kY=>some (.bu,mA,⟨s',R,yI ρ h 0 kY⟩)):∃SC,(∃v c r,SC=.call 0 140 v c::r)/\∀R kY,∃P',(kY->P')/\eN (X8 d 2 30) l5 n9 ⟨lU,SC++R,kY⟩=some (.bu,mA,⟨s',R,P'⟩):=by exact fz (h.run (λ_=>r0) 0 trivial) λρ e0 k z=>au _ (hL ρ) λR kY=>(au _ (z kY)<|congrFun (congrFun (congrFun e ρ) R) kY)
def Wa(d:Nat)(v:V)(s:Int)(o:Option Int)(k:Nat)(ah rs:List V)(S:Bool)(T:List Nat)(lU s':List O):Prop:=∃SC,(∃v c r,SC=.call 0 140 v c::r)/\∀R kY,∃P',(kY->P')/\eN (X8 d 2 30) l5 (Dq v s o) ⟨lU,SC++R,kY⟩=some (.bu,qu v s o k ah rs S T,⟨s',R,P'⟩)
def Zd(bv:Sp d 140 [.ptr 2,.int 2] (l6 vs s) (.int (k:Nat))<|cH aB ac<|g0 false)(aK:Sp d 140 [.ptr 2,.int 4] (cH aB ac<|g0 false) (.int (j:Nat))<|cH am an<|g0 false)(hA:bA (j:Int) 3=false)(bq:Sp d 140 [.ptr 2,.int 4] (cH am an<|gj j) (.int ((i+1:Nat):Int))<|cH aZ a9<|gj j)(b:Sp d 151 [.ptr 2,.int 2,.int<|1+(k:Int)] (cH aZ a9<|gj j) (.lst rs)<|cH a4 bm<|gj j)(l:rs.length<=ae)(p:Sq d 76 [.lst rs,.bool<|bA (j:Int) 3] (cH a4 bm<|gj j) (.str T)<|cH a4 bm<|gj j)(q:Sq d 138 [.str T] (cH a4 bm<|gj j) (i7 rs<|bA (j:Int) 3)<|cH a4 bm<|gj j):
    Wa d v s o k [] rs (bA (j:Int) 3) T (l6 vs s) (cH a4 bm<|gj j):=by
 induction o with
 |none=>exact uk (.q bv<|.q aK<|.x (cH am an<|gj j)<|.b 0 false hA<|.q bq<|.q b<|.p l<|.c p<|.c q .nil) (λ_=>(gp _ _ _ rfl))<|by ext
 |some o=>exact uk (.q bv<|.q aK<|.x (cH am an<|gj j)<|.b 0 false hA<|.q bq<|.q b<|.p l<|.c p<|.c q .nil) (λ_=>(gp _ _ _ rfl))<|by ext
def Zn(bv:Sp d 140 [.ptr 2,.int 2] (l6 vs s) (.int (k:Nat))<|cH aB ac<|g0 false)(aK:Sp d 140 [.ptr 2,.int 4] (cH aB ac<|g0 false) (.int (j:Nat))<|cH am an<|g0 false)(hA:bA (j:Int) 3=false)(bq:Sp d 140 [.ptr 2,.int 4] (cH am an<|gj j) (.int ((0:Nat):Int))<|cH aZ a9<|gj j)(b:Sp d 151 [.ptr 2,.int 2,.int<|1+(k:Int)] (cH aZ a9<|gj j) (.lst rs)<|cH a4 bm<|gj j)(l:(io::rs).length<=ae)(p:Sq d 76 [.lst<|io::rs,.bool<|bA (j:Int) 3] (cH a4 bm<|gj j) (.str T)<|cH a4 bm<|gj j)(q:Sq d 138 [.str T] (cH a4 bm<|gj j) (i7 (io::rs)<|bA (j:Int) 3)<|cH a4 bm<|gj j):
    Wa d v s o k [io] (io::rs) (bA (j:Int) 3) T (l6 vs s) (cH a4 bm<|gj j):=by
 induction o with
 |none=>exact uk (.q bv<|.q aK<|.x (cH am an<|gj j)<|.b 0 false hA<|.q bq<|.q b<|.p l<|.c p<|.c q .nil) (λ_=>(gp _ _ _ rfl))<|by ext
 |some o=>exact uk (.q bv<|.q aK<|.x (cH am an<|gj j)<|.b 0 false hA<|.q bq<|.q b<|.p l<|.c p<|.c q .nil) (λ_=>(gp _ _ _ rfl))<|by ext
def YV(bv:Sp d 140 [.ptr 2,.int 2] (l6 vs s) (.int (k:Nat))<|cH aB ac<|g0 false)(aK:Sp d 140 [.ptr 2,.int 4] (cH aB ac<|g0 false) (.int (j:Nat))<|cH am an<|g0 false)(hA:bA (j:Int) 3)(b:Sp d 151 [.ptr 2,.int 2,.int<|1+(k:Int)] (cH am an<|gj j) (.lst rs)<|cH a4 bm<|gj j)(l:(io::rs).length<=ae)(p:Sq d 76 [.lst<|io::rs,.bool<|bA (j:Int) 3] (cH a4 bm<|gj j) (.str T)<|cH a4 bm<|gj j)(q:Sq d 138 [.str T] (cH a4 bm<|gj j) (i7 (io::rs)<|bA (j:Int) 3)<|cH a4 bm<|gj j):
    Wa d v s o k [io] (io::rs) (bA (j:Int) 3) T (l6 vs s) (cH a4 bm<|gj j):=by
 induction o with
 |none=>exact uk (.q bv<|.q aK<|.x (cH am an<|gj j)<|.b 0 true hA<|.q b<|.p l<|.c p<|.c q .nil) (λ_=>(gp _ _ _ rfl))<|by ext
 |some o=>exact uk (.q bv<|.q aK<|.x (cH am an<|gj j)<|.b 0 true hA<|.q b<|.p l<|.c p<|.c q .nil) (λ_=>(gp _ _ _ rfl))<|by ext
theorem Br(h:a ρ σ=some (.bu,cj,σ')):lJ a b ρ σ=b cj σ':=by unfold lJ;rw[h];rfl
theorem O1(h:eN F rm ρ σ=some (.bu,cj,σ')):eN F (rm++rh) ρ σ=eN F rh cj σ':=by
 induction rm generalizing ρ σ with
 |nil=>have h:some (Fl.bu,ρ,σ)=some (Fl.bu,cj,σ'):=h;cases h;rfl
 |cons s r ih=>
  have h:lJ (F s) (eN F r) ρ σ=some (.bu,cj,σ'):=h;show lJ (F s) (eN F<|r++rh) ρ σ=_;unfold lJ at h⊢;cases e:F s ρ σ with
  |none=>rw[e] at h;exact ng h
  |some q=>
   rw[e] at h;obtain⟨fl,n9,aY⟩:=q;clear e;induction fl with
   |bu=>exact ih h
   |_=>cases h
theorem bd8:sQ 158=fu 158 0::fu 158 1::fu 158 2::(l5++[fu 158 8]):=by ext
def X2:Cn d 3 158 [v] ⟨c,.ov 0 t::R,P⟩=(eN (X8 d 2 30) (sQ 158) [("script",.val v)] ⟨c,.ov 0 t::R,P⟩).bind vi:=by ext
def Y9:Cn d 3 158 [v] ⟨c,.call 0 140 u c'::R,P⟩=(eN (X8 d 2 30) (sQ 158) [("script",.val v)] ⟨c,.call 0 140 u c'::R,P⟩).bind vi:=by ext
theorem cn8(h:∃v c r,SC=.call 0 140 v c::r):Cn d 3 158 [v] ⟨c,tQ s zs++(SC++R),P⟩=(eN (X8 d 2 30) (sQ 158) [("script",.val v)] ⟨c,tQ s zs++(SC++R),P⟩).bind vi:=by
 induction zs using bx with
 |nil=>refine m5 h λu c' r q1=>?_;clear h;subst q1;exact Y9
 |cons i r=>exact X2
variable{d:Nat}{zs:List Int}{s:Int}{sc:List An}{vs rs ah us:List V}{o:Option Int}{k:Nat}{T:List Nat}{S:Bool} in
def Vn(hs:dF (cU vs none<|some 24).length ae)(hz:cU vs none (some 24)=zs.map .int)(hv:vs.length<=ae)(h:∀s o,∃k ah rs S T s' us,Wa d (.lst vs) s o k ah rs S T (l6 vs s) s'/\kU (gY 300) us us=true/\Sp d 76 [.lst rs,.bool S] s' (.str T) s'/\Sp d 157 [i7 rs S] s' (.tup us) s'):∃sc c' P',P'/\Cn d 3 158 [.lst vs] ⟨[],sc,True⟩=some (.bool true,⟨c',[],P'⟩):=by have hl:(cU vs none<|some 24).length<=ae:=ia hs;refine cX (HV (d:=d) (n:=2) (v:=.lst vs) (c:=[]) zs 77 none) λs o H=>?_;refine Z0 (h s o) λk ah rs S T s' us o1 e p t=>?_;refine aA o1 λSC hd wa=>?_;let R:List An:=[.call 0 157 (.tup us) s',.call 0 157 (.tup us) s',.call 0 76 (.str T) s'];refine aA (H (SC++R)<|vs.length<=ae/\True) λY6 cC da=>?_;refine aA (Yb (d:=d) (n:=2) (s:=s) (o:=o) (sc:=SC++R) (P:=Y6) hs) λXO aL bj=>?_;refine aA (wa R XO) λXR bW cD=>?_;refine fK (tQ 77 zs++(SC++R)) s' (Sp d 76 [.lst rs,.bool S] s' (.str T) s'/\Sp d 157 [i7 rs S] s' (.tup us) s'/\Sp d 157 [i7 rs S] s' (.tup us) s'/\XR) ⟨p,t,t,bW<|aL (cC ⟨hv,trivial⟩) hv hl⟩ ?_;rw[cn8 hd,bd8];show Option.bind (lJ _ (lJ _<|lJ _<|eN _ _) _ _) _=_;rw[Br Yn,Br<|(YW hs).trans (by rw[hz];exact da),Br bj];change Option.bind (eN _ _ (Dq (.lst vs) s o) _) _=_;rw[O1 cD];show Option.bind (lJ _ (cb .bu) _ _) _=_;unfold lJ;rw[Y8 e,sr T];rfl
def VW(hN:10<=N)(hD:1<=D)(hl:rs.length<=5)(h:∀v∈rs,Tv N D v):∃us,Td (N+2) (D+2) (nd kk rs)<|.tup us:=by refine xW h hl _ λl a b c d e q1 m q=>?_;refine zb q1 ?_;exact⟨_,H0 hN hD m q⟩
def GY:Tv 289 45 io:=(l8 (N:=12) (D:=4) (by ext) (by ext)<|(l8 (N:=10) (D:=2) (k:=dm) (by ext) (by ext)<|g8 (s:=fi) (by ext)<|by ext).mono (by ext)<|by ext).mono (by ext)<|by ext
def En8(rs:List V)(S:Bool):Prop:=∃T us,kU (gY 300) us us=true/\(∀h,Sp 300 76 [.lst rs,.bool S] h (.str T) h)/\(∀h,Sp 300 138 [.str T] h (i7 rs S) h)/\∀h,Sp 300 157 [i7 rs S] h (.tup us) h
def CQ(hl:rs.length<=5)(h:∀v∈rs,Tv 289 45 v)(p:Pg 289 rs S):En8 rs S:=by refine aA p λT p q=>?_;have fl:aT<|.lst rs:=Np.lst λv hv=>(h v hv).flat;obtain⟨us,t⟩:=VW (kk:=u7) (rs:=[.lst rs,.bool S]) (N:=291) (D:=46) (by ext) (by ext) (by show 2<=5;decide)<|ao (iC (by ext) hl h)<|ao (uH (by ext)<|by ext) aP;exact t6 T us (t.q 301<|by ext) (λh=>(p.mono<|by ext).pure h Np.str<|ao fl<|ao Np.bool aP) (λh=>(q.mono<|by ext).pure h t.fl<|ao Np.str aP) λh=>(t.sh.mono<|by ext).pure h t.ft<|ao t.fl aP
def sg0:Sg S 2<|g0 S:=⟨rfl,(au 0 (Int.le_refl _) rfl),Int.le_refl _,Int.le_refl _,Int.le_refl _⟩
variable{f:Nat}{bg:List Int}{z':Int}{v:V}{rs:List V}{k:Nat}{S:Bool} in
def K3(hk:k<2)(zs:List Int)(z:Int):∃rs bg z',Sp 300 151 [.ptr 2,.int 2,.int<|1+(k:Int)] (cH zs z<|g0 S) (.lst rs) (cH bg z'<|g0 S)/\rs.length<=2/\(∀v∈rs,Tv 289 45 v)/\∃w f,Bd 289 3548300 (gc<|g0 S) rs w f:=by refine Zg (S:=S) (g0 S) sg0 k hk zs z _ λ_ bg z' o1 s=>?_;refine fH o1 λrs w f q2 bd tv l=>?_;clear o1;subst q2;exact jE rs bg z' (Gf rfl (Np.lst λv hv=>(tv v hv).flat) (ao Np.int<|ao Np.int aP)<|s.mono<|by ext) l tv<|bT w f bd
def Dc(hl:g.bH=[])(hn:0<n)(zs:List Int)(z:Int):∃k:Nat,∃bg z',k<n/\Sp 300 140 [.ptr 2,.int (n:Int)] (cH zs z g) (.int (k:Int)) (cH bg z' g):=by exact tk (M:=300) (g:=g) (by ext) hn zs z _ λk bg z' hk s=>fK k bg z' hk<|Gf hl Np.int (ao Np.int aP) s
variable{zs:List Int}{vs rs ah us:List V}{k:Nat}{T:List Nat}{S:Bool} in
def U8(hz:cU vs none (some 24)=zs.map .int)(s:Int)(o:Option Int):∃k ah rs S T s' us,Wa 300 (.lst vs) s o k ah rs S T (l6 vs s) s'/\kU (gY 300) us us=true/\Sp 300 76 [.lst rs,.bool S] s' (.str T) s'/\Sp 300 157 [i7 rs S] s' (.tup us) s':=by
 have hb:l6 vs s=cH zs s (g0 false):=by unfold l6;rw[hz];rfl
 refine gz (Dc (g:=g0 false) rfl (n:=2) (by ext) zs s) λk aB ac hk bv=>?_;refine gz (Dc (g:=g0 false) rfl (n:=4) (by ext) aB ac) λj am an hj aK=>?_;rw[<-hb] at bv;have lb:2*3548300+50<=ae:=a6 (n:=7096650);have fl:∀{rs:List V},(∀v∈rs,Tv 289 45 v)->aT (.lst rs):=λh=>Np.lst λv hv=>(h v hv).flat;cases hS:bA (j:Int) 3 with
 |false=>
  refine gz (Dc (g:=g0 false) rfl (n:=4) (by ext) am an) λi aZ a9 hi bq=>?_;refine fH (K3 (S:=false) hk aZ a9) λrs a4 bm b l tv o2=>?_;refine cX o2 λw f bd=>?_;have eg:g0 false=gj j:=by unfold gj;rw[hS];rfl
  rw[eg] at bq b;clear hi;induction i using Nat.casesAuxOn with
  |zero=>have tv:=ao (GY) tv;refine wG (CQ (by show rs.length+1<=5;exact jv l) tv<|X3 (by ext) lb bd<|fl tv) λT us e p q t=>?_;rw[<-hS] at p q t;exact DL k _ _ _ T _ us (Zn bv aK hS bq b (aG (Nat.succ_le_succ l:rs.length+1<=3)<|a6 (n:=3)) (qs<|p _)<|qs<|q _) e (p _)<|t _
  |succ i=>refine wG (CQ (ju l) tv<|YZ (by ext) lb bd<|fl tv) λT us e p q t=>?_;rw[<-hS] at p q t;exact DL k _ _ _ T _ us (Zd bv aK hS bq b (aG l<|a6 (n:=2)) (qs<|p _)<|qs<|q _) e (p _)<|t _
 |true=>
  refine fH (K3 (S:=true) hk am an) λrs a4 bm b l tv o3=>?_;refine cX o3 λw f bd=>?_;have eg:g0 true=gj j:=by unfold gj;rw[hS];rfl
  rw[eg] at b;have tv:=ao (GY) tv;refine wG (CQ (by show rs.length+1<=5;exact jv l) tv<|Xn (by ext) lb bd<|fl tv) λT us e p q t=>?_;rw[<-hS] at p q t;exact DL k _ _ _ T _ us (YV bv aK hS b (aG (Nat.succ_le_succ l:rs.length+1<=3)<|a6 (n:=3)) (qs<|p _)<|qs<|q _) e (p _)<|t _
def WV(xs:List Int)(hx:xs.length<=63):∃c',Sp 340 158 [.lst<|xs.map V.int] [] (.bool true) c':=by
 have hz:cU (xs.map V.int) none (some 24)=((xs.take<|g9 (xs.map V.int).length 24).drop 0).map V.int:=by rw[List.map_drop,List.map_take];rfl
 have hv:(xs.map V.int).length<=ae:=by rw[List.length_map];exact aG hx<|a6 (n:=63)
 have hs:dF (cU (xs.map V.int) none<|some 24).length ae:=by refine Nat.ble_eq_true_of_le<|aG ?_ hv;rw[hz,List.length_map,List.length_map,List.drop_zero,List.length_take];exact Nat.min_le_right _ _
 exact gz (Vn hs hz hv<|U8 hz) λsc c' P' p e=>⟨c',(go p e).mono<|by ext⟩
noncomputable abbrev l0:OpenLaw:=PySem.Challenge.rw_nt0414_01
noncomputable abbrev rr:OpenRow:=PySem.Challenge.rw_nt0414_01.row
noncomputable def Ju:Look:={strict:= !(importedModules rr.prog.main.body).all cThrough.contains,foot:=none,bare:=(["vars","dir","locals"]:List Str).filter<|readsOut rr.prog rr.prog.main.body}
noncomputable def wt:Look:={strict:=false,foot:=none,bare:=[]}
def WE:Ju=wt:=by ext
def wN(lk:Look)(b:List Stmt):∀a:List Stmt,noRoadLSs lk a=true->noRoadLSs lk b=true->noRoadLSs lk (a++b)=true
 |[],_,h=>h
 |s::a,h,k=>by have h':(noRoadLS lk s&&noRoadLSs lk a)=true:=h;have e:=cK h';exact look_both e.1<|wN lk b a e.2 k
def TO:noRoadLSs wt (cT 0 60)=true:=by ext
def SP:noRoadLSs wt (cT 60 50)=true:=by ext
def T9:noRoadLSs wt (cT 110 24)=true:=by ext
def Sx:noRoadLSs wt (cT 134 25)=true:=by ext
def UH:cT 0 60++(cT 60 50++(cT 110 24++cT 134 25))=rr.prog.main.body:=by ext
def RO:noRoadLSs Ju rr.prog.main.body=true:=WE▸UH▸wN _ _ _ TO (wN _ _ _ SP<|wN _ _ _ T9 Sx)
def UD:looksOpen rr.prog=true:=by
 unfold looksOpen;refine look_both (look_both (look_both (look_both (look_both ?_ ?_) ?_) ?_) ?_) ?_
 ·ext
 ·ext
 ·ext
 ·ext
 ·exact RO
 ·ext
def SU:rr.partSaid=true:=by unfold OpenRow.partSaid;exact look_both (look_both (look_both (look_both (look_both (look_both (look_both (look_both (look_both (look_both (look_both (look_both (look_both UD<|by ext)<|by ext)<|by ext)<|by ext)<|by ext)<|by ext)<|by ext)<|by ext)<|by ext)<|by ext)<|by ext)<|by ext)<|by ext
def SJ:rr.wellSaid=true:=by unfold OpenRow.wellSaid;exact look_both (look_both SU<|by ext)<|by ext
def RN:l0.wellSaid=true:=by unfold OpenLaw.wellSaid;refine look_both (look_both (look_both (look_both (look_both (look_both (look_both (look_both (look_both (look_both (look_both (look_both (look_both (look_both (look_both (look_both (look_both (look_both SJ ?_) ?_) ?_) ?_) ?_) ?_) ?_) ?_) ?_) ?_) ?_) ?_) ?_) ?_) ?_) ?_) ?_) ?_<;>ext
noncomputable def pX:DefRec×List (Str×Expr):=(defOf bZ "law").get<|by ext
def VG:defOf bZ rr.name=some (pX.1,pX.2):=by ext
def Xa:rr.prog.theDef rr.name=some (pX.1.params,pX.1.body,pX.1.scope):=by ext
def Yu:kwWritten? pX.1.params.kwonlyargs pX.1.params.kw_defaults=some pX.2:=by ext
def N2:(chainsOk bZ&&opensWell rr.prog&&(frees rr.toRowW&&rr.within.isEmpty))=true:=by ext
def Ta:rr.prog.bare:=⟨rfl,rfl,rfl,rfl,rfl,by ext⟩
def Sm:rr.toRowW.promised:=⟨[.list []],by decide+kernel,by decide+kernel⟩
def Qu{w:World}{h:Heap}{W:Wd}{G:GM}{φ:Ft}{ns:List Int}:∀{vs:List Value},WellAll w.params h vs (ns.map .int)->be W G φ (ns.map V.int) vs:=by
 induction ns with
 |nil=>intro vs x;cases x;exact .nil
 |cons n ns ih=>intro vs x;refine dW (wellAll_cons_inv x) λv dM e a b=>?_;refine zc e ?_;obtain⟨t,rfl⟩:=Value.isInt_shape ((encInt P0 w).is a).1;exact .cons (.int n t)<|ih b
def FT:Prop:=∀w:World,qM (WF w) eG
def Pl:gO 340 callerA:=⟨rfl,by ext,by ext⟩
def N7(P:Params):eX P "law"=some (.ref 1423):=by ext
theorem TX:eG 158=1423:=by ext
def S4{h:Heap}{a:Addr}{m m':Str->Option Value}(x:h.Ns a m)(y:h.Ns a m')(s:Str):m s=m' s:=by refine fH x λo es ep h1 h2 h3 h4=>?_;refine fH y λo' rW K8 k1 k2 k3 k4=>?_;cases h1.symm.trans k1;rw[h2] at k2;cases k2;exact(h4 s).symm.trans<|k4 s
def TB(xs:List WData):rr.toRowW.claim.post [.list xs] (.bool true) [.list xs]=true:=by ext
def Qk{args:List WData}(h:rr.toRowW.claim.pre args=true):∃ns:List Int,args=[.list<|ns.map .int]/\ns.length<=63:=by obtain⟨h1,h2⟩:=pre_splitW h;refine dW (hasAllW_cons (show WShape.hasAll [] args [.list .int]=true from h1)) λd r e hd hr=>?_;obtain rfl:=hasAllW_nil hr;subst e;refine aA (hasW_list hd) λxs q1 hi=>?_;subst q1;obtain⟨ns,rfl⟩:=items_int hi;refine au ns rfl<|Nat.le_of_not_lt λhl=>?_;have rU:(WTm.and (.not<|.lt (.lit<|.int (63:Nat))<|.len<|.arg 0)<|.lit<|.bool true).holds [] {args:=[.list<|ns.map .int]}=true:=h2;have q:(63:Int)<(ns.length:Int):=Int.ofNat_lt.mpr hl;simp[WTm.holds,WTm.value,less?,Num.less?,q] at rU
def Nf(L:FT):PySem.Challenge.rw_nt0414_01.Holds:=by
 refine holds_law RN λYR=>holds_open (q:=bZ) (loose:=fh) (Xt:=λ_=>true) (XP:=λ_ _=>True) (Yf:=λs=>s.heap) (Ya:=λw=>HE w.params) (YP:=λw h=>∀a o,gG w.params a=some o->h.get? a=some o) (N:=60000)
  TD (λw s e=>?_) (λw h h' y k a o e=>k a o<|y a o e) (λ_ _=>trivial) (λ_ _ _ _ _=>trivial) VG Xa Yu (λ_ _=>?_) rfl YR N2 Ta Sm ?_
 ·rw[e];exact λa o h=>Xd h
 ·exact⟨λ_ h=>(nomatch h),λ_ h=>(nomatch h),λc c' a h=>(nomatch h),λc fs h=>(nomatch h)⟩
 ·intro w lU ai mg mb G Y a o pm cd doc dV kV ho hd hcd hD hmg hg args vals as XE adp hrd ZG hlo;have ea:a=1423:=by have h1:=S4 G.T.g (xp (xh w.params).1 Y) "law";have h2:mg "law"=some (.ref a):=hmg;have h3:=h2.symm.trans<|h1.trans<|N7 w.params;exact Value.ref.inj<|aE h3
  refine zc ea ?_;refine aA (Qk XE) λxs q2 hl=>?_;subst q2;refine dW (wellAll_cons_inv ZG) λv dM ev hv hr=>?_;cases hr;refine zc ev ?_;cases hv with
   |list ha oL=>
    have hV:=Qu (W:=WF w) (G:=ai.heap.get?) (φ:=[]) oL;obtain⟨c',hc⟩:=L w xs hl;have R:aI (WF w) ⟨ai.heap.get?,[],ai⟩ []:=⟨λ_ _ e=>e,Y,rfl,.nil,λ_ h=>(nomatch h),λi o e=>by simp at e⟩;have S:=hc callerA Pl _ _ R<|.cons (.lst ha hV) .nil;rw[TX] at S;refine wpAny_mono (zW (E:=λ_ _=>False) S (Q:=λv s'=>GoodWG rr.toRowW.claim (PySem.classAt lU.heap) (ExcName.means lU.heap) [WData.list<|xs.map .int] ai (.ok<|.ret v) s') λu w' st r' hu=>?_) (λ_ _ q=>q) λ_ _ q=>q.elim;cases hu;have eg:w'.s.gens=ai.gens:=by rw[st.sm]
    have eo:w'.s.os=ai.os:=by rw[st.sm]
    exact GoodW.toG ⟨.inl<|oU _ (.bool true) [] rfl (λ_=>rfl) (.bool true) (TB _) λ_=>⟨.nil,λ_ h=>nomatch h⟩,λb o e=>r'.g b o<|st.le b o e,eo,eg.trans hg⟩
def NS:FT:=Tm λxs hx=>(WV xs hx).imp λ_ h=>h
end Mine
end
theorem PySem.Challenge.cw_nt0414_01_holds : PySem.Challenge.rw_nt0414_01.Holds :=
  Mine.Nf Mine.NS