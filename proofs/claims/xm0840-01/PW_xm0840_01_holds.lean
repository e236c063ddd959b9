import PyProof.Rows.All
import Wide.All
import OpenK.AllK
import Wide.FinOn
import KE.KTryDeep
import Lean
import PySem.Challenge.RW_xm0840_01
set_option Elab.async false
set_option maxHeartbeats 4000000
set_option genSizeOf false
set_option genInjectivity false
set_option bootstrap.genMatcherCode false
set_option linter.all false
open PySem PySem.W PyProof.Rows PySem.Calls
set_option maxRecDepth 100000
namespace Mine
section
theorem nM{a:Type}{x:a}{P:Prop}(h:x∈([]:List a)):P:=nomatch h
theorem oQ{a:Type}{x:a}{P:Prop}(h:none=some x):P:=nomatch h
theorem sN{a:Type}{x:a}{P:Prop}(h:some x=none):P:=nomatch h
theorem fT{P:Prop}(h:false=true):P:=nomatch h
theorem tF{P:Prop}(h:true=false):P:=nomatch h
theorem au{d:Type}{a b:d}{l:List d}(h:a∈b::l):a=b∨a∈l:=List.mem_cons.mp h
theorem aw{d:Type}{a b:d}(h:a∈[b]):a=b:=List.mem_singleton.mp h
theorem aE{b:Type}{a:b}{s t:List b}(h:a∈s++t):a∈s∨a∈t:=List.mem_append.mp h
theorem be{b:Type}{a:b}{i:Nat}{l:List b}(h:l[i]?=some a):∃h:i<l.length,l[i]=a:=List.getElem?_eq_some_iff.mp h
theorem bw{d e:Type}{b:e}{f:d->e}{l:List d}(h:b∈l.map f):∃a,a∈l/\f a=b:=List.mem_map.mp h
theorem dg{d e:Type}{b:e}{f:d->e}{l:List d}(h:∃a,a∈l/\f a=b):b∈l.map f:=List.mem_map.mpr h
theorem cW{m n:Nat}(h:(m:Int)=n):m=n:=Int.ofNat_inj.mp h
theorem bF{m n:Nat}(h:m<=n):(m:Int)<=n:=Int.ofNat_le.mpr h
theorem fH{a:Type}{x:a}{p:a->Bool}{l:List a}(h:x∈l.filter p):x∈l/\p x=true:=List.mem_filter.mp h
theorem cu{m n:Nat}(h:(m:Int)<n):m<n:=Int.ofNat_lt.mp h
theorem iJ{a b:Nat}(h:b<=a):¬a<b:=Nat.not_lt.mpr h
theorem iW{d e:Type}{f:d->List e}{b:e}{l:List d}(h:b∈l.flatMap f):∃a,a∈l/\b∈f a:=List.mem_flatMap.mp h
theorem fX{a b:Int}(h:b<=a):¬a<b:=Int.not_lt.mpr h
theorem eK{a b:Nat}(h:b<a):¬a<=b:=Nat.not_le.mpr h
theorem dF{m n:Nat}(h:m<n):(m:Int)<n:=Int.ofNat_lt.mpr h
theorem kY{a:Type}{p:a->Bool}{l:List a}(h:l.all p=true):∀x,x∈l->p x=true:=List.all_eq_true.mp h
set_option genCtorIdx false
inductive LX where
 |n (k:Nat)|v (i:Nat)|a (x y:LX)|m (k:Nat) (x:LX)|g (x:LX)
inductive LC where
 |le (x y:LX)|eq (x y:LX)
noncomputable def LX.Z(c:List Int):LX->Int
 |.n k=>(k:Int)
 |.v i=>c.getD i 0
 |.a x y=>x.Z c+y.Z c
 |.m k x=>(k:Int)*x.Z c
 |.g x=> -x.Z c
noncomputable def LX.N(c:List Nat):LX->Nat
 |.n k=>k
 |.v i=>c.getD i 0
 |.a x y=>x.N c+y.N c
 |.m k x=>k*x.N c
 |.g _=>0
noncomputable def LX.ok:LX->Bool
 |.a x y=>x.ok&&y.ok
 |.m _ x=>x.ok
 |.g _=>false
 |_=>true
noncomputable def LC.Z(c:List Int):LC->Prop
 |.le x y=>x.Z c<=y.Z c
 |.eq x y=>x.Z c=y.Z c
noncomputable def LC.N(c:List Nat):LC->Prop
 |.le x y=>x.N c<=y.N c
 |.eq x y=>x.N c=y.N c
noncomputable def ad:List Int->List Int->List Int
 |[],r=>r
 |x::l,[]=>x::l
 |x::l,y::r=>(x+y)::ad l r
noncomputable def ml(k:Int):List Int->List Int
 |[]=>[]
 |x::l=>k*x::ml k l
noncomputable def un:Nat->List Int
 |0=>[1]
 |i+1=>0::un i
noncomputable def LX.p:LX->List Int
 |.n k=>[(k:Int)]
 |.v i=>0::un i
 |.a x y=>ad x.p y.p
 |.m k x=>ml k x.p
 |.g x=>ml (-1) x.p
noncomputable def dt:List Int->List Int->Int
 |x::l,y::c=>x*y+dt l c
 |_,_=>0
theorem nH:∀(l r c:List Int),dt (ad l r) c=dt l c+dt r c
 |[],r,c=>(Int.zero_add _).symm
 |x::l,[],c=>(Int.add_zero _).symm
 |x::l,y::r,[]=>rfl
 |x::l,y::r,z::c=>by
  show(x+y)*z+dt (ad l r) c=x*z+dt l c+(y*z+dt r c)
  rw[nH,Int.add_mul,Int.add_assoc,Int.add_assoc,Int.add_left_comm (y*z)]
theorem jI(k:Int):∀(l c:List Int),dt (ml k l) c=k*dt l c
 |[],c=>(Int.mul_zero k).symm
 |x::l,[]=>(Int.mul_zero k).symm
 |x::l,z::c=>by
  show k*x*z+dt (ml k l) c=k*(x*z+dt l c)
  rw[jI,Int.mul_add,Int.mul_assoc]
theorem C8:∀(i:Nat) (c:List Int),dt (un i) c=c.getD i 0
 |0,[]=>rfl
 |0,x::c=>by show 1*x+dt [] c=x;rw[Int.one_mul];exact Int.add_zero x
 |i+1,[]=>rfl
 |i+1,x::c=>by show 0*x+dt (un i) c=c.getD i 0;rw[C8,Int.zero_mul,Int.zero_add]
theorem LX.is(c:List Int):∀x:LX,x.Z c=dt x.p (1::c)
 |.n k=>by show(k:Int)=k*1+dt [] c;rw[Int.mul_one];exact(Int.add_zero _).symm
 |.v i=>by show c.getD i 0=0*1+dt (un i) c;rw[C8,Int.zero_mul,Int.zero_add]
 |.a x y=>by show x.Z c+y.Z c=dt (ad x.p y.p) _;rw[nH,x.is c,y.is c]
 |.m k x=>by show(k:Int)*x.Z c=dt (ml k x.p) _;rw[jI,x.is c]
 |.g x=>by show-x.Z c=dt (ml (-1) x.p) _;rw[jI,x.is c,Int.neg_one_mul]
noncomputable def LC.q:LC->List Int
 |.le x y=>ad y.p (ml (-1) x.p)
 |.eq x y=>ad y.p (ml (-1) x.p)
noncomputable def LC.isLe:LC->Bool
 |.le _ _=>true
 |.eq _ _=>false
noncomputable def LC.ok:LC->Bool
 |.le x y=>x.ok&&y.ok
 |.eq x y=>x.ok&&y.ok
theorem LC.is{c:List Int}{h:LC}(p:h.Z c):0<=dt h.q (1::c)/\(h.isLe=false->dt h.q (1::c)=0):=by
 cases h with
 |le x y=>
  refine⟨?_,tF⟩
  show 0<=dt (ad y.p (ml (-1) x.p)) _
  rw[nH,jI,←x.is,←y.is,Int.neg_one_mul]
  exact Int.sub_nonneg_of_le p
 |eq x y=>
  have e:dt (ad y.p (ml (-1) x.p)) (1::c)=0:=by
   rw[nH,jI,←x.is,←y.is,Int.neg_one_mul,(p:x.Z c=y.Z c)]
   exact Int.add_right_neg _
  exact⟨Int.le_of_eq e.symm,λ_=>e⟩
noncomputable def sQ:List (Int×LC)->List Int
 |[]=>[]
 |h::r=>ad (ml h.1 h.2.q) (sQ r)
noncomputable def Mt:List (Int×LC)->Bool
 |[]=>true
 |h::r=>(!h.2.isLe||decide (0<=h.1))&&Mt r
noncomputable def Mc(a:Bool):List Int->Bool
 |[]=>true
 |x::l=>(decide (x=0)||(a&&decide (0<=x)))&&Mc a l
noncomputable def LA(a:Bool)(d:Nat):List Int->Bool
 |[]=>true
 |x::l=>decide (0<=x+d)&&Mc a l
noncomputable def Ea(a:Bool)(g:LC)(d:Nat)(hs:List (Int×LC)):Bool:=g.isLe&&Mt hs&&LA a d (ad (ml ((d:Int)+1) g.q) (ml (-1) (sQ hs)))
noncomputable def AT(c:List Int):List (Int×LC)->Prop
 |[]=>True
 |h::r=>h.2.Z c/\AT c r
theorem uK{c:List Int}:∀{hs:List (Int×LC)},Mt hs=true->AT c hs->0<=dt (sQ hs) (1::c)
 |[],_,_=>Int.le_refl 0
 |h::r,w,p=>by
  show 0<=dt (ad (ml h.1 h.2.q) (sQ r)) _
  rw[nH,jI]
  have w:=Bool.and_eq_true_iff.mp w
  have q:=LC.is p.1
  refine Int.add_nonneg ?_ (uK w.2 p.2)
  cases e:h.2.isLe with
  |false=>rw[q.2 e,Int.mul_zero];exact Int.le_refl 0
  |true=>exact Int.mul_nonneg (by have:=w.1;rw[e]at this;exact of_decide_eq_true this) q.1
def LO(a:Bool)(c:List Int):Prop:=a=true->∀x∈c,0<=x
theorem y7{a:Bool}:∀{l c:List Int},Mc a l=true->LO a c->0<=dt l c
 |[],c,_,_=>by cases c<;>exact Int.le_refl 0
 |x::l,[],_,_=>Int.le_refl 0
 |x::l,z::c,h,p=>by
  have h:=Bool.and_eq_true_iff.mp h
  refine Int.add_nonneg ?_ (y7 h.2 λe y b=>p e y (.tail _ b))
  rcases Bool.or_eq_true_iff.mp h.1 with e|e
  ·rw[of_decide_eq_true e,Int.zero_mul];exact Int.le_refl 0
  ·have e:=Bool.and_eq_true_iff.mp e
   exact Int.mul_nonneg (of_decide_eq_true e.2) (p e.1 z (.head _))
theorem Fo{a:Bool}{c:List Int}{g:LC}{d:Nat}{hs:List (Int×LC)}(e:Ea a g d hs=true)(p:LO a c)(h:AT c hs):g.Z c:=by
 have e:=Bool.and_eq_true_iff.mp e
 have i:=Bool.and_eq_true_iff.mp e.1
 have s:=uK i.2 h
 cases g with
 |eq x y=>exact absurd i.1 Bool.false_ne_true
 |le x y=>
  show x.Z c<=y.Z c
  have f:0<=dt (ad (ml ((d:Int)+1) (LC.le x y).q) (ml (-1) (sQ hs))) (1::c)+d:=by
   generalize ad (ml ((d:Int)+1) (LC.le x y).q) (ml (-1) (sQ hs))=r at e
   cases r with
   |nil=>show 0<=(0:Int)+d;rw[Int.zero_add];exact Int.natCast_nonneg d
   |cons k l=>
    have b:=Bool.and_eq_true_iff.mp e.2
    show 0<=k*1+dt l c+d
    rw[Int.mul_one,Int.add_right_comm]
    exact Int.add_nonneg (of_decide_eq_true b.1) (y7 b.2 p)
  rw[nH,jI,jI,Int.neg_one_mul]at f
  have q:dt (LC.le x y).q (1::c)=y.Z c-x.Z c:=by
   show dt (ad y.p (ml (-1) x.p)) _=_
   rw[nH,jI,←x.is,←y.is,Int.neg_one_mul];rfl
  rw[q]at f
  refine Int.not_lt.mp λn=>?_
  have n1:y.Z c-x.Z c<= -1:=Int.le_sub_one_of_lt (Int.sub_neg_of_lt n)
  have n2:((d:Int)+1)*(y.Z c-x.Z c)<=((d:Int)+1)* -1:=Int.mul_le_mul_of_nonneg_left n1 (Int.natCast_nonneg (d+1))
  have n3:0<= -(d+1:Int)+ -dt (sQ hs) (1::c)+d:=Int.le_trans f (Int.add_le_add_right (Int.add_le_add_right (by rw[Int.mul_neg,Int.mul_one]at n2;exact n2) _) _)
  rw[Int.add_right_comm,Int.neg_add,Int.add_right_comm (-(d:Int)),Int.add_left_neg,Int.zero_add]at n3
  exact absurd (Int.le_trans n3 (Int.add_le_add_left (Int.neg_nonpos_of_nonneg s) _)) (by decide)
theorem LX.cast{c:List Nat}:∀{x:LX},x.ok=true->((x.N c:Nat):Int)=x.Z (c.map Int.ofNat)
 |.n k,_=>rfl
 |.v i,_=>by
  show((c.getD i 0:Nat):Int)=(c.map Int.ofNat).getD i 0
  rw[List.getD_eq_getElem?_getD,List.getD_eq_getElem?_getD,List.getElem?_map]
  cases c[i]?<;>rfl
 |.a x y,h=>by
  have h:=Bool.and_eq_true_iff.mp h
  show((x.N c+y.N c:Nat):Int)=x.Z _+y.Z _
  rw[Int.natCast_add,x.cast h.1,y.cast h.2]
 |.m k x,h=>by
  show((k*x.N c:Nat):Int)=k*x.Z _
  rw[Int.natCast_mul,x.cast h]
 |.g _,h=>absurd h Bool.false_ne_true
theorem LC.cast{c:List Nat}{h:LC}(e:h.ok=true):h.N c↔h.Z (c.map Int.ofNat):=by
 cases h with
 |le x y=>have e:=Bool.and_eq_true_iff.mp e;show x.N c<=y.N c↔x.Z _<=y.Z _;rw[←x.cast e.1,←y.cast e.2];exact Int.ofNat_le.symm
 |eq x y=>have e:=Bool.and_eq_true_iff.mp e;show x.N c=y.N c↔x.Z _=y.Z _;rw[←x.cast e.1,←y.cast e.2];exact Int.ofNat_inj.symm
noncomputable def Aj(g:LC)(d:Nat)(hs:List (Int×LC)):Bool:=(g.ok&&hs.all λh=>h.2.ok)&&Ea true g d hs
noncomputable def zo(c:List Nat):List (Int×LC)->Prop
 |[]=>True
 |h::r=>h.2.N c/\zo c r
theorem zo.z{c:List Nat}:∀{hs:List (Int×LC)},(hs.all λh=>h.2.ok)=true->zo c hs->AT (c.map Int.ofNat) hs
 |[],_,_=>trivial
 |_::_,e,h=>have e:=Bool.and_eq_true_iff.mp e;⟨(LC.cast e.1).mp h.1,zo.z e.2 h.2⟩
theorem pq{c:List Nat}{g:LC}{d:Nat}{hs:List (Int×LC)}(e:Aj g d hs=true)(h:zo c hs):g.N c:=
 have e:=Bool.and_eq_true_iff.mp e
 have a:=Bool.and_eq_true_iff.mp e.1
 (LC.cast a.1).mpr (Fo e.2 (λ_ x b=>(bw b).elim λn h=>h.2▸Int.natCast_nonneg n) (h.z a.2))
section
variable (c:List Nat) (g:LC)
theorem n0(e:Aj g 0 []=true):g.N c:=pq e trivial
theorem n1(a:LC)(e:Aj g 0 [(1,a)]=true)(x:a.N c):g.N c:=pq e ⟨x,trivial⟩
theorem n2(a b:LC)(e:Aj g 0 [(1,a),(1,b)]=true)(x:a.N c)(y:b.N c):g.N c:=pq e ⟨x,y,trivial⟩
theorem n3(a b f:LC)(e:Aj g 0 [(1,a),(1,b),(1,f)]=true)(x:a.N c)(y:b.N c)(z:f.N c):g.N c:=pq e ⟨x,y,z,trivial⟩
theorem m1(d:Nat)(i:Int)(a:LC)(e:Aj g d [(i,a)]=true)(x:a.N c):g.N c:=pq e ⟨x,trivial⟩
theorem m2(d:Nat)(i j:Int)(a b:LC)(e:Aj g d [(i,a),(j,b)]=true)(x:a.N c)(y:b.N c):g.N c:=pq e ⟨x,y,trivial⟩
theorem m3(d:Nat)(i j k:Int)(a b f:LC)(e:Aj g d [(i,a),(j,b),(k,f)]=true)(x:a.N c)(y:b.N c)(z:f.N c):g.N c:=pq e ⟨x,y,z,trivial⟩
theorem m4(d:Nat)(i j k l:Int)(a b f h:LC)(e:Aj g d [(i,a),(j,b),(k,f),(l,h)]=true)(x:a.N c)(y:b.N c)(z:f.N c)(w:h.N c):g.N c:=pq e ⟨x,y,z,w,trivial⟩
theorem m5(d:Nat)(i j k l m:Int)(a b f h t:LC)(e:Aj g d [(i,a),(j,b),(k,f),(l,h),(m,t)]=true)(x:a.N c)(y:b.N c)(z:f.N c)(w:h.N c)(u:t.N c):g.N c:=pq e ⟨x,y,z,w,u,trivial⟩
end
section
variable (c:List Int) (g:LC)
theorem Hm{c:List Int}:LO false c:=fT
theorem z0(e:Ea false g 0 []=true):g.Z c:=Fo e Hm trivial
theorem z1(a:LC)(e:Ea false g 0 [(1,a)]=true)(x:a.Z c):g.Z c:=Fo e Hm ⟨x,trivial⟩
theorem z2(a b:LC)(e:Ea false g 0 [(1,a),(1,b)]=true)(x:a.Z c)(y:b.Z c):g.Z c:=Fo e Hm ⟨x,y,trivial⟩
theorem z3(a b f:LC)(e:Ea false g 0 [(1,a),(1,b),(1,f)]=true)(x:a.Z c)(y:b.Z c)(z:f.Z c):g.Z c:=Fo e Hm ⟨x,y,z,trivial⟩
theorem y2(d:Nat)(i j:Int)(a b:LC)(e:Ea false g d [(i,a),(j,b)]=true)(x:a.Z c)(y:b.Z c):g.Z c:=Fo e Hm ⟨x,y,trivial⟩
end
theorem nl{a b:Nat}(h:¬a<b):b<=a:=Nat.le_of_not_lt h
theorem ng{a b:Nat}(h:¬a<=b):b<a:=Nat.lt_of_not_le h
theorem il{a b:Int}(h:¬a<b):b<=a:=Int.not_lt.mp h
theorem ig{a b:Int}(h:¬a<=b):b<a:=Int.not_le.mp h
theorem cl{a b:Nat}(h:a<=b):(a:Int)<=b:=bF h
theorem ce{a b:Nat}(h:a=b):(a:Int)=b:=congrArg Int.ofNat h
theorem cz(a:Nat):(0:Int)<=a:=Int.natCast_nonneg a
theorem sb(a b:Nat):a<=a-b+b:=Nat.sub_le_iff_le_add.mp (Nat.le_refl _)
theorem tn{i:Int}(h:0<=i):i=i.toNat:=(Int.toNat_of_nonneg h).symm
theorem t0{x:Int}(h:x<=0):x.toNat=0:=Int.toNat_of_nonpos h
theorem tz{x:Int}(h:x.toNat=0):x<=0:=by have e:=Int.self_le_toNat x;rw[h]at e;exact e
theorem te{x:Int}{n:Nat}(h:x=n):x.toNat=n:=congrArg Int.toNat h
theorem tp{x:Int}{n:Nat}(h:x.toNat=n+1):0<x:=ig λk=>Nat.succ_ne_zero n (h.symm.trans (t0 k))
theorem t1{x:Int}(h:0<x):∃n:Nat,x=n+1:=(Int.eq_succ_of_zero_lt h).elim λn e=>⟨n,e⟩
theorem t2{x:Int}{n:Nat}(h:x.toNat=n+1):(x-1).toNat=n:=by
 have e:=tn (Int.le_of_lt (tp h))
 rw[h]at e
 exact te (by rw[e];exact Int.add_sub_cancel (n:Int) 1)
theorem tl{x:Int}{n:Nat}(a:0<=x)(h:x<n):x.toNat<n:=(Int.toNat_lt a).mpr h
theorem ln{j k:Nat}(h:j<k+1)(e:¬j=k):j<k:=Nat.lt_of_le_of_ne (Nat.le_of_lt_succ h) e
theorem lp{i j:Nat}(h:i<j)(e:¬i=j-1):i<j-1:=Nat.lt_of_le_of_ne (Nat.le_sub_one_of_lt h) e
theorem iN{a b:Int}(n:b≠a)(h:¬b<a):a<b:=Int.lt_iff_le_and_ne.mpr ⟨il h,Ne.symm n⟩
end
section
noncomputable def J0:LC:=.le (.v 0) (.v 1)
noncomputable def J1:LC:=.eq (.a (.v 0) (.n 0)) (.v 1)
noncomputable def J2:LC:=.le (.a (.v 0) (.n 1)) (.v 1)
noncomputable def J3:LC:=.eq (.a (.v 2) (.a (.v 3) (.n 1))) (.v 1)
noncomputable def J4:LC:=.le (.v 0) (.v 2)
noncomputable def J5:LC:=.eq (.a (.v 0) (.a (.v 2) (.n 1))) (.v 1)
noncomputable def J6:LC:=.le (.a (.a (.v 0) (.n 1)) (.v 1)) (.v 2)
noncomputable def J7:LC:=.eq (.a (.v 0) (.a (.v 1) (.n 1))) (.v 2)
noncomputable def J8:LC:=.le (.v 0) (.a (.a (.v 1) (.n 1)) (.v 2))
noncomputable def J9:LC:=.eq (.a (.v 1) (.a (.v 2) (.n 1))) (.v 0)
noncomputable def CU:LC:=.le (.a (.n 0) (.n 1)) (.v 0)
noncomputable def Lm:LC:=.le (.v 0) (.n 1)
noncomputable def Fm:LC:=.le (.n 1) (.v 0)
noncomputable def NX:LC:=.le (.v 0) (.n 0)
noncomputable def It:LC:=.le (.n 0) (.v 0)
noncomputable def LU:LC:=.le (.a (.v 0) (.n 1)) (.n 2)
noncomputable def LT:LC:=.le (.a (.v 1) (.n 1)) (.v 0)
noncomputable def Ml:LC:=.le (.n 2) (.v 1)
noncomputable def Fq:LC:=.le (.a (.v 0) (.n 1)) (.v 2)
noncomputable def Fc:LC:=.le (.a (.v 2) (.n 1)) (.v 1)
noncomputable def LN:LC:=.eq (.v 1) (.v 2)
noncomputable def NA:LC:=.le (.v 3) (.v 1)
noncomputable def Ag:LC:=.le (.v 2) (.v 1)
noncomputable def Pb:LC:=.le (.v 3) (.v 2)
noncomputable def On:LC:=.le (.a (.v 0) (.n 1)) (.v 3)
noncomputable def OY:LC:=.eq (.a (.a (.v 2) (.n 1)) (.v 0)) (.v 3)
noncomputable def NN:LC:=.eq (.v 1) (.v 3)
noncomputable def yD:LC:=.le (.v 1) (.n 60)
noncomputable def CW:LC:=.eq (.v 0) (.v 1)
noncomputable def O3:LC:=.eq (.v 3) (.v 2)
noncomputable def PN:LC:=.le (.a (.a (.v 0) (.g (.v 1))) (.g (.n 1))) (.a (.v 0) (.g (.a (.v 1) (.n 1))))
noncomputable def Oa:LC:=.le (.a (.v 0) (.g (.a (.v 1) (.n 1)))) (.a (.a (.v 0) (.g (.v 1))) (.g (.n 1)))
noncomputable def Ia:LC:=.le (.g (.v 0)) (.v 1)
noncomputable def Oq:LC:=.le (.a (.v 0) (.v 1)) (.n 16777216)
noncomputable def Pz:LC:=.le (.v 1) (.v 2)
noncomputable def Q4:LC:=.eq (.v 2) (.n 10000)
noncomputable def HJ:LC:=.eq (.a (.v 0) (.n 1)) (.v 1)
noncomputable def RE:LC:=.eq (.a (.v 0) (.n 1)) (.v 2)
noncomputable def O0:LC:=.le (.v 0) (.a (.v 1) (.n 2))
noncomputable def IP:LC:=.eq (.v 0) (.v 2)
noncomputable def M7:LC:=.le (.v 0) (.n 100)
noncomputable def P4:LC:=.le (.a (.v 0) (.a (.v 1) (.n 1))) (.a (.a (.v 0) (.n 1)) (.v 1))
noncomputable def PM:LC:=.le (.a (.a (.v 0) (.n 1)) (.v 1)) (.a (.v 0) (.a (.v 1) (.n 1)))
noncomputable def jJ:LC:=.le (.v 0) (.n 9000)
noncomputable def uv:LC:=.eq (.v 1) (.n 10000)
noncomputable def Mn:LC:=.le (.n 0) (.v 1)
noncomputable def LF:LC:=.eq (.v 0) (.n 10000)
noncomputable def Ov:LC:=.le (.g (.n 1)) (.v 0)
noncomputable def Ou:LC:=.le (.v 0) (.a (.v 2) (.n 3))
noncomputable def NR:LC:=.le (.a (.v 0) (.n 300)) (.v 1)
noncomputable def OF:LC:=.le (.v 0) (.n 990)
noncomputable def La:LC:=.le (.m 2 (.v 0)) (.a (.v 2) (.v 1))
noncomputable def Nd:LC:=.le (.a (.a (.v 0) (.v 2)) (.n 1)) (.m 2 (.a (.v 1) (.n 1)))
noncomputable def Gn:LC:=.le (.a (.v 0) (.v 1)) (.n 120)
noncomputable def Hu:LC:=.le (.v 2) (.n 120)
noncomputable def GK:LC:=.le (.a (.v 0) (.n 1)) (.n 60)
noncomputable def D8:LC:=.eq (.v 1) (.a (.v 0) (.a (.v 2) (.n 1)))
noncomputable def LH:LC:=.le (.a (.a (.v 0) (.n 1)) (.n 1)) (.v 1)
noncomputable def zQ:LC:=.eq (.a (.v 0) (.a (.v 2) (.n 1))) (.v 3)
noncomputable def Ab:LC:=.le (.v 3) (.a (.v 1) (.v 2))
noncomputable def lZ:LC:=.le (.v 0) (.n 60)
noncomputable def Hg:LC:=.eq (.v 0) (.a (.v 1) (.n 1))
noncomputable def MB:LC:=.le (.n 8) (.a (.v 0) (.n 8))
noncomputable def EW:LC:=.le (.a (.v 0) (.n 1)) (.n 100)
noncomputable def GU:LC:=.le (.v 1) (.n 100)
noncomputable def G5:LC:=.le (.a (.v 1) (.n 1)) (.n 60)
noncomputable def Ie:LC:=.le (.v 0) (.m 2 (.v 1))
noncomputable def Dr:LC:=.le (.v 0) (.m 2 (.a (.v 1) (.n 1)))
noncomputable def E7:LC:=.le (.v 2) (.m 2 (.v 1))
noncomputable def Im:LC:=.le (.v 0) (.a (.v 2) (.n 1))
noncomputable def HI:LC:=.le (.v 0) (.a (.v 3) (.n 1))
noncomputable def FX:LC:=.le (.v 2) (.n 60)
noncomputable def DI:LC:=.le (.a (.v 2) (.n 1)) (.v 3)
noncomputable def EH:LC:=.le (.a (.v 0) (.g (.n 1))) (.n 9000)
noncomputable def yt:LC:=.le (.v 0) (.n 7)
noncomputable def EP:LC:=.eq (.v 1) (.v 0)
noncomputable def Gm:LC:=.le (.n 0) (.a (.v 0) (.g (.n 1)))
noncomputable def Nb:LC:=.le (.v 0) (.n 2)
noncomputable def FT:LC:=.le (.a (.v 0) (.v 1)) (.n 9000)
noncomputable def No:LC:=.le (.a (.v 0) (.n 1)) (.n 4)
noncomputable def Hx:LC:=.le (.a (.a (.v 2) (.n 1)) (.n 1)) (.v 1)
noncomputable def GS:LC:=.eq (.v 0) (.a (.v 2) (.n 1))
noncomputable def Gq:LC:=.le (.v 0) (.n 90)
noncomputable def FZ:LC:=.le (.v 0) (.n 3)
noncomputable def EB:LC:=.le (.v 1) (.n 2)
noncomputable def HH:LC:=.le (.v 2) (.a (.a (.n 1) (.m 19 (.v 1))) (.n 1))
noncomputable def Ha:LC:=.eq (.v 0) (.n 0)
noncomputable def HN:LC:=.eq (.v 0) (.n 1)
noncomputable def Hr:LC:=.le (.v 0) (.a (.m 4 (.v 1)) (.m 2 (.a (.v 2) (.n 1))))
end
section
theorem O6{i:Int}(h:1<=i):i=(i-1).toNat+1:=by
 rw[←tn (Int.sub_nonneg_of_le h)];exact(Int.sub_add_cancel i 1).symm
theorem ww{j n:Nat}(h:(j:Int)<n-1):j+1<n:=cu (Int.add_lt_of_lt_sub_right h)
theorem GE{x:Int}{n:Nat}(h:x<=n*2 ^ 40)(l:n<=60):x<2 ^ 50:=Int.lt_of_le_of_lt (Int.le_trans h (Int.mul_le_mul_of_nonneg_right (bF l) (by decide))) (by decide)
theorem l9{n m:Nat}{i:Int}(p:(n:Int)=i)(g:i<m)(h:m<=7):n<=9000:=Nat.le_trans (Nat.le_of_lt (cu (Int.lt_of_le_of_lt (Int.le_of_eq p) g))) (Nat.le_trans h (Nat.le_of_ble_eq_true rfl))
theorem lE{n m:Nat}{i:Int}(p:(n:Int)=i)(g:(m:Int)<=i)(g3:i=0∨i=m):n=m:=cW (p.trans (Int.le_antisymm (g3.elim (λe=>e▸Int.natCast_nonneg m) Int.le_of_eq) g))
theorem i2{i:Int}(g:2<=i)(g3:i=0∨i=2):i=2:=g3.resolve_left λe=>by rw[e]at g;exact absurd g (by decide)
theorem NT{i:Int}(h:0<=i)(g:i<2):i=0∨i=1:=(Int.le_iff_lt_or_eq.mp (Int.le_of_lt_add_one g:i<=1)).imp (λq=>Int.le_antisymm (Int.le_of_lt_add_one q) h) id
theorem u3{u:Nat}(h:u<3):u=0∨u=1∨u=2:=(Nat.lt_succ_iff_lt_or_eq.mp h).elim (λh=>(Nat.lt_succ_iff_lt_or_eq.mp h).elim (λh=>.inl (Nat.lt_one_iff.mp h)) λe=>.inr (.inl e)) λe=>.inr (.inr e)
theorem u4{u:Nat}(h:u<4):u=0∨u=1∨u=2∨u=3:=(Nat.lt_succ_iff_lt_or_eq.mp h).elim (λh=>(u3 h).imp id (Or.imp id .inl)) λe=>.inr (.inr (.inr e))
theorem OH{n:Nat}(h:¬(0:Int)<n):n=0:=Nat.eq_zero_of_not_pos λq=>h (dF q)
theorem O5{x:Int}(h:0<x/\x<=100): -(2 ^ 62)<x/\x<2 ^ 62:=⟨Int.lt_trans (by decide) h.1,Int.lt_of_le_of_lt h.2 (by decide)⟩
theorem Pv{n:Nat}(h:n<=9000):(n:Int)<2 ^ 30:=Int.lt_of_le_of_lt (bF h) (by decide)
theorem PO{n:Nat}(h:n<=9000):(n:Int)<2 ^ 62:=Int.lt_trans (Pv h) (by decide)
theorem md(q:Int){m:Int}(h:0<m):∃a:Nat,q%m=a/\(a:Int)<m:=have e:=tn (Int.emod_nonneg q (Int.ne_of_gt h));⟨(q%m).toNat,e,e▸Int.emod_lt_of_pos q h⟩
theorem Hz(q:Int){n:Nat}{m:Int}(h:0<m)(e:m=n):∃a:Nat,q%m=a/\a<n:=(md q h).imp λ_ k=>⟨k.1,cu (e▸k.2)⟩
theorem tg{a b c:Nat}(d:Nat)(h:a<b)(k:c<2):(a:Int)*256+c<b*256+d:=by
 have e:((a:Int)+1)*256<=b*256:=Int.mul_le_mul_of_nonneg_right (dF h) (by decide)
 rw[Int.add_mul,Int.one_mul]at e
 exact Int.lt_of_lt_of_le (Int.add_lt_add_left (show(c:Int)<256 from Int.lt_trans (dF k) (by decide)) _) (Int.le_trans e (Int.le_add_of_nonneg_right (Int.natCast_nonneg d)))
theorem Hj{a:Addr}{l:List Addr}:a∈a::l:=.head _
theorem GV{a b:Addr}{l:List Addr}:a∈b::a::l:=.tail _ Hj
theorem Gp{a b c:Addr}{l:List Addr}:a∈b::c::a::l:=.tail _ GV
theorem D4{a b c d:Addr}{l:List Addr}:a∈b::c::d::a::l:=.tail _ Gp
theorem HV{a b c d e:Addr}{l:List Addr}:a∈b::c::d::e::a::l:=.tail _ D4
theorem Db{a b c d e f:Addr}{l:List Addr}:a∈b::c::d::e::f::a::l:=.tail _ HV
theorem OJ{a b c d e f g:Addr}{l:List Addr}:a∈b::c::d::e::f::g::a::l:=.tail _ Db
theorem Qx{a b c d e f g h:Addr}{l:List Addr}:a∈b::c::d::e::f::g::h::a::l:=.tail _ OJ
theorem CA{a b c d e f g h i:Addr}{l:List Addr}:a∈b::c::d::e::f::g::h::i::a::l:=.tail _ Qx
theorem RZ{a b c d e f g h i j:Addr}{l:List Addr}:a∈b::c::d::e::f::g::h::i::j::a::l:=.tail _ CA
theorem a7{x a:Addr}{l:List Addr}(n:x≠a)(h:x∉l):x∉a::l:=λm=>(au m).elim n h
theorem di{x a:Addr}(n:x≠a):x∉[a]:=λm=>n (aw m)
theorem nz{l:List Addr}(h:l.Nodup)(i j:Nat){a b:Addr}(n:(i==j)=false)(d:l[i]?=some a)(g:l[j]?=some b):a≠b:=λe=>by
 obtain⟨k,c⟩:=be d
 obtain⟨m,f⟩:=be g
 have:=(List.getElem_inj h).mp (c.trans (e.trans f.symm))
 rw[this]at n
 exact tF ((beq_self_eq_true j).symm.trans n)
end
section
set_option genInjectivity true
inductive AV where
 |undef|none
 |bool (b:Bool)
 |int (i:Int)
 |bytes (b:List UInt8)
 |ref (a:Addr)
inductive AO where
 |list (xs:List AV)
 |tup (xs:List AV)
 |dict (es:List (Int×AV))
 |inst (c:Nat) (fs:List (Nat×AV))
noncomputable abbrev Hp:=Addr->Option (Bool×AO)
noncomputable def upd(σ:Hp)(a:Addr)(c:Bool×AO):Hp:=λb=>if b=a then some c else σ b
noncomputable def VR:Value->AV->Prop
 |.none,.none=>True
 |.bool b,.bool c=>b=c
 |.int i _,.int j=>i=j
 |.bytes b _,.bytes c=>b.toList=c
 |.ref a,.ref b=>a=b
 |_,_=>False
inductive aF{U O:Type}(R:U->O->Prop):List U->List O->Prop
 |nil:aF R [] []
 |cons {a b l₁ l₂}:R a b->aF R l₁ l₂->aF R (a::l₁) (b::l₂)
namespace aF
variable {U O:Type} {R:U->O->Prop}
theorem length{l₁:List U}{l₂:List O}(h:aF R l₁ l₂):l₁.length=l₂.length:=by
 induction h with
 |nil=>rfl
 |cons _ _ a=>exact congrArg Nat.succ a
theorem append{l₁ a:List U}{l₂ b:List O}(h:aF R l₁ l₂)(k:aF R a b):aF R (l₁++a) (l₂++b):=by
 induction h with
 |nil=>exact k
 |cons h _ c=>exact .cons h c
theorem get{l₁:List U}{l₂:List O}(h:aF R l₁ l₂):∀{i:Nat} {b:O},l₂[i]?=some b->∃a,l₁[i]?=some a/\R a b:=by
 induction h with
 |nil=>intro i b e;exact oQ e
 |cons h _ c=>
  intro i b e
  cases i with
  |zero=>exact⟨_,rfl,Option.some.inj e▸h⟩
  |succ i=>exact c e
theorem take{l₁:List U}{l₂:List O}(h:aF R l₁ l₂):∀n,aF R (l₁.take n) (l₂.take n):=by
 induction h with
 |nil=>intro n;cases n<;>exact .nil
 |cons h _ a=>intro n;cases n with
  |zero=>exact .nil
  |succ n=>exact .cons h (a n)
theorem drop{l₁:List U}{l₂:List O}(h:aF R l₁ l₂):∀n,aF R (l₁.drop n) (l₂.drop n):=by
 induction h with
 |nil=>intro n;cases n<;>exact .nil
 |cons h t a=>intro n;cases n with
  |zero=>exact .cons h t
  |succ n=>exact a n
theorem set{l₁:List U}{l₂:List O}(h:aF R l₁ l₂){a:U}{b:O}(c:R a b):∀n,aF R (l₁.set n a) (l₂.set n b):=by
 induction h with
 |nil=>intro n;exact .nil
 |cons h t d=>intro n;cases n with
  |zero=>exact .cons c t
  |succ n=>exact .cons h (d n)
theorem map{c d:Type}{S:c->d->Prop}{f:U->c}{g:O->d}{l₁:List U}{l₂:List O}(h:aF R l₁ l₂)(k:∀a b,R a b->S (f a) (g b)):aF S (l₁.map f) (l₂.map g):=by
 induction h with
 |nil=>exact .nil
 |cons h _ e=>exact .cons (k _ _ h) e
theorem replicate{a:U}{b:O}(h:R a b):∀n,aF R (List.replicate n a) (List.replicate n b)
 |0=>.nil
 |n+1=>.cons h (replicate h n)
theorem one{a:U}{b:O}(h:R a b):aF R [a] [b]:=.cons h .nil
end aF
structure Tb where
 an:Nat->Str
 nf:Nat
 ca:Nat->Addr
section
variable (T:Tb)
noncomputable abbrev kP(vs:List Value)(n:Nat):Obj:={cls:=.type "tuple",data:=.seq vs.toArray n}
noncomputable abbrev jz(vs:List Value)(n:Nat):Obj:={cls:=.type "list",data:=.seq vs.toArray n}
def FR(e:DictEntry)(p:Nat×AV):Prop:=p.1<T.nf/\(∃t,e.key=.str (T.an p.1) t)/\VR e.val p.2
def KR(e:Int×Value)(p:Int×AV):Prop:=e.1=p.1/\VR e.2 p.2
noncomputable def OR(D:Addr->Addr)(has:Addr->Obj->Prop)(a:Addr):AO->Prop
 |.list xs=>∃vs n,has a (jz vs n)/\aF VR vs xs
 |.tup xs=>∃vs n,has a (kP vs n)/\aF VR vs xs
 |.dict es=>∃ob kvs,has a ob/\aF KR kvs es/\(∀prog w,ob.IsDictOf (intKind prog w) kvs)/\a≠sysModules
 |.inst c fs=>∃b n,has a (instObj (T.ca c) (D a))/\has (D a) (dictOf b n)/\aF (FR T) b fs
def Hs(h₀:Heap)(Z:List (Addr×Obj))(fz:Bool)(x:Addr)(ob:Obj):Prop:=(x,ob)∈Z∨(fz=true/\h₀.get? x=some ob)
structure HR(σ:Hp)(h₀:Heap)(Z:List (Addr×Obj))(D:Addr->Addr)(opq:List (Addr×Obj)):Prop where
 nd:(Z.map (·.1)).Nodup
 ob:∀a fz o,σ a=some (fz,o)->OR T D (Hs h₀ Z fz) a o
 dj:∀a fz c fs,σ a=some (fz,.inst c fs)->σ (D a)=none
 ij:∀a fz c fs b fz' c' fs',σ a=some (fz,.inst c fs)->σ b=some (fz',.inst c' fs')->D a=D b->a=b
 oq:∀p∈opq,p∈Z/\σ p.1=none/\∀a fz c fs,σ a=some (fz,.inst c fs)->D a≠p.1
end
theorem OR.mv{T:Tb}{D e:Addr->Addr}{P d:Addr->Obj->Prop}{a:Addr}{o:AO}(h:OR T D P a o)(k:∀ob,P a ob->d a ob)(f:∀c fs,o=.inst c fs->e a=D a/\∀ob,P (D a) ob->d (D a) ob):OR T e d a o:=by
 cases o with
 |inst c fs=>obtain⟨b,n,i,g,j⟩:=h;have q:=f c fs rfl;exact⟨b,n,by rw[q.1];exact k _ i,by rw[q.1];exact q.2 _ g,j⟩
 |_=>exact h.elim λb h=>⟨b,h.elim λn h=>⟨n,k _ h.1,h.2⟩⟩
theorem OR.mono{T:Tb}{D d:Addr->Addr}{P b:Addr->Obj->Prop}{a:Addr}{o:AO}(h:OR T D P a o)(f:∀c fs,o=.inst c fs->d a=D a)(k:∀x ob,P x ob->b x ob):OR T d b a o:=h.mv (k a) λc fs e=>⟨f c fs e,k _⟩
theorem OR.self{T:Tb}{D:Addr->Addr}{P:Addr->Obj->Prop}{a:Addr}{o:AO}(h:OR T D P a o):∃ob,P a ob:=by
 cases o<;>exact h.elim λb h=>h.elim λn h=>⟨_,h.1⟩
noncomputable def qh(a:Addr)(ob:Obj):List (Addr×Obj)->List (Addr×Obj)
 |[]=>[]
 |p::r=>if p.1=a then(a,ob)::r else p::qh a ob r
theorem jF{a:Addr}{ob:Obj}{p:Addr×Obj}{r:List (Addr×Obj)}(h:p.1=a):qh a ob (p::r)=(a,ob)::r:=if_pos h
theorem gW{a:Addr}{ob:Obj}{p:Addr×Obj}{r:List (Addr×Obj)}(h:p.1≠a):qh a ob (p::r)=p::qh a ob r:=if_neg h
theorem pC(a:Addr)(ob:Obj)(Z:List (Addr×Obj)):(qh a ob Z).map (·.1)=Z.map (·.1):=by
 induction Z with
 |nil=>rfl
 |cons p r b=>
  by_cases h:p.1=a
  ·rw[jF h,List.map_cons,List.map_cons,h]
  ·rw[gW h,List.map_cons,List.map_cons,b]
theorem eY{a:Addr}{o ob:Obj}{Z:List (Addr×Obj)}(c:(Z.map (·.1)).Nodup)(h:(a,o)∈Z):Upd a o ob Z (qh a ob Z):=by
 induction Z with
 |nil=>cases h
 |cons p r i=>
  rw[List.map_cons,List.nodup_cons]at c
  by_cases e:p.1=a
  ·rw[jF e]
   rcases au h with b|d
   ·rw[←b]
    exact .head λq g j=>c.1 (by rw[←b,←j];exact List.mem_map_of_mem (f:=(·.1)) g)
   ·exact absurd (List.mem_map_of_mem (f:=(·.1)) d) (by rw[←e];exact c.1)
  ·rw[gW e]
   rcases au h with b|d
   ·exact absurd (by rw[←b]) e
   ·exact .tail e (i c.2 d)
theorem mG{a:Addr}{o ob:Obj}{Z:List (Addr×Obj)}(h:(a,o)∈Z):(a,ob)∈qh a ob Z:=by
 induction Z with
 |nil=>cases h
 |cons p r c=>
  by_cases e:p.1=a
  ·rw[jF e];exact .head _
  ·rw[gW e]
   rcases au h with b|d
   ·exact absurd (by rw[←b]) e
   ·exact .tail _ (c d)
theorem bW{a:Addr}{ob:Obj}{Z:List (Addr×Obj)}{p:Addr×Obj}(h:p∈Z)(n:p.1≠a):p∈qh a ob Z:=by
 induction Z with
 |nil=>cases h
 |cons q r d=>
  by_cases e:q.1=a
  ·rw[jF e]
   rcases au h with b|c
   ·subst b;exact absurd e n
   ·exact .tail _ c
  ·rw[gW e]
   rcases au h with b|c
   ·subst b;exact .head _
   ·exact .tail _ (d c)
noncomputable def setD(D:Addr->Addr)(x a:Addr):Addr->Addr:=λy=>if y=x then a else D y
theorem eA{D:Addr->Addr}{x a:Addr}:setD D x a x=a:=if_pos rfl
theorem dz{D:Addr->Addr}{x a y:Addr}(h:y≠x):setD D x a y=D y:=if_neg h
theorem uR{r:Addr}:AV.ref r≠.undef:=nofun
theorem uY{r:List UInt8}:AV.bytes r≠.undef:=nofun
theorem uN:AV.none≠.undef:=nofun
theorem ab{σ:Hp}{a:Addr}{c:Bool×AO}:upd σ a c a=some c:=if_pos rfl
theorem ac{σ:Hp}{a b:Addr}{c:Bool×AO}(h:b≠a):upd σ a c b=σ b:=if_neg h
theorem du{σ:Hp}{a b:Addr}{c v:Bool×AO}{P:Prop}(e:upd σ a c b=some v)(f:b=a->c=v->P)(g:b≠a->σ b=some v->P):P:=
 if h:b=a then f h (Option.some.inj ((if_pos h).symm.trans e)) else g h ((if_neg h).symm.trans e)
theorem cF{U:Type}{P:Prop}{o:Option U}{v:U}(h:o=none)(e:o=some v):P:=oQ (h.symm.trans e)
theorem iC{Z:List (Addr×Obj)}{a:Addr}(b:∀p∈Z,p.1≠a)(c:(Z.map (·.1)).Nodup):(a::Z.map (·.1)).Nodup:=
 List.nodup_cons.mpr ⟨λh=>(bw h).elim λp h=>b p h.1 h.2,c⟩
section
variable {T:Tb} {σ:Hp} {h₀:Heap} {Z:List (Addr×Obj)} {D:Addr->Addr} {opq:List (Addr×Obj)}
theorem Hs.ne{fz:Bool}{a:Addr}{ob:Obj}(b:∀p∈Z,p.1≠a)(c:h₀.get? a=none)(h:Hs h₀ Z fz a ob):False:=h.elim (λh=>b _ h rfl) λh=>cF c h.2
theorem HR.fresh(R:HR T σ h₀ Z D opq){a:Addr}(b:∀p∈Z,p.1≠a)(d:h₀.get? a=none):σ a=none:=by
 cases e:σ a with
 |none=>rfl
 |some c=>exact((R.ob _ _ _ e).self.elim λf h=>h.ne b d).elim
theorem HR.dfresh(R:HR T σ h₀ Z D opq){a:Addr}(b:∀p∈Z,p.1≠a)(d:h₀.get? a=none){x:Addr}{fz:Bool}{c:Nat}{fs:List (Nat×AV)}(e:σ x=some (fz,.inst c fs)):D x≠a:=λh=>
 (R.ob _ _ _ e).elim λ_ k=>k.elim λ_ k=>(h▸k.2.1).ne b d
theorem HR.putIn(R:HR T σ h₀ Z D opq){a:Addr}{fz:Bool}{o:AO}{news' f:List (Addr×Obj)}(nd:(news'.map (·.1)).Nodup)(j:OR T D (Hs h₀ news' fz) a o)(hi:∀c fs,o≠.inst c fs)
  (l:∀x z c fs,σ x=some (z,.inst c fs)->D x≠a) (ob:∀b z o',b≠a->σ b=some (z,o')->OR T D (Hs h₀ news' z) b o') (oq:∀p∈f,p∈opq/\p.1≠a/\p∈news'):HR T (upd σ a (fz,o)) h₀ news' D f where
 nd:=nd
 ob:=λb z o' e=>du e (λn d=>by clear e;cases d;subst n;exact j) (ob b z o')
 dj:=λb z c fs e=>du e (λ_ d=>absurd (congrArg Prod.snd d) (hi c fs)) λ_ e=>(ac (l _ _ _ _ e)).trans (R.dj _ _ _ _ e)
 ij:=λx z c fs y s k i e g h=>du e (λ_ d=>absurd (congrArg Prod.snd d) (hi c fs)) λ_ e=>du g (λ_ d=>absurd (congrArg Prod.snd d) (hi k i)) λ_ g=>R.ij _ _ _ _ _ _ _ _ e g h
 oq:=λp m=>have q:=oq p m;have r:=R.oq p q.1;⟨q.2.2,(ac q.2.1).trans r.2.1,λx z c fs e=>du e (λ_ d=>absurd (congrArg Prod.snd d) (hi c fs)) λ_ e=>r.2.2 _ _ _ _ e⟩
theorem HR.alloc(R:HR T σ h₀ Z D opq){a:Addr}{ob:Obj}{fz:Bool}{o:AO}(b:∀p∈Z,p.1≠a)(g:h₀.get? a=none)
  (f:∀P:Addr->Obj->Prop,P a ob->OR T D P a o) (hi:∀c fs,o≠.inst c fs):HR T (upd σ a (fz,o)) h₀ ((a,ob)::Z) D opq:=
 R.putIn (iC b R.nd) (f _ (.inl (.head _))) hi (λ_ _ _ _ e=>R.dfresh b g e) (λ_ _ _ _ e=>(R.ob _ _ _ e).mono (λ_ _ _=>rfl) λ_ _ h=>h.imp (.tail _) id)
  λp d=>have q:=(R.oq p d).1;⟨d,b p q,.tail _ q⟩
theorem HR.allocI(R:HR T σ h₀ Z D opq){x d:Addr}{c:Nat}{fz:Bool}(w:∀p∈Z,p.1<d)(z:d<x)(r:h₀.get? d=none)(t:h₀.get? x=none):
  HR T (upd σ x (fz,.inst c [])) h₀ ((x,instObj (T.ca c) d)::(d,dictOf [] 0)::Z) (setD D x d) opq:=by
 have a:∀p∈Z,p.1≠d:=λp i=>Nat.ne_of_lt (w p i)
 have g:∀p∈Z,p.1≠x:=λp i=>Nat.ne_of_lt (Nat.lt_trans (w p i) z)
 have l:x≠d:=Nat.ne_of_gt z
 have E:∀p∈(d,dictOf [] 0)::Z,p.1≠x:=λp i=>(au i).elim (λe=>e▸Ne.symm l) (g p)
 refine⟨iC E (iC a R.nd),λb m J e=>du e (λj A=>?_) λj e=>?_,λb m I o e=>du e (λj _=>?_) λj e=>?_,λu fz c G v m I o e k h=>du e (λn _=>?_) λn e=>?_,λp i=>?_⟩
 ·clear e;cases A;subst j
  exact⟨[],0,.inl (by rw[eA];exact .head _),.inl (by rw[eA];exact .tail _ (.head _)),.nil⟩
 ·exact(R.ob _ _ _ e).mono (λ_ _ _=>dz j) λy B h=>h.imp (λh=>.tail _ (.tail _ h)) id
 ·rw[j,eA,ac (Ne.symm l)];exact R.fresh a r
 ·rw[dz j,ac (R.dfresh g t e)];exact R.dj _ _ _ _ e
 ·refine du k (λf _=>n.trans f.symm) λf k=>?_
  rw[n,eA,dz f]at h
  exact absurd h.symm (R.dfresh a r k)
 ·rw[dz n]at h
  refine du k (λf _=>?_) λf k=>?_
  ·rw[f,eA]at h;exact absurd h (R.dfresh a r e)
  ·rw[dz f]at h;exact R.ij _ _ _ _ _ _ _ _ e k h
 ·have q:=R.oq p i
  refine⟨.tail _ (.tail _ q.1),(ac (g p q.1)).trans q.2.1,λy fz c G e=>du e (λs _=>?_) λs e=>?_⟩
  ·rw[s,eA];exact Ne.symm (a p q.1)
  ·rw[dz s];exact q.2.2 _ _ _ _ e
theorem HR.dne(R:HR T σ h₀ Z D opq){a:Addr}{v:Bool×AO}(e:σ a=some v):∀x z c fs,σ x=some (z,.inst c fs)->D x≠a:=λ_ _ _ _ ex h=>cF (R.dj _ _ _ _ ex) (h.symm▸e)
theorem HR.one(R:HR T σ h₀ Z D opq){a:Addr}{ob:Obj}(e:Hs h₀ Z false a ob):(a,ob)∈Z:=e.elim id λh=>fT h.1
theorem HR.write(R:HR T σ h₀ Z D opq){a:Addr}{ob:Obj}{fz:Bool}{o o':AO}(e:σ a=some (false,o))(_:∀c fs,o≠.inst c fs)
  (l:∀P:Addr->Obj->Prop,P a ob->OR T D P a o') (f:∀c fs,o'≠.inst c fs):HR T (upd σ a (fz,o')) h₀ (qh a ob Z) D opq:=
 (R.ob _ _ _ e).self.elim λj r=>R.putIn (by rw[pC];exact R.nd) (l _ (.inl (mG (R.one r)))) f (R.dne e)
  (λb z n m g=>(R.ob _ _ _ g).mv (λ_ h=>h.imp (λh=>bW h m) id) λc fs k=>⟨rfl,λ_ h=>h.imp (λh=>bW h (R.dne e _ z c fs (k▸g))) id⟩)
  λp i=>have q:=R.oq p i;have d:p.1≠a:=λh=>cF q.2.1 (h.symm▸e);⟨i,d,bW q.1 d⟩
theorem HR.writeI(R:HR T σ h₀ Z D opq){a:Addr}{fz:Bool}{c:Nat}{fs l:List (Nat×AV)}{i:List DictEntry}{n:Nat}(e:σ a=some (false,.inst c fs))
  (B:aF (FR T) i l):HR T (upd σ a (fz,.inst c l)) h₀ (qh (D a) (dictOf i n) Z) D opq:=by
 obtain⟨w,n0,g1,g2,g3⟩:=R.ob _ _ _ e
 have g:∀{b:Addr} {v},σ b=some v->b≠D a:=λd h=>cF (R.dj _ _ _ _ e) (h▸d)
 have old:∀{P:Prop} {y:Addr} {z:Bool} {m:Nat} {o:List (Nat×AV)},upd σ a (fz,.inst c l) y=some (z,.inst m o)->(∀z m o,σ y=some (z,.inst m o)->P)->P:=λj f=>du j (λJ _=>f _ _ _ (J.symm▸e)) λ_ j=>f _ _ _ j
 refine⟨by rw[pC];exact R.nd,λb z I d=>du d (λs t=>?_) λs d=>?_,λb z m o d=>old d λz m o d=>?_,λx z1 G r y z2 K u ex j h=>old ex λ_ _ _ ex=>old j λ_ _ _ j=>R.ij _ _ _ _ _ _ _ _ ex j h,λp E=>?_⟩
 ·clear d;cases t;subst s
  exact⟨i,n,.inl (bW (R.one g1) (g e)),.inl (mG (R.one g2)),B⟩
 ·exact(R.ob _ _ _ d).mv (λ_ h=>h.imp (λh=>bW h (g d)) id) λc fs A=>⟨rfl,λ_ h=>h.imp (λh=>bW h λk=>s (R.ij _ z c fs _ _ _ _ (A▸d) e k)) id⟩
 ·have q:=R.dj _ _ _ _ d
  exact(ac λh=>cF q (h.symm▸e)).trans q
 ·have q:=R.oq p E
  exact⟨bW q.1 (Ne.symm (q.2.2 _ _ _ _ e)),(ac λh=>cF q.2.1 (h.symm▸e)).trans q.2.1,λx z1 G r ex=>old ex λ_ _ _ ex=>q.2.2 _ _ _ _ ex⟩
end
def Wk(d σ:Hp):Prop:=∀a c,d a=some c->∃b,σ a=some b/\b.2=c.2/\(b.1=true->c.1=true)
theorem Wk.refl(σ:Hp):Wk σ σ:=λ_ c h=>⟨c,h,rfl,id⟩
theorem HR.wk{T:Tb}{σ d:Hp}{h₀:Heap}{Z:List (Addr×Obj)}{D:Addr->Addr}{opq:List (Addr×Obj)}(R:HR T σ h₀ Z D opq)(w:Wk d σ):HR T d h₀ Z D opq:=by
 have up:∀{P:Prop} {a g o},d a=some (g,o)->(∀z,σ a=some (z,o)->(z=true->g=true)->P)->P:=λ{P a g o} e f=>(w _ _ e).elim λc h=>f c.1 (h.1.trans (congrArg some (Prod.ext rfl h.2.1))) h.2.2
 have no:∀a,σ a=none->d a=none:=λa h=>by
  cases e:d a with
  |none=>rfl
  |some c=>exact up e λz k _=>cF h k
 exact⟨R.nd,λa g o e=>up e λz i j=>(R.ob _ _ _ i).mono (λ_ _ _=>rfl) λx v h=>h.imp id λh=>⟨j h.1,h.2⟩,λa g c l e=>up e λ_ i _=>no _ (R.dj _ _ _ _ i),
  λa g c l b s u n e m h=>up e λ_ i _=>up m λ_ j _=>R.ij _ _ _ _ _ _ _ _ i j h,
  λp r=>have q:=R.oq p r;⟨q.1,no _ q.2.1,λa g c l e=>up e λ_ t _=>q.2.2 _ _ _ _ t⟩⟩
end
section
set_option genCtorIdx false
mutual
inductive BO where
 |add|sub|mul|fdiv|mod|band|bor|shl|shr|pow
inductive CO where
 |eq|ne|lt|le|gt|ge|is|isnt|isin|notin
inductive BF where
 |len|sorted|min1|min2|bytes|list
inductive BM where
 |append|insert|pop|get
end
set_option genCtorIdx true
mutual
inductive X where
 |k (v:AV)
 |v (i:Nat)
 |at(e:X) (f:Nat)
 |bin (o:BO) (a b:X)
 |cmp (o:CO) (a b:X)
 |orX (a b:X)
 |ite (c:C) (a b:X)
 |sub (a i:X)
 |upto (a hi:X)
 |frm (a lo:X)
 |lst (es:XS)
 |tup (es:XS)
 |dic
 |fn (f:Nat) (es:XS)
 |mk (c:Nat) (es:XS)
 |mth (o:X) (g:Nat) (es:XS)
 |bi (b:BF) (es:XS)
 |bm (b:BM) (o:X) (es:XS)
 |comp (tgt:Nat) (it:X) (cs:CS) (elt:X)
 |compR (tgt:Nat) (lo hi:X) (cs:CS) (elt:X)
inductive XS where
 |nil
 |cons (e:X) (es:XS)
inductive C where
 |t (e:X)
 |not (c:C)
 |and (cs:CS)
 |or (cs:CS)
inductive CS where
 |nil
 |cons (c:C) (cs:CS)
end
set_option genCtorIdx false
mutual
inductive S where
 |asg (i:Nat) (e:X)
 |asgT (is:List Nat) (e:X)
 |setA (o:X) (f:Nat) (e:X)
 |setI (o i:X) (e:X)
 |aug (i:Nat) (o:BO) (e:X)
 |augA (o:X) (f:Nat) (op:BO) (e:X)
 |augI (o i:X) (op:BO) (e:X)
 |ex (e:X)
 |ret (e:X)
 |ite (c:C) (a b:SS)
 |whl (c:C) (b:SS)
 |for (tgt:List Nat) (it:X) (b:SS)
 |forR (tgt:Nat) (lo hi:X) (up:Bool) (b:SS)
 |brk|cnt|pas
 |delI (o i:X)
 |tri (b:SS)
 |dead
inductive SS where
 |nil
 |cons (s:S) (ss:SS)
end
noncomputable abbrev aG:=List AV
noncomputable abbrev PX:=AV->Hp->Prop
set_option genCtorIdx true
inductive Fl where
 |next|brk|cont
 |ret (v:AV)
noncomputable def get(l:aG)(i:Nat):AV:=l.getD i .undef
noncomputable abbrev line:Nat:=10000
def sel(a:AV)(f:Prop)(d:Int->Prop)(c:List UInt8->Prop)(e:Addr->Prop):Prop:=match a with
 |.none=>f
 |.int i=>d i
 |.bytes b=>c b
 |.ref r=>e r
 |_=>False
def bU(a:AV)(k:Int->Prop):Prop:=match a with
 |.int i=>k i
 |_=>False
def CD(a:AV)(k:List UInt8->Prop):Prop:=match a with
 |.bytes b=>k b
 |_=>False
def kH(a:AV)(k:Addr->Prop):Prop:=match a with
 |.ref r=>k r
 |_=>False
def Di(a:AV)(k:Prop):Prop:=match a with
 |.none=>k
 |_=>False
def Li(a:AV)(k:Bool->Prop):Prop:=match a with
 |.bool b=>k b
 |_=>False
def zd(a:AV)(k:AV->Prop):Prop:=match a with
 |.undef=>False
 |a=>k a
noncomputable def C4:AV->Bool
 |.none=>true
 |_=>false
def kO(o:AO)(e f:List AV->Prop)(h:List (Int×AV)->Prop)(g:Nat->List (Nat×AV)->Prop):Prop:=match o with
 |.list a=>e a
 |.tup a=>f a
 |.dict d=>h d
 |.inst c b=>g c b
def ei{a:Type}(o:Option a)(k:a->Prop)(n:Prop):Prop:=match o with
 |some v=>k v
 |none=>n
def op{a:Type}(o:Option a)(k:a->Prop):Prop:=ei o k False
def AM(o:Option (Bool×AO))(a b:List AV->Prop)(d:List (Int×AV)->Prop):Prop:=op o λc=>kO c.2 a b d λ_ _=>False
def cL(o:Option (Bool×AO))(k:List AV->Prop):Prop:=AM o k (λ_=>False) λ_=>False
def cT(o:Option (Bool×AO))(k:List AV->Prop):Prop:=AM o (λ_=>False) k λ_=>False
def cD(o:Option (Bool×AO))(k:List (Int×AV)->Prop):Prop:=AM o (λ_=>False) (λ_=>False) k
def cN(o:Option (Bool×AO))(k:Nat->List (Nat×AV)->Prop):Prop:=op o λc=>kO c.2 (λ_=>False) (λ_=>False) (λ_=>False) k
def C7(o:Option (Bool×AO))(a:List AV->Prop)(d:List (Int×AV)->Prop)(b:Nat->List (Nat×AV)->Prop):Prop:=op o λc=>c.1=false/\kO c.2 a (λ_=>False) d b
def wL(o:Option (Bool×AO))(k:List AV->Prop):Prop:=C7 o k (λ_=>False) λ_ _=>False
def Ak(as:List AV)(k:AV->Prop):Prop:=match as with
 |[a]=>k a
 |_=>False
def Dh(as:List AV)(k:AV->AV->Prop):Prop:=match as with
 |[a,b]=>k a b
 |_=>False
def bin(o:BO)(a b:AV)(σ:Hp)(Q:PX):Prop:=match o with
 |.add=>sel a False (λx=>bU b λy=>Q (.int (x+y)) σ) (λx=>CD b λy=>(x.length<=line/\y.length<=line)/\Q (.bytes (x++y)) σ)
   λa=>kH b λb=>cL (σ a) λc=>cL (σ b) λd=>(c.length<=line/\d.length<=line)/\∀r,σ r=none->Q (.ref r) (upd σ r (false,.list (c++d)))
 |.mul=>sel a False (λx=>bU b λy=>(-(2 ^ 62)<x/\x<2 ^ 62)/\Q (.int (x*y)) σ) (λ_=>False)
   λa=>bU b λn=>cL (σ a) λc=>Ak c λx=>(0<=n/\n<=100)/\∀r,σ r=none->Q (.ref r) (upd σ r (false,.list (List.replicate n.toNat x)))
 |.sub=>bU a λx=>bU b λy=>Q (.int (x-y)) σ
 |.fdiv=>bU a λx=>bU b λy=>(0<y/\y<2 ^ 30)/\Q (.int (x/y)) σ
 |.mod=>bU a λx=>bU b λy=>0<y/\Q (.int (x%y)) σ
 |.band=>bU a λx=>bU b λy=>Q (.int (Builtin.bitAnd x y)) σ
 |.bor=>bU a λx=>bU b λy=>Q (.int (Builtin.bitOr x y)) σ
 |.shl=>bU a λx=>bU b λy=>(0<=y/\y<=100/\x.natAbs<2 ^ 64)/\Q (.int (x*2 ^ y.toNat)) σ
 |.shr=>bU a λx=>bU b λy=>0<=y/\Q (.int (x.fdiv (2 ^ y.toNat))) σ
 |.pow=>bU a λx=>bU b λy=>(x=12/\0<=y/\y<=2)/\Q (.int (12 ^ y.toNat)) σ
noncomputable def AL:AV->Option Int
 |.int i=>some i
 |_=>none
noncomputable def cJ:List AV->Option (List Int)
 |[]=>some []
 |v::r=>(AL v).bind λi=>(cJ r).map (i::·)
noncomputable def bE(es:List (Int×AV))(k:Int):Option AV:=(es.find? λe=>decide (e.1=k)).map (·.2)
def cmp(o:CO)(a b:AV)(σ:Hp)(Q:Bool->Prop):Prop:=match o with
 |.eq=>sel a False (λx=>bU b λy=>Q (decide (x=y))) (λx=>CD b λy=>Q (decide (x=y))) λ_=>False
 |.ne=>sel a (sel b (Q false) (λ_=>False) (λ_=>Q true) λ_=>False) (λx=>bU b λy=>Q (decide (x≠y))) (λx=>sel b (Q true) (λ_=>False) (λy=>Q (decide (x≠y))) λ_=>False)
   λa=>kH b λb=>cL (σ a) λd=>cL (σ b) λe=>op (cJ d) λh=>op (cJ e) λc=>Q (!decide (h=c))
 |.lt=>sel a False (λx=>bU b λy=>Q (decide (x<y))) (λx=>CD b λy=>Q (decide (x<y))) λ_=>False
 |.le=>sel a False (λx=>bU b λy=>Q (decide (x<=y))) (λx=>CD b λy=>Q (!decide (y<x))) λ_=>False
 |.gt=>sel a False (λx=>bU b λy=>Q (decide (y<x))) (λx=>CD b λy=>Q (decide (y<x))) λ_=>False
 |.ge=>sel a False (λx=>bU b λy=>Q (decide (y<=x))) (λx=>CD b λy=>Q (!decide (x<y)))
   λa=>kH b λb=>cT (σ a) λd=>Dh d λx y=>bU x λx=>bU y λy=>cT (σ b) λg=>Dh g λu v=>bU u λu=>bU v λv=>Q (decide (u<x∨(u=x/\v<=y)))
 |.is=>Di b (Q (C4 a))
 |.isnt=>Di b (Q (!C4 a))
 |.isin=>bU a λx=>kH b λb=>cD (σ b) λf=>Q (bE f x).isSome
 |.notin=>bU a λx=>kH b λb=>cL (σ b) λe=>op (cJ e) λc=>Q (!c.any (·==x))
def mh(a:AV)(σ:Hp)(Q:Bool->Prop):Prop:=match a with
 |.bool b=>Q b
 |.ref r=>cL (σ r) λc=>c.length<=line/\Q (!c.isEmpty)
 |_=>False
noncomputable def d6(k:Int)(v:AV)(es:List (Int×AV)):List (Int×AV):=
 if es.any (λe=>decide (e.1=k)) then es.map (λe=>if e.1=k then(e.1,v) else e) else es++[(k,v)]
noncomputable def Dg(k:Int)(es:List (Int×AV)):List (Int×AV):=es.filter λe=>decide (e.1≠k)
noncomputable def vM(fs:List (Nat×AV))(f:Nat):Option AV:=(fs.find? λe=>e.1==f).map (·.2)
noncomputable def gF(f:Nat)(v:AV):List (Nat×AV)->List (Nat×AV)
 |[]=>[(f,v)]
 |e::r=>if e.1==f then(e.1,v)::r else e::gF f v r
def oA(a i:AV)(σ:Hp)(Q:PX):Prop:=sel a False (λ_=>False) (λb=>bU i λn=>b.length<=line/\0<=n/\op b[n.toNat]? λv=>Q (.int v.toNat) σ)
 λr=>bU i λn=>AM (σ r) (λc=>c.length<=line/\(if 0<=n then op c[n.toNat]? λv=>Q v σ else n= -1/\op c.getLast? λv=>Q v σ)) (λc=>c.length<=line/\0<=n/\op c[n.toNat]? λv=>Q v σ)
  λd=>d.length<=line/\op (bE d n) λv=>Q v σ
def setItem(a i v:AV)(σ:Hp)(Q:Hp->Prop):Prop:=kH a λr=>bU i λn=>C7 (σ r) (λb=>b.length<=line/\0<=n/\n<b.length/\Q (upd σ r (false,.list (b.set n.toNat v)))) (λc=>c.length<=line/\Q (upd σ r (false,.dict (d6 n v c)))) λ_ _=>False
def delItem(a i:AV)(σ:Hp)(Q:Hp->Prop):Prop:=kH a λr=>bU i λn=>C7 (σ r) (λc=>c.length<=line/\0<=n/\n<c.length/\Q (upd σ r (false,.list (c.eraseIdx n.toNat)))) (λb=>b.length<=line/\(bE b n).isSome/\Q (upd σ r (false,.dict (Dg n b)))) λ_ _=>False
def yI(b:Nat->Nat->Bool)(a:AV)(f:Nat)(σ:Hp)(Q:PX):Prop:=kH a λr=>cN (σ r) λc d=>b c f=true/\op (vM d f) λv=>Q v σ
def setAttr(d:Nat->Nat->Bool)(a:AV)(f:Nat)(v:AV)(σ:Hp)(Q:Hp->Prop):Prop:=kH a λr=>C7 (σ r) (λ_=>False) (λ_=>False) λc b=>d c f=true/\b.length<=100/\Q (upd σ r (false,.inst c (gF f v b)))
noncomputable def P2:AV->Option Addr
 |.ref r=>some r
 |_=>none
noncomputable def HW:AO->List AV
 |.tup xs=>xs
 |_=>[]
noncomputable def Gr(l:List AV):Option (Int×Int×Int):=match l with
 |[a,b,c]=>(AL a).bind λx=>(AL b).bind λy=>(AL c).map λz=>(x,y,z)
 |_=>none
noncomputable def kU(σ:Hp)(v:AV):Option (Int×Int×Int):=(P2 v).bind λr=>(σ r).bind λc=>Gr (HW c.2)
noncomputable def dI(σ:Hp):List AV->Option (List (Int×Int×Int))
 |[]=>some []
 |v::r=>(kU σ v).bind λx=>(dI σ r).map (x::·)
noncomputable def ju(a b:Int×Int×Int):Bool:=decide (a.1<b.1∨(a.1=b.1/\(a.2.1<b.2.1∨(a.2.1=b.2.1/\a.2.2<b.2.2))))
noncomputable def u8(v:AV):Option UInt8:=(AL v).bind λi=>if 0<=i/\i<256 then some (UInt8.ofNat i.toNat) else none
noncomputable def EM:List AV->Option (List UInt8)
 |[]=>some []
 |v::r=>(u8 v).bind λi=>(EM r).map (i::·)
def eI(b:BF)(as:List AV)(σ:Hp)(Q:PX):Prop:=match b with
 |.len=>Ak as λa=>sel a False (λ_=>False) (λb=>b.length<=line/\Q (.int b.length) σ) λr=>cL (σ r) λd=>d.length<=line/\Q (.int d.length) σ
 |.sorted=>Ak as λa=>kH a λr=>AM (σ r)
   (λd=>d.length<=60/\ei (cJ d) (λf=>∀c (e:List Int),σ c=none->e.Perm f->e.Pairwise (·<=·)->Q (.ref c) (upd σ c (false,.list (e.map .int))))
    (op (dI σ d) λi=>i.Nodup/\∀c (h:List AV) (g:List (Int×Int×Int)),σ c=none->h.Perm d->dI σ h=some g->g.Perm i->g.Pairwise (λa b=>ju a b=true)->Q (.ref c) (upd σ c (false,.list h))))
   (λ_=>False) λj=>j.length<=60/\∀c (e:List Int),σ c=none->e.Perm (j.map (·.1))->e.Pairwise (·<=·)->Q (.ref c) (upd σ c (false,.list (e.map .int)))
 |.min1=>Ak as λa=>kH a λr=>cL (σ r) λd=>d.length<=line/\op (cJ d) λf=>0<f.length/\∀M,M∈f->(∀a,a∈f->M<=a)->Q (.int M) σ
 |.min2=>Dh as λx y=>bU x λx=>bU y λy=>Q (.int (if y<x then y else x)) σ
 |.bytes=>Ak as λa=>sel a False (λ_=>False) (λb=>b.length<=line/\Q (.bytes b) σ) λr=>cL (σ r) λd=>d.length<=8/\op (EM d) λb=>Q (.bytes b) σ
 |.list=>Ak as λa=>kH a λr=>cL (σ r) λd=>d.length<=line/\∀c,σ c=none->Q (.ref c) (upd σ c (false,.list d))
def jj(b:BM)(o:AV)(as:List AV)(σ:Hp)(Q:PX):Prop:=kH o λr=>match b with
 |.append=>Ak as λv=>wL (σ r) λa=>a.length<=line/\Q .none (upd σ r (false,.list (a++[v])))
 |.insert=>Dh as λn v=>bU n λn=>wL (σ r) λa=>a.length<=line/\0<=n/\n<=a.length/\Q .none (upd σ r (false,.list (a.take n.toNat++v::a.drop n.toNat)))
 |.pop=>Ak as λn=>bU n λn=>wL (σ r) λa=>a.length<=line/\0<=n/\op a[n.toNat]? λv=>Q v (upd σ r (false,.list (a.take n.toNat++a.drop (n.toNat+1))))
 |.get=>Dh as λn d=>bU n λn=>cD (σ r) λc=>c.length<=line/\Q ((bE c n).getD d) σ
def OE(b:BM)(o:Option (Bool×AO)):Prop:=match b with
 |.get=>cD o λ_=>True
 |_=>cL o λ_=>True
noncomputable def aM(lo hi:Int):List Int:=(List.range (hi-lo).toNat).map λk=>lo+(k:Nat)
noncomputable def dS(hi:Int):List Int:=(List.range (hi+1).toNat).map λk=>hi-(k:Nat)
structure Ft where
 fa:Nat->Addr
 mt:Nat->Nat->Option Nat
 mi:Nat->Option Nat
 fo:Nat->Nat->Bool
noncomputable abbrev bj:=Addr->List AV->Hp->PX->Prop
section
variable (F:Ft) (cal:bj)
noncomputable def jx(one:AV->Hp->(Option AV->Hp->Prop)->Prop):List AV->List AV->Hp->(List AV->Hp->Prop)->Prop
 |[],a,σ,Q=>Q a σ
 |v::r,a,σ,Q=>one v σ λy b=>jx one r (match y with|some y=>a++[y]|none=>a) b Q
mutual
noncomputable def cY:X->aG->Hp->PX->Prop
 |.k v,_,σ,Q=>Q v σ
 |.v i,l,σ,Q=>zd (get l i) λv=>Q v σ
 |.at e f,l,σ,Q=>cY e l σ λa h=>yI F.fo a f h Q
 |.bin o a b,l,σ,Q=>cY a l σ λx h=>cY b l h λy d=>bin o x y d Q
 |.cmp o a b,l,σ,Q=>cY a l σ λx h=>cY b l h λy d=>cmp o x y d λc=>Q (.bool c) d
 |.orX a b,l,σ,Q=>cY a l σ λx h=>Li x λt=>(t=true->Q (.bool true) h)/\(t=false->cY b l h Q)
 |.ite c a b,l,σ,Q=>Ai c l σ λt h=>(t=true->cY a l h Q)/\(t=false->cY b l h Q)
 |.sub a i,l,σ,Q=>cY a l σ λx h=>cY i l h λy d=>oA x y d Q
 |.upto a hi,l,σ,Q=>cY a l σ λx h=>cY hi l h λy d=>sel x False (λ_=>False) (λb=>bU y λn=>(b.length<=line/\0<=n/\n<=line)/\Q (.bytes (b.take n.toNat)) d)
   λr=>bU y λn=>cL (d r) λxs=>(xs.length<=line/\0<=n/\n<=line)/\∀c,d c=none->Q (.ref c) (upd d c (false,.list (xs.take n.toNat)))
 |.frm a lo,l,σ,Q=>cY a l σ λx h=>cY lo l h λy d=>kH x λr=>bU y λn=>cL (d r) λxs=>(xs.length<=line/\0<=n/\n<=line)/\∀c,d c=none->Q (.ref c) (upd d c (false,.list (xs.drop n.toNat)))
 |.lst es,l,σ,Q=>kL es l σ λvs h=>vs.length<=line/\∀r,h r=none->Q (.ref r) (upd h r (false,.list vs))
 |.tup es,l,σ,Q=>kL es l σ λvs h=>vs.length<=line/\∀r,h r=none->Q (.ref r) (upd h r (true,.tup vs))
 |.dic,_,σ,Q=>∀r,σ r=none->Q (.ref r) (upd σ r (false,.dict []))
 |.fn f es,l,σ,Q=>kL es l σ λvs h=>cal (F.fa f) vs h Q
 |.mk c es,l,σ,Q=>kL es l σ λvs h=>∀r,h r=none->ei (F.mi c) (λg=>cal (F.fa g) (.ref r::vs) (upd h r (false,.inst c [])) λv d=>Di v (Q (.ref r) d))
  (vs=[]/\Q (.ref r) (upd h r (false,.inst c [])))
 |.mth o g es,l,σ,Q=>cY o l σ λa h=>kH a λr=>cN (h r) λc fs=>op (F.mt c g) λf=>(fs.all λp=>F.fo c p.1)=true/\kL es l h λvs d=>cal (F.fa f) (.ref r::vs) d Q
 |.bi b es,l,σ,Q=>kL es l σ λvs h=>eI b vs h Q
 |.bm b o es,l,σ,Q=>cY o l σ λa h=>kH a λr=>OE b (h r)/\kL es l h λvs d=>jj b (.ref r) vs d Q
 |.comp t u s e,l,σ,Q=>cY u l σ λa h=>kH a λr=>cL (h r) λxs=>xs.length<=line/\jx (λv q P=>qB s (l.set t v) q λb j=>(b=true->cY e (l.set t v) j λy m=>(∃fz,m r=some (fz,.list xs))/\P (some y) m)/\(b=false->(∃fz,j r=some (fz,.list xs))/\P none j)) xs [] h
     λys d=>∀c,d c=none->Q (.ref c) (upd d c (false,.list ys))
 |.compR t lo hi s e,l,σ,Q=>cY lo l σ λa h=>cY hi l h λb d=>bU a λlo=>bU b λhi=>(0<=lo/\lo<=line/\0<=hi/\hi<=line)/\
   jx (λv q P=>qB s (l.set t v) q λb j=>(b=true->cY e (l.set t v) j λy m=>True/\P (some y) m)/\(b=false->True/\P none j)) ((aM lo hi).map .int) [] d
     λys d=>∀c,d c=none->Q (.ref c) (upd d c (false,.list ys))
noncomputable def kL:XS->aG->Hp->(List AV->Hp->Prop)->Prop
 |.nil,_,σ,Q=>Q [] σ
 |.cons e es,l,σ,Q=>cY e l σ λv b=>kL es l b λvs a=>Q (v::vs) a
noncomputable def Ai:C->aG->Hp->(Bool->Hp->Prop)->Prop
 |.t e,l,σ,Q=>cY e l σ λa d=>mh a d λb=>Q b d
 |.not c,l,σ,Q=>Ai c l σ λb d=>Q (!b) d
 |.and f,l,σ,Q=>qB f l σ Q
 |.or f,l,σ,Q=>A9 f l σ Q
noncomputable def qB:CS->aG->Hp->(Bool->Hp->Prop)->Prop
 |.nil,_,σ,Q=>Q true σ
 |.cons c d,l,σ,Q=>Ai c l σ λb a=>(b=true->qB d l a Q)/\(b=false->Q false a)
noncomputable def A9:CS->aG->Hp->(Bool->Hp->Prop)->Prop
 |.nil,_,σ,Q=>Q false σ
 |.cons c d,l,σ,Q=>Ai c l σ λb a=>(b=true->Q true a)/\(b=false->A9 d l a Q)
end
def whl(d:aG->Hp->(Bool->Hp->Prop)->Prop)(body:aG->Hp->(Fl->aG->Hp->Prop)->Prop)(l:aG)(σ:Hp)(Q:Fl->aG->Hp->Prop):Prop:=
 ∃I:Nat->aG->Hp->Prop,(∃n,I n l σ)/\∀n l σ,I n l σ->d l σ λb c=>(b=true->body l c λf e a=>(match f with
  |.next=>∃m,m<n/\I m e a
  |.cont=>∃m,m<n/\I m e a
  |.brk=>Q .next e a
  |.ret v=>Q (.ret v) e a))/\(b=false->Q .next l c)
noncomputable def yW:aG->List Nat->List AV->Option aG
 |l,[],[]=>some l
 |l,i::is,v::vs=>yW (l.set i v) is vs
 |_,_,_=>none
def eZ(a:List Nat)(v:AV)(l:aG)(σ:Hp)(Q:aG->Prop):Prop:=match a with
 |[i]=>Q (l.set i v)
 |is=>kH v λr=>cT (σ r) λb=>op (yW l is b) λc=>b.length<=8/\Q c
noncomputable def iG(ok:Hp->Prop)(c:List Nat)(body:aG->Hp->(Fl->aG->Hp->Prop)->Prop)(Q:Fl->aG->Hp->Prop):List AV->aG->Hp->Prop
 |[],l,σ=>Q .next l σ
 |v::r,l,σ=>eZ c v l σ λd=>body d σ λf b a=>(match f with
  |.next=>ok a/\iG ok c body Q r b a
  |.cont=>ok a/\iG ok c body Q r b a
  |.brk=>Q .next b a
  |.ret v=>Q (.ret v) b a)
mutual
noncomputable def Os:S->aG->Hp->(Fl->aG->Hp->Prop)->Prop
 |.asg i e,l,σ,Q=>cY F cal e l σ λv d=>Q .next (l.set i v) d
 |.asgT is e,l,σ,Q=>cY F cal e l σ λv d=>eZ is v l d λq=>Q .next q d
 |.setA o f e,l,σ,Q=>cY F cal e l σ λv d=>cY F cal o l d λa g=>setAttr F.fo a f v g λh=>Q .next l h
 |.setI o i e,l,σ,Q=>cY F cal e l σ λv d=>cY F cal o l d λa g=>cY F cal i l g λj h=>setItem a j v h λk=>Q .next l k
 |.aug i o e,l,σ,Q=>bU (get l i) λx=>cY F cal e l σ λy d=>bU y λy=>bin o (.int x) (.int y) d λv g=>Q .next (l.set i v) g
 |.augA o f op e,l,σ,Q=>cY F cal o l σ λa d=>yI F.fo a f d λx g=>cY F cal e l g λy h=>bU x λx=>bU y λy=>bin op (.int x) (.int y) h λv k=>setAttr F.fo a f v k λm=>Q .next l m
 |.augI o i op e,l,σ,Q=>cY F cal o l σ λa d=>cY F cal i l d λj g=>oA a j g λx h=>cY F cal e l h λy k=>bU x λx=>bU y λy=>bin op (.int x) (.int y) k λv m=>setItem a j v m λn=>Q .next l n
 |.ex e,l,σ,Q=>cY F cal e l σ λ_ d=>Q .next l d
 |.ret e,l,σ,Q=>cY F cal e l σ λv d=>Q (.ret v) l d
 |.ite c a b,l,σ,Q=>Ai F cal c l σ λt d=>(t=true->jf a l d Q)/\(t=false->jf b l d Q)
 |.whl c b,l,σ,Q=>whl (λl σ P=>Ai F cal c l σ P) (λl σ P=>jf b l σ P) l σ Q
 |.for p s b,l,σ,Q=>cY F cal s l σ λa d=>kH a λr=>cL (d r) λxs=>xs.length<=line/\iG (λσ=>∃fz,σ r=some (fz,.list xs)) p (λl σ P=>jf b l σ P) Q xs l d
 |.forR t lo hi up b,l,σ,Q=>cY F cal lo l σ λa d=>cY F cal hi l d λc g=>bU a λlo=>bU c λhi=>(-line<=lo/\lo<=line/\ -line<=hi/\hi<=line/\(up=true∨hi= -1))/\iG (λ_=>True) [t] (λl σ P=>jf b l σ P) Q ((if up then aM lo hi else dS lo).map .int) l g
 |.brk,l,σ,Q=>Q .brk l σ
 |.cnt,l,σ,Q=>Q .cont l σ
 |.pas,l,σ,Q=>Q .next l σ
 |.delI o i,l,σ,Q=>cY F cal o l σ λa d=>cY F cal i l d λj g=>delItem a j g λh=>Q .next l h
 |.tri b,l,σ,Q=>jf b l σ Q
 |.dead,_,_,_=>False
noncomputable def jf:SS->aG->Hp->(Fl->aG->Hp->Prop)->Prop
 |.nil,l,σ,Q=>Q .next l σ
 |.cons s c,l,σ,Q=>Os s l σ λf b a=>(match f with
  |.next=>jf c b a Q
  |f=>Q f b a)
end
end
end
section
theorem ba{c:Prop}[Decidable c]{k:c->Bool}(h:(if q:c then k q else false)=true):∃q,k q=true:=by
 by_cases q:c
 ·rw[dif_pos q]at h;exact⟨q,h⟩
 ·rw[dif_neg q]at h;cases h
noncomputable def fE(e:Expr)(k:Str->Pos->Bool):Bool:=if h:e.ctorIdx=23 then Expr.Name.elim (motive_1:=λ_=>Bool) e h k else false
@[elab_as_elim] theorem bX{P:Expr->Prop}{e:Expr}{k:Str->Pos->Bool}(h:fE e k=true)(z:∀a b,k a b=true->P (.Name a b)):P e:=
 (ba h).elim λq h=>Expr.Name.elim (motive_1:=λe=>∀q,Expr.Name.elim (motive_1:=λ_=>Bool) e q k=true->P e) e q (λa b _ h=>z a b h) q h
noncomputable def gq(e:Expr)(k:Const->Nat->Pos->Bool):Bool:=if h:e.ctorIdx=19 then Expr.Constant.elim (motive_1:=λ_=>Bool) e h k else false
@[elab_as_elim] theorem fq{P:Expr->Prop}{e:Expr}{k:Const->Nat->Pos->Bool}(h:gq e k=true)(z:∀a b c,k a b c=true->P (.Constant a b c)):P e:=
 (ba h).elim λq h=>Expr.Constant.elim (motive_1:=λe=>∀q,Expr.Constant.elim (motive_1:=λ_=>Bool) e q k=true->P e) e q (λa b c _ h=>z a b c h) q h
noncomputable def iD(e:Expr)(k:UnaryOp->Expr->Pos->Bool):Bool:=if h:e.ctorIdx=3 then Expr.UnaryOp.elim (motive_1:=λ_=>Bool) e h k else false
@[elab_as_elim] theorem gb{P:Expr->Prop}{e:Expr}{k:UnaryOp->Expr->Pos->Bool}(h:iD e k=true)(z:∀a b c,k a b c=true->P (.UnaryOp a b c)):P e:=
 (ba h).elim λq h=>Expr.UnaryOp.elim (motive_1:=λe=>∀q,Expr.UnaryOp.elim (motive_1:=λ_=>Bool) e q k=true->P e) e q (λa b c _ h=>z a b c h) q h
noncomputable def tQ(e:Expr)(k:Expr->Operator->Expr->Pos->Bool):Bool:=if h:e.ctorIdx=2 then Expr.BinOp.elim (motive_1:=λ_=>Bool) e h k else false
@[elab_as_elim] theorem sR{P:Expr->Prop}{e:Expr}{k:Expr->Operator->Expr->Pos->Bool}(h:tQ e k=true)(z:∀a b c d,k a b c d=true->P (.BinOp a b c d)):P e:=
 (ba h).elim λq h=>Expr.BinOp.elim (motive_1:=λe=>∀q,Expr.BinOp.elim (motive_1:=λ_=>Bool) e q k=true->P e) e q (λa b c d _ h=>z a b c d h) q h
noncomputable def oE(e:Expr)(k:Expr->List CmpOp->List Expr->Pos->Bool):Bool:=if h:e.ctorIdx=15 then Expr.Compare.elim (motive_1:=λ_=>Bool) e h k else false
@[elab_as_elim] theorem je{P:Expr->Prop}{e:Expr}{k:Expr->List CmpOp->List Expr->Pos->Bool}(h:oE e k=true)(z:∀a b c d,k a b c d=true->P (.Compare a b c d)):P e:=
 (ba h).elim λq h=>Expr.Compare.elim (motive_1:=λe=>∀q,Expr.Compare.elim (motive_1:=λ_=>Bool) e q k=true->P e) e q (λa b c d _ h=>z a b c d h) q h
noncomputable def jh(e:Expr)(k:BoolOp->List Expr->Pos->Bool):Bool:=if h:e.ctorIdx=0 then Expr.BoolOp.elim (motive_1:=λ_=>Bool) e h k else false
@[elab_as_elim] theorem gI{P:Expr->Prop}{e:Expr}{k:BoolOp->List Expr->Pos->Bool}(h:jh e k=true)(z:∀a b c,k a b c=true->P (.BoolOp a b c)):P e:=
 (ba h).elim λq h=>Expr.BoolOp.elim (motive_1:=λe=>∀q,Expr.BoolOp.elim (motive_1:=λ_=>Bool) e q k=true->P e) e q (λa b c _ h=>z a b c h) q h
noncomputable def uH(e:Expr)(k:Expr->Expr->Expr->Pos->Bool):Bool:=if h:e.ctorIdx=5 then Expr.IfExp.elim (motive_1:=λ_=>Bool) e h k else false
@[elab_as_elim] theorem sM{P:Expr->Prop}{e:Expr}{k:Expr->Expr->Expr->Pos->Bool}(h:uH e k=true)(z:∀a b c d,k a b c d=true->P (.IfExp a b c d)):P e:=
 (ba h).elim λq h=>Expr.IfExp.elim (motive_1:=λe=>∀q,Expr.IfExp.elim (motive_1:=λ_=>Bool) e q k=true->P e) e q (λa b c d _ h=>z a b c d h) q h
noncomputable def cC(e:Expr)(k:Expr->Expr->Pos->Bool):Bool:=if h:e.ctorIdx=21 then Expr.Subscript.elim (motive_1:=λ_=>Bool) e h k else false
@[elab_as_elim] theorem bJ{P:Expr->Prop}{e:Expr}{k:Expr->Expr->Pos->Bool}(h:cC e k=true)(z:∀a b c,k a b c=true->P (.Subscript a b c)):P e:=
 (ba h).elim λq h=>Expr.Subscript.elim (motive_1:=λe=>∀q,Expr.Subscript.elim (motive_1:=λ_=>Bool) e q k=true->P e) e q (λa b c _ h=>z a b c h) q h
noncomputable def qd(e:Expr)(k:Option Expr->Option Expr->Option Expr->Pos->Bool):Bool:=if h:e.ctorIdx=26 then Expr.Slice.elim (motive_1:=λ_=>Bool) e h k else false
@[elab_as_elim] theorem nO{P:Expr->Prop}{e:Expr}{k:Option Expr->Option Expr->Option Expr->Pos->Bool}(h:qd e k=true)(z:∀a b c d,k a b c d=true->P (.Slice a b c d)):P e:=
 (ba h).elim λq h=>Expr.Slice.elim (motive_1:=λe=>∀q,Expr.Slice.elim (motive_1:=λ_=>Bool) e q k=true->P e) e q (λa b c d _ h=>z a b c d h) q h
noncomputable def zE(e:Expr)(k:List Expr->Pos->Bool):Bool:=if h:e.ctorIdx=24 then Expr.List.elim (motive_1:=λ_=>Bool) e h k else false
@[elab_as_elim] theorem vz{P:Expr->Prop}{e:Expr}{k:List Expr->Pos->Bool}(h:zE e k=true)(z:∀a b,k a b=true->P (.List a b)):P e:=
 (ba h).elim λq h=>Expr.List.elim (motive_1:=λe=>∀q,Expr.List.elim (motive_1:=λ_=>Bool) e q k=true->P e) e q (λa b _ h=>z a b h) q h
noncomputable def lO(e:Expr)(k:List Expr->Nat->Pos->Bool):Bool:=if h:e.ctorIdx=25 then Expr.Tuple.elim (motive_1:=λ_=>Bool) e h k else false
@[elab_as_elim] theorem iX{P:Expr->Prop}{e:Expr}{k:List Expr->Nat->Pos->Bool}(h:lO e k=true)(z:∀a b c,k a b c=true->P (.Tuple a b c)):P e:=
 (ba h).elim λq h=>Expr.Tuple.elim (motive_1:=λe=>∀q,Expr.Tuple.elim (motive_1:=λ_=>Bool) e q k=true->P e) e q (λa b c _ h=>z a b c h) q h
noncomputable def zv(e:Expr)(k:List (Option Expr)->List Expr->Pos->Bool):Bool:=if h:e.ctorIdx=6 then Expr.Dict.elim (motive_1:=λ_=>Bool) e h k else false
@[elab_as_elim] theorem vD{P:Expr->Prop}{e:Expr}{k:List (Option Expr)->List Expr->Pos->Bool}(h:zv e k=true)(z:∀a b c,k a b c=true->P (.Dict a b c)):P e:=
 (ba h).elim λq h=>Expr.Dict.elim (motive_1:=λe=>∀q,Expr.Dict.elim (motive_1:=λ_=>Bool) e q k=true->P e) e q (λa b c _ h=>z a b c h) q h
noncomputable def sG(e:Expr)(k:Expr->List Expr->List Keyword->Pos->Bool):Bool:=if h:e.ctorIdx=16 then Expr.Call.elim (motive_1:=λ_=>Bool) e h k else false
@[elab_as_elim] theorem o5{P:Expr->Prop}{e:Expr}{k:Expr->List Expr->List Keyword->Pos->Bool}(h:sG e k=true)(z:∀a b c d,k a b c d=true->P (.Call a b c d)):P e:=
 (ba h).elim λq h=>Expr.Call.elim (motive_1:=λe=>∀q,Expr.Call.elim (motive_1:=λ_=>Bool) e q k=true->P e) e q (λa b c d _ h=>z a b c d h) q h
noncomputable def dG(e:Expr)(k:Expr->Str->Pos->Bool):Bool:=if h:e.ctorIdx=20 then Expr.Attribute.elim (motive_1:=λ_=>Bool) e h k else false
@[elab_as_elim] theorem dc{P:Expr->Prop}{e:Expr}{k:Expr->Str->Pos->Bool}(h:dG e k=true)(z:∀a b c,k a b c=true->P (.Attribute a b c)):P e:=
 (ba h).elim λq h=>Expr.Attribute.elim (motive_1:=λe=>∀q,Expr.Attribute.elim (motive_1:=λ_=>Bool) e q k=true->P e) e q (λa b c _ h=>z a b c h) q h
noncomputable def gu(e:Expr)(k:Expr->List Comprehension->Scope->Pos->Bool):Bool:=if h:e.ctorIdx=8 then Expr.ListComp.elim (motive_1:=λ_=>Bool) e h k else false
@[elab_as_elim] theorem iQ{P:Expr->Prop}{e:Expr}{k:Expr->List Comprehension->Scope->Pos->Bool}(h:gu e k=true)(z:∀a b c d,k a b c d=true->P (.ListComp a b c d)):P e:=
 (ba h).elim λq h=>Expr.ListComp.elim (motive_1:=λe=>∀q,Expr.ListComp.elim (motive_1:=λ_=>Bool) e q k=true->P e) e q (λa b c d _ h=>z a b c d h) q h
noncomputable def rS(e:Stmt)(k:Option Expr->Pos->Bool):Bool:=if h:e.ctorIdx=3 then Stmt.Return.elim (motive_2:=λ_=>Bool) e h k else false
@[elab_as_elim] theorem rY{P:Stmt->Prop}{e:Stmt}{k:Option Expr->Pos->Bool}(h:rS e k=true)(z:∀a b,k a b=true->P (.Return a b)):P e:=
 (ba h).elim λq h=>Stmt.Return.elim (motive_2:=λe=>∀q,Stmt.Return.elim (motive_2:=λ_=>Bool) e q k=true->P e) e q (λa b _ h=>z a b h) q h
noncomputable def rJ(e:Stmt)(k:List Expr->Pos->Bool):Bool:=if h:e.ctorIdx=4 then Stmt.Delete.elim (motive_2:=λ_=>Bool) e h k else false
@[elab_as_elim] theorem qQ{P:Stmt->Prop}{e:Stmt}{k:List Expr->Pos->Bool}(h:rJ e k=true)(z:∀a b,k a b=true->P (.Delete a b)):P e:=
 (ba h).elim λq h=>Stmt.Delete.elim (motive_2:=λe=>∀q,Stmt.Delete.elim (motive_2:=λ_=>Bool) e q k=true->P e) e q (λa b _ h=>z a b h) q h
noncomputable def gJ(e:Stmt)(k:List Expr->Expr->Pos->Bool):Bool:=if h:e.ctorIdx=5 then Stmt.Assign.elim (motive_2:=λ_=>Bool) e h k else false
@[elab_as_elim] theorem fj{P:Stmt->Prop}{e:Stmt}{k:List Expr->Expr->Pos->Bool}(h:gJ e k=true)(z:∀a b c,k a b c=true->P (.Assign a b c)):P e:=
 (ba h).elim λq h=>Stmt.Assign.elim (motive_2:=λe=>∀q,Stmt.Assign.elim (motive_2:=λ_=>Bool) e q k=true->P e) e q (λa b c _ h=>z a b c h) q h
noncomputable def eX(e:Stmt)(k:Expr->Operator->Expr->Pos->Bool):Bool:=if h:e.ctorIdx=7 then Stmt.AugAssign.elim (motive_2:=λ_=>Bool) e h k else false
@[elab_as_elim] theorem eO{P:Stmt->Prop}{e:Stmt}{k:Expr->Operator->Expr->Pos->Bool}(h:eX e k=true)(z:∀a b c d,k a b c d=true->P (.AugAssign a b c d)):P e:=
 (ba h).elim λq h=>Stmt.AugAssign.elim (motive_2:=λe=>∀q,Stmt.AugAssign.elim (motive_2:=λ_=>Bool) e q k=true->P e) e q (λa b c d _ h=>z a b c d h) q h
noncomputable def wF(e:Stmt)(k:Expr->Expr->List Stmt->List Stmt->Pos->Bool):Bool:=if h:e.ctorIdx=9 then Stmt.For.elim (motive_2:=λ_=>Bool) e h k else false
@[elab_as_elim] theorem qW{P:Stmt->Prop}{e:Stmt}{k:Expr->Expr->List Stmt->List Stmt->Pos->Bool}(h:wF e k=true)(z:∀a b c d f,k a b c d f=true->P (.For a b c d f)):P e:=
 (ba h).elim λq h=>Stmt.For.elim (motive_2:=λe=>∀q,Stmt.For.elim (motive_2:=λ_=>Bool) e q k=true->P e) e q (λa b c d f _ h=>z a b c d f h) q h
noncomputable def tL(e:Stmt)(k:Expr->List Stmt->List Stmt->Pos->Bool):Bool:=if h:e.ctorIdx=11 then Stmt.While.elim (motive_2:=λ_=>Bool) e h k else false
@[elab_as_elim] theorem sO{P:Stmt->Prop}{e:Stmt}{k:Expr->List Stmt->List Stmt->Pos->Bool}(h:tL e k=true)(z:∀a b c d,k a b c d=true->P (.While a b c d)):P e:=
 (ba h).elim λq h=>Stmt.While.elim (motive_2:=λe=>∀q,Stmt.While.elim (motive_2:=λ_=>Bool) e q k=true->P e) e q (λa b c d _ h=>z a b c d h) q h
noncomputable def G2(e:Stmt)(k:Expr->List Stmt->List Stmt->Pos->Bool):Bool:=if h:e.ctorIdx=12 then Stmt.If.elim (motive_2:=λ_=>Bool) e h k else false
@[elab_as_elim] theorem Bk{P:Stmt->Prop}{e:Stmt}{k:Expr->List Stmt->List Stmt->Pos->Bool}(h:G2 e k=true)(z:∀a b c d,k a b c d=true->P (.If a b c d)):P e:=
 (ba h).elim λq h=>Stmt.If.elim (motive_2:=λe=>∀q,Stmt.If.elim (motive_2:=λ_=>Bool) e q k=true->P e) e q (λa b c d _ h=>z a b c d h) q h
noncomputable def CZ(e:Stmt)(k:List Stmt->List ExceptHandler->List Stmt->List Stmt->Pos->Bool):Bool:=if h:e.ctorIdx=17 then Stmt.Try.elim (motive_2:=λ_=>Bool) e h k else false
@[elab_as_elim] theorem yz{P:Stmt->Prop}{e:Stmt}{k:List Stmt->List ExceptHandler->List Stmt->List Stmt->Pos->Bool}(h:CZ e k=true)(z:∀a b c d f,k a b c d f=true->P (.Try a b c d f)):P e:=
 (ba h).elim λq h=>Stmt.Try.elim (motive_2:=λe=>∀q,Stmt.Try.elim (motive_2:=λ_=>Bool) e q k=true->P e) e q (λa b c d f _ h=>z a b c d f h) q h
noncomputable def zU(e:Stmt)(k:Expr->Pos->Bool):Bool:=if h:e.ctorIdx=24 then Stmt.Expr.elim (motive_2:=λ_=>Bool) e h k else false
@[elab_as_elim] theorem vG{P:Stmt->Prop}{e:Stmt}{k:Expr->Pos->Bool}(h:zU e k=true)(z:∀a b,k a b=true->P (.Expr a b)):P e:=
 (ba h).elim λq h=>Stmt.Expr.elim (motive_2:=λe=>∀q,Stmt.Expr.elim (motive_2:=λ_=>Bool) e q k=true->P e) e q (λa b _ h=>z a b h) q h
noncomputable def xG(e:Stmt)(k:Pos->Bool):Bool:=if h:e.ctorIdx=25 then Stmt.Pass.elim (motive_2:=λ_=>Bool) e h k else false
@[elab_as_elim] theorem vZ{P:Stmt->Prop}{e:Stmt}{k:Pos->Bool}(h:xG e k=true)(z:∀a,k a=true->P (.Pass a)):P e:=
 (ba h).elim λq h=>Stmt.Pass.elim (motive_2:=λe=>∀q,Stmt.Pass.elim (motive_2:=λ_=>Bool) e q k=true->P e) e q (λa _ h=>z a h) q h
noncomputable def uf(e:Stmt)(k:Pos->Bool):Bool:=if h:e.ctorIdx=26 then Stmt.Break.elim (motive_2:=λ_=>Bool) e h k else false
@[elab_as_elim] theorem tx{P:Stmt->Prop}{e:Stmt}{k:Pos->Bool}(h:uf e k=true)(z:∀a,k a=true->P (.Break a)):P e:=
 (ba h).elim λq h=>Stmt.Break.elim (motive_2:=λe=>∀q,Stmt.Break.elim (motive_2:=λ_=>Bool) e q k=true->P e) e q (λa _ h=>z a h) q h
noncomputable def mw(e:Stmt)(k:Pos->Bool):Bool:=if h:e.ctorIdx=27 then Stmt.Continue.elim (motive_2:=λ_=>Bool) e h k else false
@[elab_as_elim] theorem oe{P:Stmt->Prop}{e:Stmt}{k:Pos->Bool}(h:mw e k=true)(z:∀a,k a=true->P (.Continue a)):P e:=
 (ba h).elim λq h=>Stmt.Continue.elim (motive_2:=λe=>∀q,Stmt.Continue.elim (motive_2:=λ_=>Bool) e q k=true->P e) e q (λa _ h=>z a h) q h
noncomputable def vx{b:Type}(l:List b)(k:b->Bool):Bool:=match l with
 |[a]=>k a
 |_=>false
@[elab_as_elim] theorem dP{c:Type}{P:List c->Prop}{l:List c}{k:c->Bool}(h:vx l k=true)(f:∀a,k a=true->P [a]):P l:=by
 cases l with
 |nil=>exact fT h
 |cons a r=>cases r with
  |nil=>exact f a h
  |cons b r=>exact fT h
noncomputable def Fj{c:Type}(l:List c)(k:c->c->Bool):Bool:=match l with
 |[a,b]=>k a b
 |_=>false
@[elab_as_elim] theorem sw{d:Type}{P:List d->Prop}{l:List d}{k:d->d->Bool}(h:Fj l k=true)(f:∀a b,k a b=true->P [a,b]):P l:=by
 cases l with
 |nil=>exact fT h
 |cons a r=>cases r with
  |nil=>exact fT h
  |cons b r=>cases r with
   |nil=>exact f a b h
   |cons c r=>exact fT h
noncomputable def Fg{b:Type}(l:List b)(k:b->List b->Bool):Bool:=match l with
 |a::r=>k a r
 |[]=>false
@[elab_as_elim] theorem iU{b:Type}{P:List b->Prop}{l:List b}{k:b->List b->Bool}(h:Fg l k=true)(f:∀a r,k a r=true->P (a::r)):P l:=by
 cases l with
 |nil=>exact fT h
 |cons a r=>exact f a r h
noncomputable def Fe{b:Type}(o:Option b)(k:b->Bool):Bool:=match o with
 |some a=>k a
 |none=>false
@[elab_as_elim] theorem sK{b:Type}{P:Option b->Prop}{o:Option b}{k:b->Bool}(h:Fe o k=true)(f:∀a,k a=true->P (some a)):P o:=by
 cases o with
 |none=>exact fT h
 |some a=>exact f a h
theorem Dt{b:Type}{P:Prop}{o:Option b}{k:b->Bool}(h:Fe o k=true)(f:∀a,o=some a->k a=true->P):P:=by
 cases o with
 |none=>exact fT h
 |some a=>exact f a rfl h
noncomputable def CL(c:Const)(k:Int->Bool):Bool:=match c with
 |.int i=>k i
 |_=>false
@[elab_as_elim] theorem zC{P:Const->Prop}{c:Const}{k:Int->Bool}(h:CL c k=true)(f:∀i,k i=true->P (.int i)):P c:=by
 cases c with
 |int i=>exact f i h
 |_=>exact fT h
theorem gG{a b:Bool}{P:Prop}(h:(a&&b)=true)(k:a=true->b=true->P):P:=by
 cases a with
 |false=>exact fT h
 |true=>exact k rfl h
theorem kW{a b c:Bool}{P:Prop}(h:(a&&b&&c)=true)(k:a=true->b=true->c=true->P):P:=gG h λh z=>gG h λx y=>k x y z
theorem Af{a b c d:Bool}{P:Prop}(h:(a&&b&&c&&d)=true)(k:a=true->b=true->c=true->d=true->P):P:=gG h λh z=>kW h λx y w=>k x y w z
theorem wK{a b c d e:Bool}{P:Prop}(h:(a&&b&&c&&d&&e)=true)(k:a=true->b=true->c=true->d=true->e=true->P):P:=gG h λh z=>Af h λx y w v=>k x y w v z
theorem Fn{a b c d e f:Bool}{P:Prop}(h:(a&&b&&c&&d&&e&&f)=true)(k:a=true->b=true->c=true->d=true->e=true->f=true->P):P:=gG h λh z=>wK h λx y w v u=>k x y w v u z
theorem OG{a b c d e f g:Bool}{P:Prop}(h:(a&&b&&c&&d&&e&&f&&g)=true)(k:a=true->b=true->c=true->d=true->e=true->f=true->g=true->P):P:=gG h λh z=>Fn h λx y w v u t=>k x y w v u t z
theorem Pu{a b c d e f g i:Bool}{P:Prop}(h:(a&&b&&c&&d&&e&&f&&g&&i)=true)(k:a=true->b=true->c=true->d=true->e=true->f=true->g=true->i=true->P):P:=gG h λh z=>OG h λx y w v u t s=>k x y w v u t s z
theorem nt{a:Bool}(h:(!a)=true):a=false:=by
 cases a with
 |false=>rfl
 |true=>exact fT h
theorem bor{a b:Bool}{P:Prop}(h:(a||b)=true)(f:a=true->P)(g:b=true->P):P:=by
 cases a with
 |false=>exact g h
 |true=>exact f rfl
@[elab_as_elim] theorem cg{a:Type}{P:a->Prop}{u v:a}{i:Decidable (u=v)}(h:@decide (u=v) i=true)(f:P v):P u:=(of_decide_eq_true h).symm▸f
@[elab_as_elim] theorem cR{b:Type}{P:List b->Prop}{l:List b}(h:l.isEmpty=true)(f:P []):P l:=by
 cases l with
 |nil=>exact f
 |cons a r=>exact fT h
noncomputable def vd(l:List Comprehension)(k:Str->Pos->Expr->List Expr->Bool):Bool:=vx l λg=>decide (g.is_async=0)&&fE g.target λx p=>k x p g.iter g.ifs
@[elab_as_elim] theorem jg{P:List Comprehension->Prop}{l:List Comprehension}{k:Str->Pos->Expr->List Expr->Bool}(h:vd l k=true)(f:∀x p b a,k x p b a=true->P [⟨.Name x p,b,a,0⟩]):P l:=
 dP h λg h=>gG h λc h=>by
  cases g with
  |mk t b a n=>exact cg (P:=λn=>P [⟨t,b,a,n⟩]) c (bX (P:=λt=>P [⟨t,b,a,0⟩]) h λx p h=>f x p b a h)
theorem um{a:Expr}{b:List Comprehension}{c:Scope}{d:Pos}{k:Expr->List Comprehension->Scope->Pos->Bool}(h:gu (.ListComp a b c d) k=true):k a b c d=true:=h
theorem yJ{x:Str}{p:Pos}{b:Expr}{a:List Expr}{k:Str->Pos->Expr->List Expr->Bool}(h:vd [⟨.Name x p,b,a,0⟩] k=true):k x p b a=true:=h
noncomputable def qU(e:Expr)(k:Str->Pos->List Expr->Pos->Bool):Bool:=sG e λf b a p=>a.isEmpty&&fE f λx q=>k x q b p
@[elab_as_elim] theorem gr{P:Expr->Prop}{e:Expr}{k:Str->Pos->List Expr->Pos->Bool}(h:qU e k=true)(g:∀x q as p,k x q as p=true->P (.Call (.Name x q) as [] p)):P e:=
 o5 h λf as a p h=>gG h λb h=>cR (P:=λa=>P (.Call f as a p)) b (bX (P:=λf=>P (.Call f as [] p)) h λx q h=>g x q as p h)
noncomputable def DP(e:Expr)(k:Expr->Str->Pos->List Expr->Pos->Bool):Bool:=sG e λf b a p=>a.isEmpty&&dG f λo x q=>k o x q b p
@[elab_as_elim] theorem ui{P:Expr->Prop}{e:Expr}{k:Expr->Str->Pos->List Expr->Pos->Bool}(h:DP e k=true)(g:∀o x q as p,k o x q as p=true->P (.Call (.Attribute o x q) as [] p)):P e:=
 o5 h λf as a p h=>gG h λb h=>cR (P:=λa=>P (.Call f as a p)) b (dc (P:=λf=>P (.Call f as [] p)) h λo x q h=>g o x q as p h)
theorem Hh{x:Str}{q p:Pos}{as:List Expr}{k:Str->Pos->List Expr->Pos->Bool}(h:qU (.Call (.Name x q) as [] p) k=true):k x q as p=true:=h
end
section
structure Ct where
 fi:List (Str×Nat)
 ki:List (Str×Nat)
 ii:List (Str×Int)
 ai:List (Str×Nat)
 gi:List (Str×Nat)
structure Cn where
 sc:Scope
 nm:List (Str×Nat)
 cv:List (Str×Nat)
 lf:Bool
noncomputable def uZ(o:Option NameKind)(k:NameKind):Bool:=decide (o=some k)
noncomputable def Cn.loc(n:Cn)(x:Str):Option Nat:=bif uZ (n.sc.names.lookup x) .local||uZ (n.sc.names.lookup x) .cell||(uZ (n.sc.names.lookup x) .free&&!(x==("__classdict__":Str))) then n.nm.lookup x else none
noncomputable def Cn.sto(n:Cn)(x:Str):Option Nat:=bif uZ (n.sc.names.lookup x) .local||uZ (n.sc.names.lookup x) .cell then n.nm.lookup x else none
noncomputable def Cn.glo(n:Cn)(x:Str):Bool:=uZ (n.sc.names.lookup x) .globalImplicit
noncomputable def dR(k:NameKind):Bool:=k==.free
noncomputable def fC(k:NameKind):Bool:=k==.cell
noncomputable def pD(k:NameKind):Bool:=k==.local
noncomputable def BH(o:Option NameKind):Bool:=uZ o .local
noncomputable def vY(o:Option NameKind):Bool:=uZ o .cell||uZ o .free
noncomputable def Cn.inner(n:Cn)(a:Scope)(x:Str)(i:Nat):Cn:=⟨a,(x,i)::n.nm.filter λy=>uZ (a.names.lookup y.1) .free&&!(y.1==x),[],true⟩
noncomputable def Cn.ok(n:Cn)(a:Scope)(x:Str):Bool:=a.names.all (λy=>!fC y.2&&(!dR y.2||vY (n.sc.names.lookup y.1))&&(!pD y.2||BH (a.names.lookup y.1)))&&BH (a.names.lookup x)&&
 decide (a.kind=.function)
noncomputable def NB:BO->Operator
 |.add=>.Add
 |.sub=>.Sub
 |.mul=>.Mult
 |.fdiv=>.FloorDiv
 |.mod=>.Mod
 |.band=>.BitAnd
 |.bor=>.BitOr
 |.shl=>.LShift
 |.shr=>.RShift
 |.pow=>.Pow
noncomputable def Oz:CO->CmpOp
 |.eq=>.Eq
 |.ne=>.NotEq
 |.lt=>.Lt
 |.le=>.LtE
 |.gt=>.Gt
 |.ge=>.GtE
 |.is=>.Is
 |.isnt=>.IsNot
 |.isin=>.In
 |.notin=>.NotIn
noncomputable def Bq(b:BO)(o:Operator):Bool:=decide (o=NB b)
noncomputable def K9(b:CO)(o:CmpOp):Bool:=decide (o=Oz b)
noncomputable def qg(e:Expr):Bool:=e.ctorIdx==8||e.ctorIdx==9||e.ctorIdx==10
noncomputable def xe(e:Expr):Bool:=!(e.ctorIdx==9||e.ctorIdx==10)
theorem FY{e:Expr}(h:qg e=true)(g:xe e=true):∃a b c d,e=.ListComp a b c d:=by
 have q:e.ctorIdx=8:=by
  unfold qg at h
  unfold xe at g
  rw[Bool.or_assoc]at h
  cases k:(e.ctorIdx==9||e.ctorIdx==10)with
  |true=>rw[k]at g;cases g
  |false=>rw[k,Bool.or_false]at h;exact eq_of_beq h
 exact Expr.ListComp.elim (motive_1:=λe=>∃a b c d,e=.ListComp a b c d) e q λa b c d=>⟨a,b,c,d,rfl⟩
noncomputable def oS(e:Expr):Bool:=e.ctorIdx==7
noncomputable def f8(e:Expr):Bool:=e.ctorIdx==26
noncomputable def bC(e:Expr):Bool:=e.ctorIdx==22
noncomputable def kD(e:Expr):Bool:=!(e.ctorIdx==16)||qU e λx _ _ _=>x !=("super":Str)
noncomputable def oC(e:Expr):Bool:=!(e.ctorIdx==3||e.ctorIdx==0||e.ctorIdx==5)
noncomputable def mQ:BF->Str
 |.len=>"len"
 |.sorted=>"sorted"
 |.min1=>"min"
 |.min2=>"min"
 |.bytes=>"bytes"
 |.list=>"list"
noncomputable def Co:BF->Bool
 |.len=>true
 |_=>false
noncomputable def Eb:BM->Str
 |.append=>"append"
 |.insert=>"insert"
 |.pop=>"pop"
 |.get=>"get"
noncomputable def gg:Str:="range"
noncomputable def qk:Str:="__debug__"
noncomputable def gZ(a:Option Nat)(i:Nat):Bool:=match a with
 |some j=>j==i
 |none=>false
noncomputable def isNone{a:Type}:Option a->Bool
 |none=>true
 |some _=>false
noncomputable def Nv(x:X)(f:AV->Bool):Bool:=if h:x.ctorIdx=0 then X.k.elim (motive_1:=λ_=>Bool) x h f else false
@[elab_as_elim] theorem xD{P:X->Prop}{x:X}{f:AV->Bool}(h:Nv x f=true)(g:∀v,f v=true->P (.k v)):P x:=
 (ba h).elim λq h=>X.k.elim (motive_1:=λx=>∀q,X.k.elim (motive_1:=λ_=>Bool) x q f=true->P x) x q (λv _ h=>g v h) q h
noncomputable def Ng(x:X):Bool:=Nv x C4
noncomputable def Gb:AV->Bool
 |.int i=>decide (i=0)
 |_=>false
noncomputable def pa(x:X):Bool:=Nv x Gb
noncomputable def Cy(x:X):Bool:=x.ctorIdx==4
section
variable (t:Ct)
noncomputable def Cn.bi(n:Cn)(x:Str):Bool:=!(x==qk)&&n.glo x&&isNone (t.fi.lookup x)&&isNone (t.ki.lookup x)&&isNone (t.ii.lookup x)
noncomputable def Pw(v:AV)(c:Const):Bool:=match v with
 |.none=>decide (c=.none)
 |.bool b=>decide (c=.bool b)
 |.int i=>decide (c=.int i)
 |.bytes b=>decide (c=.bytes b)
 |_=>false
noncomputable def Ll(v:AV)(i:Int):Bool:=match v with
 |.int j=>i==j
 |_=>false
noncomputable def P9(n:Cn)(v:AV)(e:Expr):Bool:=
 gq e (λc _ _=>Pw v c)||iD e (λo c _=>decide (o=.USub)&&gq c λc _ _=>CL c λi=>Ll v (-i))||fE e λx _=>!(x==qk)&&n.glo x&&Fe (t.ii.lookup x) λi=>Ll v i
mutual
noncomputable def aX(n:Cn):X->Expr->Bool
 |.k v,e=>P9 t n v e
 |.v i,e=>fE e λx _=>!(x==qk)&&gZ (n.loc x) i
 |.at o f,e=>dG e λo' x _=>kD o'&&gZ (t.ai.lookup x) f&&aX n o o'
 |.bin o a b,e=>tQ e λj o' q _=>Bq o o'&&aX n a j&&aX n b q
 |.cmp o a b,e=>oE e λj os bs _=>vx os λo'=>vx bs λq=>K9 o o'&&!oS q&&aX n a j&&aX n b q
 |.orX a b,e=>jh e λo es _=>decide (o=.Or)&&Fj es λj q=>aX n a j&&aX n b q
 |.ite c a b,e=>uH e λG j q _=>tW n c G&&aX n a j&&aX n b q
 |.sub a i,e=>cC e λj E _=>!f8 E&&aX n a j&&aX n i E
 |.upto a hi,e=>cC e λj s _=>qd s λl h st _=>isNone l&&isNone st&&Fe h λd=>aX n a j&&aX n hi d
 |.frm a lo,e=>cC e λj s _=>qd s λl h st _=>isNone h&&isNone st&&Fe l λm=>aX n a j&&aX n lo m
 |.lst es,e=>zE e λz _=>dq n es z
 |.tup es,e=>lO e λz _ _=>dq n es z
 |.dic,e=>zv e λI vs _=>I.isEmpty&&vs.isEmpty
 |.fn f es,e=>qU e λx _ as _=>!n.lf&&!(x==qk)&&n.glo x&&gZ (t.fi.lookup x) f&&dq n es as
 |.mk c es,e=>qU e λx _ as _=>!n.lf&&!(x==qk)&&n.glo x&&gZ (t.ki.lookup x) c&&dq n es as
 |.mth o g es,e=>DP e λo' x B as p=>kD o'&&B.endLine==p.line&&decide (as.length<30)&&!n.lf&&gZ (t.gi.lookup x) g&&aX n o o'&&dq n es as
 |.bi b es,e=>qU e λx _ as _=>x==mQ b&&(Co b||!n.lf)&&n.bi t x&&dq n es as
 |.bm b o es,e=>DP e λo' x B as p=>kD o'&&B.endLine==p.line&&decide (as.length<30)&&x==Eb b&&aX n o o'&&dq n es as
 |.comp i J A e,y=>gu y λy D u _=>vd D λx _ it' w=>!n.lf&&(n.nm.all λp=>!(p.2==i))&&n.ok u x&&!oS it'&&gZ (n.cv.lookup x) i&&aX n J it'&&kM (n.inner u x i) A w&&aX (n.inner u x i) e y
 |.compR i lo hi A e,y=>gu y λy D u _=>vd D λx _ it' w=>qU it' λr _ as _=>!n.lf&&(n.nm.all λp=>!(p.2==i))&&n.ok u x&&gZ (n.cv.lookup x) i&&r==gg&&n.bi t r&&
   (Fj as (λm d=>!bC m&&!bC d&&aX n lo m&&aX n hi d)||vx as λd=>!bC d&&pa lo&&aX n hi d)&&kM (n.inner u x i) A w&&aX (n.inner u x i) e y
noncomputable def dq(n:Cn):XS->List Expr->Bool
 |.nil,es=>es.isEmpty
 |.cons e es,a=>Fg a λb r=>!bC b&&aX n e b&&dq n es r
noncomputable def tW(n:Cn):C->Expr->Bool
 |.t x,e=>oC e&&(Cy x||!(e.ctorIdx==15))&&aX n x e
 |.not c,e=>iD e λo e _=>decide (o=.Not)&&tW n c e
 |.and a,e=>jh e λo es _=>decide (o=.And)&&kM n a es
 |.or a,e=>jh e λo es _=>decide (o=.Or)&&kM n a es
noncomputable def kM(n:Cn):CS->List Expr->Bool
 |.nil,es=>es.isEmpty
 |.cons c a,es=>Fg es λe r=>tW n c e&&kM n a r
end
noncomputable def names(n:Cn):List Nat->List Expr->Bool
 |[],es=>es.isEmpty
 |i::is,es=>Fg es λe r=>fE e λx _=>gZ (n.sto x) i&&names n is r
noncomputable def Gz:List Nat->Bool
 |_::_::_=>true
 |_=>false
noncomputable def xu(e:Expr):Bool:=!(e.ctorIdx==25)
noncomputable def tM:BO->Bool
 |.add=>true
 |.sub=>true
 |.mul=>true
 |_=>false
noncomputable def zX:List (Str×Nat)->Bool
 |[]=>true
 |y::r=>r.all (λz=>!(z.2==y.2))&&zX r
mutual
noncomputable def oc(n:Cn):S->Stmt->Bool
 |.asg i e,s=>gJ s λts g _=>vx ts λd=>fE d λx _=>gZ (n.sto x) i&&xe g&&aX t n e g
 |.asgT is e,s=>gJ s λts g _=>vx ts λd=>lO d λts _ _=>!qg g&&xu g&&Gz is&&names n is ts&&aX t n e g
 |.setA o f e,s=>gJ s λts g _=>vx ts λd=>dG d λo' x _=>!qg g&&gZ (t.ai.lookup x) f&&aX t n o o'&&aX t n e g
 |.setI o i e,s=>gJ s λts g _=>vx ts λd=>cC d λo' l _=>!qg g&&!f8 l&&aX t n o o'&&aX t n i l&&aX t n e g
 |.aug i o e,s=>eX s λd o' g _=>fE d λx _=>tM o&&gZ (n.sto x) i&&Bq o o'&&aX t n e g
 |.augA o f op e,s=>eX s λd m g _=>dG d λo' x _=>tM op&&kD o'&&gZ (t.ai.lookup x) f&&Bq op m&&aX t n o o'&&aX t n e g
 |.augI o i op e,s=>eX s λd m g _=>cC d λo' l _=>tM op&&!f8 l&&Bq op m&&aX t n o o'&&aX t n i l&&aX t n e g
 |.ex e,s=>zU s λg _=>!qg g&&aX t n e g
 |.ret e,s=>rS s λo _=>Fe o (λg=>aX t n e g)||(isNone o&&Ng e)
 |.ite c a b,s=>G2 s λp v k _=>tW t n c p&&aJ n a v&&aJ n b k
 |.whl c b,s=>tL s λp k o _=>o.isEmpty&&tW t n c p&&aJ n b k
 |.for is q b,s=>wF s λd it' k o _=>o.isEmpty&&!oS it'&&(fE d (λx _=>vx is λi=>gZ (n.sto x) i)||lO d λts _ _=>Gz is&&names n is ts)&&aX t n q it'&&aJ n b k
 |.forR i lo hi up b,s=>wF s λd it' k o _=>o.isEmpty&&fE d λx _=>qU it' λr _ as _=>r==gg&&n.bi t r&&gZ (n.sto x) i&&
   ((up&&(Fj as (λj h=>!bC j&&!bC h&&aX t n lo j&&aX t n hi h)||vx as λh=>!bC h&&pa lo&&aX t n hi h))||
    (!up&&Fg as λj r=>Fj r λh st=>iD st λu c _=>decide (u=.USub)&&gq c λc _ _=>decide (c=.int 1)&&!bC j&&!bC h&&aX t n lo j&&aX t n hi h))&&aJ n b k
 |.brk,s=>uf s λ_=>true
 |.cnt,s=>mw s λ_=>true
 |.pas,s=>xG s λ_=>true
 |.delI o i,s=>rJ s λts _=>vx ts λd=>cC d λo' l _=>!f8 l&&aX t n o o'&&aX t n i l
 |.tri b,s=>CZ s λk hs o f _=>!hs.isEmpty&&o.isEmpty&&f.isEmpty&&aJ n b k
 |.dead,_=>true
noncomputable def aJ(n:Cn):SS->List Stmt->Bool
 |.nil,b=>b.isEmpty
 |.cons s b,a=>Fg a λs' r=>oc n s s'&&aJ n b r
end
end
end
section
structure cE(Z h₀ g:Heap):Prop where
 size:g.objs.size=h₀.objs.size
 none_:∀b,h₀.get? b=none->g.get? b=none
 base:Z.StaysIn g
 up:∀b o,h₀.get? b=some o->∃sl,g.get? b=some {o with slots:=sl}
theorem cE.refl{Z h₀:Heap}(st:Z.StaysIn h₀):cE Z h₀ h₀:=⟨rfl,λ_ e=>e,st,λ_ o e=>⟨o.slots,e⟩⟩
theorem cE.trans{Z h₀ g a:Heap}(x:cE Z h₀ g)(y:cE Z g a):cE Z h₀ a:=⟨y.size.trans x.size,λb e=>y.none_ b (x.none_ b e),y.base,λb o e=>by
 obtain⟨_,h⟩:=x.up b o e
 obtain⟨s,h⟩:=y.up b _ h
 exact⟨s,h⟩⟩
theorem cE.un{Z h₀ g:Heap}(x:cE Z h₀ g){b:Addr}(e:g.get? b=none):h₀.get? b=none:=by
 cases q:h₀.get? b with
 |none=>rfl
 |some o=>obtain⟨_,h⟩:=x.up b o q;rw[e]at h;cases h
inductive HS(T:Tb)(Z h₀:Heap)(L:Addr)(opq:List (Addr×Obj))(m:Str->Option Value)(σ:Hp)(h:Heap):Prop
 |mk g (h1:cE Z h₀ g) news D (h2:Fr g L h m) (h3:News g L h news) (h4:HR T σ Z news D opq):HS T Z h₀ L opq m σ h
structure Gd(K:Frag)(Z h₀:Heap)(A:Around)(env:Env):Prop where
 Xb:K.In Z
 trb:∃p loose mean mg mb,Top p loose mean mg mb Z
 st:Z.StaysIn h₀
 fk:env.scope.kind=.function
 gl:env.globals=mainGlobals
 bu:env.builtins=builtinsNs
 un:A.units+200<cLine
 fits:mainGlobals<Z.objs.size
section
variable {K:Frag} {Z h₀ g:Heap} {A:Around} {env:Env}
theorem Gd.X(G:Gd K Z h₀ A env):K.In h₀:=G.Xb.keeps G.st
theorem Gd.tr(G:Gd K Z h₀ A env):∃p a b c,TopRead p a b c h₀:=G.trb.elim λp h=>h.elim λl h=>h.elim λ_ h=>h.elim λb h=>h.elim λc h=>⟨p,l,b,c,topRead_of (h.keeps G.st)⟩
theorem Gd.lim(G:Gd K Z h₀ A env):h₀.NoLimit:=G.trb.elim λ_ h=>h.elim λ_ h=>h.elim λ_ h=>h.elim λ_ h=>h.elim λ_ h=>h.nolimit.keeps G.st
theorem Gd.turn(G:Gd K Z h₀ A env)(x:Z.StaysIn g):Gd K Z g A env:={G with st:=x}
end
def AF(env:Env)(m:Str->Option Value)(opq:List (Addr×Obj))(x:Str)(v:Value):Prop:=
 (env.scope.names.lookup x=some .local/\m x=some v)∨(vY (env.scope.names.lookup x)=true/\∃a o,env.cells.lookup x=some a/\(a,o)∈opq/\o.data=.cell (some v))
def AD(env:Env)(a:List (Str×Nat))(m:Str->Option Value)(opq:List (Addr×Obj))(l:aG):Prop:=
 ∀x i,a.lookup x=some i->get l i≠.undef->∃v,AF env m opq x v/\VR v (get l i)
structure DT(K:Frag)(c:Addr):Prop where
 pg:plainGet K c ""=true
 hd:hasDictIn K c=true
 sa:findIn K (.ref c) "__setattr__"=some (some (.builtin "object.__setattr__"))
 po:plainOver K c=true
structure Cr(K:Frag)(T:Tb)(F:Ft)(t:Ct):Prop where
 int:∀x n,t.ii.lookup x=some n->∃tk,nsIn K mainGlobals x=some (some (.int n tk))
 fn:∀x i,t.fi.lookup x=some i->nsIn K mainGlobals x=some (some (.ref (F.fa i)))/\keepIn K (.ref (F.fa i))=true
 cl:∀x i,t.ki.lookup x=some i->nsIn K mainGlobals x=some (some (.ref (T.ca i)))/\keepIn K (.ref (T.ca i))=true/\makesIn K (T.ca i)=true/\
  findIn K (.ref (T.ca i)) "__init__"=some (some (match F.mi i with|some g=>.ref (F.fa g)|none=>.builtin "object.__init__"))/\(∀g,F.mi i=some g->isFn K (.ref (F.fa g))=true)
 fld:∀c f,F.fo c f=true->f<T.nf/\DT K (T.ca c)/\findIn K (.ref (T.ca c)) (T.an f)=some none
 inj:∀i j,i<T.nf->j<T.nf->T.an i=T.an j->i=j
 atn:∀x i,t.ai.lookup x=some i->x=T.an i
 mth:∀x g,t.gi.lookup x=some g->∀c f,F.mt c g=some f->DT K (T.ca c)/\findIn K (.ref (T.ca c)) x=some (some (.ref (F.fa f)))/\isFn K (.ref (F.fa f))=true/\keepIn K (.ref (F.fa f))=true
 bi:∀b,nsIn K mainGlobals (mQ b)=some none
 rg:nsIn K mainGlobals gg=some none
section
variable {prog:Program} {w:World} {K:Frag} {T:Tb} {Z h₀:Heap} {A:Around} {E:Value->Shared->Prop} {L:Addr} {m:Str->Option Value} {opq:List (Addr×Obj)} {σ:Hp} {s:Shared} {Q:PX}
inductive aC(T:Tb)(Z h₀:Heap)(L:Addr)(opq:List (Addr×Obj))(m:Str->Option Value)(Q:PX)(s:Shared)(v:Value)(s':Shared):Prop
 |mk a σ' h' tk (h1:s'={s with heap:=h',toks:=tk}) (h2:VR v a) (h3:HS T Z h₀ L opq m σ' h') (h4:Q a σ'):aC T Z h₀ L opq m Q s v s'
inductive kC(T:Tb)(Z h₀:Heap)(L:Addr)(opq:List (Addr×Obj))(m:Str->Option Value)(Q:Hp->Prop)(s:Shared)(s':Shared):Prop
 |mk σ' h' tk (h1:s'={s with heap:=h',toks:=tk}) (h2:HS T Z h₀ L opq m σ' h') (h3:Q σ'):kC T Z h₀ L opq m Q s s'
theorem aC.same{v:Value}{a:AV}{tk:Nat}(H:HS T Z h₀ L opq m σ s.heap)(r:VR v a)(q:Q a σ):aC T Z h₀ L opq m Q s v {s with toks:=tk}:=⟨a,σ,s.heap,tk,rfl,r,H,q⟩
theorem aC.same0{v:Value}{a:AV}(H:HS T Z h₀ L opq m σ s.heap)(r:VR v a)(q:Q a σ):aC T Z h₀ L opq m Q s v s:=⟨a,σ,s.heap,s.toks,rfl,r,H,q⟩
theorem aC.trans{s':Shared}{h':Heap}{tk:Nat}{v:Value}(e:∃h' tk,s'={s with heap:=h',toks:=tk}){b:Shared}(p:aC T Z h₀ L opq m Q s' v b):aC T Z h₀ L opq m Q s v b:=by
 obtain⟨h',tk,rfl⟩:=e
 obtain⟨a,d,h,c,rfl,r,f,i⟩:=p
 exact⟨a,d,h,c,rfl,r,f,i⟩
theorem VR.int{v:Value}{i:Int}(h:VR v (.int i)):∃t,v=.int i t:=by
 cases v<;>first|exact absurd h id|(obtain rfl:_=i:=h;exact⟨_,rfl⟩)
theorem VR.bool{v:Value}{b:Bool}(h:VR v (.bool b)):v=.bool b:=by
 cases v<;>first|exact absurd h id|(obtain rfl:_=b:=h;rfl)
theorem VR.none{v:Value}(h:VR v .none):v=.none:=by
 cases v<;>first|exact absurd h id|rfl
theorem VR.bytes{v:Value}{l:List UInt8}(h:VR v (.bytes l)):∃t,v=.bytes l.toArray t:=by
 cases v with
 |bytes b t=>obtain rfl:b.toList=l:=h;exact⟨t,by rw[Array.toArray_toList]⟩
 |_=>exact absurd h id
theorem VR.ref{v:Value}{a:Addr}(h:VR v (.ref a)):v=.ref a:=by
 cases v<;>first|exact absurd h id|(obtain rfl:_=a:=h;rfl)
theorem VR.not_undef{v:Value}(h:VR v .undef):False:=by cases v<;>exact h
@[elab_as_elim] theorem bq{P:Value->Prop}{v:Value}{a:AV}{k:Int->Prop}(r:VR v a)(h:bU a k)(f:∀i t,k i->P (.int i t)):P v:=by
 cases a with
 |int i=>obtain⟨t,rfl⟩:=r.int;exact f i t h
 |_=>exact h.elim
@[elab_as_elim] theorem wU{P:Value->Prop}{v:Value}{a:AV}{k:List UInt8->Prop}(r:VR v a)(h:CD a k)(f:∀b t,k b->P (.bytes b.toArray t)):P v:=by
 cases a with
 |bytes i=>obtain⟨t,rfl⟩:=r.bytes;exact f i t h
 |_=>exact h.elim
@[elab_as_elim] theorem b8{P:Value->Prop}{v:Value}{a:AV}{k:Addr->Prop}(r:VR v a)(h:kH a k)(f:∀x,k x->P (.ref x)):P v:=by
 cases a with
 |ref i=>obtain rfl:=r.ref;exact f i h
 |_=>exact h.elim
@[elab_as_elim] theorem tD{P:Value->Prop}{v:Value}{a:AV}{k:Prop}(r:VR v a)(h:Di a k)(f:k->P .none):P v:=by
 cases a with
 |none=>obtain rfl:=r.none;exact f h
 |_=>exact h.elim
@[elab_as_elim] theorem E4{P:Value->Prop}{v:Value}{a:AV}{k:Bool->Prop}(r:VR v a)(h:Li a k)(f:∀b,k b->P (.bool b)):P v:=by
 cases a with
 |bool i=>obtain rfl:=r.bool;exact f i h
 |_=>exact h.elim
@[elab_as_elim] theorem eD{P:Value->Prop}{v:Value}{a:AV}{f:Prop}{e:Int->Prop}{d:List UInt8->Prop}{c:Addr->Prop}(r:VR v a)(h:sel a f e d c)(fn:f->P .none)(j:∀i t,e i->P (.int i t))(k:∀b t,d b->P (.bytes b.toArray t))(l:∀x,c x->P (.ref x)):P v:=by
 cases a with
 |none=>obtain rfl:=r.none;exact fn h
 |int i=>obtain⟨t,rfl⟩:=r.int;exact j i t h
 |bytes i=>obtain⟨t,rfl⟩:=r.bytes;exact k i t h
 |ref i=>obtain rfl:=r.ref;exact l i h
 |_=>exact h.elim
theorem CY{a:Type}{P n:Prop}{o:Option a}{k:a->Prop}(h:ei o k n)(f:∀v,o=some v->k v->P)(g:n->P):P:=by
 cases o with
 |none=>exact g h
 |some v=>exact f v rfl h
theorem dh{a:Type}{P:Prop}{o:Option a}{k:a->Prop}(h:op o k)(f:∀v,o=some v->k v->P):P:=CY h f False.elim
theorem jO{P:Prop}{o:Option (Bool×AO)}{f i:List AV->Prop}{a:List (Int×AV)->Prop}(h:AM o f i a)(l:∀z xs,o=some (z,.list xs)->f xs->P)(t:∀z xs,o=some (z,.tup xs)->i xs->P)(d:∀z es,o=some (z,.dict es)->a es->P):P:=
 dh h λv e h=>by
  cases v with
  |mk b o=>cases o with
   |list xs=>exact l _ _ e h
   |tup xs=>exact t _ _ e h
   |dict xs=>exact d _ _ e h
   |inst c j=>exact h.elim
theorem uQ{P:Prop}{o:Option (Bool×AO)}{k:List AV->Prop}(h:cL o k)(f:∀z xs,o=some (z,.list xs)->k xs->P):P:=jO h f (λ_ _ _ h=>h.elim) λ_ _ _ h=>h.elim
theorem CE{P:Prop}{o:Option (Bool×AO)}{k:List AV->Prop}(h:cT o k)(f:∀z xs,o=some (z,.tup xs)->k xs->P):P:=jO h (λ_ _ _ h=>h.elim) f λ_ _ _ h=>h.elim
theorem yT{P:Prop}{o:Option (Bool×AO)}{k:List (Int×AV)->Prop}(h:cD o k)(f:∀z xs,o=some (z,.dict xs)->k xs->P):P:=jO h (λ_ _ _ h=>h.elim) (λ_ _ _ h=>h.elim) f
theorem CR{P:Prop}{o:Option (Bool×AO)}{k:Nat->List (Nat×AV)->Prop}(h:cN o k)(f:∀z c fs,o=some (z,.inst c fs)->k c fs->P):P:=
 dh h λv e h=>by
  cases v with
  |mk b o=>cases o with
   |inst c fs=>exact f _ _ _ e h
   |_=>exact h.elim
theorem pI{P:Prop}{o:Option (Bool×AO)}{f:List AV->Prop}{a:List (Int×AV)->Prop}{i:Nat->List (Nat×AV)->Prop}(h:C7 o f a i)(l:∀xs,o=some (false,.list xs)->f xs->P)(d:∀es,o=some (false,.dict es)->a es->P)(n:∀c fs,o=some (false,.inst c fs)->i c fs->P):P:=
 dh h λv e h=>by
  cases v with
  |mk b o=>
   obtain rfl:b=false:=h.1
   cases o with
   |list xs=>exact l _ e h.2
   |tup xs=>exact h.2.elim
   |dict xs=>exact d _ e h.2
   |inst c fs=>exact n _ _ e h.2
theorem Ae{P:Prop}{o:Option (Bool×AO)}{k:List AV->Prop}(h:wL o k)(f:∀xs,o=some (false,.list xs)->k xs->P):P:=pI h f (λ_ _ h=>h.elim) λ_ _ _ h=>h.elim
@[elab_as_elim] theorem fZ{P:List Value->Prop}{vs:List Value}{as:List AV}{k:AV->Prop}(r:aF VR vs as)(h:Ak as k)(f:∀v a,VR v a->k a->P [v]):P vs:=by
 cases r with
 |nil=>exact h.elim
 |cons r q=>cases q with
  |nil=>exact f _ _ r h
  |cons _ _=>exact h.elim
@[elab_as_elim] theorem jY{P:List Value->Prop}{vs:List Value}{as:List AV}{k:AV->AV->Prop}(r:aF VR vs as)(h:Dh as k)(f:∀v a u b,VR v a->VR u b->k a b->P [v,u]):P vs:=by
 cases r with
 |nil=>exact h.elim
 |cons r q=>cases q with
  |nil=>exact h.elim
  |cons q t=>cases t with
   |nil=>exact f _ _ _ _ r q h
   |cons _ _=>exact h.elim
theorem HS.get{a:Addr}{fz:Bool}{o:AO}(st:Z.StaysIn h₀)(H:HS T Z h₀ L opq m σ s.heap)(e:σ a=some (fz,o)):∃D,OR T D (λx ob=>s.heap.get? x=some ob) a o:=by
 obtain⟨g,d,b,D,c,N,R⟩:=H
 refine⟨D,(R.ob _ _ _ e).mono (λ_ _ _=>rfl) λx ob h=>?_⟩
 rcases h with h|⟨_,h⟩
 ·exact(N _ h).1
 ·exact c.keep _ _ (d.base _ _ h)
theorem HS.list{a:Addr}{fz:Bool}{xs:List AV}(st:Z.StaysIn h₀)(H:HS T Z h₀ L opq m σ s.heap)(e:σ a=some (fz,.list xs)):∃vs n,s.heap.get? a=some (jz vs n)/\aF VR vs xs:=by
 obtain⟨D,vs,n,c,b⟩:=H.get st e;exact⟨vs,n,c,b⟩
theorem HS.tup{a:Addr}{fz:Bool}{xs:List AV}(st:Z.StaysIn h₀)(H:HS T Z h₀ L opq m σ s.heap)(e:σ a=some (fz,.tup xs)):∃vs n,s.heap.get? a=some (kP vs n)/\aF VR vs xs:=by
 obtain⟨D,vs,n,c,b⟩:=H.get st e;exact⟨vs,n,c,b⟩
theorem HS.alloc{h' g:Heap}{a:Addr}{ob:Obj}{fz:Bool}{o:AO}{b:List (Addr×Obj)}{D:Addr->Addr}(i:cE Z h₀ g)(R:HR T σ Z b D opq)(q:Fr g L h' m)(d:News g L h' ((a,ob)::b))(j:∀p∈b,p.1<a)
  (k:∀P:Addr->Obj->Prop,P a ob->OR T D P a o) (hi:∀c fs,o≠.inst c fs):HS T Z h₀ L opq m (upd σ a (fz,o)) h'/\σ a=none:=by
 have n:g.get? a=none:=(d _ (.head _)).2.2
 have f:Z.get? a=none:=by
  cases e:Z.get? a with
  |none=>rfl
  |some o=>have:=i.base _ _ e;rw[n]at this;cases this
 have h:∀p∈b,p.1≠a:=λp l e=>absurd (j p l) (by rw[e];exact Nat.lt_irrefl _)
 exact⟨⟨g,i,_,D,q,d,R.alloc h f k hi⟩,R.fresh h f⟩
theorem pK{xs:List AV}:∀c fs,AO.list xs≠.inst c fs:=λ_ _ e=>AO.noConfusion e
theorem Ld{xs:List AV}:∀c fs,AO.tup xs≠.inst c fs:=λ_ _ e=>AO.noConfusion e
theorem BK{xs:List (Int×AV)}:∀c fs,AO.dict xs≠.inst c fs:=λ_ _ e=>AO.noConfusion e
theorem HS.cL{a:Addr}{P:Prop}{k:List AV->Prop}(st:Z.StaysIn h₀)(H:HS T Z h₀ L opq m σ s.heap)(h:cL (σ a) k)(f:∀z xs vs n,σ a=some (z,.list xs)->s.heap.get? a=some (jz vs n)->aF VR vs xs->vs.length=xs.length->k xs->P):P:=
 uQ h λz xs e h=>(H.list st e).elim λvs b=>b.elim λn b=>f z xs vs n e b.1 b.2 b.2.length h
theorem HS.cT{a:Addr}{P:Prop}{k:List AV->Prop}(st:Z.StaysIn h₀)(H:HS T Z h₀ L opq m σ s.heap)(h:cT (σ a) k)(f:∀vs n xs,s.heap.get? a=some (kP vs n)->aF VR vs xs->k xs->P):P:=
 CE h λz xs e h=>(H.tup st e).elim λvs b=>b.elim λn b=>f vs n xs b.1 b.2 h
theorem HS.newL{h' g:Heap}{a:Addr}{ob:Obj}{vs:List Value}{n tk:Nat}{ys:List AV}{b:List (Addr×Obj)}{D:Addr->Addr}(i:cE Z h₀ g)(R:HR T σ Z b D opq)(j:Fr g L h' m)(f:News g L h' ((a,ob)::b))(d:∀p∈b,p.1<a)
  (e:ob=jz vs n) (r:aF VR vs ys) (q:∀c,σ c=none->Q (.ref c) (upd σ c (false,.list ys))):aC T Z h₀ L opq m Q s (.ref a) {s with heap:=h',toks:=tk}:=
 have H:=HS.alloc (fz:=false) (o:=.list ys) i R j f d (λP h=>⟨vs,n,by rw[←e];exact h,r⟩) pK
 ⟨.ref a,_,h',tk,rfl,rfl,H.1,q _ H.2⟩
end
end
section
section
variable {prog:Program} {w:World} {K:Frag} {T:Tb} {Z h₀:Heap} {A:Around} {E:Value->Shared->Prop} {L:Addr} {m:Str->Option Value} {opq:List (Addr×Obj)} {σ:Hp} {s:Shared} {Q:PX}
theorem bI:line=10000:=rfl
theorem oz(i:Int)(t:Tok):VR (.int i t) (.int i):=rfl
theorem JW(b:Bool):VR (.bool b) (.bool b):=rfl
theorem PG:VR .none .none:=trivial
theorem KC(l:List UInt8)(t:Tok):VR (.bytes l.toArray t) (.bytes l):=by show _=_;simp
theorem aL{h:Heap}{a:Addr}{vs:List Value}{n:Nat}(e:h.get? a=some (jz vs n)):h.IsList a vs.toArray:=⟨_,e,rfl,n,rfl⟩
@[elab_as_elim] theorem eN{P:Value->Value->Prop}{a b:AV}{u v:Value}{k:Int->Int->Prop}(r:VR u a)(q:VR v b)(h:bU a λx=>bU b λy=>k x y)(f:∀x t y w,k x y->P (.int x t) (.int y w)):P u v:=
 bq (P:=λu=>P u v) r h λx t h=>bq (P:=P (.int x t)) q h λy w h=>f x t y w h
theorem uJ{x:Int}(h: -(2 ^ 62)<x/\x<2 ^ 62):Builtin.Int.intBits x<=64:=PySem.intBits_le_64 (by exact Int.lt_trans (by decide) h.1) (by exact Int.lt_trans h.2 (by decide))
theorem QJ{x y:Int}(e:x=12)(b:0<=y)(a:y<=2):(Builtin.Int.intBits x:Int)*y<=128:=by
 subst e
 have c:(Builtin.Int.intBits 12:Int)<=64:=bF (PySem.intBits_le_64 (by decide) (by decide))
 exact Int.mul_le_mul c a b (by decide)
theorem vm{o:BO}{a b:AV}{B G:Value}(st:Z.StaysIn h₀)(e:VR B a)(c:VR G b)(H:HS T Z h₀ L opq m σ s.heap)(h:bin o a b σ Q):wpAny (model prog w) A (binaryOp (NB o) B G) (aC T Z h₀ L opq m Q s) E s:=by
 cases o with
 |add=>
  exact eD e h False.elim (λx t h=>bq c h λy u h=>add_int (aC.same H (oz _ _) h))
   (λx t h=>wU c h λy u h=>bytes_add_K (d:=x++y) (by have:=h.1;have:=bI;simp only[List.size_toArray];exact m3 [_,_,_] Oq 0 1 1 2 J4 Pz Q4 rfl h.1.1 h.1.2 this) rfl λt' k=>aC.same H (KC _ _) h.2)
   λa h=>b8 c h λb h=>H.cL st h λ_ xs j n _ g1 q J h=>H.cL st h λ_ ys us k _ g2 r2 U h=>H.casesOn λg l f D r N R=>
    add_arrays r N (aL g1) (aL g2) (λV z i=>HS.newL (n:=0) l R z i (λp W=>Heap.lt_size (N p W).1) rfl (q.append r2) h.2) (by have:=h.1;have:=bI;rw[sizeLine_eq];simp only[List.size_toArray];exact m5 [_,_,_,_,_] Oq 0 1 1 1 1 2 IP NN (.le (.v 2) (.v 4)) (.le (.v 3) (.v 4)) (.eq (.v 4) (.n 10000)) rfl J U h.1.1 h.1.2 this)
 |mul=>
  exact eD e h False.elim (λx t h=>bq c h λy u h=>mul_int (aC.same H (oz _ _) h.2) (PySem.IntMulOk.of_left (uJ h.1))) (λ_ _ h=>h.elim)
   λa h=>bq c h λn u h=>H.cL st h λ_ xs j k _ g1 q J h=>H.casesOn λg l f D r N R=>fZ (P:=λj=>s.heap.get? a=some (jz j k)->_) q h (λv x r0 h g1=>
    KMa.mul (ws:=List.replicate n.toNat v) r N (aL g1) (by have:=h.1;exact Int.le_trans (by decide) this.1) (by have:=h.1;exact Int.lt_of_le_of_lt this.2 (by decide)) (by have:=h.1;simp only[List.length_cons,List.length_nil,Nat.zero_add,Nat.one_mul];exact Nat.le_trans (Int.toNat_le.mpr this.2:n.toNat<=100) (by decide)) (by simp) λa V z i O=>HS.newL (n:=0) l R z i O rfl (aF.replicate r0 _) h.2) g1
 |sub=>exact eN e c h λx t y u h=>sub_int (aC.same H (oz _ _) h)
 |fdiv=>exact eN e c h λx t y u h=>floordiv_int (Int.ne_of_gt h.1.1) (aC.same H (oz _ _) (by rw[Int.fdiv_eq_ediv_of_nonneg _ (Int.le_of_lt h.1.1)];exact h.2)) (.inl (PyProof.noPylong_small (by have:=h.1;exact cu (by rw[Int.natAbs_of_nonneg (Int.le_of_lt this.1)];exact this.2))))
 |mod=>exact eN e c h λx t y u h=>mod_int' (Int.ne_of_gt h.1) (aC.same H (oz _ _) (by rw[Int.fmod_eq_emod_of_nonneg _ (Int.le_of_lt h.1)];exact h.2))
 |band=>exact eN e c h λx t y u h=>and_int (aC.same H (oz _ _) h)
 |bor=>exact eN e c h λx t y u h=>or_int (aC.same H (oz _ _) h)
 |shl=>exact eN e c h λx t y u h=>lshift_int_small h.1.1 (by have:=h.1.2.1;exact z1 [_] (.le (.v 0) (.n 1000000)) M7 rfl h.1.2.1) h.1.2.2 (aC.same H (oz _ _) h.2)
 |shr=>exact eN e c h λx t y u h=>rshift_int h.1 (aC.same H (oz _ _) h.2)
 |pow=>
  exact eN e c h λx t y u h=>by
   obtain⟨⟨rfl,I,Y⟩,h3⟩:=h
   refine pow_int I ?_ (aC.same H (oz _ _) h3)
   exact Int.le_trans (QJ rfl I Y) (by decide)
end
end
section
theorem mP:∀a b:List UInt8,(Builtin.Bytes.order a b==.lt)=decide (a<b)
 |[],[]=>by decide
 |[],_::_=>by simp[Builtin.Bytes.order]
 |_::_,[]=>by simp[Builtin.Bytes.order]
 |x::a,y::b=>by
  simp only[Builtin.Bytes.order]
  by_cases d:x<y
  ·simp[d,List.cons_lt_cons_iff]
  ·by_cases c:x>y
   ·have:¬x=y:=λe=>by subst e;exact absurd c (UInt8.lt_irrefl _)
    simp[d,c,this,List.cons_lt_cons_iff]
   ·have:x=y:=UInt8.le_antisymm (UInt8.not_lt.mp c) (UInt8.not_lt.mp d)
    subst this
    simp[UInt8.lt_irrefl,mP a b,List.cons_lt_cons_iff]
theorem mN:∀a b:List UInt8,(Builtin.Bytes.order a b==.gt)=decide (b<a)
 |[],[]=>by decide
 |[],_::_=>by simp[Builtin.Bytes.order]
 |_::_,[]=>by simp[Builtin.Bytes.order]
 |x::a,y::b=>by
  simp only[Builtin.Bytes.order]
  by_cases c:x<y
  ·have:¬y=x:=λe=>by subst e;exact absurd c (UInt8.lt_irrefl _)
   have f:¬y<x:=UInt8.not_lt.mpr (UInt8.le_of_lt c)
   simp[c,this,f,List.cons_lt_cons_iff]
  ·by_cases d:x>y
   ·simp[c,d,List.cons_lt_cons_iff]
   ·have:x=y:=UInt8.le_antisymm (UInt8.not_lt.mp d) (UInt8.not_lt.mp c)
    subst this
    simp[UInt8.lt_irrefl,mN a b,List.cons_lt_cons_iff]
theorem oy:Slot "bytes" (cmpInfo .Lt).2.1 "bytes.__lt__":=
 .of (owner:="bytes") (n:="__lt__") (by rw[typeLookup_type,builtinLookup_eq_fast];kernel_rfl) (by decide+kernel) (by decide+kernel) (by decide+kernel)
  (by first|exact .inl (by decide+kernel)|exact .inr (by decide+kernel)) (by rw[isSubtype_type];kernel_rfl)
theorem mW:entryFor table "bytes.__lt__"=some Builtin.«bytes.__lt__»:=entryFor_of_tree (by kernel_rfl)
theorem kR(a b:Value):argsOk "bytes.__lt__" ⟨[a,b],[]⟩:=by
 unfold argsOk;rw[signature?_of (id:="bytes.__lt__") (n:=['_','_','t','l','_','_']) (o:=['s','e','t','y','b']) (by kernel_rfl) PySem.W.FB.owner_bytes];kernel_rfl
theorem mr(b c:Array UInt8)(t u:Tok):Gives (Builtin.«bytes.__lt__» ⟨[.bytes b t,.bytes c u],[]⟩) (.val (.bool (Builtin.Bytes.holds "__lt__" (Builtin.Bytes.order b.toList c.toList)))):=by
 refine .of_wp λM A E s Q a=>?_
 show wpAny M A (isInstance (.bytes c u) (.type "bytes") >>= λr=>_) _ E s
 refine wpAny_bind (wpAny_isInstance (typeIs_bytes s c u) F.sub_bytes_bytes ?_)
 exact wpAny_pure ⟨_,rfl,a⟩
theorem nZ:Slot "bytes" (cmpInfo .LtE).2.1 "bytes.__le__":=
 .of (owner:="bytes") (n:="__le__") (by rw[typeLookup_type,builtinLookup_eq_fast];kernel_rfl) (by decide+kernel) (by decide+kernel) (by decide+kernel)
  (by first|exact .inl (by decide+kernel)|exact .inr (by decide+kernel)) (by rw[isSubtype_type];kernel_rfl)
theorem mX:entryFor table "bytes.__le__"=some Builtin.«bytes.__le__»:=entryFor_of_tree (by kernel_rfl)
theorem kN(a b:Value):argsOk "bytes.__le__" ⟨[a,b],[]⟩:=by
 unfold argsOk;rw[signature?_of (id:="bytes.__le__") (n:=['_','_','e','l','_','_']) (o:=['s','e','t','y','b']) (by kernel_rfl) PySem.W.FB.owner_bytes];kernel_rfl
theorem mO(b c:Array UInt8)(t u:Tok):Gives (Builtin.«bytes.__le__» ⟨[.bytes b t,.bytes c u],[]⟩) (.val (.bool (Builtin.Bytes.holds "__le__" (Builtin.Bytes.order b.toList c.toList)))):=by
 refine .of_wp λM A E s Q a=>?_
 show wpAny M A (isInstance (.bytes c u) (.type "bytes") >>= λr=>_) _ E s
 refine wpAny_bind (wpAny_isInstance (typeIs_bytes s c u) F.sub_bytes_bytes ?_)
 exact wpAny_pure ⟨_,rfl,a⟩
theorem nY:Slot "bytes" (cmpInfo .Gt).2.1 "bytes.__gt__":=
 .of (owner:="bytes") (n:="__gt__") (by rw[typeLookup_type,builtinLookup_eq_fast];kernel_rfl) (by decide+kernel) (by decide+kernel) (by decide+kernel)
  (by first|exact .inl (by decide+kernel)|exact .inr (by decide+kernel)) (by rw[isSubtype_type];kernel_rfl)
theorem nE:entryFor table "bytes.__gt__"=some Builtin.«bytes.__gt__»:=entryFor_of_tree (by kernel_rfl)
theorem kZ(a b:Value):argsOk "bytes.__gt__" ⟨[a,b],[]⟩:=by
 unfold argsOk;rw[signature?_of (id:="bytes.__gt__") (n:=['_','_','t','g','_','_']) (o:=['s','e','t','y','b']) (by kernel_rfl) PySem.W.FB.owner_bytes];kernel_rfl
theorem mB(b c:Array UInt8)(t u:Tok):Gives (Builtin.«bytes.__gt__» ⟨[.bytes b t,.bytes c u],[]⟩) (.val (.bool (Builtin.Bytes.holds "__gt__" (Builtin.Bytes.order b.toList c.toList)))):=by
 refine .of_wp λM A E s Q a=>?_
 show wpAny M A (isInstance (.bytes c u) (.type "bytes") >>= λr=>_) _ E s
 refine wpAny_bind (wpAny_isInstance (typeIs_bytes s c u) F.sub_bytes_bytes ?_)
 exact wpAny_pure ⟨_,rfl,a⟩
theorem om:Slot "bytes" (cmpInfo .GtE).2.1 "bytes.__ge__":=
 .of (owner:="bytes") (n:="__ge__") (by rw[typeLookup_type,builtinLookup_eq_fast];kernel_rfl) (by decide+kernel) (by decide+kernel) (by decide+kernel)
  (by first|exact .inl (by decide+kernel)|exact .inr (by decide+kernel)) (by rw[isSubtype_type];kernel_rfl)
theorem mM:entryFor table "bytes.__ge__"=some Builtin.«bytes.__ge__»:=entryFor_of_tree (by kernel_rfl)
theorem kK(a b:Value):argsOk "bytes.__ge__" ⟨[a,b],[]⟩:=by
 unfold argsOk;rw[signature?_of (id:="bytes.__ge__") (n:=['_','_','e','g','_','_']) (o:=['s','e','t','y','b']) (by kernel_rfl) PySem.W.FB.owner_bytes];kernel_rfl
theorem mj(b c:Array UInt8)(t u:Tok):Gives (Builtin.«bytes.__ge__» ⟨[.bytes b t,.bytes c u],[]⟩) (.val (.bool (Builtin.Bytes.holds "__ge__" (Builtin.Bytes.order b.toList c.toList)))):=by
 refine .of_wp λM A E s Q a=>?_
 show wpAny M A (isInstance (.bytes c u) (.type "bytes") >>= λr=>_) _ E s
 refine wpAny_bind (wpAny_isInstance (typeIs_bytes s c u) F.sub_bytes_bytes ?_)
 exact wpAny_pure ⟨_,rfl,a⟩
section
variable {prog:Program} {w:World} {K:Frag} {T:Tb} {hb h₀:Heap} {A:Around} {E:Value->Shared->Prop} {L:Addr} {m:Str->Option Value} {opq:List (Addr×Obj)} {σ:Hp} {s:Shared}
theorem xk{a b:List UInt8}{t u:Tok}{Q:Value->Shared->Prop}(h:Q (.bool (decide (a<b))) s):wpAny (model prog w) A (compareOp .Lt (.bytes a.toArray t) (.bytes b.toArray u)) Q E s:=
 compareOp_gives (op:=.Lt) (typeIs_bytes s _ t) (typeIs_bytes s _ u) oy mW (kR _ _) (mr _ _ t u) (λe=>nomatch e) (by
  show Q (.bool (Builtin.Bytes.order _ _==.lt)) s
  rw[mP];exact h)
theorem wR{a b:List UInt8}{t u:Tok}{Q:Value->Shared->Prop}(h:Q (.bool (decide (b<a))) s):wpAny (model prog w) A (compareOp .Gt (.bytes a.toArray t) (.bytes b.toArray u)) Q E s:=
 compareOp_gives (op:=.Gt) (typeIs_bytes s _ t) (typeIs_bytes s _ u) nY nE (kZ _ _) (mB _ _ t u) (λe=>nomatch e) (by
  show Q (.bool (Builtin.Bytes.order _ _==.gt)) s
  rw[mN];exact h)
theorem zO{a b:List UInt8}{t u:Tok}{Q:Value->Shared->Prop}(h:Q (.bool (!decide (b<a))) s):wpAny (model prog w) A (compareOp .LtE (.bytes a.toArray t) (.bytes b.toArray u)) Q E s:=
 compareOp_gives (op:=.LtE) (typeIs_bytes s _ t) (typeIs_bytes s _ u) nZ mX (kN _ _) (mO _ _ t u) (λe=>nomatch e) (by
  show Q (.bool (Builtin.Bytes.order _ _ !=.gt)) s
  rw[bne,mN];exact h)
theorem yy{a b:List UInt8}{t u:Tok}{Q:Value->Shared->Prop}(h:Q (.bool (!decide (a<b))) s):wpAny (model prog w) A (compareOp .GtE (.bytes a.toArray t) (.bytes b.toArray u)) Q E s:=
 compareOp_gives (op:=.GtE) (typeIs_bytes s _ t) (typeIs_bytes s _ u) om mM (kK _ _) (mj _ _ t u) (λe=>nomatch e) (by
  show Q (.bool (Builtin.Bytes.order _ _ !=.lt)) s
  rw[bne,mP];exact h)
end
end
section
theorem eF:Slot "bytes" (cmpInfo .NotEq).2.2 "bytes.__ne__":=
 .of (owner:="bytes") (n:="__ne__") (by rw[typeLookup_type,builtinLookup_eq_fast];kernel_rfl) (by decide+kernel) (by decide+kernel) (by decide+kernel)
  (by first|exact .inl (by decide+kernel)|exact .inr (by decide+kernel)) (by rw[isSubtype_type];kernel_rfl)
theorem dW(a:Array UInt8)(t:Tok):Gives (Builtin.«bytes.__ne__» ⟨[.bytes a t,.none],[]⟩) (.val (Value.notImplemented)):=
 .of_wp λM A E s Q h=>by obtain⟨c,g,d,e,os⟩:=s;have f1:=F.sub_NoneType_bytes;wp_walk;exact⟨_,rfl,h⟩
theorem dT(a:Array UInt8)(t:Tok):Gives (Builtin.«NoneType.__ne__» ⟨[.none,.bytes a t],[]⟩) (.val (Value.notImplemented)):=
 .of_wp λM A E s Q h=>by obtain⟨c,g,d,e,os⟩:=s;wp_walk;exact⟨_,rfl,h⟩
theorem BU{c:Type}[BEq c][LawfulBEq c][DecidableEq c](a b:c):(a==b)=decide (a=b):=by
 by_cases h:a=b<;>simp[h]
section
variable {prog:Program} {w:World} {A:Around} {E:Value->Shared->Prop} {s:Shared} {Q:Value->Shared->Prop}
theorem oj{a:Array UInt8}{t:Tok}(h:Q (.bool true) s):wpAny (model prog w) A (compareOp .NotEq (.bytes a t) .none) Q E s:=by
 show wpAny _ A (richCompare .NotEq _ _) Q E s
 exact EqNone.wpAny_richCompare_ne_decline (k:=false) (λc=>typeIs_bytes c a t) (λ_=>rfl) (by decide) F.sub_NoneType_bytes PySem.W.FB.slot_bytes_ne F.slot_NoneType_ne_refl rfl
  (call_gives PySem.W.FB.slot_bytes_ne (typeIs_bytes s a t) PySem.W.FB.entry_bytes_ne (PySem.W.FB.args_bytes_ne_2 _ _) (dW a t)
   ⟨rfl,call_gives F.slot_NoneType_ne_refl rfl F.entry_NoneType_ne (F.args_NoneType_ne_2 _ _) (dT a t) ⟨rfl,h⟩⟩)
theorem ow{a:Array UInt8}{t:Tok}(h:Q (.bool true) s):wpAny (model prog w) A (compareOp .NotEq .none (.bytes a t)) Q E s:=by
 show wpAny _ A (richCompare .NotEq _ _) Q E s
 exact EqNone.wpAny_richCompare_ne_decline (k:=false) (λ_=>rfl) (λc=>typeIs_bytes c a t) (by decide) F.sub_bytes_NoneType F.slot_NoneType_ne eF rfl
  (call_gives F.slot_NoneType_ne rfl F.entry_NoneType_ne (F.args_NoneType_ne_2 _ _) (dT a t)
   ⟨rfl,call_gives eF (typeIs_bytes s a t) PySem.W.FB.entry_bytes_ne (PySem.W.FB.args_bytes_ne_2 _ _) (dW a t) ⟨rfl,h⟩⟩)
end
section
variable {prog:Program} {w:World} {A:Around} {E:Value->Shared->Prop} {s:Shared}
theorem Cv{x y:Int}{t u:Tok}{Q:Value->Shared->Prop}(h:Q (.bool (decide (y<=x))) s):wpAny (model prog w) A (richCompare .GtE (.int x t) (.int y u)) Q E s:=ge_int h
theorem An{a b:Addr}{x y u v:Int}{t1 t2 t3 g:Tok}{P:Fin->Shared->Prop}(i:IsTup s.heap a #[.int x t1,.int y t2])(Z:IsTup s.heap b #[.int u t3,.int v g])
  (h:P (.done (.ret (.bool (decide (u<x∨(u=x/\v<=y)))))) s):wpAny (model prog w) A (Builtin.«tuple.__ge__» ⟨[.ref a,.ref b],[]⟩) P E s:=by
 show wpAny _ A (isInstance (.ref b) (.type "tuple") >>= λr=>_) _ E s
 refine wpAny_bind (wpAny_isInstance Z.typeIs F.sub_tuple_tuple ?_)
 refine wpAny_bind (tupleItemsOf_ i ?_)
 refine wpAny_bind (tupleItemsOf_ Z ?_)
 show wpAny _ A (forIn [(Value.int x t1,Value.int u t3),(Value.int y t2,Value.int v g)] _ _ >>= _) P E s
 rw[List.forIn_cons]
 by_cases f:x=u
 ·subst f
  refine wpAny_bind (wpAny_bind (wpAny_bind (wpAny_eqBool_int ?_)))
  simp only[beq_self_eq_true,Bool.not_true,Bool.false_eq_true,if_false]
  refine wpAny_pure ?_
  dsimp only
  rw[List.forIn_cons]
  by_cases d:y=v
  ·subst d
   refine wpAny_bind (wpAny_bind (wpAny_eqBool_int ?_))
   simp only[beq_self_eq_true,Bool.not_true,Bool.false_eq_true,if_false]
   refine wpAny_pure ?_
   dsimp only
   rw[List.forIn_nil]
   refine wpAny_pure ?_
   dsimp only
   refine wpAny_pure ?_
   simpa[Builtin.Tuple.tupleCompareSizes]using h
  ·refine wpAny_bind (wpAny_bind (wpAny_eqBool_int ?_))
   have:(y==v)=false:=by simpa using d
   simp only[this,Bool.not_false,if_true]
   refine wpAny_bind (wpAny_rule ?_)
   refine wpAny_bind (Cv ?_)
   refine wpAny_bind (wpAny_pure ?_)
   refine wpAny_pure ?_
   refine wpAny_pure ?_
   refine wpAny_pure ?_
   simpa[d]using h
 ·refine wpAny_bind (wpAny_bind (wpAny_bind (wpAny_eqBool_int ?_)))
  have:(x==u)=false:=by simpa using f
  simp only[this,Bool.not_false,if_true]
  refine wpAny_bind (wpAny_rule ?_)
  refine wpAny_bind (Cv ?_)
  refine wpAny_bind (wpAny_pure ?_)
  refine wpAny_pure ?_
  refine wpAny_pure ?_
  refine wpAny_pure ?_
  have c:¬u=x:=λe=>f e.symm
  have:(u<x↔u<=x):=by exact⟨Int.le_of_lt,λk=>Int.lt_iff_le_and_ne.mpr ⟨k,c⟩⟩
  simpa[c,this]using h
theorem xS{a b:Addr}{x y u v:Int}{t1 t2 t3 d:Tok}{Q:Value->Shared->Prop}(c:IsTup s.heap a #[.int x t1,.int y t2])(Z:IsTup s.heap b #[.int u t3,.int v d])(e:A.units<cLine)
  (h:Q (.bool (decide (u<x∨(u=x/\v<=y)))) s):wpAny (model prog w) A (compareOp .GtE (.ref a) (.ref b)) Q E s:=by
 show wpAny _ A (richCompare .GtE _ _) Q E s
 exact wpAny_richCompare_same_room c.typeIs Z.typeIs F.slot_tuple_ge (wpAny_call_entry F.slot_tuple_ge c.typeIs F.entry_tuple_ge (An c Z ⟨_,rfl,(by simp),h⟩) (F.args_tuple_ge_2 _ _)) e
end
section
variable {prog:Program} {w:World} {K:Frag} {T:Tb} {Z h₀:Heap} {A:Around} {E:Value->Shared->Prop} {L:Addr} {m:Str->Option Value} {opq:List (Addr×Obj)} {σ:Hp} {s:Shared}
theorem HS.dict{a:Addr}{fz:Bool}{es:List (Int×AV)}(st:Z.StaysIn h₀)(H:HS T Z h₀ L opq m σ s.heap)(e:σ a=some (fz,.dict es)):∃ob kvs,s.heap.get? a=some ob/\aF KR kvs es/\(∀prog w,ob.IsDictOf (intKind prog w) kvs)/\a≠sysModules:=by
 obtain⟨D,c,n,f,d,g⟩:=H.get st e;exact⟨c,n,f,d,g⟩
noncomputable def Dp:Option Value->Option AV->Prop
 |some v,some a=>VR v a
 |none,none=>True
 |_,_=>False
theorem hJ{k:Int}{kvs:List (Int×Value)}{es:List (Int×AV)}(h:aF KR kvs es):Dp (valueAt kvs k) (bE es k):=by
 induction h with
 |nil=>exact trivial
 |cons h r c=>
  rename_i e p j i
  obtain⟨f,g⟩:=h
  simp only[valueAt,bE,List.find?_cons,f]at c ⊢
  by_cases d:p.1=k
  ·simp only[d,decide_true];exact g
  ·simp only[d,decide_false];exact c
theorem Dp.isSome{o:Option Value}{a:Option AV}(h:Dp o a):o.isSome=a.isSome:=by
 cases o<;>cases a<;>first|rfl|exact h.elim
theorem Dy{k:Int}{kvs:List (Int×Value)}{es:List (Int×AV)}(h:aF KR kvs es):(kvs.any λe=>decide (e.1=k))=es.any λe=>decide (e.1=k):=by
 induction h with
 |nil=>rfl
 |cons h r c=>simp only[List.any_cons,h.1,c]
theorem Er{k:Int}{v:Value}{a:AV}{kvs:List (Int×Value)}{es:List (Int×AV)}(h:aF KR kvs es)(r:VR v a):aF KR (stored kvs k v) (d6 k a es):=by
 unfold stored d6
 rw[Dy h]
 split
 ·refine h.map λp q e=>?_
  rw[e.1]
  by_cases c:q.1=k
  ·rw[if_pos c,if_pos c];exact⟨rfl,r⟩
  ·rw[if_neg c,if_neg c];exact e
 ·exact h.append (.one ⟨rfl,r⟩)
theorem DJ{k:Int}{kvs:List (Int×Value)}{es:List (Int×AV)}(h:aF KR kvs es):aF KR (without kvs k) (Dg k es):=by
 induction h with
 |nil=>exact .nil
 |cons h r c=>
  rename_i e p g f
  unfold without Dg at c ⊢
  rw[List.filter_cons,List.filter_cons,h.1]
  by_cases d:p.1=k
  ·simp only[d,ne_eq,not_true_eq_false,decide_false,Bool.false_eq_true,if_false];exact c
  ·simp only[d,ne_eq,not_false_eq_true,decide_true,if_true];exact .cons h c
theorem nC{prog:Program}{w:World}{o:Obj}{kvs:List (Int×Value)}(h:o.IsDictOf (intKind prog w) kvs)(c:Program)(n:World):o.IsDictOf (intKind c n) kvs:=by
 obtain⟨d,p,k,f,g,i,e⟩:=h
 refine⟨d,p,k,f,g,?_,e⟩
 clear f g e
 generalize d.toList=l at i
 induction i with
 |nil=>exact .nil
 |cons a b _ j=>exact .cons a b j
theorem wI{c:Type}{P:Prop}{o:Option c}{p:Option (List c)}{ns:List c}(e:(o.bind λi=>p.map (i::·))=some ns)(f:∀i r,o=some i->p=some r->i::r=ns->P):P:=by
 cases o with
 |none=>exact oQ e
 |some i=>cases p with
  |none=>exact oQ e
  |some r=>exact f _ _ rfl rfl (Option.some.inj e)
theorem za{u:Value}{v:AV}{i:Int}(r:VR u v)(e:AL v=some i):∃t,u=.int i t:=by
 cases v<;>first|(cases e;exact r.int)|cases e
theorem js{xs:List AV}{ns:List Int}{vs:List Value}(e:cJ xs=some ns)(h:aF VR vs xs):IntsAre vs ns:=by
 induction h generalizing ns with
 |nil=>obtain rfl:=Option.some.inj e;exact .nil
 |cons r _ d=>exact wI e λi j c f k=>(za r c).elim λt g=>g▸k▸.cons i t (d f)
theorem vN{v:Value}{a:AV}(r:VR v a):(v==.none)=C4 a:=by
 cases a with
 |undef=>exact r.not_undef.elim
 |none=>rw[r.none];rfl
 |bool _=>rw[r.bool];rfl
 |int _=>obtain⟨_,rfl⟩:=r.int;rfl
 |bytes _=>obtain⟨_,rfl⟩:=r.bytes;rfl
 |ref _=>rw[r.ref];rfl
section
variable {Q:PX} {a b:AV} {U O:Value} {I:Int->Int->Prop} {J:List UInt8->List UInt8->Prop} {N:Addr->Prop}
@[elab_as_elim] theorem qt{P:Value->Value->Prop}(e:VR U a)(c:VR O b)(h:sel a False (λx=>bU b λy=>I x y) (λx=>CD b λy=>J x y) N)(f:∀x t y u,I x y->P (.int x t) (.int y u))(g:∀x t y u,J x y->P (.bytes x.toArray t) (.bytes y.toArray u))(d:∀x,N x->P (.ref x) O):P U O:=
 eD (P:=λU=>P U O) e h False.elim (λx t h=>bq c h λy u h=>f x t y u h) (λx t h=>wU c h λy u h=>g x t y u h) d
theorem oJ{o:CO}(st:Z.StaysIn h₀)(B:A.units+200<cLine)(e:VR U a)(d:VR O b)(H:HS T Z h₀ L opq m σ s.heap)(h:cmp o a b σ λc=>Q (.bool c) σ):
  wpAny (model prog w) A (compareOp (Oz o) U O) (aC T Z h₀ L opq m Q s) E s:=by
 have R:=λb (h:Q (.bool b) σ)=>aC.same0 (s:=s) H (JW b) h
 cases o with
 |eq=>exact qt e d h (λx t y u h=>eq_int (by rw[BU];exact R _ h)) (λx t y u h=>eq_bytes (by rw[BU];exact R _ h)) λ_ h=>h.elim
 |ne=>
  exact eD e h (λh=>eD d h (λh=>EqNone.ne_none_none (R _ h)) (λ_ _ h=>h.elim) (λy u h=>ow (R _ h)) λ_ h=>h.elim)
   (λx t h=>bq d h λy u h=>ne_int (by rw[bne,BU,←decide_not];exact R _ h))
   (λx t h=>eD d h (λh=>oj (R _ h)) (λ_ _ h=>h.elim) (λy u h=>ne_bytes (by rw[bne,BU,←decide_not];exact R _ h)) λ_ h=>h.elim)
   λa h=>b8 d h λb h=>H.cL st h λ_ xs i n _ g1 g _ h=>H.cL st h λ_ D j k _ g2 p _ h=>dh h λms e1 h=>dh h λns e2 h=>
    ne_intsK (aL g1) (js e1 g) (aL g2) (js e2 p) (Nat.lt_of_le_of_lt (Nat.add_le_add_left (by decide) _) B) (R _ h)
 |lt=>exact qt e d h (λx t y u h=>lt_int (R _ h)) (λx t y u h=>xk (R _ h)) λ_ h=>h.elim
 |le=>exact qt e d h (λx t y u h=>le_int (R _ h)) (λx t y u h=>zO (R _ h)) λ_ h=>h.elim
 |gt=>exact qt e d h (λx t y u h=>gt_int (R _ h)) (λx t y u h=>wR (R _ h)) λ_ h=>h.elim
 |ge=>
  exact qt e d h (λx t y u h=>ge_int (R _ h)) (λx t y u h=>yy (R _ h)) λa h=>b8 d h λb h=>H.cT st h λi n xs g1 g h=>
   jY (P:=λi=>s.heap.get? a=some (kP i n)->_) g h (λG x z y q1 q2 h g1=>eN (P:=λG z=>s.heap.get? a=some (kP [G,z] n)->_) q1 q2 h (λx t1 y t2 h g1=>H.cT st h λj k D g2 p h=>
    jY (P:=λj=>s.heap.get? b=some (kP j k)->_) p h (λq x r y W q4 h g2=>eN (P:=λq r=>s.heap.get? b=some (kP [q,r] k)->_) W q4 h (λu t3 v t4 h g2=>
     xS ⟨_,g1,rfl,_,rfl⟩ ⟨_,g2,rfl,_,rfl⟩ (Nat.lt_of_le_of_lt (Nat.le_add_right _ _) B) (R _ h)) g2) g2) g1) g1
 |is=>exact tD d h λh=>is_none (by rw[vN e];exact R _ h)
 |isnt=>exact tD d h λh=>isNot_none (by rw[vN e];exact R _ h)
 |isin=>
  exact bq e h λx t h=>b8 d h λb h=>yT h λ_ es Y h=>(H.dict st Y).elim λob f=>f.elim λl f=>
   wpAny_in_of (knd:=intKind prog w) (k:=x) (by simp[intKind,Value.isInt]) (by simpa using f.2.2.2) (show s.heap.DictOf (intKind prog w) b l from Heap.dictOf_iff.mpr ⟨ob,f.1,f.2.2.1 prog w⟩).mapOf (aC.same H (JW _) (by rw[(hJ f.2.1).isSome];exact h))
 |notin=>exact bq e h λx t h=>b8 d h λb h=>H.cL st h λ_ D i n _ g1 g _ h=>dh h λns V h=>notin_list_ints (aL g1) (js V g) (R _ h)
end
end
end
section
section
variable {prog:Program} {w:World} {K:Frag} {T:Tb} {F:Ft} {t:Ct} {U h₀:Heap} {A:Around} {E:Value->Shared->Prop} {L:Addr} {m:Str->Option Value} {opq:List (Addr×Obj)} {σ:Hp} {s:Shared}
theorem jc{k:Int}(h: -(2 ^ 63)<=k)(b:k<2 ^ 63):Builtin.List.listFitsIndex k=true:=by
 simp only[Builtin.List.listFitsIndex,Bool.and_eq_true,decide_eq_true_eq];exact⟨z1 [_,_] Ia Ia rfl h,z1 [_,_] J2 J2 rfl b⟩
theorem vB{k:Int}{n:Nat}(h:0<=k)(c:k<n):seqIndex? k n=some k.toNat:=by
 have b:¬k<0:=by exact fX h
 simp[seqIndex?,b,h,c]
theorem Df{n:Nat}{k:Int}(h:n<=line)(q:k<=n):k<2 ^ 63:=Int.lt_of_le_of_lt (Int.le_trans q (bF h)) (show((10000:Nat):Int)<2 ^ 63 by decide)
theorem FN{n:Nat}{k:Int}(h:n<=line)(q:k<n):k<2 ^ 63:=Df h (Int.le_of_lt q)
theorem Jx{k:Int}(h:0<=k): -(2 ^ 63)<=k:=Int.le_trans (by decide) h
theorem Fy{n m:Nat}(e:m=n)(h:n<=line):(m:Int)<2 ^ 63:=Df h (Int.le_of_eq (ce e))
theorem DW{n m:Nat}{k:Int}(e:m=n)(h:0<=k)(q:k<n):seqIndex? k m=some k.toNat:=vB h (e.symm▸q)
theorem Q3{n:Nat}(h:n<=line):n+1<=sizeLine:=by rw[sizeLine_eq];exact Nat.le_trans (Nat.succ_le_succ h) (Nat.le_of_ble_eq_true rfl)
theorem lz{n:Nat}(h:n<=line):n<=sizeLine:=Nat.le_of_succ_le (Q3 h)
theorem wv{n m:Nat}(e:m=n)(h:n<=line):m<=sizeLine:=e.symm▸lz h
theorem Pn{k:Int}{n:Nat}(h:0<=k)(q:k<n):k.toNat<n:=(Int.toNat_lt h).mpr q
theorem uD{b:Type}{xs:List b}{k:Int}{v:b}(h:0<=k)(e:xs[k.toNat]?=some v):k<xs.length:=by
 obtain⟨q,_⟩:=be e
 exact(Int.toNat_lt h).mp q
theorem aF.at{d c:Type}{R:d->c->Prop}{l₁:List d}{l₂:List c}{P:Prop}(h:aF R l₁ l₂){i:Nat}{b:c}(e:l₂[i]?=some b)(f:∀a,l₁[i]?=some a->R a b->P):P:=(h.get e).elim λa h=>f a h.1 h.2
theorem HS.dic{a:Addr}{P:Prop}{fz:Bool}{es:List (Int×AV)}(st:U.StaysIn h₀)(H:HS T U h₀ L opq m σ s.heap)(e:σ a=some (fz,.dict es))(f:∀kvs,(∀prog w,s.heap.DictOf (intKind prog w) a kvs)->aF KR kvs es->(a==sysModules)=false->P):P:=
 (H.dict st e).elim λb h=>h.elim λkvs h=>f kvs (λprog w=>Heap.dictOf_iff.mpr ⟨b,h.1,h.2.2.1 prog w⟩) h.2.1 (beq_eq_false_iff_ne.mpr h.2.2.2)
theorem ik{k:Int}{t:Tok}:(intKind prog w).is k (.int k t)=true:=by simp[intKind,Value.isInt]
theorem q8{Q:Bool->Hp->Prop}{a:AV}{v:Value}{R:Bool->Shared->Prop}(st:U.StaysIn h₀)(r:VR v a)(H:HS T U h₀ L opq m σ s.heap)(h:mh a σ λb=>Q b σ)
  (k:∀b tk,Q b σ->R b {s with toks:=tk}):wpAny (model prog w) A (truthy v) R E s:=by
 cases a with
 |bool b=>rw[r.bool];exact wpAny_truthy_bool (k b s.toks h)
 |ref a=>
  rw[r.ref]
  refine H.cL st (show Mine.cL (σ a) _ from h) λ_ d c n _ g1 f i h=>wpAny_truthy_list (aL g1) (Fy i h.1) (k _ _ ?_)
  rw[show c.toArray.isEmpty=d.isEmpty by cases f<;>simp];exact h.2
 |_=>exact h.elim
theorem BP{Q:PX}{a:Addr}{k:Int}{tk:Tok}{xs:List AV}{vs:List Value}{n:Nat}(H:HS T U h₀ L opq m σ s.heap)(g1:s.heap.get? a=some (jz vs n))(j:aF VR vs xs)(h:xs.length<=line/\(if 0<=k then op xs[k.toNat]? λv=>Q v σ else k= -1/\op xs.getLast? λv=>Q v σ)):
  wpAny (model prog w) A (getItem (.ref a) (.int k tk)) (aC T U h₀ L opq m Q s) E s:=by
 have c:=h.2
 by_cases d:0<=k
 ·rw[if_pos d]at c
  exact dh c λv b q=>j.at b λu f i=>wpAny_getItem_list (aL g1) d (FN h.1 (uD d b)) (by rw[List.getElem?_toArray];exact f) (aC.same0 H i q)
 ·rw[if_neg d]at c
  have l:=j.length
  refine dh c.2 λv b q=>j.at (List.getLast?_eq_getElem?.symm.trans b) λu f i=>?_
  have p:=(be (List.getLast?_eq_getElem?.symm.trans b)).1
  obtain rfl:=c.1
  have r:((-1+(vs.toArray.size:Int)).toNat)=xs.length-1:=te (by rw[List.size_toArray,l,Int.ofNat_sub (Nat.zero_lt_of_lt p)];exact Int.add_comm _ _)
  exact wpAny_getItem_list_neg (aL g1) (by decide) (by rw[List.size_toArray,l];exact Int.neg_le_neg (bF (Nat.zero_lt_of_lt p))) (by decide) (by rw[List.getElem?_toArray,r];exact f) (aC.same0 H i q)
theorem nk{Q:PX}{a i:AV}{l r:Value}(st:U.StaysIn h₀)(I:VR l a)(x:VR r i)(H:HS T U h₀ L opq m σ s.heap)(h:oA a i σ Q):
  wpAny (model prog w) A (getItem l r) (aC T U h₀ L opq m Q s) E s:=by
 refine eD I h False.elim (λ_ _ h=>h.elim) (λb t h=>bq x h λk tk h=>dh h.2.2 λv d q=>PySem.W.getItem_bytes (Nat.le_trans h.1 (by decide)) h.2.1 (uD h.2.1 d) ?_) λa h=>bq x h λk tk h=>
  jO h (λ_ N ex h=>(H.list st ex).elim λp c=>c.elim λn c=>BP H c.1 c.2 h)
   (λ_ N ex h=>(H.tup st ex).elim λp c=>c.elim λn c=>dh h.2.2 λv d q=>c.2.at d λu B G=>
    have y:=uD h.2.1 d
    PyProof.Rows.getItem_tuple (items:=p.toArray) ⟨_,c.1,rfl,_,rfl⟩ (Jx h.2.1) (FN h.1 y) (DW c.2.length h.2.1 y) (by rw[List.getElem?_toArray];exact B) (aC.same0 H G q))
   λ_ V ex h=>dh h.2 λv d q=>H.dic st ex λj z g2 _=>?_
 ·rw[List.getD_eq_getElem?_getD,d]
  exact aC.same H (oz _ _) q
 ·have f:=hJ (k:=k) g2
  rw[d]at f
  cases e:valueAt j k with
  |none=>rw[e]at f;exact f.elim
  |some u=>rw[e]at f;exact wpAny_getItem_of ik (z prog w).mapOf e (aC.same H f q)
theorem qC{a:Addr}{o:Obj}{Z:List (Addr×Obj)}(b:(Z.map (·.1)).Nodup)(h:(a,o)∈Z):UpdF a o Z (λob=>qh a ob Z):=by
 induction Z with
 |nil=>cases h
 |cons p r k=>
  rw[List.map_cons,List.nodup_cons]at b
  by_cases e:p.1=a
  ·rcases au h with c|d
   ·subst c
    have:(λob=>qh a ob ((a,o)::r))=λi=>(a,i)::r:=funext λob=>jF rfl
    rw[this]
    exact .head λq j l=>b.1 (by rw[←l];exact List.mem_map_of_mem (f:=(·.1)) j)
   ·exact absurd (List.mem_map_of_mem (f:=(·.1)) d) (by rw[←e];exact b.1)
  ·have:(λob=>qh a ob (p::r))=λi=>p::qh a i r:=funext λob=>gW e
   rw[this]
   rcases au h with c|d
   ·exact absurd (by rw[←c]) e
   ·exact .tail e (k b.2 d)
theorem HR.mem{Z:List (Addr×Obj)}{D:Addr->Addr}{a:Addr}{o:AO}(R:HR T σ U Z D opq)(e:σ a=some (false,o)):OR T D (λx ob=>(x,ob)∈Z) a o:=
 (R.ob _ _ _ e).mono (λ_ _ _=>rfl) λ_ _ h=>h.elim id λh=>by cases h.1
theorem uW:∀{l:List Value} {k:Nat} {v:Value},k<l.length->ki_setL l k v=some (l.set k v)
 |[],_,_,h=>absurd h (Nat.not_lt_zero _)
 |_::_,0,_,_=>rfl
 |x::r,k+1,v,h=>by
  unfold ki_setL
  rw[uW (by simpa using h)]
  rfl
theorem tR:∀{l:List Value} {k:Nat},k<l.length->ki_delL l k=some (l.eraseIdx k)
 |[],_,h=>absurd h (Nat.not_lt_zero _)
 |_::_,0,_=>rfl
 |x::r,k+1,h=>by
  unfold ki_delL
  rw[tR (by simpa using h)]
  rfl
theorem aF.eraseIdx{b c:Type}{R:b->c->Prop}{l₁:List b}{l₂:List c}(h:aF R l₁ l₂):∀n,aF R (l₁.eraseIdx n) (l₂.eraseIdx n):=by
 induction h with
 |nil=>intro n;simp;exact .nil
 |cons h t d=>intro n;cases n with
  |zero=>exact t
  |succ n=>exact .cons h (d n)
section
variable {Q:Hp->Prop} {g h':Heap} {a:Addr} {o:AO} {Z:List (Addr×Obj)} {D:Addr->Addr} {tk:Nat} (O:cE U h₀ g) (R:HR T σ U Z D opq) (J:Fr g L h' m) (e:σ a=some (false,o)) (hi:∀c fs,o≠.inst c fs)
include O R J e hi
theorem HS.wrL{vs:List Value}{n:Nat}{xs:List AV}(b:News g L h' (qh a (jz vs n) Z))(r:aF VR vs xs)(q:Q (upd σ a (false,.list xs))):kC T U h₀ L opq m Q s {s with heap:=h',toks:=tk}:=
 ⟨_,h',tk,rfl,⟨g,O,_,D,J,b,R.write (o':=.list xs) e hi (λP c=>⟨_,n,c,r⟩) pK⟩,q⟩
theorem HS.wrD{ob:Obj}{kvs:List (Int×Value)}{es:List (Int×AV)}(b:News g L h' (qh a ob Z))(r:aF KR kvs es)(hd:ob.IsDictOf (intKind prog w) kvs)(hs:a≠sysModules)(q:Q (upd σ a (false,.dict es))):kC T U h₀ L opq m Q s {s with heap:=h',toks:=tk}:=
 ⟨_,h',tk,rfl,⟨g,O,_,D,J,b,R.write (o':=.dict es) e hi (λP c=>⟨_,_,c,r,λp w=>nC hd p w,hs⟩) BK⟩,q⟩
end
theorem iM{Q:Hp->Prop}{a i v:AV}{j p f:Value}(r:VR j a)(x:VR p i)(d:VR f v)(H:HS T U h₀ L opq m σ s.heap)(h:setItem a i v σ Q):
  wpAny (model prog w) A (PySem.setItem j p f) (λ_ s'=>kC T U h₀ L opq m Q s s') E s:=
 b8 r h λa h=>bq x h λk tk h=>H.casesOn λg O Z D l N R=>pI h
  (λG ex h=>(R.mem ex).elim λq b=>b.elim λn b=>
   ki_set (its:=q.toArray) (n:=n) l N h.2.1 (FN h.1 h.2.2.1) (uW (b.2.length.symm▸Pn h.2.1 h.2.2.1)) (eY R.nd b.1) λh' J c=>HS.wrL O R J ex pK c (b.2.set d _) h.2.2.2)
  (λy ex h=>(R.mem ex).elim λz b=>b.elim λu b=>
   kda_set (knd:=intKind prog w) (k:=k) l N (qC R.nd b.1) (b.2.2.1 prog w) ik (wv b.2.1.length h.1) λh' B J c hd=>HS.wrD O R J ex BK c (Er b.2.1 d) hd b.2.2.2 h.2)
  λ_ _ _ h=>h.elim
theorem oi{Q:Hp->Prop}{a i:AV}{f l:Value}(q:VR f a)(u:VR l i)(H:HS T U h₀ L opq m σ s.heap)(h:delItem a i σ Q):
  wpAny (model prog w) A (PySem.delItem f l) (λ_ s'=>kC T U h₀ L opq m Q s s') E s:=
 b8 q h λa h=>bq u h λk tk h=>H.casesOn λg O Z D j N R=>pI h
  (λz ex h=>(R.mem ex).elim λp b=>b.elim λn b=>
   have d:=b.2.length
   ki_del (its:=p.toArray) (n:=n) j N (jc (Jx h.2.1) (FN h.1 h.2.2.1)) (DW d h.2.1 h.2.2.1) (tR (d.symm▸Pn h.2.1 h.2.2.1)) (eY R.nd b.1) (wv d h.1) λh' J c=>HS.wrL O R J ex pK c (b.2.eraseIdx _) h.2.2.2)
  (λv ex h=>(R.mem ex).elim λx b=>b.elim λr b=>
   kob_del (knd:=intKind prog w) (k:=k) j N (qC R.nd b.1) (b.2.2.1 prog w) ik ((hJ b.2.1).isSome.trans h.2.1) (wv b.2.1.length h.1) λh' y J c hd=>HS.wrD O R J ex BK c (DJ b.2.1) hd b.2.2.2 h.2.2)
  λ_ _ _ h=>h.elim
theorem vc(d:∀i j,i<T.nf->j<T.nf->T.an i=T.an j->i=j){f:Nat}(l:f<T.nf){b:List DictEntry}{fs:List (Nat×AV)}(h:aF (FR T) b fs):
  match vM fs f with
  |some a=>∃v,getL (T.an f) b=some (some v)/\VR v a
  |none=>getL (T.an f) b=some none:=by
 induction h with
 |nil=>rfl
 |cons h r k=>
  rename_i e p B z
  obtain⟨q,⟨tk,n⟩,u⟩:=h
  unfold vM getL at k ⊢
  simp only[List.find?_cons,List.any_cons,n,Value.isStr,DictEntry.refKey,Bool.false_or]
  by_cases c:p.1=f
  ·simp only[c,beq_self_eq_true,Option.map_some]
   exact⟨_,rfl,u⟩
  ·have x:(T.an p.1==T.an f)=false:=by
    simp only[beq_eq_false_iff_ne,ne_eq];exact λe=>c (d _ _ q l e)
   have y:(p.1==f)=false:=by simpa using c
   simp only[x,y]
   exact k
theorem B6(d:∀i j,i<T.nf->j<T.nf->T.an i=T.an j->i=j){f:Nat}(k:f<T.nf){hs:Int}{tk:Tok}{v:Value}{a:AV}(r:VR v a){b:List DictEntry}{fs:List (Nat×AV)}(h:aF (FR T) b fs):
  aF (FR T) (putL (T.an f) hs (.str (T.an f) tk) v b) (gF f a fs):=by
 induction h with
 |nil=>exact .cons ⟨k,⟨_,rfl⟩,r⟩ .nil
 |cons h y q=>
  rename_i e p G B
  obtain⟨n,⟨tk,l⟩,u⟩:=h
  unfold putL gF
  by_cases c:p.1=f
  ·simp only[l,Value.isStr,c,beq_self_eq_true,if_true]
   exact .cons ⟨k,⟨_,rfl⟩,r⟩ y
  ·have x:(T.an p.1==T.an f)=false:=by
    simp only[beq_eq_false_iff_ne,ne_eq];exact λe=>c (d _ _ n k e)
   have z:(p.1==f)=false:=by simpa using c
   simp only[l,Value.isStr,x,z,Bool.false_eq_true,if_false]
   exact .cons ⟨n,⟨_,l⟩,u⟩ q
theorem rX{x:Str}{hs:Int}{k v:Value}:∀es:List DictEntry,(putL x hs k v es).length<=es.length+1
 |[]=>Nat.le_refl _
 |e::r=>by
  unfold putL
  split
  ·simp
  ·simpa using rX r
theorem VR.handed{v:Value}{a:AV}(h:VR v a):handedIn v=true:=by
 cases v<;>first|rfl|(cases a<;>exact h.elim)
theorem HS.inst{a:Addr}{fz:Bool}{c:Nat}{fs:List (Nat×AV)}(st:U.StaysIn h₀)(H:HS T U h₀ L opq m σ s.heap)(e:σ a=some (fz,.inst c fs)):
  ∃d b n,InstAt s.heap a (instObj (T.ca c) d) (T.ca c) (some (dictOf b n))/\aF (FR T) b fs:=by
 obtain⟨D,b,n,h,f,i⟩:=H.get st e
 exact⟨_,b,n,⟨h,rfl,rfl,f⟩,i⟩
theorem mR{Q:PX}{a:AV}{f:Nat}{j:Value}{x:Str}{expr:Bool}(ok:Cr K T F t)(X:K.In U)(st:U.StaysIn h₀)(r:t.ai.lookup x=some f)(y:VR j a)(H:HS T U h₀ L opq m σ s.heap)(h:yI F.fo a f σ Q):
  wpAny (model prog w) A (getAttr j x expr) (aC T U h₀ L opq m Q s) E s:=by
 obtain rfl:=ok.atn _ _ r
 refine b8 y h λa h=>CR h λ_ c B ex h=>dh h.2 λv p q=>(H.inst st ex).elim λd b=>b.elim λk b=>b.elim λn b=>?_
 have i:=ok.fld _ _ h.1
 have l:=vc ok.inj i.1 b.2
 rw[p]at l
 exact l.elim λu e=>H.casesOn λg O _ _ z _ _=>get_own z (X.keeps O.base) b.1 i.2.1.pg i.2.1.hd i.2.2 rfl e.1 e.2.handed (aC.same H e.2 q)
theorem vo(d:∀i j,i<T.nf->j<T.nf->T.an i=T.an j->i=j){f:Nat}(l:f<T.nf){b:List DictEntry}{fs:List (Nat×AV)}(h:aF (FR T) b fs):(getL (T.an f) b).isSome=true:=by
 have c:=vc d l h
 cases e:vM fs f with
 |none=>rw[e]at c;rw[c];rfl
 |some v=>rw[e]at c;exact c.elim λu k=>by rw[k.1];rfl
theorem iP{Q:Hp->Prop}{a v:AV}{f:Nat}{p l:Value}{x:Str}(ok:Cr K T F t)(X:K.In U)(u:t.ai.lookup x=some f)(y:VR p a)(q:VR l v)(H:HS T U h₀ L opq m σ s.heap)(h:setAttr F.fo a f v σ Q):
  wpAny (model prog w) A (PySem.setAttr p x l) (λ_ s'=>kC T U h₀ L opq m Q s s') E s:=by
 obtain rfl:=ok.atn _ _ u
 refine b8 y h λa h=>H.casesOn λg O Z D z N R=>pI h (λ_ _ h=>h.elim) (λ_ _ h=>h.elim) λc B ex h=>(R.mem ex).elim λb d=>d.elim λn d=>?_
 have i:=ok.fld _ _ h.1
 have j:=d.2.2
 refine PySem.W.set_dict z (X.keeps O.base) N (show InstAt s.heap a (instObj (T.ca c) (D a)) (T.ca c) (some (dictOf b n))from⟨(N _ d.1).1,rfl,rfl,(N _ d.2.1).1⟩) rfl i.2.1.sa i.2.1.po (by unfold takerIn;rw[i.2.2];rfl) i.2.1.hd (vo ok.inj i.1 j) rfl (eY R.nd d.2.1)
  (Nat.le_trans (rX (x:=T.an f) (hs:=PyData.keyHash w.params (T.an f)) (k:=.str (T.an f) (s.toks+1)) (v:=l) b) (by rw[j.length];exact Nat.le_trans (Nat.succ_le_succ h.2.1) (by decide))) λh' J r=>?_
 exact⟨_,h',s.toks+2,rfl,⟨g,O,_,D,J,r,R.writeI (fz:=false) ex (B6 ok.inj i.1 q j)⟩,h.2.2⟩
end
end
section
theorem ot:typeLookup (.type "bytes") "__bytes__"=pure (some (.builtin "bytes.__bytes__")):=by rw[typeLookup_type,builtinLookup_eq_fast];kernel_rfl
section
variable {prog:Program} {w:World} {A:Around} {E:Value->Shared->Prop} {s:Shared}
theorem vw{b:Array UInt8}{t:Tok}{Q:Value->Shared->Prop}(c:Q (.bytes b t) s):
  codeAny (model prog w) A (.call (.builtin "bytes.__new__") ⟨[.type "bytes",.bytes b t],[]⟩) (wants Q E) s:=by
 refine codeAny_of_tree ?_
 show wpAny _ A.in1 (do checkBuiltinCall "bytes.__new__" ⟨[.type "bytes",.bytes b t],[]⟩;again (.builtin "bytes.__new__" ⟨[.type "bytes",.bytes b t],[]⟩)) _ _ s
 refine wpAny_bind (wpAny_of_eq (F.bm_newCall _) (wpAny_pure ⟨plainId_quiet F.bm_plain _,codeAny_builtin F.bm_entry ?_⟩))
 rw[Around.under_plainId F.bm_plain _]
 unfold Builtin.«bytes.__new__»
 refine wpAny_bind (wpAny_of_eq (a:=true) rfl ?_)
 refine bm_if_false rfl ?_
 refine wpAny_bind (wpAny_of_eq F.bm_sub ?_)
 refine bm_if_false rfl ?_
 refine wpAny_bind (wpAny_of_eq (F.bm_bind _) ?_)
 refine wpAny_bind (wpAny_of_eq (a:=()) rfl ?_)
 refine wpAny_bind (wpAny_of_eq (a:=()) rfl ?_)
 refine bm_if_false rfl ?_
 refine wpAny_bind (wpAny_specialOf (PySem.W.typeIs_bytes s b t) ot ?_)
 refine wpAny_bind (wpAny_rule ?_)
 refine wpAny_bind (wpAny_typeOf (PySem.W.typeIs_bytes s b t) ?_)
 refine bm_if_true rfl ?_
 exact wpAny_pure c
theorem qO{b:Array UInt8}{t:Tok}{Q:Value->Shared->Prop}(d:Q (.bytes b t) s):wpAny (model prog w) A (call (.type "bytes") [.bytes b t]) Q E s:=by
 refine callType_codes (Q₁:=λobj a=>a.TypeIs obj "bytes"/\Q obj a) F.bm_called (F.bm_typeCall _) F.entry_object_init
  (vw ⟨PySem.W.typeIs_bytes _ _ _,d⟩) λobj a c=>?_
 exact⟨c.1,F.args_object_init_2 obj _,object_init_meets F.bm_called.init.lookup F.bm_called.made (by decide) prog w A.in1 _ a ⟨c.1,rfl,c.2⟩⟩
end
section
variable {prog:Program} {w:World} {K:Frag} {T:Tb} {F:Ft} {t:Ct} {Z h₀:Heap} {A:Around} {E:Value->Shared->Prop} {L:Addr} {m:Str->Option Value} {opq:List (Addr×Obj)} {σ:Hp} {s:Shared}
theorem uE{vs:List Value}{ns:List Int}(h:IntsAre vs ns):aF VR vs (ns.map .int):=by
 induction h with
 |nil=>exact .nil
 |cons n t _ a=>exact .cons (oz n t) a
theorem GX{v:AV}{b:UInt8}(e:u8 v=some b):∃i,AL v=some i/\(0<=i/\i<256)/\i.toNat.toUInt8=b:=by
 unfold u8 at e
 cases h:AL v with
 |none=>rw[h]at e;cases e
 |some i=>
  rw[h]at e
  by_cases a:0<=i/\i<256
  ·rw[Option.bind_some,if_pos a]at e;exact⟨i,rfl,a,Option.some.inj e⟩
  ·rw[Option.bind_some,if_neg a]at e;cases e
theorem Dc{xs:List AV}{b:List UInt8}{vs:List Value}(e:EM xs=some b)(h:aF VR vs xs):∃ns,IntsAre vs ns/\(∀n∈ns,0<=n/\n<256)/\(ns.map λn=>n.toNat.toUInt8)=b:=by
 induction h generalizing b with
 |nil=>obtain rfl:=Option.some.inj e;exact⟨[],.nil,(λ_ h=>nM h),rfl⟩
 |cons r _ d=>exact wI e λi j g a f=>(GX g).elim λi h=>(d a).elim λns q=>(za r h.1).elim λt c=>⟨i::ns,c▸.cons i t q.1,List.forall_mem_cons.mpr ⟨h.2.1,q.2.1⟩,by rw[List.map_cons,h.2.2,q.2.2,f]⟩
noncomputable def KV:BF->Value
 |.len=>.builtin "len"
 |.sorted=>.builtin "sorted"
 |.min1=>.builtin "min"
 |.min2=>.builtin "min"
 |.bytes=>.type "bytes"
 |.list=>.type "list"
theorem oT{Q:PX}{as:List AV}{vs:List Value}(st:Z.StaysIn h₀)(d:aF VR vs as)(H:HS T Z h₀ L opq m σ s.heap)(h:eI .len as σ Q):
  wpAny (model prog w) A (call (.builtin "len") vs) (aC T Z h₀ L opq m Q s) E s:=
 fZ d h λv a r h=>eD r h False.elim (λ_ _ h=>h.elim) (λb t h=>PySem.W.len_bytes (Nat.le_trans h.1 (by decide)) (aC.same (a:=.int b.length) H rfl h.2))
  λa h=>H.cL st h λ_ e f n _ g1 g c h=>call_len_list (aL g1) (Fy c h.1) (aC.same (a:=.int e.length) H (congrArg Int.ofNat c) h.2)
theorem rh{Q:PX}{b:BF}{as:List AV}{vs:List Value}(G:∀(Q:PX) (r:Addr) (fz:Bool) (xs:List AV) (rs:List (Int×Int×Int)),σ r=some (fz,.list xs)->xs.length<=60->dI σ xs=some rs->rs.Nodup->
   (∀c (ys:List AV) (ts:List (Int×Int×Int)),σ c=none->ys.Perm xs->dI σ ys=some ts->ts.Perm rs->ts.Pairwise (λa b=>ju a b=true)->Q (.ref c) (upd σ c (false,.list ys)))->
   wpAny (model prog w) A (call (.builtin "sorted") [.ref r]) (aC T Z h₀ L opq m Q s) E s)
  (J:∀(Q:PX) (r:Addr) (fz:Bool) (es:List (Int×AV)),σ r=some (fz,.dict es)->es.length<=60->
   (∀c (p:List Int),σ c=none->p.Perm (es.map (·.1))->p.Pairwise (·<=·)->Q (.ref c) (upd σ c (false,.list (p.map .int))))->
   wpAny (model prog w) A (call (.builtin "sorted") [.ref r]) (aC T Z h₀ L opq m Q s) E s)
  (st:Z.StaysIn h₀) (W:A.handled=none) (O:aF VR vs as) (H:HS T Z h₀ L opq m σ s.heap) (h:eI b as σ Q):
  wpAny (model prog w) A (call (KV b) vs) (aC T Z h₀ L opq m Q s) E s:=by
 cases b with
 |len=>exact oT st O H h
 |sorted=>
  exact fZ O h λv a r h=>b8 r h λr h=>jO h (λz xs ex h=>CY h.2
   (λns U q=>(H.list st ex).elim λY i=>i.elim λn i=>H.casesOn λg j e D l N R=>
    have hi:=js U i.2
    kso_sorted l N (aL i.1) hi (Nat.lt_succ_of_le (Nat.le_trans (by rw[←hi.length,i.2.length];exact h.1) (Nat.le_add_right 60 3))) λd δ p c B o f V β _ hp hs _=>HS.newL (n:=c) j R o f V rfl (uE β) λc hc=>q c _ hc hp hs)
   λq=>dh q λrs er q=>G Q r z xs rs ex h.1 er q.1 q.2) (λ_ _ _ h=>h.elim) λz es ex h=>J Q r z es ex h.1 h.2
 |min1=>
  exact fZ O h λv a r h=>b8 r h λr h=>H.cL st h λz xs Y n ex g1 I _ h=>dh h.2 λns U q=>H.casesOn λg j e D l N R=>
   kso_min l N (aL g1) (js U I) q.1 W λB M t tk o f hm γ=>⟨.int M,σ,B,tk,rfl,oz M t,⟨g,j,e,D,o,f,R⟩,q.2 _ hm γ⟩
 |min2=>
  exact jY O h λv a u b I r2 h=>eN I r2 h λx t y w h=>H.casesOn λg j e D l N R=>min_two_N W l N λB tk o f=>⟨.int _,σ,B,tk,rfl,oz _ _,⟨g,j,e,D,o,f,R⟩,h⟩
 |bytes=>
  exact fZ O h λv a r h=>eD r h False.elim (λ_ _ h=>h.elim) (λb t h=>qO (aC.same0 H (KC _ _) h.2))
   λr h=>H.cL st h λz xs Y n ex g1 I e1 h=>dh h.2 λbs eb q=>(Dc eb I).elim λns i=>H.casesOn λg j e D l N R=>
    bytes_K l N (aL g1) i.1 i.2.1 (wv e1 (Nat.le_trans h.1 (by decide))) W λB t k o f _=>⟨.bytes bs,σ,B,k,rfl,by rw[i.2.2];exact KC _ _,⟨g,j,e,D,o,f,R⟩,q⟩
 |list=>
  exact fZ O h λv a r h=>b8 r h λr h=>H.cL st h λz xs Y n ex g1 I e1 h=>H.casesOn λg j e D l N R=>
   list_copyK l N (aL g1) (λd c B o f V=>HS.newL (n:=c) j R o f V rfl I h.2) (wv e1 h.1)
noncomputable def MP:BM->Value
 |.append=>.builtin "list.append"
 |.insert=>.builtin "list.insert"
 |.pop=>.builtin "list.pop"
 |.get=>.builtin "dict.get"
theorem xh:∀{l:List Value} {k:Nat} {y:Value},l[k]?=some y->kl_cut l k=some (l.take k,y,l.drop (k+1))
 |[],_,_,h=>by simp at h
 |x::r,0,y,h=>by simp at h;subst h;rfl
 |x::r,k+1,y,h=>by
  unfold kl_cut
  rw[xh (by simpa using h)]
  rfl
theorem EC{Q:PX}{v:Value}{a:AV}{s':Shared}(r:VR v a)(p:kC T Z h₀ L opq m (Q a) s s'):aC T Z h₀ L opq m Q s v s':=p.casesOn λb d c e H q=>⟨a,b,d,c,e,r,H,q⟩
theorem DF{xs:List AV}{a:List Value}{n:Int}{u:Value}{v:AV}(r:aF VR a xs)(b:VR u v)(h:0<=n)(d:n<=xs.length):aF VR (kl_ins a n u) (xs.take n.toNat++v::xs.drop n.toNat):=by
 have c:=r.length
 have e:min n.toNat a.length=n.toNat:=by exact Nat.min_eq_left (Int.toNat_le.mpr (by rw[c];exact d))
 unfold kl_ins
 rw[if_neg (fX h)]
 simp only[e]
 exact(r.take _).append (.cons b (r.drop _))
theorem Eh{kvs:List (Int×Value)}{es:List (Int×AV)}{n:Int}{u:Value}{d:AV}(g:aF KR kvs es)(r:VR u d):VR ((valueAt kvs n).getD u) ((bE es n).getD d):=by
 have a:=hJ (k:=n) g
 cases c:valueAt kvs n with
 |none=>cases b:bE es n with
  |none=>exact r
  |some y=>rw[c,b]at a;exact a.elim
 |some x=>cases b:bE es n with
  |none=>rw[c,b]at a;exact a.elim
  |some y=>rw[c,b]at a;exact a
theorem qp{Q:PX}{b:BM}{a:Addr}{as:List AV}{vs:List Value}(st:Z.StaysIn h₀)(r:aF VR vs as)(H:HS T Z h₀ L opq m σ s.heap)(h:jj b (.ref a) as σ Q):
  wpAny (model prog w) A (call (MP b) (.ref a::vs)) (aC T Z h₀ L opq m Q s) E s:=by
 cases b with
 |append=>
  exact fZ r h λv x l h=>Ae h λI ex h=>H.casesOn λg j d D o N R=>(R.mem ex).elim λe c=>c.elim λn c=>
   append_K (its:=e.toArray) (n:=n) o N (eY R.nd c.1) (λB p f=>EC (a:=.none) trivial (HS.wrL (vs:=e++[v]) j R p ex pK (by simpa using f) (c.2.append (.one l)) h.2)) (wv c.2.length h.1)
 |insert=>
  exact jY r h λv x u y i l h=>bq i h λn t h=>Ae h λI ex h=>H.casesOn λg j d D o N R=>(R.mem ex).elim λe c=>c.elim λk c=>
   kl_insert (its:=e.toArray) (n:=k) o N (jc (Jx h.2.1) (Df h.1 h.2.2.1)) rfl (eY R.nd c.1) (wv c.2.length h.1) λB p f=>EC (a:=.none) trivial (HS.wrL j R p ex pK f (DF c.2 l h.2.1 h.2.2.1) h.2.2.2)
 |pop=>
  exact fZ r h λv x i h=>bq i h λn t h=>Ae h λI ex h=>dh h.2.2 λv z q=>H.casesOn λg j d D o N R=>(R.mem ex).elim λe c=>c.elim λk c=>c.2.at z λu V W=>
   have J:=uD h.2.1 z
   kl_popAt (its:=e.toArray) (n:=k) (k:=n.toNat) o N (jc (Jx h.2.1) (FN h.1 J)) (DW c.2.length h.2.1 J) (xh V) (eY R.nd c.1) (wv c.2.length h.1) λB p f=>EC W (HS.wrL j R p ex pK f ((c.2.take _).append (c.2.drop _)) q)
 |get=>
  exact jY r h λv x u y i l h=>bq i h λn t h=>yT h λ_ U ex h=>H.dic st ex λY G g2 O=>
   call_meetsIn PySem.F.slot_dict_get (G prog w).typeIs PySem.F.entry_dict_get (PySem.F.args_dict_get_3 _ _ _) (meets_dict_get_default (intKind prog w) a (k:=n) ik O _) ⟨_,(G prog w).mapOf,aC.same (a:=(bE U n).getD y) H (Eh g2 l) h.2⟩
end
end
section
section
variable {N:Nat} {Z:Nat->Int} {cmp:Nat->Nat->(Bool->Shared->Prop)->Shared->Prop} {s:Shared}
noncomputable def PK(Z:Nat->Int)(p:Array Nat)(k:Nat):Int:=Z (p.getD k 0)
structure Pm(N:Nat)(p:Array Nat):Prop where
 sz:p.size=N
 pm:p.toList.Perm (List.range N)
theorem Pm.lt{p:Array Nat}(h:Pm N p){k:Nat}(d:k<N):p.getD k 0<N:=by
 have b:k<p.size:=by rw[h.sz];exact d
 have a:p.getD k 0=p[k]:=by simp[Array.getD,b]
 have c:p[k]∈p.toList:=by simp
 have:=h.pm.mem_iff.mp c
 rw[a];simpa using this
theorem Pm.inj{p:Array Nat}(h:Pm N p){i j:Nat}(hi:i<N)(d:j<N)(e:p.getD i 0=p.getD j 0):i=j:=by
 have b:i<p.size:=by rw[h.sz];exact hi
 have a:j<p.size:=by rw[h.sz];exact d
 have f:p.toList.Nodup:=h.pm.nodup_iff.mpr List.nodup_range
 have c:p.toList[i]'(by simpa using b)=p.toList[j]'(by simpa using a):=by
  simpa[Array.getD,b,a]using e
 exact(List.getElem_inj f).mp c
structure AU(N:Nat)(Z:Nat->Int)(cmp:Nat->Nat->(Bool->Shared->Prop)->Shared->Prop)(s:Shared):Prop where
 ask:∀i j (C:Bool->Shared->Prop),i<N->j<N->C (decide (Z i<Z j)) s->cmp i j C s
 inj:∀i j,i<N->j<N->Z i=Z j->i=j
theorem mu(C:AU N Z cmp s){a:Type}{i j:Nat}{k:Bool->KasT a}{Q:a->Shared->Prop}(hi:i<N)(d:j<N)(c:Z i<Z j->(k true).kasWp cmp Q s)(b:¬Z i<Z j->(k false).kasWp cmp Q s):
  (KasT.ask i j k).kasWp cmp Q s:=by
 show cmp i j _ s
 refine C.ask _ _ _ hi d ?_
 by_cases h:Z i<Z j
 ·rw[decide_eq_true h];exact c h
 ·rw[decide_eq_false h];exact b h
theorem m6{c:Type}{a b:KasT c}{Q:c->Shared->Prop}(h:a.kasWp cmp Q s):KasT.kasWp cmp (if true=true then a else b) Q s:=h
theorem wZ{c:Type}{a b:KasT c}{Q:c->Shared->Prop}(h:b.kasWp cmp Q s):KasT.kasWp cmp (if false=true then a else b) Q s:=h
def Up(Z:Nat->Int)(p:Array Nat)(k:Nat):Prop:=∀i j,i<j->j<k->PK Z p i<PK Z p j
theorem Pm.ne(C:AU N Z cmp s){p:Array Nat}(h:Pm N p){i j:Nat}(hi:i<N)(b:j<N)(a:i≠j):PK Z p i≠PK Z p j:=λe=>
 a (h.inj hi b (C.inj _ _ (h.lt hi) (h.lt b) e))
theorem Up.step{p:Array Nat}{k:Nat}(h:Up Z p k)(d:1<=k)(b:PK Z p (k-1)<PK Z p k):Up Z p (k+1):=λi j a f=>by
 by_cases e:j=k
 ·subst e
  by_cases c:i=j-1
  ·rw[c];exact b
  ·exact Int.lt_trans (h i (j-1) (by exact lp a c) (by exact n1 [_,_] J2 HJ rfl (Nat.sub_add_cancel (n:=j) (m:=1) (n1 [_] (.le (.n 1) (.v 0)) (.le (.n 1) (.v 0)) rfl d)))) b
 ·exact h i j a (by exact ln f e)
theorem sV(C:AU N Z cmp s){p:Array Nat}(g:Pm N p){Q:Nat->Shared->Prop}:∀(f n:Nat),1<=n->n+f=N->Up Z p n->
  (∀m,n<=m->m<=N->Up Z p m->(m<N->PK Z p m<PK Z p (m-1))->Q m s)->(kas_asc p f n).kasWp cmp Q s
 |0,n,q,e,k,h=>h n (Nat.le_refl _) (by exact n1 [_,_] J0 J1 rfl e) k (λh=>by exact(Nat.lt_irrefl n (Nat.lt_of_lt_of_eq h e.symm)).elim)
 |f+1,n,q,e,k,h=>by
  refine mu C (g.lt (by exact n1 [_,_,_] J2 J5 rfl e)) (g.lt (by exact n2 [_,_,_,_] J2 J3 J4 rfl e (Nat.sub_le (n) (1)))) (λl=>m6 ?_) λl=>wZ ?_
  ·exact h n (Nat.le_refl _) (by exact n1 [_,_,_] J0 J5 rfl e) k λ_=>l
  ·have r:=Pm.ne C g (i:=n) (j:=n-1) (by exact n1 [_,_,_] J2 J5 rfl e) (by exact n2 [_,_,_,_] J2 J3 J4 rfl e (Nat.sub_le (n) (1))) (by exact Nat.ne_of_gt (Nat.sub_lt q Nat.one_pos))
   have o:¬PK Z p n<PK Z p (n-1):=l
   exact sV C g f (n+1) (by exact Nat.le_add_left 1 n) (by exact Nat.le_antisymm (n1 [_,_,_] J6 J7 rfl e) (m1 [_,_,_] J8 0 (-1) J9 rfl e)) (k.step q (by exact iN r o)) λm a b c d=>h m (by exact Nat.le_of_lt a) b c d
def Dn(Z:Nat->Int)(p:Array Nat)(k:Nat):Prop:=∀i j,i<j->j<k->PK Z p j<PK Z p i
theorem Dn.step{p:Array Nat}{k:Nat}(h:Dn Z p k)(d:1<=k)(b:PK Z p k<PK Z p (k-1)):Dn Z p (k+1):=λi j a f=>by
 by_cases e:j=k
 ·subst e
  by_cases c:i=j-1
  ·rw[c];exact b
  ·exact Int.lt_trans b (h i (j-1) (by exact lp a c) (by exact n1 [_,_] J2 HJ rfl (Nat.sub_add_cancel (n:=j) (m:=1) (n1 [_] (.le (.n 1) (.v 0)) (.le (.n 1) (.v 0)) rfl d))))
 ·exact h i j a (by exact ln f e)
theorem uq(C:AU N Z cmp s){p:Array Nat}(e:Pm N p){Q:Array Nat×Nat×Nat->Shared->Prop}:∀(f n:Nat),1<=n->n+f=N->Dn Z p n->
  (∀m,n<=m->m<=N->Dn Z p m->Q (p,m,0) s)->(kas_desc f p n 0).kasWp cmp Q s
 |0,n,o,d,g,h=>h n (Nat.le_refl _) (by exact n1 [_,_] J0 J1 rfl d) g
 |f+1,n,o,d,g,h=>by
  refine mu C (e.lt (by exact n1 [_,_,_] J2 J5 rfl d)) (e.lt (by exact n2 [_,_,_,_] J2 J3 J4 rfl d (Nat.sub_le (n) (1)))) (λk=>m6 ?_) λk=>wZ ?_
  ·rw[if_neg (Nat.lt_irrefl 0)]
   exact uq C e f (n+1) (by exact Nat.le_add_left 1 n) (by exact Nat.le_antisymm (n1 [_,_,_] J6 J7 rfl d) (m1 [_,_,_] J8 0 (-1) J9 rfl d)) (g.step o k) λm a b c=>h m (by exact Nat.le_of_lt a) b c
  ·have q:=Pm.ne C e (i:=n) (j:=n-1) (by exact n1 [_,_,_] J2 J5 rfl d) (by exact n2 [_,_,_,_] J2 J3 J4 rfl d (Nat.sub_le (n) (1))) (by exact Nat.ne_of_gt (Nat.sub_lt o Nat.one_pos))
   refine mu C (e.lt (by exact n2 [_,_,_,_] J2 J3 J4 rfl d (Nat.sub_le (n) (1)))) (e.lt (by exact n1 [_,_,_] J2 J5 rfl d)) (λhd=>m6 ?_) λhd=>by
    have l:¬PK Z p n<PK Z p (n-1):=k
    have:PK Z p (n-1)<PK Z p n:=by exact iN q l
    exact absurd this hd
   exact h n (Nat.le_refl _) (by exact n1 [_,_,_] J0 J5 rfl d) g
theorem Ad{p:Array Nat}(a:Pm N p)(i j:Nat):Pm N (kas_rev p i j):=by
 refine⟨by rw[kas_rev,mirror_size];exact a.sz,?_⟩
 exact(Array.perm_iff_toList_perm.mp (mirror_perm p i j _)).trans a.pm
theorem zD{p:Array Nat}{j:Nat}(b:j<=p.size)(k:Nat):PK Z (kas_rev p 0 j) k=if k<j then PK Z p (j-1-k) else PK Z p k:=by
 have h:=getElem?_mirror_all (i:=0) b k
 unfold PK kas_rev
 rw[Array.getD_eq_getD_getElem?,h]
 split
 ·rename_i a
  rw[if_pos (by exact n1 [_,_] J2 J2 rfl a.2),Array.getD_eq_getD_getElem?]
  simp
 ·rename_i a
  rw[if_neg (by exact λq=>a ⟨Nat.zero_le _,q⟩),Array.getD_eq_getD_getElem?]
theorem yl(C:AU N Z cmp s){p:Array Nat}(g:Pm N p)(o:2<=N){Q:Nat×Array Nat->Shared->Prop}
  (h:∀m q,1<=m->m<=N->Pm N q->Up Z q m->Q (m,q) s):(kas_count N p).kasWp cmp Q s:=by
 unfold kas_count
 rw[KasT.kasWp_bind]
 refine sV C g (N-1) 1 (Nat.le_refl _) (by exact Nat.add_sub_cancel' (Nat.le_of_lt o)) (λi j f k=>by exact(Nat.not_lt_zero _ (Nat.lt_of_lt_of_le f (Nat.le_of_lt_succ k))).elim) λm a b c d=>?_
 by_cases e:m=N
 ·rw[if_pos (by simpa using e)]
  exact h m p a b g c
 ·rw[if_neg (by simpa using e)]
  by_cases r:m>1
  ·rw[if_pos r]
   exact mu C (g.lt (by exact Nat.le_of_lt o)) (g.lt (by exact n2 [_,_,_] J2 Ag RE rfl b (Nat.sub_add_cancel (n:=m) (m:=1) (n1 [_] (.le (.n 1) (.v 0)) (.le (.n 1) (.v 0)) rfl a)))) (λt=>m6 (h m p a b g c)) λt=>absurd (c 0 (m-1) (by exact n2 [_,_] CU (.le (.a (.n 1) (.n 1)) (.v 1)) (.le (.v 1) (.a (.v 0) (.n 1))) rfl r (sb (m) (1))) (by exact n1 [_,_] J2 HJ rfl (Nat.sub_add_cancel (n:=m) (m:=1) (n1 [_] (.le (.n 1) (.v 0)) (.le (.n 1) (.v 0)) rfl a)))) t
  ·rw[if_neg r]
   have w:m=1:=by exact Nat.le_antisymm (n1 [_] Lm Lm rfl (nl r)) (n1 [_] Fm Fm rfl a)
   subst w
   have d1:=d (by exact o)
   unfold kas_descPart
   rw[KasT.kasWp_bind]
   refine uq C g (N-2) 2 (by exact Nat.le_succ 1) (by exact Nat.le_antisymm (n1 [_,_] (.le (.a (.n 2) (.v 0)) (.v 1)) (.eq (.a (.v 0) (.n 2)) (.v 1)) rfl (Nat.sub_add_cancel (n:=N) (m:=2) (n1 [_] (.le (.n 2) (.v 0)) (.le (.n 2) (.v 0)) rfl o))) (n1 [_,_] (.le (.v 0) (.a (.n 2) (.v 1))) O0 rfl (sb (N) (2)))) (λi j f k=>?_) λm a b c=>?_
   ·have:i=0:=by exact Nat.le_antisymm (n2 [_,_] NX J2 (.le (.a (.v 1) (.n 1)) (.n 2)) rfl f k) (n0 [_] It rfl)
    have:j=1:=by exact Nat.le_antisymm (n1 [_] Lm LU rfl k) (n1 [_,_] Fm LT rfl f)
    subst i j;exact d1
   ·rw[if_neg (Nat.lt_irrefl 0)]
    show KasT.kasWp cmp (kas_tail3 m N p) Q s
    unfold kas_tail3
    rw[KasT.kasWp_bind]
    have l:=g.sz
    refine sV C (Ad g 0 m) (N-m) m (by exact Nat.le_of_lt a) (by exact Nat.add_sub_cancel' b) (λi j f k=>?_) λu z y x _=>h u _ (by exact n2 [_,_] Fm Ml (.le (.v 1) (.v 0)) rfl a z) y (Ad g 0 m) x
    rw[zD (by exact m2 [_,_,_] J0 0 1 (-1) J4 LN rfl b l),zD (by exact m2 [_,_,_] J0 0 1 (-1) J4 LN rfl b l),if_pos (by exact n2 [_,_,_] J2 Fq Fc rfl f k),if_pos (by exact k)]
    exact c _ _ (by exact Nat.sub_lt_sub_left (Nat.lt_of_lt_of_le f (Nat.le_sub_one_of_lt k)) f) (by exact Nat.lt_of_le_of_lt (Nat.sub_le _ _) (Nat.sub_lt (Nat.le_of_lt a) Nat.one_pos))
theorem mx(C:AU N Z cmp s){p:Array Nat}(u:Pm N p){k:Nat}(q:k<N)(A:Up Z p k){Q:Nat->Shared->Prop}:∀(f l r:Nat),r-l<=f->l<=r->r<=k->(∀i,i<l->PK Z p i<PK Z p k)->(∀i,r<=i->i<k->PK Z p k<PK Z p i)->
  (∀l,l<=k->(∀i,i<l->PK Z p i<PK Z p k)->(∀i,l<=i->i<k->PK Z p k<PK Z p i)->Q l s)->(kas_place p k f l r).kasWp cmp Q s
 |0,l,r,B,E,d,D,z,h=>h l (by exact n2 [_,_,_] J0 J4 Ag rfl E d) D λi a b=>z i (by exact n3 [_,_,_,_] J0 (.le (.v 2) (.n 0)) NA (.le (.v 0) (.a (.v 2) (.v 3))) rfl B a (sb (r) (l))) b
 |f+1,l,r,B,E,d,D,z,h=>by
  unfold kas_place
  by_cases e:l≥r
  ·rw[if_pos e]
   exact h l (by exact n2 [_,_,_] J0 J4 Ag rfl E d) D λi a b=>z i (by exact n2 [_,_,_] J0 J4 Ag rfl e a) b
  ·rw[if_neg e]
   have o:(l+r)/2<r:=by exact Nat.div_lt_of_lt_mul (by rw[Nat.two_mul];exact Nat.add_lt_add_right (Nat.lt_of_not_le e) r)
   have g:l<=(l+r)/2:=by exact(Nat.le_div_iff_mul_le Nat.two_pos).mpr (by rw[Nat.mul_two];exact Nat.add_le_add_left (Nat.le_of_lt (Nat.lt_of_not_le e)) l)
   generalize (l+r)/2=c at o g ⊢
   refine mu C (u.lt q) (u.lt (by exact n3 [_,_,_,_] J2 Fc Pb On rfl q d o)) (λy=>m6 ?_) λy=>wZ ?_
   ·refine mx C u q A f l c (by exact m4 [_,_,_,_,_,_] J0 0 1 1 1 1 (.le (.v 2) (.a (.v 1) (.n 1))) (.le (.a (.v 3) (.n 1)) (.v 4)) (.eq (.a (.v 0) (.v 5)) (.v 3)) (.le (.v 4) (.a (.v 2) (.v 5))) rfl B o (Nat.sub_add_cancel (n:=c) (m:=l) (n1 [_,_] (.le (.v 0) (.v 1)) (.le (.v 0) (.v 1)) rfl g)) (sb (r) (l))) g (by exact n2 [_,_,_] J0 Ag Fq rfl d o) D (λi a b=>?_) h
    by_cases t:i=c
    ·rw[t];exact y
    ·exact Int.lt_trans y (A c i (by exact Nat.lt_of_le_of_ne a (Ne.symm t)) b)
   ·have x:=Pm.ne C u (i:=k) (j:=c) q (by exact n3 [_,_,_,_] J2 Fc Pb On rfl q d o) (by exact Nat.ne_of_gt (n2 [_,_,_] J2 Ag Fq rfl d o))
    have w:¬PK Z p k<PK Z p c:=y
    refine mx C u q A f (c+1) r (by exact Nat.le_trans (Nat.sub_le_sub_left (Nat.succ_le_succ g) r) (Nat.pred_le_pred B)) (by exact o) d (λi a=>?_) z h
    by_cases t:i=c
    ·rw[t];exact iN x w
    ·exact Int.lt_trans (A i c (by exact ln a t) (by exact n2 [_,_,_] J2 Ag Fq rfl d o)) (by exact iN x w)
theorem DV{p:Array Nat}(a:Pm N p)(i j:Nat):Pm N (bubble p i j):=by
 refine⟨by rw[bubble_size];exact a.sz,?_⟩
 exact(Array.perm_iff_toList_perm.mp (bubble_perm p i j)).trans a.pm
theorem wG{p:Array Nat}{k l:Nat}(b:k<p.size)(a:l<=k)(i:Nat):PK Z (bubble p k (k-l)) i=if i=l then PK Z p k else if l<i/\i<=k then PK Z p (i-1) else PK Z p i:=by
 have h:=getElem?_bubble b (k-l) (by exact Nat.sub_le k l) i
 have:k-(k-l)=l:=by exact Nat.sub_sub_self a
 rw[this]at h
 unfold PK
 simp only[Array.getD_eq_getD_getElem?,h]
 repeat' split
 all_goals rfl
theorem xO(C:AU N Z cmp s){Q:Array Nat->Shared->Prop}:∀(f:Nat) (p:Array Nat) (k:Nat),Pm N p->f+k=N->Up Z p k->
  (∀q,Pm N q->Up Z q N->Q q s)->(kas_bin f p k).kasWp cmp Q s
 |0,p,k,t,e,o,h=>h p t (by rw[←e,Nat.zero_add];exact o)
 |f+1,p,k,t,e,o,h=>by
  unfold kas_bin
  rw[KasT.kasWp_bind]
  refine mx C t (by exact n1 [_,_,_] J2 (.eq (.a (.a (.v 2) (.n 1)) (.v 0)) (.v 1)) rfl e) o k 0 k (by exact Nat.sub_le k 0) (by exact Nat.zero_le k) (by exact Nat.le_refl k) (λi a=>by exact(Nat.not_lt_zero _ a).elim) (λi a b=>by exact(eK b a).elim) λl a b c=>?_
  refine xO C f _ (k+1) (DV t _ _) (by exact Nat.le_antisymm (n1 [_,_,_] (.le (.a (.v 0) (.a (.v 1) (.n 1))) (.v 2)) (.eq (.a (.a (.v 0) (.n 1)) (.v 1)) (.v 2)) rfl e) (m1 [_,_,_] (.le (.v 0) (.a (.v 1) (.a (.v 2) (.n 1)))) 0 (-1) (.eq (.a (.a (.v 1) (.n 1)) (.v 2)) (.v 0)) rfl e)) (λi j d z=>?_) h
  have r:=t.sz
  rw[wG (by exact m2 [_,_,_,_] J2 0 1 (-1) OY NN rfl e r) a,wG (by exact m2 [_,_,_,_] J2 0 1 (-1) OY NN rfl e r) a]
  have x:=Nat.le_of_lt_succ z
  by_cases u:j=l
  ·have il:=u▸d
   rw[if_pos u,if_neg (Nat.ne_of_lt il),if_neg (c:=l<i/\i<=k) (λq=>Nat.lt_asymm q.1 il)];exact b _ il
  ·rw[if_neg u]
   by_cases m:l<j
   ·have g:=Nat.lt_of_lt_of_le (Nat.sub_lt (Nat.zero_lt_of_lt m) Nat.one_pos) x
    rw[if_pos (c:=l<j/\j<=k) ⟨m,x⟩]
    by_cases w:i=l
    ·rw[if_pos w];exact c _ (Nat.le_sub_one_of_lt m) g
    ·rw[if_neg w]
     by_cases i2:l<i
     ·rw[if_pos (c:=l<i/\i<=k) ⟨i2,Nat.le_trans (Nat.le_of_lt d) x⟩];exact o _ _ (Nat.sub_lt_sub_right (Nat.zero_lt_of_lt i2) d) g
     ·rw[if_neg (c:=l<i/\i<=k) (λq=>i2 q.1)];exact o _ _ (Nat.lt_of_lt_of_le (Nat.lt_of_le_of_ne (nl i2) w) (Nat.le_sub_one_of_lt m)) g
   ·have y:=Nat.lt_of_le_of_ne (nl m) u
    have il:=Nat.lt_trans d y
    rw[if_neg (c:=l<j/\j<=k) (λq=>m q.1),if_neg (Nat.ne_of_lt il),if_neg (c:=l<i/\i<=k) (λq=>Nat.lt_asymm q.1 il)];exact o _ _ d (Nat.lt_of_lt_of_le y a)
theorem A5(C:AU N Z cmp s)(f:2<=N){Q:Array Nat->Shared->Prop}(h:∀q,Pm N q->Up Z q N->Q q s):(kas_sort N).kasWp cmp Q s:=by
 unfold kas_sort
 rw[KasT.kasWp_bind]
 refine yl C ⟨by simp,by simp⟩ f λm q a b c d=>?_
 show KasT.kasWp cmp (if m<N then _ else _) Q s
 by_cases e:m<N
 ·rw[if_pos e]
  have:max m 1=m:=by exact Nat.max_eq_left a
  rw[this]
  exact xO C _ _ _ c (by exact Nat.sub_add_cancel (Nat.le_of_lt e)) d h
 ·rw[if_neg e]
  have:m=N:=by exact Nat.le_antisymm (n1 [_,_] J0 J0 rfl b) (n1 [_,_] J0 J0 rfl (nl e))
  subst this
  exact h q c d
end
end
section
noncomputable abbrev R3:=Int×Int×Int
theorem dy{σ:Hp}:∀{xs:List AV} {rs:List R3},dI σ xs=some rs↔xs.map (kU σ)=rs.map some
 |[],rs=>by cases rs<;>simp[dI]
 |v::r,rs=>by
  refine⟨λh=>wI h λx y b a e=>by rw[←e,List.map_cons,List.map_cons,b,dy.mp a],λh=>?_⟩
  cases rs with
  |nil=>cases h
  |cons x y=>
   have q:=List.cons.inj h
   show((kU σ v).bind λx=>(dI σ r).map (x::·))=_
   rw[q.1,dy.mpr q.2];rfl
theorem B1(a:R3):ju a a=false:=by simp[ju]
theorem qo{a b c:Int}{P Q R:Prop}(k:P->Q->R)(h:a<b∨(a=b/\P))(g:b<c∨(b=c/\Q)):a<c∨(a=c/\R):=
 h.elim (λh=>g.elim (λg=>.inl (Int.lt_trans h g)) λg=>.inl (g.1▸h)) λh=>g.elim (λg=>.inl (h.1.symm▸g)) λg=>.inr ⟨h.1.trans g.1,k h.2 g.2⟩
theorem xI{a b:Int}{P Q:Prop}(k:a=b->P∨Q):(a<b∨(a=b/\P))∨(b<a∨(b=a/\Q)):=
 (Int.lt_trichotomy a b).elim (λh=>.inl (.inl h)) λh=>h.elim (λe=>(k e).elim (λp=>.inl (.inr ⟨e,p⟩)) λq=>.inr (.inr ⟨e.symm,q⟩)) λh=>.inr (.inl h)
theorem vj{a b c:R3}(h:ju a b=true)(k:ju b c=true):ju a c=true:=decide_eq_true (qo (qo Int.lt_trans) (of_decide_eq_true h) (of_decide_eq_true k))
theorem tK{a b:R3}(h:a≠b):ju a b=true∨ju b a=true:=
 (xI λc=>xI λd=>(Int.lt_or_gt_of_ne λe=>h (Prod.ext c (Prod.ext d e)))).imp decide_eq_true decide_eq_true
theorem vI{c:Type}{p q:c->Bool}{l:List c}{a:c}(h:∀a∈l,p a=true->q a=true)(b:a∈l)(g:q a=true)(f:p a=false):l.countP p<l.countP q:=by
 induction b with
 |head r=>rw[List.countP_cons_of_pos g,List.countP_cons_of_neg (by rw[f];exact Bool.false_ne_true)];exact Nat.lt_succ_of_le (List.countP_mono_left λa b=>h a (.tail _ b))
 |tail x _ d=>
  rw[List.countP_cons,List.countP_cons]
  exact Nat.add_lt_add_of_lt_of_le (d λa b=>h a (.tail _ b)) (by cases e:p x with
   |true=>rw[h x (.head _) e];exact Nat.le_refl _
   |false=>exact Nat.zero_le _)
noncomputable def rc(rs:List R3)(i:Nat):Int:=(rs.countP λa=>ju a (rs.getD i default):Nat)
theorem xm{a:Type}[Inhabited a]{l:List a}{i:Nat}(h:i<l.length):l.getD i default∈l:=by
 rw[List.getD_eq_getElem?_getD,List.getElem?_eq_getElem h];exact List.getElem_mem h
theorem lH{rs:List R3}{i j:Nat}(hi:i<rs.length)(h:ju (rs.getD i default) (rs.getD j default)=true):rc rs i<rc rs j:=by
 have:=vI (p:=λa=>ju a (rs.getD i default)) (q:=λa=>ju a (rs.getD j default)) (l:=rs) (λa _ b=>vj b h) (xm hi) h (B1 _)
 unfold rc;exact z1 [_,_] J2 J2 rfl (cl this)
theorem qR{rs:List R3}(b:rs.Nodup){i j:Nat}(hi:i<rs.length)(a:j<rs.length)(h:rs.getD i default=rs.getD j default):i=j:=by
 rw[List.getD_eq_getElem?_getD,List.getD_eq_getElem?_getD,List.getElem?_eq_getElem hi,List.getElem?_eq_getElem a]at h
 exact(List.getElem_inj b).mp h
theorem rV{rs:List R3}(c:rs.Nodup){i j:Nat}(hi:i<rs.length)(b:j<rs.length):decide (rc rs i<rc rs j)=ju (rs.getD i default) (rs.getD j default):=by
 cases h:ju (rs.getD i default) (rs.getD j default)with
 |true=>exact decide_eq_true (lH hi h)
 |false=>
  by_cases e:i=j
  ·subst e;simp
  ·rcases tK (λx=>e (qR c hi b x))with a|a
   ·rw[h]at a;cases a
   ·have:=lH b a;simp;exact Int.le_of_lt this
theorem wS{rs:List R3}(c:rs.Nodup){i j:Nat}(hi:i<rs.length)(b:j<rs.length)(h:rc rs i=rc rs j):i=j:=by
 by_cases e:i=j
 ·exact e
 ·rcases tK (λx=>e (qR c hi b x))with a|a
  ·have:=lH hi a;exact absurd h (Int.ne_of_lt this)
  ·have:=lH b a;exact absurd h (Int.ne_of_gt this)
theorem mz{a:Type}(l:List a)(d:a):(List.range l.length).map (λi=>l.getD i d)=l:=by
 apply List.ext_getElem?
 intro i
 by_cases h:i<l.length
 ·simp[h]
 ·simp[h]
section
variable {prog:Program} {w:World} {K:Frag} {T:Tb} {F:Ft} {t:Ct} {Z h₀:Heap} {A:Around} {E:Value->Shared->Prop} {L:Addr} {m:Str->Option Value} {opq:List (Addr×Obj)} {σ:Hp} {s:Shared}
theorem nW{a:Addr}{v:Value}{n:Nat}{c:List (Addr×Obj)}{P:PySem.Fin->Shared->Prop}(F:Fr h₀ L s.heap m)(N:News h₀ L s.heap c)(q:s.heap.get? a=some (seqObj "list" #[v] n))(f:a≠L)(g:h₀.get? a=none)(i:∀p∈c,p.1≠a)
  (h:∀j h',Fr h₀ L h' m->News h₀ L h' ((a,seqObj "list" #[v] j)::c)->P (.done (.ret .none)) {s with heap:=h'}):
  wpAny (model prog w) A (Builtin.«list.sort» ⟨[.ref a],[]⟩) P E s:=by
 have D:a<s.heap.objs.size:=Heap.lt_size q
 have s1:=Heap.SameBut.update s.heap a (Obj.mapSeq λ_=>(#[]:Array Value))
 obtain⟨j,k⟩:∃j,(s.heap.update a (Obj.mapSeq λ_=>(#[]:Array Value))).get? a=some (seqObj "list" #[] j):=⟨_,get?_update_seq q λ_=>#[]⟩
 have B:Fr h₀ L (((s.heap.update a (Obj.mapSeq λ_=>(#[]:Array Value))).push (seqObj "tuple" #[v] 0)).push (seqObj "list" #[] 0)) m:=((kas_fr F s1 f g).push _).push _
 have z:News h₀ L (((s.heap.update a (Obj.mapSeq λ_=>(#[]:Array Value))).push (seqObj "tuple" #[v] 0)).push (seqObj "list" #[] 0)) c:=
  (kas_news N s1 i).grown λb x e=>Heap.get?_push_of_some _ (Heap.get?_push_of_some _ e)
 have d:(((s.heap.update a (Obj.mapSeq λ_=>(#[]:Array Value))).push (seqObj "tuple" #[v] 0)).push (seqObj "list" #[] 0)).get? a=some (seqObj "list" #[] j):=Heap.get?_push_of_some _ (Heap.get?_push_of_some _ k)
 rw[list_sort_plain]
 refine wpAny_bind (listItems_at q rfl ?_)
 refine wpAny_bind (listUpdate_at q rfl ?_ (by rw[List.size_toArray,sizeLine_eq];show 1<=_;decide) (Nat.zero_le _))
 refine wpAny_bind (seqEpoch_at k rfl ?_)
 refine wpAny_bind (wpAny_newTuple ?_ (by rw[sizeLine_eq];show 1<=_;decide))
 refine wpAny_bind (wpAny_newList ?_ (Nat.zero_le _))
 refine wpAny_holding ?_
 show wpAny (model prog w) A _ P E {s with heap:=((s.heap.update a (Obj.mapSeq λ_=>(#[]:Array Value))).push (seqObj "tuple" #[v] 0)).push (seqObj "list" #[] 0)}
 dsimp only
 have l:(#[v]:Array Value).size<2:=Nat.lt_succ_self 1
 have o:Array.map (λx=>x.snd) (arrOf (SortSt.mk' general' (#[v].zip #[v]) #[] 7 none))=#[v]:=by
  show Array.map (λx=>x.snd) (#[v].zip #[v])=#[v]
  simp
 rw[if_pos l,if_pos l]
 refine wpAny_bind (wpAny_pure ?_)
 refine wpAny_bind (wpAny_pure ?_)
 dsimp only
 rw[o]
 refine wpAny_bind (seqEpoch_at d rfl ?_)
 have s2:=Heap.SameBut.update (((s.heap.update a (Obj.mapSeq λ_=>(#[]:Array Value))).push (seqObj "tuple" #[v] 0)).push (seqObj "list" #[] 0)) a (Obj.mapSeq λ_=>#[v])
 obtain⟨y,r⟩:∃y,((((s.heap.update a (Obj.mapSeq λ_=>(#[]:Array Value))).push (seqObj "tuple" #[v] 0)).push (seqObj "list" #[] 0)).update a (Obj.mapSeq λ_=>#[v])).get? a=some (seqObj "list" #[v] y):=⟨_,get?_update_seq d λ_=>#[v]⟩
 refine wpAny_bind (listUpdate_at d rfl ?_ (Nat.zero_le _) (by rw[sizeLine_eq];show 1<=_;decide))
 show wpAny _ _ (if _ then _ else _) _ _ _
 simp only[bne_self_eq_false,Bool.false_eq_true,if_false]
 refine wpAny_pure (h y _ (kas_fr B s2 f g) λp u=>?_)
 rcases au u with rfl|u
 ·exact⟨r,f,g⟩
 ·exact kas_news z s2 i p u
theorem sD{l:Addr}{v:Value}{a:List (Addr×Obj)}{Q:Value->Shared->Prop}(F:Fr h₀ L s.heap m)(N:News h₀ L s.heap a)(r:s.heap.IsList l #[v])
  (h:∀D f h',Fr h₀ L h' m->News h₀ L h' ((D,seqObj "list" #[v] f)::a)->(∀q∈a,q.1<D)->Q (.ref D) {s with heap:=h'}):
  wpAny (model prog w) A (call (.builtin "sorted") [.ref l]) Q E s:=by
 refine Calls.call_function_entry kind_sorted plain_sorted entry_sorted (args_sorted1 _) ?_
 unfold Builtin.«sorted»
 refine wpAny_bind (m:=checkCount "sorted" 1 1 _) (wpAny_pure ?_)
 refine wpAny_bind (collect_list (vs:=[v]) r ?_ (by rw[sizeLine_eq];show 1<=_;decide))
 refine wpAny_bind (wpAny_newList ?_ (by rw[sizeLine_eq];show 1<=_;decide))
 have d:((s.heap.push (seqObj "list" #[] 0)).update s.heap.objs.size (Obj.mapSeq (·++#[v]))).objs.size=s.heap.objs.size+1:=by
  rw[Heap.size_update,size_push']
 have e:(((s.heap.push (seqObj "list" #[] 0)).update s.heap.objs.size (Obj.mapSeq (·++#[v]))).push (seqObj "list" #[v] 0)).get? (s.heap.objs.size+1)=some (seqObj "list" #[v] 0):=by
  rw[←d];exact Heap.get?_push_size _ rfl
 have keep:∀b o,s.heap.get? b=some o->(((s.heap.push (seqObj "list" #[] 0)).update s.heap.objs.size (Obj.mapSeq (·++#[v]))).push (seqObj "list" #[v] 0)).get? b=some o:=λb o q=>by
  have c:b<s.heap.objs.size:=Heap.lt_size q
  rw[Heap.get?_push_ne _ _ _ (by rw[d];exact Nat.ne_of_lt (Nat.lt_succ_of_lt c)),Heap.get?_update_ne _ _ _ _ (Nat.ne_of_lt c),Heap.get?_push_ne _ _ _ (Nat.ne_of_lt c)]
  exact q
 have g:L<s.heap.objs.size:=F.ns.lt
 show wpAny _ _ _ _ _ {s with heap:=((s.heap.push (seqObj "list" #[] 0)).update s.heap.objs.size (Obj.mapSeq (·++#[v]))).push (seqObj "list" #[v] 0)}
 rw[d]
 refine wpAny_bind (wpAny_holding (wpAny_call_entry slot_list_sort ⟨_,e,rfl⟩ entry_list_sort ?body (args_list_sort _)))
 case body=>
  refine nW (s:={s with heap:=((s.heap.push (seqObj "list" #[] 0)).update s.heap.objs.size (Obj.mapSeq (·++#[v]))).push (seqObj "list" #[v] 0)})
   (F.kept keep) (N.grown keep) e (Nat.ne_of_gt (Nat.lt_succ_of_lt g)) (Heap.get?_none_of_le (Nat.le_trans F.above (Nat.le_succ_of_le (Nat.le_of_lt g))))
   (λp k=>Nat.ne_of_lt (Nat.lt_succ_of_lt (Heap.lt_size (N p k).1))) λf h' n i=>?_
  exact⟨_,rfl,wpAny_pure ⟨_,rfl,h _ f h' n i λq j=>Nat.lt_succ_of_lt (Heap.lt_size (N q j).1)⟩⟩
theorem xa{x y:Int}{t u:Tok}{Q:Bool->Shared->Prop}(h:Q (decide (x<y)) s):wpAny (model prog w) A (oneLt' true (.int x t) (.int y u)) Q E s:=oneLt_int h
theorem lK{a b:Type}{P:Prop}{o:Option a}{f:a->Option b}{y:b}(h:o.bind f=some y)(k:∀x,o=some x->f x=some y->P):P:=by
 cases o with
 |none=>exact oQ h
 |some x=>exact k x rfl h
theorem Dk{v:AV}{r:Addr}(h:P2 v=some r):v=.ref r:=by
 cases v with
 |ref a=>rw[Option.some.inj h]
 |_=>cases h
theorem AS{o:AO}{a:AV}{l:List AV}(h:HW o=a::l):o=.tup (a::l):=by
 cases o with
 |tup b=>rw[show b=a::l from h]
 |_=>cases h
theorem sX{v:AV}{i:Int}(h:AL v=some i):v=.int i:=by
 cases v with
 |int a=>rw[Option.some.inj h]
 |_=>cases h
theorem Bt{l:List AV}{x:R3}(h:Gr l=some x):l=[.int x.1,.int x.2.1,.int x.2.2]:=by
 cases l with
 |nil=>exact oQ h
 |cons a l=>cases l with
  |nil=>exact oQ h
  |cons b l=>cases l with
   |nil=>exact oQ h
   |cons c l=>cases l with
    |cons d l=>exact oQ h
    |nil=>exact lK h λa f h=>lK h λb e h=>(Option.map_eq_some_iff.mp h).elim λc h=>by rw[sX f,sX e,sX h.1,←h.2]
theorem BR{P:Prop}{v:AV}{u:Value}{x:R3}(st:Z.StaysIn h₀)(H:HS T Z h₀ L opq m σ s.heap)(h:kU σ v=some x)(r:VR u v)
  (k:∀a t1 t2 t3 n,u=.ref a->s.heap.get? a=some (kP [.int x.1 t1,.int x.2.1 t2,.int x.2.2 t3] n)->P):P:=
 lK h λa d h=>lK h λc f h=>by
  rw[Dk d]at r
  have e:σ a=some (c.1,.tup [.int x.1,.int x.2.1,.int x.2.2]):=f.trans (congrArg some (Prod.ext rfl (AS (Bt h))))
  refine(H.tup st e).elim λl d=>d.elim λn d=>?_
  obtain⟨g1,b⟩:=d
  cases b with
  |cons g b=>cases b with
   |cons j b=>cases b with
    |cons i b=>
     cases b
     obtain⟨t1,rfl⟩:=g.int;obtain⟨t2,rfl⟩:=j.int;obtain⟨t3,rfl⟩:=i.int
     exact k a t1 t2 t3 n r.ref g1
theorem xo{u v:Value}{x y:R3}{a b:Addr}{t1 t2 t3 g e f:Tok}{n k:Nat}{C:Bool->Shared->Prop}(l:s.heap.get? a=some (kP [.int x.1 t1,.int x.2.1 t2,.int x.2.2 t3] n))
  (j:s.heap.get? b=some (kP [.int y.1 g,.int y.2.1 e,.int y.2.2 f] k)) (h:C (ju x y) s):wpAny (model prog w) A (keyLt' (tuples' true) (.ref a) (.ref b)) C E s:=by
 refine kat_lt l rfl j rfl ?_
 have o:decide ((#[Value.int x.1 t1,.int x.2.1 t2,.int x.2.2 t3]:Array Value).size<(#[Value.int y.1 g,.int y.2.1 e,.int y.2.2 f]:Array Value).size)=false:=rfl
 rw[show decide ([Value.int x.1 t1,.int x.2.1 t2,.int x.2.2 t3].toArray.size<[Value.int y.1 g,.int y.2.1 e,.int y.2.2 f].toArray.size)=false from rfl]
 show KatLex prog w A true false C [(.int x.1 t1,.int y.1 g),(.int x.2.1 t2,.int y.2.1 e),(.int x.2.2 t3,.int y.2.2 f)] 0 s
 refine kat_cons (wpAny_eqBool_int ?_)
 by_cases c:x.1=y.1
 ·rw[c,beq_self_eq_true]
  refine kat_yes (kat_cons (wpAny_eqBool_int ?_))
  by_cases d:x.2.1=y.2.1
  ·rw[d,beq_self_eq_true]
   refine kat_yes (kat_cons (wpAny_eqBool_int ?_))
   by_cases i:x.2.2=y.2.2
   ·rw[i,beq_self_eq_true]
    refine kat_yes (kat_nil ?_)
    have:ju x y=false:=by simp[ju,c,d,i]
    rw[this]at h;exact h
   ·rw[beq_eq_false_iff_ne.mpr i]
    refine kat_no (kat_one _ _ (lt_int ?_))
    have:ju x y=decide (x.2.2<y.2.2):=by simp[ju,c,d]
    rw[this]at h;exact h
  ·rw[beq_eq_false_iff_ne.mpr d]
   refine kat_no (kat_one _ _ (lt_int ?_))
   have:ju x y=decide (x.2.1<y.2.1):=by simp[ju,c,d]
   rw[this]at h;exact h
 ·rw[beq_eq_false_iff_ne.mpr c]
  refine kat_no (xa ?_)
  have:ju x y=decide (x.1<y.1):=by simp[ju,c]
  rw[this]at h;exact h
theorem o9{h':Heap}:∀(vs:List Value),(∀v∈vs,∃a x t1 t2 t3 n,v=.ref a/\h'.get? a=some (kP [.int (x:R3).1 t1,.int x.2.1 t2,.int x.2.2 t3] n))->
  ∃fs,KatTups h' vs fs/\fs.length=vs.length/\∀f∈fs,∃i t,f=.int i t
 |[],_=>⟨[],trivial,rfl,λ_ h=>nM h⟩
 |v::vs,h=>by
  obtain⟨fs,e,d,g⟩:=o9 vs λv c=>h v (.tail _ c)
  obtain⟨a,x,t1,t2,t3,n,rfl,j⟩:=h v (.head _)
  exact⟨.int x.1 t1::fs,.cons j rfl rfl rfl e,by simp[d],λf b=>by
   rcases au b with rfl|b
   ·exact⟨_,_,rfl⟩
   ·exact g f b⟩
theorem lC{a:Type}{l:List a}{i:Nat}{d:a}(h:i<l.length):l[i]?=some (l.getD i d):=by rw[List.getD_eq_getElem?_getD,List.getElem?_eq_getElem h];rfl
theorem pO{b:Type}{l:List b}{i:Nat}{d a:b}(h:l[i]?=some a):l.getD i d=a:=by rw[List.getD_eq_getElem?_getD,h];rfl
theorem CB{xs:List AV}{rs:List R3}(a:xs.map (kU σ)=rs.map some){i:Nat}(h:i<xs.length):kU σ (xs.getD i .undef)=some (rs.getD i default):=by
 have e:(xs.map (kU σ))[i]?=(rs.map some)[i]?:=congrArg (λl=>l[i]?) a
 have b:i<rs.length:=by have:=congrArg List.length a;rw[List.length_map,List.length_map]at this;rw[←this];exact h
 rw[List.getElem?_map,List.getElem?_map,lC (d:=AV.undef) h,lC (d:=default) b]at e
 exact Option.some.inj e
theorem sF{P:Prop}{vs:List Value}{xs:List AV}{rs:List R3}(st:Z.StaysIn h₀)(H:HS T Z h₀ L opq m σ s.heap)(c:aF VR vs xs)(l:xs.map (kU σ)=rs.map some){i:Nat}(h:i<vs.length)
  (k:∀a t1 t2 t3 n,vs.getD i .none=.ref a->s.heap.get? a=some (kP [.int (rs.getD i default).1 t1,.int (rs.getD i default).2.1 t2,.int (rs.getD i default).2.2 t3] n)->P):P:=
 have b:i<xs.length:=c.length▸h
 c.at (lC (d:=AV.undef) b) λu f j=>BR st H (CB l b) j λa t1 t2 t3 n e g=>k a t1 t2 t3 n ((pO f).trans e) g
theorem rK{vs:List Value}{xs:List AV}(a:aF VR vs xs):∀l:List Nat,(∀i∈l,i<vs.length)->aF VR (l.map λi=>vs.getD i .none) (l.map λi=>xs.getD i .undef)
 |[],_=>.nil
 |i::l,h=>.cons (a.at (lC (d:=AV.undef) (a.length▸h i (.head _))) λu e b=>show VR (vs.getD i .none) _ by rw[pO e];exact b) (rK a l λj c=>h j (.tail _ c))
theorem oF{a:Type}{q:List Nat}{xs:List a}{n:Nat}(d:a)(h:q.Perm (List.range n))(e:n=xs.length):(q.map λi=>xs.getD i d).Perm xs:=by
 have k:=h.map λi=>xs.getD i d
 rw[e,mz]at k
 exact k
theorem vE(Q:PX)(r:Addr)(vs:List Value)(n:Nat)(xs:List AV)(rs:List R3)(st:Z.StaysIn h₀)(H:HS T Z h₀ L opq m σ s.heap)(g1:s.heap.get? r=some (jz vs n))(I:aF VR vs xs)(c2:2<=vs.length)(h0:vs.length<=60)(O:xs.map (kU σ)=rs.map some)(o:vs.length=rs.length)(nd:rs.Nodup)
   (h:∀c (ys:List AV) (ts:List (Int×Int×Int)),σ c=none->ys.Perm xs->dI σ ys=some ts->ts.Perm rs->ts.Pairwise (λa b=>ju a b=true)->Q (.ref c) (upd σ c (false,.list ys))):
   wpAny (model prog w) A (call (.builtin "sorted") [.ref r]) (aC T Z h₀ L opq m Q s) E s:=by
 refine H.casesOn λg tu J D Fh N R=>kat_sorted Fh N (aL g1) c2 (Nat.lt_succ_of_le (Nat.le_trans h0 (Nat.le_add_right 60 3))) λd c l F' N' hn=>?_
 have H':HS T Z h₀ L opq m σ l:=⟨g,tu,J,D,F',λp W=>N' p (.tail _ W),R⟩
 obtain⟨fs,δ,η,γ⟩:=o9 (h':=l) vs λv hv=>(List.mem_iff_getElem.mp hv).elim λi f=>f.elim λf e=>sF (s:={s with heap:=l}) st H' I O f λa t1 t2 t3 n e3 e4=>
  ⟨a,_,t1,t2,t3,n,e.symm.trans ((pO (List.getElem?_eq_getElem f)).symm.trans e3),e4⟩
 refine kat_kind (s:={s with heap:=l}) (T:=.type "int") δ (Nat.le_of_succ_le (η.symm▸c2)) (λv hv=>(γ v hv).elim λi h=>h.elim λt h=>h▸Looks.of_pure rfl) (by decide) ?_
 have C:AU vs.length (rc rs) (kas_ask prog w A.in1.in1 (tuples' (Value.type "int"!=Value.type "tuple")) vs) {s with heap:=l}:=by
  refine⟨λi j C f y hC=>sF (s:={s with heap:=l}) st H' I O f λa t1 t2 t3 n1 e3 e4=>sF (s:={s with heap:=l}) st H' I O y λb t4 t5 t6 n2 e5 e6=>?_,λi j f y=>wS nd (o▸f) (o▸y)⟩
  unfold kas_ask
  rw[e3,e5]
  rw[rV nd (o▸f) (o▸y)]at hC
  exact xo (u:=.none) (v:=.none) e4 e6 hC
 refine A5 C c2 λq z ε=>KasFin.intro F' N' (.head λp W=>Nat.ne_of_lt (hn p W)) λθ c' ζ β=>?_
 have lt:∀i∈q.toList,i<vs.length:=λi f=>List.mem_range.mp (z.pm.mem_iff.mp f)
 have e1:=I.length
 refine HS.newL (n:=c') tu R ζ β hn rfl (rK I _ lt) λx hx=>h x _ (q.toList.map λi=>rs.getD i default) hx (oF _ z.pm e1) (dy.mpr ?_) (oF _ z.pm o) ?_
 ·rw[List.map_map,List.map_map]
  exact List.map_congr_left λi f=>CB O (e1▸lt i f)
 ·rw[List.pairwise_map,List.pairwise_iff_getElem]
  intro i j f y V
  have U:i<vs.length:=z.sz▸f
  have G:j<vs.length:=z.sz▸y
  have Y:=rV nd (o▸z.lt U) (o▸z.lt G)
  replace Y:=(decide_eq_true (ε i j V G)).symm.trans Y
  have B:∀{k} (hk:k<q.toList.length),q.getD k 0=q.toList[k]:=λhk=>by simp[Array.getD,show _<q.size from hk]
  rw[←B f,←B y];exact Y.symm
theorem By{c d:Type}{R:c->d->Prop}{P:List c->List d->Prop}{l₁:List c}{l₂:List d}(h:aF R l₁ l₂)(n:P [] [])(o:∀a b,R a b->P [a] [b])(m:∀l₁ l₂,aF R l₁ l₂->2<=l₁.length->P l₁ l₂):P l₁ l₂:=by
 cases h with
 |nil=>exact n
 |cons a r=>cases r with
  |nil=>exact o _ _ a
  |cons b r=>exact m _ _ (.cons a (.cons b r)) (Nat.le_add_left 2 _)
theorem rows_len{xs:List AV}{rs:List R3}(a:xs.map (kU σ)=rs.map some):xs.length=rs.length:=by have:=congrArg List.length a;rw[List.length_map,List.length_map]at this;exact this
theorem sW(Q:PX)(r:Addr)(fz:Bool)(xs:List AV)(rs:List R3)(st:Z.StaysIn h₀)(H:HS T Z h₀ L opq m σ s.heap)(ex:σ r=some (fz,.list xs))(q:xs.length<=60)(f:dI σ xs=some rs)(Y:rs.Nodup)
   (h:∀c (ys:List AV) (ts:List (Int×Int×Int)),σ c=none->ys.Perm xs->dI σ ys=some ts->ts.Perm rs->ts.Pairwise (λa b=>ju a b=true)->Q (.ref c) (upd σ c (false,.list ys))):
   wpAny (model prog w) A (call (.builtin "sorted") [.ref r]) (aC T Z h₀ L opq m Q s) E s:=
 (H.list st ex).elim λj g=>g.elim λn g=>By (P:=λj xs=>s.heap.get? r=some (jz j n)->xs.length<=60->dI σ xs=some rs->
   (∀c (ys:List AV) (ts:List (Int×Int×Int)),σ c=none->ys.Perm xs->dI σ ys=some ts->ts.Perm rs->ts.Pairwise (λa b=>ju a b=true)->Q (.ref c) (upd σ c (false,.list ys)))->wpAny (model prog w) A (call (.builtin "sorted") [.ref r]) (aC T Z h₀ L opq m Q s) E s) g.2
  (λg1 _ f h=>H.casesOn λg u i D B N R=>kso_sorted (ns:=[]) B N (aL g1) .nil (by decide) λd V U c I G o k p W hp hs _=>by
   obtain rfl:=List.length_eq_zero_iff.mp W
   cases p
   exact HS.newL (n:=c) u R G o k rfl .nil λr l=>h r _ rs l (.refl _) f (.refl _) (by rw[List.length_eq_zero_iff.mp (rows_len (dy.mp f)).symm];exact .nil))
  (λv x O g1 _ f h=>H.casesOn λg u i D B N R=>sD B N (aL g1) λd c I G o k=>HS.newL (n:=c) u R G o k rfl (.one O) λr l=>h r _ rs l (.refl _) f (.refl _) (by
   obtain⟨y,e⟩:=List.length_eq_one_iff.mp (rows_len (dy.mp f)).symm
   rw[e];exact List.pairwise_singleton _ _))
  (λj xs z J g1 q f h=>vE Q r j n xs rs st H g1 z J (by rw[z.length];exact q) (dy.mp f) (z.length.trans (rows_len (dy.mp f))) Y h) g.1 q f h
theorem tw(Q:PX)(r:Addr)(fz:Bool)(es:List (Int×AV))(st:Z.StaysIn h₀)(hh:A.handled=none)(H:HS T Z h₀ L opq m σ s.heap)(ex:σ r=some (fz,.dict es))(W:es.length<=60)
   (h:∀c (l:List Int),σ c=none->l.Perm (es.map (·.1))->l.Pairwise (·<=·)->Q (.ref c) (upd σ c (false,.list (l.map .int)))):
   wpAny (model prog w) A (call (.builtin "sorted") [.ref r]) (aC T Z h₀ L opq m Q s) E s:=by
 obtain⟨ob,f,g1,g2,g3,g4⟩:=H.dict st ex
 have hD:s.heap.DictOf (intKind prog w) r f:=Heap.dictOf_iff.mpr ⟨ob,g1,g3 prog w⟩
 have e1:=g2.length
 obtain⟨g,tu,y,D,Fh,N,R⟩:=H
 obtain⟨ep,J⟩:=hD.dictAt
 refine kdu_sorted (kdl_dict (knd:=intKind prog w) (kvs:=f) (ep:=ep) (by simpa using g4)) hh Fh N J (by rw[sizeLine_eq];exact n2 [_,_] (.le (.v 0) (.n 16777216)) yD CW rfl W e1) λd h' tk i F' N' O q z=>?_
 have U:IntsAre i (es.map (·.1)):=by
  have:∀(i:List Value) (f:List (Int×Value)) (es:List (Int×AV)),i.length=f.length->aF KR f es->(∀(j:Nat) (v:Value),i[j]?=some v->∃k x,f[j]?=some (k,x)/\(intKind prog w).is k v=true)->IntsAre i (es.map (·.1)):=by
   intro i
   induction i with
   |nil=>intro f es q g2 _;cases g2 with
    |nil=>exact .nil
    |cons _ _=>simp at q
   |cons u i ih=>
    intro f es q g2 z
    cases g2 with
    |nil=>simp at q
    |cons a b=>
     obtain⟨k,x,Y,V⟩:=z 0 u rfl
     simp only[List.getElem?_cons_zero,Option.some.injEq]at Y
     obtain⟨t,rfl⟩:=Value.isInt_shape V
     have:=a.1
     rw[Y]at this
     obtain rfl:k=_:=this
     exact .cons _ t (ih _ _ (by simpa using q) b λj v hj=>by simpa using z (j+1) v (by simpa using hj))
  exact this i f es q g2 z
 have G:=U.length
 refine ksk_lsort (news':=λo=>(d,o)::y) (its:=i.toArray) (n:=0) F' N' (λo=>.head λp I e=>absurd (O p I) (by rw[e];exact Nat.lt_irrefl _)) rfl U (by exact m4 [_,_,_,_] (.le (.a (.v 0) (.n 1)) (.n 64)) 0 1 1 1 (-1) yD (.eq (.v 2) (.v 1)) O3 (.eq (.v 3) (.v 0)) rfl W e1 q G) λβ l c V F2 N2 B _ I hs _=>?_
 exact HS.newL (n:=c) tu R F2 N2 O rfl (uE B) λr hr=>h r _ hr I hs
theorem yp{Q:PX}{b:BF}{as:List AV}{vs:List Value}(st:Z.StaysIn h₀)(g:A.handled=none)(k:aF VR vs as)(H:HS T Z h₀ L opq m σ s.heap)(h:eI b as σ Q):
  wpAny (model prog w) A (call (KV b) vs) (aC T Z h₀ L opq m Q s) E s:=
 rh (λQ r f l i a b c d e=>sW Q r f l i st H a b c d e) (λQ r f j a b c=>tw Q r f j st g H a b c) st g k H h
end
end
section
structure Fp(A A':Around):Prop where
 fr:A'.frames=A.frames
 hh:A'.handled=A.handled
 dp:A'.depth<=A.depth+2
 un:A'.units<=A.units+10
theorem Fp.refl(A:Around):Fp A A:=⟨rfl,rfl,by exact Nat.le_add_right A.depth 2,by exact Nat.le_add_right A.units 10⟩
def gY(prog:Program)(w:World)(T:Tb)(cal:bj)(A:Around)(Z h₀:Heap)(L:Addr):Prop:=
 ∀(b:Around) (f:Addr) (c:List AV) (d:List Value) (σ:Hp) (s:Shared) (opq:List (Addr×Obj)) (m:Str->Option Value) (Q:PX) (R:Result->Shared->Prop),
  Fp A b->cal f c σ Q->aF VR d c->HS T Z h₀ L opq m σ s.heap->(∀v a,aC T Z h₀ L opq m Q s v a->R (.ok (.ret v)) a)->codeAny (model prog w) b (.call (.ref f) ⟨d,[]⟩) R s
def fY(a b:Option NameKind):Prop:=a=b∨(a=some .free/\b=some .cell)
theorem fY.local{b:Option NameKind}(h:fY (some .local) b):b=some .local:=h.elim Eq.symm λh=>absurd h.1 (by decide)
theorem fY.cell{b:Option NameKind}(h:fY (some .cell) b):b=some .cell:=h.elim Eq.symm λh=>absurd h.1 (by decide)
theorem fY.glo{b:Option NameKind}(h:fY (some .globalImplicit) b):b=some .globalImplicit:=h.elim Eq.symm λh=>absurd h.1 (by decide)
structure Lv(prog:Program)(w:World)(K:Frag)(T:Tb)(F:Ft)(t:Ct)(cal:bj)(A:Around)(env:Env)(n:Cn)(Z h₀:Heap)(L:Addr)(m:Str->Option Value)(opq:List (Addr×Obj))(l:aG):Prop where
 gd:Gd K Z h₀ A env
 ok:Cr K T F t
 lr:AD env n.nm m opq l
 sc:∀x,fY (n.sc.names.lookup x) (env.scope.names.lookup x)
 lo:env.locals=L
 cc:n.lf=false->∀y,vY (env.scope.names.lookup y)=true->(env.cells.lookup y).isSome=true
 ca:n.lf=false->gY prog w T cal A Z h₀ L
 hh:n.lf=false->A.handled=none
section
variable {prog:Program} {w:World} {K:Frag} {T:Tb} {F:Ft} {t:Ct} {cal:bj} {A:Around} {env:Env} {n:Cn} {Z h₀:Heap} {L:Addr} {m:Str->Option Value} {opq:List (Addr×Obj)} {l:aG} {E:Value->Shared->Prop} {σ:Hp} {s:Shared}
theorem bH{a:Option Nat}{i:Nat}(h:gZ a i=true):a=some i:=by
 cases a with
 |none=>cases h
 |some j=>rw[show j=i by simpa[gZ]using h]
@[elab_as_elim] theorem fJ{b:Type}{P:Option b->Prop}{a:Option b}(h:isNone a=true)(f:P none):P a:=by
 cases a with
 |none=>exact f
 |some j=>exact fT h
theorem bZ{o:Option NameKind}{k:NameKind}(h:uZ o k=true):o=some k:=of_decide_eq_true h
theorem lJ{a:Type}{P:Prop}{c:Bool}{o:Option a}{i:a}(h:(bif c then o else none)=some i)(f:c=true->o=some i->P):P:=by
 cases c with
 |false=>exact oQ h
 |true=>exact f rfl h
theorem AK{a:AV}{k:AV->Prop}(h:zd a k):a≠.undef/\k a:=by
 refine⟨λe=>by subst e;exact h,?_⟩
 cases a with
 |undef=>exact h.elim
 |_=>exact h
theorem rF{Q:PX}{x:Str}{i:Nat}(lv:Lv prog w K T F t cal A env n Z h₀ L m opq l)(z:n.loc x=some i)(H:HS T Z h₀ L opq m σ s.heap)
  (h:cY F cal (.v i) l σ Q):wpAny (model prog w) A (loadName env x) (aC T Z h₀ L opq m Q s) E s:=by
 refine lJ z λc B=>?_
 have p:=AK (show zd (get l i) λv=>Q v σ from h)
 obtain⟨v,b,r⟩:=lv.lr x i B p.1
 have a:aC T Z h₀ L opq m Q s v s:=aC.same0 H r p.2
 have k:=lv.sc x
 refine H.casesOn λg J q D G N R=>?_
 rcases b with b|⟨u,I,o,f,y,j⟩
 ·exact wpAny_loadName_local lv.gd.fk b.1 (lv.lo▸G.ns) b.2 a
 ·have cell:=(N _ (R.oq _ y).1).1
  refine bor u (λe=>wpAny_loadName_cell lv.gd.fk (bZ e) f ⟨o,cell,j⟩ a) λe=>wpAny_loadName_free lv.gd.fk (bZ e) f ⟨o,cell,j⟩ a ?_
  rw[bZ e]at k
  have d:n.sc.names.lookup x=some .free:=k.elim id λh=>nomatch h.2
  refine bor c (λc=>bor c (λc=>?_) λc=>?_) λc=>gG c λ_ c=>nt c
  ·rw[bZ c]at d;cases d
  ·rw[bZ c]at d;cases d
theorem zW{Q:PX}{x:Str}{i:Nat}{pos:Pos}(lv:Lv prog w K T F t cal A env n Z h₀ L m opq l)(hd:(x==qk)=false)(a:n.loc x=some i)(H:HS T Z h₀ L opq m σ s.heap)
  (h:cY F cal (.v i) l σ Q):wpAny (model prog w) A (eval (.Name x pos) env) (aC T Z h₀ L opq m Q s) E s:=wpAny_Name (rF lv a H h) hd
theorem nF{x:Str}{v:Value}{pos:Pos}{Q:Value->Shared->Prop}(lv:Lv prog w K T F t cal A env n Z h₀ L m opq l)(hd:(x==qk)=false)(j:n.glo x=true)(H:HS T Z h₀ L opq m σ s.heap)
  (e:nsIn K mainGlobals x=some (some v)) (h:Q v s):wpAny (model prog w) A (eval (.Name x pos) env) Q E s:=by
 obtain⟨g,f,i,D,k,N,R⟩:=H
 obtain⟨p,b,o,q,d⟩:=(lv.gd.turn f.base).tr
 have c:=bZ j
 have a:=lv.sc x
 rw[c]at a
 replace c:=a.glo
 refine wpAny_Name ?_ hd
 rw[loadName_read lv.gd.fk c]
 unfold loadGlobal
 refine wpAny_bind (wpAny_nsGet (m:=o) (by rw[lv.gd.gl];exact d.g.keeps k.keep) ?_)
 rw[mg_of (lv.gd.turn f.base).X d.g e]
 exact wpAny_pure h
theorem nP{x:Str}{v:Value}{pos:Pos}{Q:Value->Shared->Prop}(lv:Lv prog w K T F t cal A env n Z h₀ L m opq l)(hd:(x==qk)=false)(r:n.glo x=true)(H:HS T Z h₀ L opq m σ s.heap)
  (e:nsIn K mainGlobals x=some none) (q:bootBuiltins x=some v) (o:x≠"__name__") (h:Q v s):wpAny (model prog w) A (eval (.Name x pos) env) Q E s:=by
 obtain⟨g,i,k,D,j,N,R⟩:=H
 obtain⟨p,d,y,u,c⟩:=(lv.gd.turn i.base).tr
 have f:=bZ r
 have a:=lv.sc x
 rw[f]at a
 replace f:=a.glo
 refine wpAny_Name ?_ hd
 rw[loadName_read lv.gd.fk f]
 unfold loadGlobal
 refine wpAny_bind (wpAny_nsGet (m:=y) (by rw[lv.gd.gl];exact c.g.keeps j.keep) ?_)
 rw[mg_none_of (lv.gd.turn i.base).X c.g e]
 refine wpAny_bind (wpAny_nsGet (m:=u) (by rw[lv.gd.bu];exact c.b.keeps j.keep) ?_)
 rw[(c.builtins x o).trans q]
 exact wpAny_pure h
theorem AZ(b:BF):bootBuiltins (mQ b)=some (KV b):=by cases b<;>(first|rfl|decide+kernel)
theorem uS:bootBuiltins gg=some (.type "range"):=by first|rfl|decide+kernel
theorem Aw(b:BF):mQ b≠"__name__":=by cases b<;>decide
end
end
section
structure Wd where
 prog:Program
 w:World
 K:Frag
 T:Tb
 F:Ft
 t:Ct
 cal:bj
 A:Around
 hb:Heap
 h₀:Heap
namespace Wd
variable (W:Wd)
noncomputable abbrev M:Model:=model W.prog W.w
abbrev L(env:Env)(n:Cn)(L:Addr)(m:Str->Option Value)(opq:List (Addr×Obj))(l:aG):Prop:=Lv W.prog W.w W.K W.T W.F W.t W.cal W.A env n W.hb W.h₀ L m opq l
abbrev H(L:Addr)(opq:List (Addr×Obj))(m:Str->Option Value)(σ:Hp)(h:Heap):Prop:=HS W.T W.hb W.h₀ L opq m σ h
abbrev P(L:Addr)(opq:List (Addr×Obj))(m:Str->Option Value)(Q:PX)(s:Shared):Value->Shared->Prop:=aC W.T W.hb W.h₀ L opq m Q s
inductive PL(L:Addr)(opq:List (Addr×Obj))(m:Str->Option Value)(Q:List AV->Hp->Prop)(s:Shared)(vs:List Value)(s':Shared):Prop
 |mk as σ' h' tk (h1:s'={s with heap:=h',toks:=tk}) (h2:aF VR vs as) (h3:W.H L opq m σ' h') (h4:Q as σ'):PL L opq m Q s vs s'
inductive PB(L:Addr)(opq:List (Addr×Obj))(m:Str->Option Value)(Q:Bool->Hp->Prop)(s:Shared)(b:Bool)(s':Shared):Prop
 |mk σ' h' tk (h1:s'={s with heap:=h',toks:=tk}) (h2:W.H L opq m σ' h') (h3:Q b σ'):PB L opq m Q s b s'
def SX(n:Cn)(x:X)(e:Expr):Prop:=∀env L m opq l σ s Q E,W.L env n L m opq l->W.H L opq m σ s.heap->cY W.F W.cal x l σ Q->wpAny W.M W.A (eval e env) (W.P L opq m Q s) E s
def SXS(n:Cn)(xs:XS)(es:List Expr):Prop:=∀env L m opq l σ s pos Q E,W.L env n L m opq l->W.H L opq m σ s.heap->kL W.F W.cal xs l σ Q->wpAny W.M W.A (spliced (backTo pos (starEach es env))) (W.PL L opq m Q s) E s
def SC(n:Cn)(c:C)(e:Expr):Prop:=∀env L m opq l σ s Q E,W.L env n L m opq l->W.H L opq m σ s.heap->Ai W.F W.cal c l σ Q->wpAny W.M W.A (isTrue e env (eval e env)) (W.PB L opq m Q s) E s
noncomputable def SCS(n:Cn):CS->List Expr->Prop
 |.nil,[]=>True
 |.cons c a,e::r=>W.SC n c e/\SCS n a r
 |_,_=>False
end Wd
section
variable {W:Wd} {env:Env} {n:Cn} {L:Addr} {m:Str->Option Value} {opq:List (Addr×Obj)} {l:aG} {E:Value->Shared->Prop} {σ:Hp} {s:Shared}
def d8(s s':Shared):Prop:=∃a b,s'={s with heap:=a,toks:=b}
theorem d8.refl(s:Shared):d8 s s:=⟨s.heap,s.toks,rfl⟩
theorem d8.trans{s s' c:Shared}(a:d8 s s')(b:d8 s' c):d8 s c:=by
 obtain⟨h,t,rfl⟩:=a
 obtain⟨e,d,rfl⟩:=b
 exact⟨e,d,rfl⟩
theorem lX{Q:PX}{s':Shared}(e:d8 s s'){v:Value}{a:Shared}(p:W.P L opq m Q s' v a):W.P L opq m Q s v a:=aC.trans (h':=s.heap) (tk:=0) e p
theorem Dx{Q:List AV->Hp->Prop}{s':Shared}(e:d8 s s'){v:List Value}{b:Shared}(p:W.PL L opq m Q s' v b):W.PL L opq m Q s v b:=by
 obtain⟨j,i,rfl⟩:=e
 obtain⟨a,d,g,c,rfl,r,f,h⟩:=p
 exact⟨a,d,g,c,rfl,r,f,h⟩
theorem jR{Q:Bool->Hp->Prop}{s':Shared}(e:d8 s s'){v:Bool}{a:Shared}(p:W.PB L opq m Q s' v a):W.PB L opq m Q s v a:=by
 obtain⟨h,g,rfl⟩:=e
 obtain⟨c,f,b,rfl,r,d⟩:=p
 exact⟨c,f,b,rfl,r,d⟩
theorem aN{t:Sem Value}{Q:PX}{R:Value->Shared->Prop}(h:wpAny W.M W.A t (W.P L opq m Q s) E s)
  (c:∀v a b s',d8 s s'->VR v a->W.H L opq m b s'.heap->Q a b->R v s'):wpAny W.M W.A t R E s:=
 wpAny_mono h (λv s' p=>by
  obtain⟨a,b,g,e,rfl,d,i,f⟩:=p
  exact c v a b _ ⟨g,e,rfl⟩ d i f) λ_ _ x=>x
theorem yi{t:Sem (List Value)}{Q:List AV->Hp->Prop}{R:List Value->Shared->Prop}(h:wpAny W.M W.A t (W.PL L opq m Q s) E s)
  (c:∀v a b s',d8 s s'->aF VR v a->W.H L opq m b s'.heap->Q a b->R v s'):wpAny W.M W.A t R E s:=
 wpAny_mono h (λv s' p=>by
  obtain⟨a,b,g,e,rfl,d,i,f⟩:=p
  exact c v a b _ ⟨g,e,rfl⟩ d i f) λ_ _ x=>x
theorem jE{t:Sem Bool}{Q:Bool->Hp->Prop}{R:Bool->Shared->Prop}(h:wpAny W.M W.A t (W.PB L opq m Q s) E s)
  (c:∀v a s',d8 s s'->W.H L opq m a s'.heap->Q v a->R v s'):wpAny W.M W.A t R E s:=
 wpAny_mono h (λv s' p=>by
  obtain⟨a,e,b,rfl,f,d⟩:=p
  exact c v a _ ⟨e,b,rfl⟩ f d) λ_ _ x=>x
theorem gy{t:Sem Value}{Q:PX}{a:Shared}(e:d8 a s)(h:wpAny W.M W.A t (W.P L opq m Q s) E s):wpAny W.M W.A t (W.P L opq m Q a) E s:=
 wpAny_mono h (λ_ _ p=>lX e p) λ_ _ x=>x
theorem Ge{t:Sem (List Value)}{Q:List AV->Hp->Prop}{a:Shared}(e:d8 a s)(h:wpAny W.M W.A t (W.PL L opq m Q s) E s):wpAny W.M W.A t (W.PL L opq m Q a) E s:=
 wpAny_mono h (λ_ _ p=>Dx e p) λ_ _ x=>x
theorem zc{t:Sem Bool}{Q:Bool->Hp->Prop}{a:Shared}(e:d8 a s)(h:wpAny W.M W.A t (W.PB L opq m Q s) E s):wpAny W.M W.A t (W.PB L opq m Q a) E s:=
 wpAny_mono h (λ_ _ p=>jR e p) λ_ _ x=>x
theorem gc{Q:Bool->Hp->Prop}{b:Bool}(H:W.H L opq m σ s.heap)(q:Q b σ):W.PB L opq m Q s b s:=⟨σ,s.heap,s.toks,rfl,H,q⟩
theorem qw{e:Expr}{es:List Expr}{env:Env}(h:bC e=false):starEach (e::es) env=(false,eval e env)::starEach es env:=by
 cases e<;>first|rfl|cases h
theorem eG{t:Ct}{env:Env}{n:Cn}{pos:Pos}:∀{xs:XS} {es:List Expr},dq t n xs es=true->(backTo pos (starEach es env)).any (·.1)=false/\(∀e r,es=e::r->starEach es env=(false,eval e env)::starEach r env)
 |.nil,es,h=>cR h ⟨rfl,λ_ _ h=>nomatch h⟩
 |.cons x xs,es,h=>iU h λe r g=>kW g λg1 _ g3=>
  have a:=qw (es:=r) (env:=env) (nt g1)
  have c:=eG (pos:=pos) (env:=env) g3
  ⟨by rw[a];exact(Bool.false_or _).trans c.1,λd f b=>by cases b;exact a⟩
theorem nJ{t:Ct}{f:Value}{first:List Value}{pos:Pos}{P:Heap->Prop}{xs:XS}{es:List Expr}{Q:Value->Shared->Prop}{Qs:List AV->Hp->Prop}(c:dq t n xs es=true)(i:W.SXS n xs es)
  (b:∀h,P h->∃k,(k=Keeper.frame∨k=Keeper.machine∨k=Keeper.boundFrame)/\Looks W.M h (keeperOf f) k) (lv:W.L env n L m opq l) (H:W.H L opq m σ s.heap) (h:kL W.F W.cal xs l σ Qs)
  (k:∀vs as a s',d8 s s'->aF VR vs as->W.H L opq m a s'.heap->Qs as a->P s'.heap/\wpAny W.M W.A (call f (first++vs)) Q E s'):
  wpAny W.M W.A (callWith pos f first (backTo pos (starEach es env)) []) Q E s:=by
 obtain⟨g,d⟩:=eG (pos:=pos) (env:=env) c
 cases es with
 |nil=>
  refine callWith_of rfl b (evalArgs_nil3 ?_)
  cases xs with
  |nil=>exact k [] [] σ s (.refl s) .nil H h
  |cons _ _=>cases c
 |cons e r=>
  refine callWith_of (by rw[g];rfl) b ?_
  have:=yi (i env L m opq l σ s pos Qs E lv H h) k
  rw[d e r rfl]at this ⊢
  exact evalArgs_plain this
theorem jr{f:Value}(h:∀a,f≠.ref a):∀h:Heap,True->∃k,(k=Keeper.frame∨k=Keeper.machine∨k=Keeper.boundFrame)/\Looks W.M h (keeperOf f) k:=λh _=>by
 refine⟨.machine,.inr (.inl rfl),?_⟩
 cases f<;>first|exact Looks.of_pure rfl|exact absurd rfl (h _)
theorem jq{a:Addr}(b:keepIn W.K (.ref a)=true):∀h:Heap,W.K.In h->∃k,(k=Keeper.frame∨k=Keeper.machine∨k=Keeper.boundFrame)/\Looks W.M h (keeperOf (.ref a)) k:=λh X=>keeps_K b h X
theorem Kx(lv:W.L env n L m opq l)(H:W.H L opq m σ s.heap):W.K.In s.heap:=by
 obtain⟨g,b,_,_,a,_,_⟩:=H
 exact(lv.gd.turn b.base).X.keeps a.keep
theorem DZ(o:Obj)(H:W.H L opq m σ s.heap):W.H L opq m σ (s.heap.push o):=by
 obtain⟨g,c,a,D,b,N,R⟩:=H
 exact⟨g,c,a,D,b.push o,N.pushKeep o,R⟩
theorem fI{e:Expr}{x:Value}(h:oS e=false):foldedSetIterable e env x=pure x:=by
 cases e<;>first|rfl|cases h
theorem hK{i:Expr}{o v:Value}(h:f8 i=false):subscripted i false o v=operate [o,v] (getItem o v):=by
 cases i<;>first|rfl|cases h
theorem rN{e:Expr}{op:CmpOp}(h:oS e=false):behindInMarks op e=false:=by
 cases e<;>first|rfl|cases h
theorem zI:∀{a b:List UInt8},(a.map λc=>(c.toNat:Int))=b.map (λc=>(c.toNat:Int))->a=b
 |[],[],_=>rfl
 |[],_::_,h=>by simp at h
 |_::_,[],h=>by simp at h
 |x::a,y::b,h=>by
  simp only[List.map_cons,List.cons.injEq]at h
  have e:x=y:=UInt8.toNat_inj.mp (cW h.1)
  rw[zI h.2,e]
theorem wb{Q:PX}{a i:AV}{e d:Value}{value slice:Expr}(lv:W.L env n L m opq l)(hs:f8 slice=false)(f:VR e a)(k:VR d i)(H:W.H L opq m σ s.heap)(h:oA a i σ Q):
  wpAny W.M W.A (subscriptTail value slice e d) (W.P L opq m Q s) E s:=by
 have g:=nk (prog:=W.prog) (w:=W.w) (A:=W.A) (E:=E) lv.gd.st f k H h
 exact eD (P:=λe=>wpAny W.M W.A (getItem e d) (W.P L opq m Q s) E s->wpAny W.M W.A (subscriptTail value slice e d) (W.P L opq m Q s) E s) f h False.elim (λ_ _ h=>h.elim)
  (λb t _ g=>tail_any (T:="bytes") (PySem.W.typeIs_bytes _ _ _) PySem.W.FB.slot_bytes_getitem.lookup g (hK hs))
  (λa h=>bq (P:=λd=>wpAny W.M W.A (getItem (.ref a) d) (W.P L opq m Q s) E s->wpAny W.M W.A (subscriptTail value slice (.ref a) d) (W.P L opq m Q s) E s) k h λj t h g=>jO h
   (λ_ r ex _=>(H.list lv.gd.st ex).elim λp c=>c.elim λn c=>tail_any (T:="list") ⟨_,c.1,rfl⟩ PySem.F.slot_list_getitem.lookup g (hK hs))
   (λ_ r ex _=>(H.tup lv.gd.st ex).elim λp c=>c.elim λn c=>tail_any (T:="tuple") ⟨_,c.1,rfl⟩ PySem.F.slot_tuple_getitem.lookup g (hK hs))
   λ_ u ex _=>H.dic lv.gd.st ex λq o _ _=>tail_any (T:="dict") (o W.prog W.w).typeIs PySem.F.slot_dict_getitem.lookup g (hK hs)) g
end
end
section
section
variable {W:Wd} {env:Env} {n:Cn} {L:Addr} {m:Str->Option Value} {opq:List (Addr×Obj)} {l:aG} {E:Value->Shared->Prop} {σ:Hp} {s:Shared}
theorem neg_int{i:Int}{t:Tok}{Q:Value->Shared->Prop}(h:∀t,Q (.int (-i) t) {s with toks:=s.toks+1}):wpAny W.M W.A (unaryOp .USub (.int i t)) Q E s:=by
 first
  |exact usub_int (h _)
  |exact PyProof.Rows.neg_int (h _)
  |exact IsLeap.wpAny_neg_int (h _)
theorem xd{v:AV}{i:Int}(h:Ll v i=true):v=.int i:=by
 cases v with
 |int j=>rw[eq_of_beq (show(i==j)=true from h)]
 |_=>cases h
theorem Az{c:Const}{d:Nat}{e:Pos}{v:AV}{Q:PX}(g:Pw v c=true)(H:W.H L opq m σ s.heap)(a:Q v σ):wpAny W.M W.A (eval (.Constant c d e) env) (W.P L opq m Q s) E s:=by
 cases v with
 |none=>exact cg g (Constant_none (aC.same0 H PG a))
 |bool b=>exact cg g (Constant_bool (aC.same0 H (JW _) a))
 |int b=>exact cg g (wpAny_Constant_int (aC.same H (oz _ _) a))
 |bytes b=>exact cg g (Constant_bytes (aC.same H (KC _ _) a))
 |_=>cases g
theorem QL{v:AV}{e:Expr}(c:aX W.t n (.k v) e=true):W.SX n (.k v) e:=
 bor c (λc=>bor c
  (λc=>fq c λk j a g env L m opq l σ s Q E lv H h=>Az g H h)
  (λc=>gb c λo q a g=>gG g λd g=>cg d (fq g λk j u g=>zC g λi g=>by
   obtain rfl:=xd g
   exact λenv L m opq l σ s Q E lv H h=>wpAny_UnaryOp (wpAny_Constant_int (neg_int λt=>⟨_,σ,s.heap,_,rfl,oz _ _,H,h⟩)))))
  λc=>bX c λx a g=>kW g λp f g=>Dt g λi b g=>by
   obtain rfl:=xd g
   exact λenv L m opq l σ s Q E lv H h=>(lv.ok.int _ _ b).elim λr e=>nF lv (nt p) f H e (aC.same0 H (oz _ _) h)
theorem Qn{i:Nat}{e:Expr}(c:aX W.t n (.v i) e=true):W.SX n (.v i) e:=
 bX c λx d g=>gG g λb a env L m opq l σ s Q E lv H h=>zW lv (nt b) (bH a) H h
theorem BQ{o:Expr}{x:Str}{t:Sem Value}(h:(!(o.ctorIdx==16))=true):attributeBase o x env t=t:=by
 cases o with
 |Call _ _ _ _=>cases h
 |_=>rfl
theorem tN{o:Expr}{x:Str}{t:Sem Value}(h:kD o=true):attributeBase o x env t=t:=bor h BQ λh=>gr h λy q b p h=>by
 cases b with
 |cons a b=>rfl
 |nil=>exact(if_pos (by rw[h];rfl)).trans (by first|rfl|exact bind_pure t)
theorem wa{o:Expr}{x:Str}{pos:Pos}{Q:Value->Shared->Prop}(hs:kD o=true)(h:wpAny W.M W.A (eval o env) (λo a=>wpAny W.M W.A (getAttr o x true) Q E a) E s):wpAny W.M W.A (eval (.Attribute o x pos) env) Q E s:=by
 show wpAny W.M W.A (attributeBase o x env (eval o env) >>= λv=>_) Q E s
 rw[tN hs]
 exact wpAny_bind (wpAny_mono h (λv a b=>wpAny_bind (wpAny_standAt (wpAny_bind (wpAny_holding (wpAny_mono b (λr d c=>wpAny_bind (wpAny_letTemporaryGo (wpAny_pure c))) λ_ _ x=>x))))) λ_ _ x=>x)
theorem jS{t:Ct}{xs:XS}{o:Expr}{x:Str}{as:List Expr}{apos pos:Pos}{Q:Value->Shared->Prop}(hs:kD o=true)(p:(apos.endLine==pos.line)=true)(j:as.length<30)(c:dq t n xs as=true)
  (h:∀q,wpAny W.M W.A (eval o env) (λov b=>wpAny W.M W.A (getMethod ov x q) (λf a=>wpAny W.M W.A (callWith pos f.1 f.2 (backTo pos (starEach as env)) []) Q E a) E b) E s):
  wpAny W.M W.A (eval (.Call (.Attribute o x apos) as [] pos) env) Q E s:=by
 obtain⟨i,r⟩:=eG (pos:=pos) (env:=env) c
 have g:methodCallForm (as.length+([]:List Keyword).length) (backTo pos (starEach as env)) []=true:=by
  unfold methodCallForm
  have:(backTo pos (starEach as env)).all (!·.1)=true:=by
   rw[List.all_eq_true]
   intro y k
   rw[List.any_eq_false]at i
   have:=i y k
   simpa using this
  rw[this]
  simpa using j
 show wpAny W.M W.A (attributeBase o x env (eval o env) >>= λov=>_) Q E s
 rw[tN hs]
 refine wpAny_bind (wpAny_mono (h (do return(←importBound o env).getD true)) (λv b d=>wpAny_bind (wpAny_standAt ?_)) λ_ _ x=>x)
 unfold methodCall
 rw[show backToKw pos (keywordEach [] env)=[]from rfl,g]
 refine wpAny_bind (wpAny_holding ?_)
 unfold calleeOf
 rw[if_pos rfl]
 refine wpAny_mono d (λf a e=>wpAny_bind ?_) λ_ _ x=>x
 unfold methodCallPos
 rw[if_pos (by rw[p];rfl)]
 exact wpAny_pure e
theorem wj{C:Addr}{pos:List Value}{kw:List (Str×Value)}:Fp W.A (W.A.under (.builtin "type.__call__" ⟨.ref C::pos,kw⟩)):=by
 have b:Code.weight (.builtin "type.__call__" ⟨.ref C::pos,kw⟩)<=2:=by
  have:Code.weight (.builtin "type.__call__" ⟨.ref C::pos,kw⟩)=1:=by kernel_rfl
  exact Nat.le_succ (Code.builtin "type.__call__" {pos:=Value.ref C::pos,kw:=kw}).weight
 have a:Code.cUnits (.builtin "type.__call__" ⟨.ref C::pos,kw⟩)<=10:=by
  have:Code.cUnits (.builtin "type.__call__" ⟨.ref C::pos,kw⟩)=1:=by kernel_rfl
  exact Nat.le_add_left (Code.builtin "type.__call__" {pos:=Value.ref C::pos,kw:=kw}).cUnits 9
 exact⟨rfl,rfl,Nat.add_le_add_left b _,Nat.add_le_add_left a _⟩
theorem u6{a:Around}{f:Addr}{as:List AV}{vs:List Value}{Q:PX}(lv:W.L env n L m opq l)(b:n.lf=false)(sb:Fp W.A a)(h:W.cal f as σ Q)(r:aF VR vs as)(H:W.H L opq m σ s.heap):
  wpAny W.M a (call (.ref f) vs) (W.P L opq m Q s) E s:=
 wpAny_call (lv.ca b a f as vs σ s opq m Q _ sb h r H λv c p=>p)
theorem uu{G:Heap}{y:Addr}(a:cE W.hb W.h₀ G)(e:G.get? y=none):W.hb.get? y=none:=by
 cases q:W.hb.get? y with
 |none=>rfl
 |some o=>have:=a.base _ _ q;rw[e]at this;cases this
theorem allocI{G h':Heap}{c:Nat}{x b:Addr}{a:List (Addr×Obj)}{D:Addr->Addr}(e:cE W.hb W.h₀ G)(R:HR W.T σ W.hb a D opq)(j:Fr G L h' m)(d:News G L h' ((x,instObj (W.T.ca c) b)::(b,dictOf [] 0)::a))(f:∀p∈a,p.1<b)(h:b<x):
  W.H L opq m (upd σ x (false,.inst c [])) h'/\σ x=none:=
 have g:=uu e (d _ (.head _)).2.2
 ⟨⟨G,e,_,_,j,d,R.allocI f h (uu e (d _ (.tail _ (.head _))).2.2) g⟩,R.fresh (λp i=>Nat.ne_of_lt (Nat.lt_trans (f p i) h)) g⟩
theorem BA{c:Nat}{x:Str}{as:List AV}{vs:List Value}{Q:PX}(lv:W.L env n L m opq l)(I:n.lf=false)(U:W.t.ki.lookup x=some c)(r:aF VR vs as)(H:W.H L opq m σ s.heap)
  (h:∀r,σ r=none->ei (W.F.mi c) (λg=>W.cal (W.F.fa g) (.ref r::as) (upd σ r (false,.inst c [])) λv f=>Di v (Q (.ref r) f)) (as=[]/\Q (.ref r) (upd σ r (false,.inst c [])))):
  wpAny W.M W.A (call (.ref (W.T.ca c)) vs) (W.P L opq m Q s) E s:=by
 obtain⟨k1,k2,k3,k4,k5⟩:=lv.ok.cl _ _ U
 refine H.casesOn λG i B D w N R=>?_
 cases z:W.F.mi c with
 |some g=>
  rw[z]at k4 h
  exact call_cls w (lv.gd.turn i.base).X N k3 k4 (k5 g z) λx K u y j b d=>
   have a:=allocI i R y j b d
   lv.ca I _ _ _ _ _ {s with heap:=u} opq m _ _ wj (h x a.2) (.cons rfl r) a.1 λv s' p=>p.casesOn λa k V Z e Y r2 J=>tD Y J λq=>⟨rfl,.ref x,k,V,Z,e,rfl,r2,q⟩
 |none=>
  rw[z]at k4 h
  have has:vs=[]:=by
   have e:as=[]:=(h s.heap.objs.size (R.fresh (λp O=>Nat.ne_of_lt (Heap.lt_size (N p O).1)) (by
    cases q:W.hb.get? s.heap.objs.size with
    |none=>rfl
    |some o=>exact absurd (Heap.lt_size (w.keep _ _ (i.base _ _ q))) (Nat.lt_irrefl _)))).1
   rw[e]at r
   cases r;rfl
  rw[has]
  exact call_cls0 w (lv.gd.turn i.base).X N k3 k4 λx K u y j b d=>
   have a:=allocI i R y j b d
   ⟨.ref x,_,u,s.toks,rfl,rfl,a.1,(h x a.2).2⟩
theorem Do{Q:List AV->Hp->Prop}(H:W.H L opq m σ s.heap)(q:Q [] σ):W.PL L opq m Q s [] s:=⟨[],σ,s.heap,s.toks,rfl,.nil,H,q⟩
theorem MV{o:X}{f:Nat}{e:Expr}(c:aX W.t n (.at o f) e=true)(d:∀e,aX W.t n o e=true->W.SX n o e):W.SX n (.at o f) e:=
 dc c λy x w g=>kW g λk j p env L m opq l σ s Q E lv H h=>
  wa k (aN (d _ p env L m opq l σ s _ E lv H h) λv a b u e r q i=>gy e (mR lv.ok lv.gd.Xb lv.gd.st (bH j) r q i))
theorem FE{o:BO}{a b:X}{e:Expr}(c:aX W.t n (.bin o a b) e=true)(D:∀e,aX W.t n a e=true->W.SX n a e)(k:∀e,aX W.t n b e=true->W.SX n b e):W.SX n (.bin o a b) e:=
 sR c λJ R O N g=>kW g λz w A=>cg z λenv L m opq l σ s Q E lv H h=>
  wpAny_BinOp (aN (D _ w env L m opq l σ s _ E lv H h) λv x d p e r I u=>aN (k _ A env L m opq l d p _ E lv I u) λK y j G q B i f=>gy (e.trans q) (vm lv.gd.st r B i f))
theorem CH{o:CO}{a b:X}{e:Expr}(c:aX W.t n (.cmp o a b) e=true)(G:∀e,aX W.t n a e=true->W.SX n a e)(k:∀e,aX W.t n b e=true->W.SX n b e):W.SX n (.cmp o a b) e:=
 je c λK os R O g=>dP g λV g=>dP g λU g=>Af g λz B w A=>cg z λenv L m opq l σ s Q E lv H h=>
  wpAny_Compare1 (aN (G _ w env L m opq l σ s _ E lv H h) λv x d p e r J u=>aN (k _ A env L m opq l d p _ E lv J u) λN y j I q D i f=>gy (e.trans q) (oJ lv.gd.st lv.gd.un r D i f)) (rN (nt B))
theorem K8{a b:X}{e:Expr}(c:aX W.t n (.orX a b) e=true)(w:∀e,aX W.t n a e=true->W.SX n a e)(k:∀e,aX W.t n b e=true->W.SX n b e):W.SX n (.orX a b) e:=
 gI c λB j z g=>gG g λp g=>cg p (sw g λy A g=>gG g λu q env L m opq l σ s Q E lv H h=>
  BoolOp_or (aN (w _ u env L m opq l σ s _ E lv H h) λv x f o e r i d=>E4 r d λb d=>wpAny_truthy_bool (by
   cases b with
   |true=>rw[if_pos rfl];exact lX e (aC.same0 i (JW _) (d.1 rfl))
   |false=>rw[if_neg Bool.false_ne_true];exact BoolOp_one (gy e (k _ q env L m opq l f o Q E lv i (d.2 rfl))))))
theorem Ib{f:C}{a b:X}{e:Expr}(c:aX W.t n (.ite f a b) e=true)(p:∀e,tW W.t n f e=true->W.SC n f e)(v:∀e,aX W.t n a e=true->W.SX n a e)(o:∀e,aX W.t n b e=true->W.SX n b e):W.SX n (.ite f a b) e:=
 sM c λx w z y g=>kW g λr q u env L m opq l σ s Q E lv H h=>
  IfExp_ (jE (p _ r env L m opq l σ s _ E lv H h) λb d i e k j=>by
   cases b with
   |true=>rw[if_pos rfl];exact gy e (v _ q env L m opq l d i Q E lv k (j.1 rfl))
   |false=>rw[if_neg Bool.false_ne_true];exact gy e (o _ u env L m opq l d i Q E lv k (j.2 rfl)))
theorem Id{a i:X}{e:Expr}(c:aX W.t n (.sub a i) e=true)(B:∀e,aX W.t n a e=true->W.SX n a e)(k:∀e,aX W.t n i e=true->W.SX n i e):W.SX n (.sub a i) e:=
 bJ c λJ I N g=>kW g λw u z env L m opq l σ s Q E lv H h=>
  Subscript_ (aN (B _ u env L m opq l σ s _ E lv H h) λv x b o e r G q=>aN (k _ z env L m opq l b o _ E lv G q) λK y j D p A f d=>gy (e.trans p) (wb lv (nt w) r A f d))
theorem Ii{es:XS}{e:Expr}(c:aX W.t n (.lst es) e=true)(o:∀e,dq W.t n es e=true->W.SXS n es e):W.SX n (.lst es) e:=
 vz c λf A g env L m opq l σ s Q E lv H h=>List_ (yi (o _ g env L m opq l σ s _ _ E lv H h) λy x k w e r v a=>v.casesOn λg p b D q N R=>
  newList_K q N (λd z u j i=>lX e (HS.newL (n:=0) p R u j i rfl r a.2)) (wv r.length a.1))
theorem G7{es:XS}{e:Expr}(c:aX W.t n (.tup es) e=true)(x:∀e,dq W.t n es e=true->W.SXS n es e):W.SX n (.tup es) e:=
 iX c λi G I g env L m opq l σ s Q E lv H h=>Tuple_ (yi (x _ g env L m opq l σ s _ _ E lv H h) λv u k q e r B d=>B.casesOn λg y f D z N R=>
  newTuple_N z N (λw A j=>
   have a:=HS.alloc (fz:=true) (o:=.tup u) y R A j (λp b=>Heap.lt_size (N p b).1) (λP b=>⟨v,0,b,r⟩) Ld
   lX e ⟨.ref _,_,w,q.toks,rfl,rfl,a.1,d.2 _ a.2⟩) (wv r.length d.1))
theorem GC{e:Expr}(c:aX W.t n .dic e=true):W.SX n .dic e:=
 vD c λz v A g=>gG g λq g1=>cR q (cR g1 λenv L m opq l σ s Q E lv H h=>H.casesOn λg b f D x N R=>
  newDict_K x N (lv.gd.turn b.base).lim λd u o y j i lo _ _ k _=>
   have a:=HS.alloc (fz:=false) (o:=.dict []) b R y j i (λP r=>⟨o,[],r,.nil,λp w=>nC k p w,beq_eq_false_iff_ne.mp lo⟩) BK
   ⟨.ref d,_,u,s.toks,rfl,rfl,a.1,h _ a.2⟩)
theorem MU{f:Nat}{es:XS}{e:Expr}(c:aX W.t n (.fn f es) e=true)(w:∀e,dq W.t n es e=true->W.SXS n es e):W.SX n (.fn f es) e:=
 gr c λx A q p g=>wK g λu o v d a env L m opq l σ s Q E lv H h=>
  have k:=lv.ok.fn _ _ (bH d)
  Call_ (nF lv (nt o) v H k.1 (nJ a (w _ a) (jq k.2) lv H h λz q i y e r b j=>⟨Kx lv b,gy e (u6 lv (nt u) (.refl _) j r b)⟩))
theorem LP{f:Nat}{es:XS}{e:Expr}(c:aX W.t n (.mk f es) e=true)(w:∀e,dq W.t n es e=true->W.SXS n es e):W.SX n (.mk f es) e:=
 gr c λx A q p g=>wK g λu o v a b env L m opq l σ s Q E lv H h=>
  have k:=lv.ok.cl _ _ (bH a)
  Call_ (nF lv (nt o) v H k.1 (nJ b (w _ b) (jq k.2.1) lv H h λz q i y e r d j=>⟨Kx lv d,gy e (BA lv (nt u) (bH a) r d j)⟩))
theorem jA{T:Tb}{x:Str}{b:List DictEntry}{fs:List (Nat×AV)}(r:aF (FR T) b fs)(h:∀p∈fs,T.an p.1≠x):getL x b=some none:=by
 induction r with
 |nil=>rfl
 |cons a r c=>
  rename_i e p o i
  obtain⟨j,⟨t,f⟩,k⟩:=a
  have c:=c λq d=>h q (.tail _ d)
  have g:(T.an p.1==x)=false:=by simpa using h p (.head _)
  unfold getL at c ⊢
  simp only[List.find?_cons,List.any_cons,f,Value.isStr,DictEntry.refKey,Bool.false_or,g]
  exact c
theorem G6{o:X}{g:Nat}{es:XS}{e:Expr}(c:aX W.t n (.mth o g es) e=true)(O:∀e,aX W.t n o e=true->W.SX n o e)(ia:∀e,dq W.t n es e=true->W.SXS n es e):W.SX n (.mth o g es) e:=
 ui c λo0 x ap U p g=>OG g λY R Z A J G j env L m opq l σ s Q E lv H h=>
  jS Y R (of_decide_eq_true Z) j λpl=>aN (O _ G env L m opq l σ s _ E lv H h) λv a D s' e r u b=>b8 r b λa b=>CR b λ_ c0 fs ex b=>dh b λf K b=>by
   have k:=lv.ok.mth _ _ (bH J) _ _ K
   obtain⟨d,z,nn,I,B⟩:=HS.inst lv.gd.st u ex
   refine u.casesOn λg tu _ _ Fh _ _=>method_inst Fh (lv.gd.turn tu.base).X I k.1.pg k.2.1 k.2.2.1 (jA B λp V e=>?_) (nJ j (ia _ j) (jq k.2.2.2) lv u b.2 λvs U w β N r' i q=>⟨Kx lv i,gy (e.trans N) (u6 lv (nt A) (.refl _) q (.cons rfl r') i)⟩)
   have y:=(lv.ok.fld _ _ (kY b.1 p V)).2.2
   rw[e,k.2.1]at y
   cases y
theorem wC{b:BF}(h:Co b=true):b=.len:=by cases b<;>first|rfl|cases h
theorem Ap{v:Value}(h:(v.ctorIdx==(Value.ref 0).ctorIdx)=false):∀a,v≠.ref a:=λa e=>fT (h.symm.trans (by rw[e];rfl))
theorem Ew(b:BF):∀a,KV b≠.ref a:=Ap (by cases b<;>rfl)
theorem DX(b:BM):∀a,MP b≠.ref a:=Ap (by cases b<;>rfl)
theorem K7{b:BF}{es:XS}{e:Expr}(c:aX W.t n (.bi b es) e=true)(w:∀e,dq W.t n es e=true->W.SXS n es e):W.SX n (.bi b es) e:=
 gr c λx A k p g=>Af g λo v a d=>by
  obtain rfl:=eq_of_beq o
  exact wK a λa u _ _ _ env L m opq l σ s Q E lv H h=>Call_ (nP lv (nt a) u H (lv.ok.bi b) (AZ b) (Aw b) (nJ (P:=λ_=>True) d (w _ d) (jr (Ew b)) lv H h λz k j y e r i f=>⟨trivial,gy e (bor v
   (λq=>by obtain rfl:=wC q;exact oT lv.gd.st r i f) λq=>yp lv.gd.st (lv.hh (nt q)) r i f)⟩))
theorem MK{b:BM}{o:X}{es:XS}{e:Expr}(c:aX W.t n (.bm b o es) e=true)(N:∀e,aX W.t n o e=true->W.SX n o e)(Z:∀e,dq W.t n es e=true->W.SXS n es e):W.SX n (.bm b o es) e:=
 ui c λo' x ap R p g=>Fn g λU O V G I q=>by
  obtain rfl:=eq_of_beq G
  exact λenv L m opq l σ s Q E lv H h=>jS U O (of_decide_eq_true V) q λpl=>aN (N _ I env L m opq l σ s _ E lv H h) λv a k J e r A i=>b8 r i λa i=>by
   have fin:=nJ (f:=MP b) (first:=[.ref a]) (pos:=p) (E:=E) (P:=λ_=>True) q (Z _ q) (jr (DX b)) lv A i.2 λj R B γ K Y y u=>⟨trivial,gy (e.trans K) (qp lv.gd.st Y y u)⟩
   have z:cL (k a) (λ_=>True)->∃j n,J.heap.get? a=some (jz j n):=λh=>uQ h λ_ xs ex _=>(A.list lv.gd.st ex).elim λj d=>d.elim λn d=>⟨j,n,d.1⟩
   cases b with
   |get=>exact yT i.1 λ_ es ex _=>A.dic lv.gd.st ex λβ D _ _=>getMethod_builtin (D W.prog W.w).typeIs PySem.F.plainAttrs_dict PySem.F.slot_dict_get PySem.F.type_dict_get (D W.prog W.w).mapOf.noDict fin
   |append=>exact(z i.1).elim λj d=>d.elim λn g1=>getMethod_builtin (T:="list") ⟨_,g1,rfl⟩ PySem.F.plainAttrs_list PySem.F.slot_list_append PySem.F.type_list_append (λa e=>by cases e;exact⟨_,g1,rfl⟩) fin
   |insert=>exact(z i.1).elim λj d=>d.elim λn g1=>getMethod_builtin (T:="list") ⟨_,g1,rfl⟩ PySem.F.plainAttrs_list PySem.F.slot_list_insert PySem.F.type_list_insert (λa e=>by cases e;exact⟨_,g1,rfl⟩) fin
   |pop=>exact(z i.1).elim λj d=>d.elim λn g1=>getMethod_builtin (T:="list") ⟨_,g1,rfl⟩ PySem.F.plainAttrs_list PySem.F.slot_list_pop PySem.F.type_list_pop (λa e=>by cases e;exact⟨_,g1,rfl⟩) fin
theorem lR{a:Addr}{fz:Bool}{xs:List AV}{lo hi:Value}{d f:Option Int}{value slice:Expr}{ys:List AV}{Q:PX}(lv:W.L env n L m opq l)(H:W.H L opq m σ s.heap)(ex:σ a=some (fz,.list xs))(w:xs.length<=line)
  (y:IsPart lo d) (z:IsPart hi f) (b:∀o v,subscripted slice false o v=operate [v,o] (getItem o v))
  (t:∀vs:List Value,aF VR vs xs->aF VR (slicePick vs.toArray d f none).toList ys) (h:∀c,σ c=none->Q (.ref c) (upd σ c (false,.list ys))):
  wpAny W.M W.A (subscriptTail value slice (.ref a) (.ref s.heap.objs.size)) (W.P L opq m Q s) E {s with heap:=s.heap.push {cls:=.type "slice",data:=.fields #[lo,hi,.none]}}:=by
 have q:W.H L opq m σ (s.heap.push {cls:=.type "slice",data:=.fields #[lo,hi,.none]}):=DZ _ H
 obtain⟨vs,B,g1,i⟩:=HS.list (s:={s with heap:=s.heap.push {cls:=.type "slice",data:=.fields #[lo,hi,.none]}}) lv.gd.st q ex
 have x:=i.length
 refine tail_any (T:="list") ⟨_,g1,rfl⟩ PySem.F.slot_list_getitem.lookup ?_ (b _ _)
 refine wpAny_getItem_list_slice (aL g1) (Heap.IsSliceOf.new _ _ _ _) y z .none (λe=>oQ e) ?_ (wv x w)
 exact q.casesOn λg u k D j N R=>HS.newL (n:=0) (vs:=(slicePick vs.toArray d f none).toList) u R (j.push _) (N.push j _) (λp r=>Heap.lt_size (N p r).1) (by simp) (t vs i) h
end
end
section
section
variable {W:Wd} {env:Env} {n:Cn} {L:Addr} {m:Str->Option Value} {opq:List (Addr×Obj)} {l:aG} {E:Value->Shared->Prop} {σ:Hp} {s:Shared}
theorem vq{value:Expr}{b:Array UInt8}{t:Tok}{r:Value}:letTemporaryGo value (.bytes b t) r=pure ():=by cases value<;>rfl
theorem qr{k:Int}{z:Nat}(h:0<=k):clipAt z k=min k.toNat z:=by
 obtain⟨a,rfl⟩:∃a:Nat,k=a:=⟨k.toNat,tn h⟩
 rw[clipAt_nat];simp
theorem oU{a:Type}{l:List a}{k:Int}{z:Nat}(h:0<=k)(e:z=l.length):List.take (clipAt z k) l=l.take k.toNat:=by
 rw[qr h,e,←List.take_eq_take_min]
theorem vO{a:Type}{l:List a}{k:Int}(h:0<=k):List.take (l.length-clipAt l.length k) (List.drop (clipAt l.length k) l)=l.drop k.toNat:=by
 rw[qr h,List.take_of_length_le (by rw[List.length_drop];exact Nat.le_refl _)]
 by_cases q:k.toNat<=l.length
 ·rw[Nat.min_eq_left q]
 ·have q:=Nat.le_of_lt (Nat.lt_of_not_le q)
  rw[Nat.min_eq_right q,List.drop_length,List.drop_of_length_le q]
theorem vC{b q:List UInt8}{k:Int}(h:0<=k)(a:(q.map λc=>(c.toNat:Int))=List.take (clipAt (b.map λc=>(c.toNat:Int)).length k) (b.map λc=>(c.toNat:Int))):q=b.take k.toNat:=
 zI (by rw[a,oU h rfl,List.map_take])
theorem E6{a i:X}{e:Expr}(c:aX W.t n (.upto a i) e=true)(ia:∀e,aX W.t n a e=true->W.SX n a e)(O:∀e,aX W.t n i e=true->W.SX n i e):W.SX n (.upto a i) e:=
 bJ c λa0 sl p0 g=>nO g λlo hi st p1 g=>kW g λJ V g3=>fJ J (fJ V (sK g3 λb0 g=>gG g λc1 Z env L m opq l σ s Q E lv H h=>
  Subscript_ (aN (ia _ c1 env L m opq l σ s _ E lv H h) λv x o A e r H' Y=>wpAny_Slice (by
   rw[evalPart_none,evalPart_some]
   refine wpAny_pure (aN (O _ Z env L m opq l o A _ E lv H' Y) λv' y d β B G j q=>wpAny_pure ?_)
   refine eD r q False.elim (λ_ _ h=>h.elim) (λb u h=>bq G h λk w h=>?_) λa h=>bq G h λk w h=>uQ h λz xs ex h=>?_
   ·refine j.casesOn λg tu f D Fh N R=>KBc.slice_K Fh N rfl .none (.int k w) (Nat.le_trans (by rw[KBw.bInts,List.length_map];exact h.1.1) (by decide)) (λh5 t' kk F' I U=>?_) rfl (λr=>vq)
    exact lX (e.trans B) ⟨.bytes (b.take k.toNat),d,h5,kk,rfl,vC h.1.2.1 U,⟨g,tu,f,D,F',I,R⟩,h.2⟩
   ·refine wpAny_mono (lR lv j ex h.1.1 .none (.int k w) (λ_ _=>rfl) (λvs K=>?_) h.2) (λv A p=>lX (e.trans B) p) λ_ _ x=>x
    rw[slicePick_plain]
    exact(oU (l:=vs) h.1.2.1 rfl).symm▸K.take _))))
theorem Gk{a i:X}{e:Expr}(c:aX W.t n (.frm a i) e=true)(O:∀e,aX W.t n a e=true->W.SX n a e)(w:∀e,aX W.t n i e=true->W.SX n i e):W.SX n (.frm a i) e:=
 bJ c λV Y p0 g=>nO g λlo Z st p1 g=>kW g λq B g3=>fJ q (fJ B (sK g3 λb0 g=>gG g λI G env L m opq l σ s Q E lv H h=>
  Subscript_ (aN (O _ I env L m opq l σ s _ E lv H h) λv x b j e r U D=>wpAny_Slice (by
   rw[evalPart_none,evalPart_some]
   refine aN (w _ G env L m opq l b j _ E lv U D) λv' y o R A K f d=>wpAny_pure (wpAny_pure ?_)
   refine b8 r d λa h=>bq K h λk N h=>uQ h λz xs ex h=>wpAny_mono (lR lv f ex h.1.1 (.int k N) .none (λ_ _=>rfl) (λJ u=>?_) h.2) (λv j p=>lX (e.trans A) p) λ_ _ x=>x
   rw[slicePick_plain]
   exact(vO (l:=J) h.1.2.1).symm▸u.drop _))))
theorem zY{e:Expr}{env:Env}{whole:Sem Value}(h:(oC e&&!(e.ctorIdx==15))=true):isTrue e env whole=(do let v ←whole;standAt e.pos;holding [v] (truthy v)):=by
 cases e<;>first|rfl|cases h
theorem oX{Q:Bool->Hp->Prop}{v:Value}{a:AV}{c:Hp}{s':Shared}(lv:W.L env n L m opq l)(e:d8 s s')(r:VR v a)(d:W.H L opq m c s'.heap)(h':mh a c (λb=>Q b c)):wpAny W.M W.A (truthy v) (W.PB L opq m Q s) E s':=
 q8 (R:=W.PB L opq m Q s) lv.gd.st r d h' λb f q=>jR e ⟨c,s'.heap,f,rfl,d,q⟩
theorem zN{x:X}(h:Cy x=true):∃o a b,x=.cmp o a b:=X.cmp.elim (motive_1:=λx=>∃o a b,x=.cmp o a b) x (eq_of_beq h) λo a b=>⟨o,a,b,rfl⟩
theorem o6{x:X}{e:Expr}(c:tW W.t n (.t x) e=true)(U:∀e,aX W.t n x e=true->W.SX n x e)
  (D:∀o a b,x=.cmp o a b->(∀e,aX W.t n a e=true->W.SX n a e)/\(∀e,aX W.t n b e=true->W.SX n b e)):W.SC n (.t x) e:=
 kW c λg2 g3 g1=>bor g3
  (λf=>(zN f).elim λo h=>h.elim λZ h=>h.elim λy u=>by
   have z:=D o Z y u
   subst u
   exact je g1 λa0 os bs p0 g=>dP g λo0 g=>dP g λb0 g=>Af g λI K G J=>cg I λenv L m opq l σ s Q E lv H h=>
    wpAny_isTrue_Compare1 (aN (z.1 _ G env L m opq l σ s _ E lv H h) λv x d q e r p j=>aN (z.2 _ J env L m opq l d q _ E lv p j) λv' y w V B N k i=>
     aN (oJ (Q:=λa σ=>mh a σ λb=>Q b σ) lv.gd.st lv.gd.un r N k i) λv2 a2 Y s3 R A H3 O=>oX lv ((e.trans B).trans R) A H3 O) (rN (nt K)))
  λf env L m opq l σ s Q E lv H h=>isTrue_plain (aN (U _ g1 env L m opq l σ s _ E lv H h) λv a d q e r p j=>oX lv e r p j) (zY (by rw[g2,f];rfl))
theorem FP{a:C}{e:Expr}(c:tW W.t n (.not a) e=true)(f:∀e,tW W.t n a e=true->W.SC n a e):W.SC n (.not a) e:=
 gb c λq o p g=>gG g λg1 g2=>cg g1 λenv L m opq l σ s Q E lv H h=>isTrue_not (jE (f _ g2 env L m opq l σ s _ E lv H h) λb d k e j i=>jR e (gc j i))
theorem wX{es:List Expr}:∀{a:CS},W.SCS n a es->∀env L m opq l σ s pos whole Q E,W.L env n L m opq l->W.H L opq m σ s.heap->qB W.F W.cal a l σ Q->
  wpAny W.M W.A (isTrue (.BoolOp .And es pos) env whole) (W.PB L opq m Q s) E s:=by
 induction es with
 |nil=>
  intro a i env L m opq l σ s pos whole Q E lv H h
  cases a with
  |nil=>exact isTrue_and_nil (gc H h)
  |cons _ _=>exact i.elim
 |cons e es k=>
  intro a i env L m opq l σ s pos whole Q E lv H h
  cases a with
  |nil=>exact i.elim
  |cons c a=>
   refine isTrue_and (jE (i.1 env L m opq l σ s _ E lv H h) λb d j e g f=>?_)
   cases b with
   |true=>rw[if_pos rfl];exact zc e (k i.2 env L m opq l d j pos whole Q E lv g (f.1 rfl))
   |false=>rw[if_neg Bool.false_ne_true];exact jR e (gc g (f.2 rfl))
theorem Ay{es:List Expr}:∀{a:CS},W.SCS n a es->∀env L m opq l σ s pos whole Q E,W.L env n L m opq l->W.H L opq m σ s.heap->A9 W.F W.cal a l σ Q->
  wpAny W.M W.A (isTrue (.BoolOp .Or es pos) env whole) (W.PB L opq m Q s) E s:=by
 induction es with
 |nil=>
  intro a i env L m opq l σ s pos whole Q E lv H h
  cases a with
  |nil=>exact isTrue_or_nil (gc H h)
  |cons _ _=>exact i.elim
 |cons e es k=>
  intro a i env L m opq l σ s pos whole Q E lv H h
  cases a with
  |nil=>exact i.elim
  |cons c a=>
   refine isTrue_or (jE (i.1 env L m opq l σ s _ E lv H h) λb d j e g f=>?_)
   cases b with
   |true=>rw[if_pos rfl];exact jR e (gc g (f.1 rfl))
   |false=>rw[if_neg Bool.false_ne_true];exact zc e (k i.2 env L m opq l d j pos whole Q E lv g (f.2 rfl))
theorem Gh{a:CS}{e:Expr}(c:tW W.t n (.and a) e=true)(d:∀es,kM W.t n a es=true->W.SCS n a es):W.SC n (.and a) e:=
 gI c λi b f g=>gG g λg1 g2=>cg g1 λenv L m opq l σ s Q E lv H h=>wX (d _ g2) env L m opq l σ s _ _ Q E lv H h
theorem HY{a:CS}{e:Expr}(c:tW W.t n (.or a) e=true)(d:∀es,kM W.t n a es=true->W.SCS n a es):W.SC n (.or a) e:=
 gI c λi b f g=>gG g λg1 g2=>cg g1 λenv L m opq l σ s Q E lv H h=>Ay (d _ g2) env L m opq l σ s _ _ Q E lv H h
theorem l5{es:List Expr}(c:dq W.t n .nil es=true):W.SXS n .nil es:=cR c λenv L m opq l σ s pos Q E lv H h=>spliced_none (Do H h)
theorem Bj{Q:List AV->Hp->Prop}{vs:List Value}{v:Value}{a:AV}{s':Shared}(r:VR v a)(p:W.PL L opq m (λvs σ=>Q (a::vs) σ) s vs s'):W.PL L opq m Q s (v::vs) s':=p.casesOn λf b g d e c H q=>⟨a::f,b,g,d,e,.cons r c,H,q⟩
theorem iz{x:X}{xs:XS}{es:List Expr}(c:dq W.t n (.cons x xs) es=true)(q:∀e,aX W.t n x e=true->W.SX n x e)(d:∀es,dq W.t n xs es=true->W.SXS n xs es):W.SXS n (.cons x xs) es:=
 iU c λw r g=>kW g λk j o env L m opq l σ s pos Q E lv H h=>by
  rw[qw (nt k)]
  exact spliced_cons (aN (q _ j env L m opq l σ s _ E lv H h) λv a b f e r u i=>wpAny_mono (Ge e (d _ o env L m opq l b f pos _ E lv u i)) (λ_ _ p=>Bj r p) λ_ _ x=>x)
end
end
section
noncomputable def eQ(a:Addr)(ob:Obj)(o:List (Addr×Obj)):List (Addr×Obj):=o.map λp=>if p.1=a then(a,ob) else p
theorem eB{a:Addr}{ob ob':Obj}{o:List (Addr×Obj)}(h:(a,ob)∈o):(a,ob')∈eQ a ob' o:=by
 refine dg ⟨_,h,?_⟩
 rw[if_pos rfl]
theorem bg{a:Addr}{ob':Obj}{o:List (Addr×Obj)}{p:Addr×Obj}(h:p∈o)(n:p.1≠a):p∈eQ a ob' o:=by
 refine dg ⟨_,h,?_⟩
 rw[if_neg n]
noncomputable def cy(a:Addr)(o:List (Addr×Obj)):List (Addr×Obj):=o.filter λp=>decide (p.1≠a)
theorem aA{a:Addr}{o:List (Addr×Obj)}{p:Addr×Obj}:p∈cy a o↔p∈o/\p.1≠a:=by simp[cy]
section
variable {T:Tb} {σ:Hp} {U:Heap} {Z:List (Addr×Obj)} {D:Addr->Addr} {opq:List (Addr×Obj)}
theorem HR.opq_new(R:HR T σ U Z D opq){a:Addr}{ob:Obj}(d:∀p∈Z,p.1≠a)(g:U.get? a=none):HR T σ U ((a,ob)::Z) D ((a,ob)::opq) where
 nd:=iC d R.nd
 ob:=λb j o e=>(R.ob _ _ _ e).mono (λ_ _ _=>rfl) λx i h=>h.imp (.tail _) id
 dj:=R.dj
 ij:=R.ij
 oq:=λp f=>(au f).elim (λe=>by rw[e];exact⟨.head _,R.fresh d g,λx j c k e=>R.dfresh d g e⟩) λf=>have q:=R.oq p f;⟨.tail _ q.1,q.2⟩
theorem HR.opq_sub(R:HR T σ U Z D opq){o:List (Addr×Obj)}(h:∀p∈o,p∈opq):HR T σ U Z D o:=⟨R.nd,R.ob,R.dj,R.ij,λp a=>R.oq p (h p a)⟩
theorem HR.opq_set(R:HR T σ U Z D opq){a:Addr}{ob ob':Obj}(f:(a,ob)∈opq):HR T σ U (qh a ob' Z) D (eQ a ob' opq) where
 nd:=by rw[pC];exact R.nd
 ob:=λb g o e=>have q:=R.oq _ f;(R.ob _ _ _ e).mv (λ_ h=>h.imp (λh=>bW h λk=>cF q.2.1 ((show b=a from k)▸e)) id) λc j i=>⟨rfl,λ_ h=>h.imp (λh=>bW h (q.2.2 _ g c j (i▸e))) id⟩
 dj:=R.dj
 ij:=R.ij
 oq:=λp u=>(bw u).elim λq d=>have r:=R.oq _ f;have t:=R.oq q d.1;
  if hqa:q.1=a then(d.2.symm.trans (if_pos hqa)).symm▸⟨mG r.1,r.2⟩ else(d.2.symm.trans (if_neg hqa)).symm▸⟨bW t.1 hqa,t.2⟩
theorem HR.opq_drop(R:HR T σ U Z D opq){a:Addr}{ob:Obj}(i:(a,ob)∈opq):HR T σ U (cy a Z) D (cy a opq) where
 nd:=List.Nodup.sublist (List.Sublist.map _ (List.filter_sublist)) R.nd
 ob:=λb j o e=>have q:=R.oq _ i;(R.ob _ _ _ e).mv (λ_ h=>h.imp (λh=>aA.mpr ⟨h,λk=>cF q.2.1 ((show b=a from k)▸e)⟩) id) λc f d=>⟨rfl,λ_ h=>h.imp (λh=>aA.mpr ⟨h,q.2.2 _ j c f (d▸e)⟩) id⟩
 dj:=R.dj
 ij:=R.ij
 oq:=λp g=>have h:=aA.mp g;have q:=R.oq p h.1;⟨aA.mpr ⟨q.1,h.2⟩,q.2⟩
theorem HR.reveal(R:HR T σ U Z D opq){a:Addr}{ob:Obj}{fz:Bool}{o:AO}(f:(a,ob)∈opq)(d:∀P:Addr->Obj->Prop,P a ob->OR T D P a o)(hi:∀c fs,o≠.inst c fs):HR T (upd σ a (fz,o)) U Z D (cy a opq):=
 have q:=R.oq _ f
 R.putIn R.nd (d _ (.inl q.1)) hi q.2.2 (λ_ _ _ _ e=>R.ob _ _ _ e) λp b=>have h:=aA.mp b;⟨h.1,h.2,(R.oq p h.1).1⟩
end
section
variable {T:Tb} {σ:Hp} {U h₀ h h':Heap} {L:Addr} {m:Str->Option Value} {opq:List (Addr×Obj)}
theorem pY(st:U.StaysIn h₀){a:Addr}(h:h₀.get? a=none):U.get? a=none:=by
 cases q:U.get? a with
 |none=>rfl
 |some o=>have:=st _ _ q;rw[h]at this;cases this
theorem HS.opq_get(H:HS T U h₀ L opq m σ h){p:Addr×Obj}(a:p∈opq):h.get? p.1=some p.2/\p.1≠L/\h₀.get? p.1=none:=by
 obtain⟨g,b,Z,D,F,N,R⟩:=H
 have q:=N _ (R.oq _ a).1
 exact⟨q.1,q.2.1,b.un q.2.2⟩
theorem HS.opq_sub(H:HS T U h₀ L opq m σ h){o:List (Addr×Obj)}(k:∀p∈o,p∈opq):HS T U h₀ L o m σ h:=by
 obtain⟨g,a,Z,D,F,N,R⟩:=H
 exact⟨g,a,Z,D,F,N,R.opq_sub k⟩
theorem HS.opq_push(st:U.StaysIn h₀)(H:HS T U h₀ L opq m σ h)(ob:Obj)(c:ob.isFreed=false):HS T U h₀ L ((h.objs.size,ob)::opq) m σ (h.push ob):=by
 obtain⟨g,a,Z,D,F,N,R⟩:=H
 refine⟨g,a,(h.objs.size,ob)::Z,D,F.push ob,N.push F ob c,R.opq_new (λp b e=>absurd (Heap.lt_size (N p b).1) (by rw[e];exact Nat.lt_irrefl _)) (pY a.base F.fresh)⟩
theorem HS.opq_set(H:HS T U h₀ L opq m σ h){a:Addr}{ob ob':Obj}(d:(a,ob)∈opq)(hs:Heap.SameBut a h h')(k:h'.get? a=some ob'):HS T U h₀ L (eQ a ob' opq) m σ h':=by
 obtain⟨g,o,Z,D,F,N,R⟩:=H
 obtain⟨c,q,r⟩:=R.oq _ d
 obtain⟨g1,g2,g3⟩:=N _ c
 refine⟨g,o,qh a ob' Z,D,F.change hs g2 g3,?_,R.opq_set d⟩
 obtain⟨i,b,p,e,j,f⟩:=(eY (ob:=ob') R.nd c).split
 rw[e]
 rw[p]at N
 exact N.setIn j f hs k
theorem HS.opq_drop(H:HS T U h₀ L opq m σ h){a:Addr}{ob:Obj}(d:(a,ob)∈opq)(hs:Heap.ExtBut a h h'):HS T U h₀ L (cy a opq) m σ h':=by
 obtain⟨g,q,Z,D,F,N,R⟩:=H
 obtain⟨k,r,t⟩:=R.oq _ d
 obtain⟨g1,g2,g3⟩:=N _ k
 refine⟨g,q,cy a Z,D,⟨F.ns.extBut hs (Ne.symm g2),λb o e=>hs b o (λf=>by rw[f,g3]at e;cases e) (F.keep b o e),F.above⟩,λp i=>?_,R.opq_drop d⟩
 obtain⟨c,j⟩:=aA.mp i
 exact⟨hs _ _ j (N p c).1,(N p c).2.1,(N p c).2.2⟩
theorem HS.reveal(H:HS T U h₀ L opq m σ h){a:Addr}{ob:Obj}{fz:Bool}{o:AO}(b:(a,ob)∈opq)(d:∀(D:Addr->Addr) (P:Addr->Obj->Prop),P a ob->OR T D P a o)(hi:∀c fs,o≠.inst c fs):
  HS T U h₀ L (cy a opq) m (upd σ a (fz,o)) h/\σ a=none:=by
 obtain⟨g,e,Z,D,F,N,R⟩:=H
 exact⟨⟨g,e,Z,D,F,N,R.reveal b (d D) hi⟩,(R.oq _ b).2.1⟩
theorem HS.store(H:HS T U h₀ L opq m σ h){m':Str->Option Value}(b:h'.Ns L m')(hs:Heap.SameBut L h h'):HS T U h₀ L opq m' σ h':=by
 obtain⟨g,c,Z,D,F,N,R⟩:=H
 refine⟨g,c,Z,D,F.set b hs,λp a=>⟨(hs.2 _ (N p a).2.1).trans (N p a).1,(N p a).2.1,(N p a).2.2⟩,R⟩
theorem HS.enter{P:Prop}(st:U.StaysIn h₀)(H:HS T U h₀ L opq m σ h){C:Addr}{m':Str->Option Value}(u:h.objs.size<=C)(v:h'.Ns C m')(r:∀b o,h.get? b=some o->h'.get? b=some o)
  (k:∀f,(∀g:Heap,g.get? L=some f->g.Ns L m)->L<h.objs.size->h₀.objs.size<=L->HS T U h₀ C ((L,f)::opq) m' σ h'->P):P:=
 H.casesOn λg j Z D F N R=>(id F.ns).elim λf a=>a.elim λw a=>a.elim λy a=>
  have t:g.get? L=none:=Heap.get?_none_of_le F.above
  have c:L<h.objs.size:=Heap.lt_size a.1
  have i:∀{b},b<h.objs.size->b≠C:=λq=>Nat.ne_of_lt (Nat.lt_of_lt_of_le q u)
  k f (λg x=>⟨f,w,y,x,a.2⟩) c (j.size▸F.above) ⟨g,j,(L,f)::Z,D,⟨v,λb o e=>r _ _ (F.keep _ _ e),Nat.le_trans F.above (Nat.le_trans (Nat.le_of_lt c) u)⟩,
   λp d=>(au d).elim (λe=>by rw[e];exact⟨r _ _ a.1,i c,t⟩) λd=>⟨r _ _ (N p d).1,i (Heap.lt_size (N p d).1),(N p d).2.2⟩,R.opq_new (λp d=>(N p d).2.1) (pY j.base t)⟩
theorem HS.leave{C:Addr}{m':Str->Option Value}{o:List (Addr×Obj)}{j:Obj}(H:HS T U h₀ C o m' σ h)(f:(L,j)∈o)(u:∀g:Heap,g.get? L=some j->g.Ns L m)(d:h₀.objs.size<=L)(r:∀p∈opq,p∈o/\p.1≠L)(hs:Heap.SameBut C h h'):
  HS T U h₀ L opq m σ h':=by
 obtain⟨g,k,Z,D,F,N,R⟩:=H
 have a:=(N _ (R.oq _ f).1).2.1
 refine⟨g,k,cy L Z,D,⟨u _ ((hs.2 _ a).trans (N _ (R.oq _ f).1).1),λb o e=>?_,k.size▸d⟩,λp c=>?_,(R.opq_drop f).opq_sub λp c=>aA.mpr (r p c)⟩
 ·exact(hs.2 b (λq=>by rw[q,Heap.get?_none_of_le F.above]at e;cases e)).trans (F.keep _ _ e)
 ·obtain⟨i,t⟩:=aA.mp c
  exact⟨(hs.2 _ (N p i).2.1).trans (N p i).1,t,(N p i).2.2⟩
end
section
variable {W:Wd} {env:Env} {n:Cn} {L:Addr} {m:Str->Option Value} {opq:List (Addr×Obj)} {l:aG} {E:Value->Shared->Prop} {σ:Hp} {s:Shared}
theorem yu{es:List Expr}{Q:Bool->Hp->Prop}{a:Shared}(e:d8 a s)(H:W.H L opq m σ s.heap)(q:Q false σ):
  wpAny W.M W.A (forIn es false λc r=>if r=true then do let ok ←isTrue c env (eval c env);pure (ForInStep.yield ok) else pure (ForInStep.yield r)) (W.PB L opq m Q a) E s:=by
 induction es with
 |nil=>rw[List.forIn_nil];exact wpAny_pure (jR e (gc H q))
 |cons c es b=>
  rw[List.forIn_cons]
  simp only[Bool.false_eq_true,if_false]
  exact wpAny_bind (wpAny_pure b)
theorem tX{a:Type}{l:List a}{j:Nat}{v:a}(h:l[j]?=some v):l.drop j=v::l.drop (j+1):=by
 obtain⟨q,e⟩:=be h
 rw[List.drop_eq_getElem_cons q,e]
theorem nK:∀{a:CS} {es:List Expr},W.SCS n a es->∀env L m opq l σ s Q E,W.L env n L m opq l->W.H L opq m σ s.heap->qB W.F W.cal a l σ Q->
  wpAny W.M W.A (forIn es true λc r=>if r=true then do let ok ←isTrue c env (eval c env);pure (ForInStep.yield ok) else pure (ForInStep.yield r)) (W.PB L opq m Q s) E s
 |.nil,[],_,env,L,m,opq,l,σ,s,Q,E,lv,H,h=>by rw[List.forIn_nil];exact wpAny_pure (gc H h)
 |.nil,_::_,h,_,_,_,_,_,_,_,_,_,_,_,_=>h.elim
 |.cons _ _,[],h,_,_,_,_,_,_,_,_,_,_,_,_=>h.elim
 |.cons c a,e::es,i,env,L,m,opq,l,σ,s,Q,E,lv,H,h=>by
  rw[List.forIn_cons]
  refine wpAny_bind ?_
  rw[if_pos rfl]
  refine wpAny_bind (jE (i.1 env L m opq l σ s _ E lv H h) λb d s' e f h'=>?_)
  refine wpAny_pure ?_
  dsimp only
  cases b with
  |true=>exact zc e (nK i.2 env L m opq l d s' Q E lv f (h'.1 rfl))
  |false=>exact yu e f (h'.2 rfl)
structure wz(W:Wd)(I:Addr)(items:List AV)(need:Hp->Prop)(st:Nat->Obj->Prop):Prop where
 next:∀i v,items[i]?=some v->∀C o m σ s ob (Q:Option Value->Shared->Prop) E,W.H C o m σ s.heap->(I,ob)∈o->st i ob->need σ->
  (∀u h' tk ob',VR u v->h'.get? I=some ob'->st (i+1) ob'->Heap.SameBut I s.heap h'->Q (some u) {s with heap:=h',toks:=tk})->wpAny W.M W.A (pyNext (.ref I)) Q E s
 fin:∀C o m σ s ob (Q:Option Value->Shared->Prop) E,W.H C o m σ s.heap->(I,ob)∈o->st items.length ob->need σ->
  (∀h',Heap.ExtBut I s.heap h'->Q none {s with heap:=h'})->wpAny W.M W.A (pyNext (.ref I)) Q E s
 self:∀i C o m σ s ob (Q:Value->Shared->Prop) E,W.H C o m σ s.heap->(I,ob)∈o->st i ob->Q (.ref I) s->wpAny W.M W.A (pyIter (.ref I)) Q E s
def MG(r:Addr)(i:Nat)(ob:Obj):Prop:=ob.cls=.type "list_iterator"/\ob.data=.fields #[.ref r,.int i 0]
theorem uU(st:W.hb.StaysIn W.h₀)(x:W.A.handled=none)(I r:Addr)(xs:List AV):wz W I xs (λσ=>∃fz,σ r=some (fz,.list xs)) (MG r) where
 next:=λi v y C o m σ s g Q E H j f d k=>by
  obtain⟨fz,e⟩:=d
  obtain⟨J,z,g1,w⟩:=HS.list st H e
  obtain⟨u,G,K⟩:=w.get y
  exact wpAny_pyNext_list_item ⟨g,(H.opq_get j).1,f.1,f.2⟩ (aL g1) (by simpa using G) λh' B t=>by
   obtain⟨p,a,b,c⟩:=B
   exact k u h' s.toks p K a ⟨b,c⟩ t
 fin:=λC o m σ s g Q E H j f d k=>by
  obtain⟨fz,e⟩:=d
  obtain⟨J,z,g1,w⟩:=HS.list st H e
  exact wpAny_pyNext_list_end x ⟨g,(H.opq_get j).1,f.1,f.2⟩ (aL g1) (by simp[w.length]) k
 self:=λi C o m σ s g Q E H j f q=>wpAny_pyIter_listiter ⟨g,(H.opq_get j).1,f.1,f.2⟩ q
noncomputable def jy(x left step:Int):Obj:={cls:=.type "range_iterator",dict:=none,data:=.fields #[rawInt x,rawInt left,rawInt step],slots:=#[]}
theorem mn(r:W.A.handled=none)(I:Addr)(lo step:Int)(k:Nat):wz W I ((List.range k).map λj=>.int (lo+step*(j:Nat))) (λ_=>True) (λi ob=>ob=jy (lo+step*i) (k-i) step) where
 next:=λi v e C o m σ s ob Q E H d c _ f=>by
  subst c
  have p:i<k:=by
   have:=(be e).1
   simpa using this
  have:v=.int (lo+step*i):=by
   rw[List.getElem?_map,List.getElem?_range p]at e
   simpa using e.symm
  subst this
  refine wpAny_pyNext_range_item (x:=lo+step*i) (left:=k-i) (step:=step) (H.opq_get d).1 (by exact z1 [_,_] (.le (.a (.n 0) (.n 1)) (.a (.v 0) (.g (.v 1)))) LT rfl (cl p)) λh' a b=>?_
  refine f _ h' (s.toks+1) _ (oz _ _) a ?_ b
  show jy _ _ _=jy _ _ _
  congr 1
  ·push_cast;rw[Int.mul_add,Int.mul_one,Int.add_assoc]
  ·push_cast;exact Int.le_antisymm (z0 [_,_] PN rfl) (z0 [_,_] Oa rfl)
 fin:=λC o m σ s ob Q E H d c _ f=>by
  subst c
  refine wpAny_pyNext_range_end (x:=_) (left:=_) (step:=step) r (H.opq_get d).1 ?_ f
  simp
 self:=λi C o m σ s ob Q E H d c q=>by
  subst c
  exact wpAny_pyIter_rangeiter (H.opq_get d).1 q
end
end
section
noncomputable def Aq(env:Env)(a:List (Str×Addr))(y:Str×NameKind):List (Str×Addr):=if dR y.2=true then(y.1,(env.cells.lookup y.1).getD 0)::a else a
noncomputable def pN(env:Env)(l:List (Str×NameKind))(a:List (Str×Addr)):List (Str×Addr):=l.foldl (Aq env) a
theorem iL{a:Scope}{env:Env}(h:∀y∈a.names,dR y.2=true->(env.cells.lookup y.1).isSome=true):closureFor a env=pure (pN env a.names []):=by
 unfold closureFor
 generalize ([]:List (Str×Addr))=b
 generalize a.names=l at h
 induction l generalizing b with
 |nil=>rfl
 |cons y r e=>
  obtain⟨x,k⟩:=y
  dsimp only at e ⊢
  rw[List.forIn_cons]
  have e:=λb=>e b (λy g=>h y (.tail _ g))
  show _=pure (pN env r (Aq env b (x,k)))
  rw[←e]
  by_cases d:dR k=true
  ·obtain⟨c,f⟩:=Option.isSome_iff_exists.mp (h _ (.head _) d)
   rw[show(k==NameKind.free)=true from d,Aq,if_pos d,f,if_pos rfl,show cellOf env x=pure c by unfold cellOf;rw[show env.cells.lookup x=some c from f]]
   rfl
  ·rw[show(k==NameKind.free)=false from Bool.eq_false_iff.mpr d,Aq,if_neg d]
   rfl
section
variable {env:Env}
theorem B8{a:List (Str×Addr)}{y:Str×NameKind}(hs:dR y.2=true->(env.cells.lookup y.1).isSome=true)(h:∀z c,a.lookup z=some c->env.cells.lookup z=some c)(z:Str)(c:Addr)(e:(Aq env a y).lookup z=some c):env.cells.lookup z=some c:=by
 unfold Aq at e
 by_cases d:dR y.2=true
 ·rw[if_pos d,List.lookup_cons]at e
  cases b:z==y.1 with
  |true=>
   rw[b]at e
   obtain⟨g,f⟩:=Option.isSome_iff_exists.mp (hs d)
   rw[eq_of_beq b];rw[f]at e ⊢;exact e
  |false=>rw[b]at e;exact h z c e
 ·rw[if_neg d]at e;exact h z c e
theorem ur{a:List (Str×Addr)}{y:Str×NameKind}{z:Str}(h:(z,NameKind.free)=y∨(a.lookup z).isSome=true):((Aq env a y).lookup z).isSome=true:=by
 unfold Aq
 rcases h with rfl|h
 ·rw[if_pos (show dR .free=true from rfl),List.lookup_cons,beq_self_eq_true];rfl
 ·by_cases b:dR y.2=true
  ·rw[if_pos b,List.lookup_cons]
   cases c:z==y.1 with
   |true=>rfl
   |false=>exact h
  ·rw[if_neg b];exact h
theorem kh:∀(l:List (Str×NameKind)) (a:List (Str×Addr)),(∀y∈l,dR y.2=true->(env.cells.lookup y.1).isSome=true)->(∀z c,a.lookup z=some c->env.cells.lookup z=some c)->
  (∀z c,(pN env l a).lookup z=some c->env.cells.lookup z=some c)/\(∀z,((z,NameKind.free)∈l∨(a.lookup z).isSome=true)->((pN env l a).lookup z).isSome=true)
 |[],a,_,h=>⟨h,λz b=>b.elim (λh=>nM h) id⟩
 |y::r,a,hs,h=>
  have g:=kh r (Aq env a y) (λy d=>hs y (.tail _ d)) (B8 (hs y (.head _)) h)
  ⟨g.1,λz b=>g.2 z (b.elim (λb=>(au b).elim (λe=>.inr (ur (.inl e))) .inl) λh=>.inr (ur (.inr h)))⟩
noncomputable def Be(env:Env):Str×NameKind->Str×NameKind:=λ(n,k)=>if(k==NameKind.free&&env.scope.kind==.function&&env.kindOf n==some .cell) then(n,NameKind.cell) else(n,k)
theorem kf:∀(names:List (Str×NameKind)) (x:Str),(names.map (Be env)).lookup x=(names.lookup x).map λk=>(Be env (x,k)).2
 |[],_=>rfl
 |(n,k)::r,x=>by
  have a:Be env (n,k)=(n,(Be env (n,k)).2):=by unfold Be;dsimp only;split<;>rfl
  rw[List.map_cons,a,List.lookup_cons,List.lookup_cons]
  cases b:x==n with
  |true=>rw[eq_of_beq b];rfl
  |false=>exact kf r x
theorem dU{a:Scope}{x:Str}(h:a.names.lookup x=some .free):(relabel a env).names.lookup x=some .free∨(relabel a env).names.lookup x=some .cell:=by
 show(a.names.map (Be env)).lookup x=_∨(a.names.map (Be env)).lookup x=_
 rw[kf,h]
 unfold Be
 dsimp only[Option.map_some]
 by_cases c:(NameKind.free==NameKind.free&&env.scope.kind==.function&&env.kindOf x==some .cell)=true
 ·rw[if_pos c];exact .inr rfl
 ·rw[if_neg c];exact .inl rfl
theorem pV{a:Scope}(x:Str):fY (a.names.lookup x) ((relabel a env).names.lookup x):=by
 by_cases h:a.names.lookup x=some .free
 ·exact(dU (env:=env) h).elim (λe=>.inl (h.trans e.symm)) λe=>.inr ⟨h,e⟩
 ·refine .inl (Eq.trans ?_ (kf a.names x).symm)
  cases e:a.names.lookup x with
  |none=>rfl
  |some k=>
   have c:¬(k==NameKind.free&&env.scope.kind==.function&&env.kindOf x==some .cell)=true:=λc=>kW c λc _ _=>h (by rw[e,eq_of_beq c])
   unfold Be
   dsimp only[Option.map_some]
   rw[if_neg c]
end
theorem bc{b:Type}:∀{l:List (Str×b)} {x:Str} {k:b},l.lookup x=some k->(x,k)∈l
 |[],_,_,h=>by simp at h
 |(n,k)::r,x,q,h=>by
  rw[List.lookup_cons]at h
  cases a:x==n with
  |true=>rw[a]at h;cases h;rw[eq_of_beq a];exact .head _
  |false=>rw[a]at h;exact .tail _ (bc h)
theorem fw{e:Type}{p:Str×e->Bool}{q:Str->Bool}(c:∀y,p y=q y.1):∀{l:List (Str×e)} {x:Str} {k:e},(l.filter p).lookup x=some k->l.lookup x=some k/\q x=true
 |[],_,_,h=>by simp at h
 |(n,k)::r,x,j,h=>by
  rw[List.filter_cons]at h
  by_cases a:p (n,k)=true
  ·rw[if_pos a,List.lookup_cons]at h
   rw[List.lookup_cons]
   cases b:x==n with
   |true=>rw[b]at h;refine⟨h,?_⟩;rw[eq_of_beq b,←c (n,k)];exact a
   |false=>rw[b]at h;exact fw c h
  ·rw[if_neg a]at h
   obtain⟨f,d⟩:=fw c h
   rw[List.lookup_cons]
   cases b:x==n with
   |true=>rw[c (n,k)]at a;rw[eq_of_beq b]at d;exact absurd d a
   |false=>exact⟨f,d⟩
section
variable {W:Wd} {env:Env} {n:Cn} {L:Addr} {m:Str->Option Value} {opq:List (Addr×Obj)} {l:aG} {E:Value->Shared->Prop} {σ:Hp} {s:Shared}
theorem pX{l:aG}{i:Nat}{v:AV}:get (l.set i v) i=v∨get (l.set i v) i=.undef:=by
 unfold get
 by_cases h:i<l.length
 ·left;simp[h]
 ·right;simp[Nat.le_of_not_lt h]
theorem iO{l:aG}{i j:Nat}{v:AV}(h:i≠j):get (l.set i v) j=get l j:=by
 unfold get
 simp[List.getElem?_set,h]
theorem PZ{l:aG}{i:Nat}{v:AV}(h:get (l.set i v) i≠.undef):get (l.set i v) i=v:=pX.resolve_right h
structure Mv(n:Cn)(sc:Scope)(x:Str):Prop where
 nc:∀y∈sc.names,fC y.2=false
 fr:∀y∈sc.names,dR y.2=true->vY (n.sc.names.lookup y.1)=true
 lc:∀y∈sc.names,pD y.2=true->BH (sc.names.lookup y.1)=true
 x:sc.names.lookup x=some .local
 k:sc.kind=.function
theorem u9{a:Option NameKind}(h:BH a=true):a=some .local:=bZ h
theorem wD{a b:Bool}(h:(!a||b)=true)(k:a=true):b=true:=bor h (λq=>absurd k (by rw[nt q];exact Bool.false_ne_true)) id
theorem xq{d:Scope}{x:Str}(h:n.ok d x=true):Mv n d x:=
 kW h λc e f=>⟨λy b=>kW (kY c y b) λa _ _=>nt a,λy b=>kW (kY c y b) λ_ a _=>wD a,λy b=>kW (kY c y b) λ_ _ a=>wD a,bZ e,of_decide_eq_true f⟩
theorem lG{a b:Option NameKind}(h:fY a b)(k:vY a=true):vY b=true:=h.elim (λe=>e▸k) λh=>by rw[h.2];rfl
theorem yM{sc:Scope}{x:Str}{i:Nat}{C:Addr}{m':Str->Option Value}{o:List (Addr×Obj)}{u:Value}{v:AV}(lv:W.L env n L m opq l)(I:n.lf=false)(ok:Mv n sc x)(hi:(n.nm.all λp=>!(p.2==i))=true)
  (Q:∀p∈opq,p∈o) (hm:m' x=some u) (r:VR u v):W.L (compEnvC sc (pN env sc.names []) C env) (n.inner sc x i) C m' o (l.set i v) where
 gd:={lv.gd with fk:=ok.k,gl:=lv.gd.gl,bu:=lv.gd.bu}
 ok:=lv.ok
 lr:=λy j f G=>by
  unfold Cn.inner at f
  rw[List.lookup_cons]at f
  cases b:y==x with
  |true=>
   rw[b]at f
   cases f
   rw[PZ G,eq_of_beq b]
   exact⟨u,.inl ⟨lookup_relabel_local ok.x,hm⟩,r⟩
  |false=>
   rw[b]at f
   obtain⟨K,Y⟩:=fw (q:=λy=>uZ (sc.names.lookup y) .free&&!(y==x)) (λ_=>rfl) f
   have B:i≠j:=λe=>by
    have q:=nt (kY hi _ (bc K))
    rw[e]at q
    exact absurd (beq_self_eq_true j) (by rw[show(j==j)=false from q];exact Bool.false_ne_true)
   rw[iO B]at G ⊢
   have d:sc.names.lookup y=some .free:=gG Y λa _=>bZ a
   obtain⟨w,N,A⟩:=lv.lr y j K G
   have t:=lG (lv.sc y) (ok.fr _ (bc d) rfl)
   obtain⟨ca,Z,U,R,V⟩:∃ca o,env.cells.lookup y=some ca/\(ca,o)∈opq/\o.data=.cell (some w):=N.elim (λh=>by rw[h.1]at t;cases t) λh=>h.2
   obtain⟨D,J⟩:=kh sc.names [] (λy hy O=>lv.cc I y.1 (lG (lv.sc _) (ok.fr y hy O))) (λz c h=>by simp at h)
   obtain⟨β,g⟩:=Option.isSome_iff_exists.mp (J y (.inl (bc d)))
   obtain rfl:=Option.some.inj (U.symm.trans (D _ _ g))
   exact⟨w,.inr ⟨(dU (env:=env) d).elim (λe=>by rw[show(compEnvC sc (pN env sc.names []) C env).scope.names.lookup y=some .free from e];rfl) λe=>by rw[show(compEnvC sc (pN env sc.names []) C env).scope.names.lookup y=some .cell from e];rfl,ca,Z,g,Q _ R,V⟩,A⟩
 sc:=pV
 lo:=rfl
 cc:=λh=>tF h
 ca:=λh=>tF h
 hh:=λh=>tF h
end
end
section
section
variable {W:Wd} {env:Env} {n:Cn} {L:Addr} {m:Str->Option Value} {opq:List (Addr×Obj)} {l:aG} {E:Value->Shared->Prop} {σ:Hp} {s:Shared}
def one(W:Wd)(d:Hp->Prop)(g:CS)(e:X)(i:Nat)(l:aG):AV->Hp->(Option AV->Hp->Prop)->Prop:=
 λv f P=>qB W.F W.cal g (l.set i v) f λb a=>(b=true->cY W.F W.cal e (l.set i v) a λy c=>d c/\P (some y) c)/\(b=false->d a/\P none a)
theorem gL{env:Env}(h:env.scope.kind=.function):(env.scope.kind==.class||(env.scope.kind==.module&&env.locals !=env.globals))=false:=by rw[h];rfl
theorem FJ{C:Addr}{o:List (Addr×Obj)}{m':Str->Option Value}{h:Heap}{x:Obj}(H:W.H C o m' σ h):W.H C o m' σ (h.push x):=by
 obtain⟨g,b,a,D,F,N,R⟩:=H
 exact⟨g,b,a,D,F.push x,N.pushKeep x,R⟩
def oV(W:Wd)(L:Addr)(m:Str->Option Value)(opq:List (Addr×Obj))(a:Shared)(k:List AV->Hp->Prop)(j:Value->Addr->Result->Shared->Prop):Prop:=
 ∀(D C:Addr) (o:List (Addr×Obj)) (h:Str->Option Value) (b:Hp) (c:Shared) (e:List AV) (f:List Value) (i:Nat) (d:Obj),d8 a c->W.H C o h b c.heap->(L,d)∈o->(∀g:Heap,g.get? L=some d->g.Ns L m)->
  W.h₀.objs.size<=L->L≠D->(D,listOf f.toArray i)∈o->(∀p∈opq,p∈o/\p.1≠D/\p.1≠L)->aF VR f e->k e b->j (.ref D) C (.ok .next) c
theorem qy{b:Shared}{Q:PX}:oV W L m opq b (λys d=>∀c,d c=none->Q (.ref c) (upd d c (false,.list ys))) (λh C=>compPost W.M W.A E none (W.P L opq m Q b) h C):=by
 intro D C o v f R ys u r O I H B g2 x j N k q w
 obtain⟨K,J⟩:=HS.reveal (a:=D) (ob:=listOf u.toArray r) (fz:=false) (o:=.list ys) H N (λD P e=>⟨u,r,e,q⟩) pK
 refine⟨v,by obtain⟨g,U,_,_,F,_,_⟩:=H;exact F.ns,λt i=>?_⟩
 have G:W.H L opq m (upd f D (false,.list ys)) t:=HS.leave K (aA.mpr ⟨B,j⟩) g2 x (λp e=>⟨aA.mpr ⟨(k p e).1,(k p e).2.1⟩,(k p e).2.2⟩) i
 obtain⟨V,y,z⟩:=I
 subst z
 exact⟨.ref D,_,t,y,rfl,rfl,G,w D J⟩
noncomputable def HO(m:Str->Option Value)(y:Str)(v:Value):Str->Option Value:=λx=>if x=y then some v else m x
inductive PU(W:Wd)(L:Addr)(opq:List (Addr×Obj))(m:Str->Option Value)(y:Str)(Q:PX)(s:Shared)(s':Shared):Prop
 |mk v a σ' h' tk (h1:s'={s with heap:=h',toks:=tk}) (h2:VR v a) (h3:W.H L opq (HO m y v) σ' h') (h4:Q a σ'):PU W L opq m y Q s s'
theorem sh{b:Shared}{Q:PX}{y:Str}{py:Pos}(lv:W.L env n L m opq l)(hy:env.kindOf y=some .local):oV W L m opq b (λys d=>∀c,d c=none->Q (.ref c) (upd d c (false,.list ys)))
  (λr C=>compPost W.M W.A E (some (assign (.Name y py) env)) (λ_ s'=>PU W L opq m y Q b s') r C):=by
 intro D C o K q s' ys x u oL Y H w g2 O h mD k G N
 show wpAny W.M W.A (assign (.Name y py) env (.ref D)) _ E s'
 have z:=(H.opq_get w).1
 refine PySem.wpAny_assign_Name (wpAny_storeName_local (m:=m) hy (by rw[lv.lo];exact g2 _ z) (λh2 j f=>?_) (gL lv.gd.fk))
 rw[lv.lo]at j f
 obtain⟨i,Z,a2,B,a3⟩:=id j
 have I:=HS.opq_set H w f B
 have v:(D,listOf x.toArray u)∈eQ L i o:=bg mD (Ne.symm h)
 obtain⟨H3,fr⟩:=HS.reveal (a:=D) (ob:=listOf x.toArray u) (fz:=false) (o:=.list ys) I v (λD P e=>⟨x,u,e,G⟩) pK
 refine⟨K,by obtain⟨g,tu,_,_,F,_,_⟩:=I;exact F.ns,λJ t=>?_⟩
 have V:W.H L opq (HO m y (.ref D)) (upd q D (false,.list ys)) J:=HS.leave H3 (aA.mpr ⟨eB w,h⟩) (λg z=>⟨i,Z,a2,z,a3⟩) O (λp e=>⟨aA.mpr ⟨bg (k p e).1 (k p e).2.2,(k p e).2.1⟩,(k p e).2.2⟩) t
 obtain⟨h8,R,U⟩:=Y
 subst U
 exact⟨.ref D,.ref D,_,J,R+1,rfl,rfl,V,N D fr⟩
inductive Dm(W:Wd)(opq:List (Addr×Obj))(L I D C:Addr)(items:List AV)(need:Hp->Prop)(st:Nat->Obj->Prop)(f:AV->Hp->(Option AV->Hp->Prop)->Prop)(Qf:List AV->Hp->Prop)(oL:Obj)(s₀:Shared)(k:Nat)(s':Shared):Prop
 |mk (j:Nat) (o:List (Addr×Obj)) (m':Str->Option Value) (σ':Hp) (ys:List AV) (vs:List Value) (nn:Nat) (ob':Obj) (_:k=items.length-j) (_:j<=items.length) (_:d8 s₀ s') (_:W.H C o m' σ' s'.heap) (_:(L,oL)∈o) (_:(I,ob')∈o) (_:(D,listOf vs.toArray nn)∈o) (_:∀p∈opq,p∈o)
   (_:st j ob') (_:need σ') (_:aF VR vs ys) (_:ys.length<=j) (_:jx f (items.drop j) ys σ' Qf):Dm W opq L I D C items need st f Qf oL s₀ k s'
theorem vn{sc:Scope}{x:Str}{px pos:Pos}{i:Nat}{it' e':Expr}{β:List Expr}{cs:CS}{e:X}{I D C:Addr}{cenv:Env}{oL:Obj}{items:List AV}{a:Hp->Prop}{st:Nat->Obj->Prop}{f:Shared}{Qf:List AV->Hp->Prop}{RR:Value->Addr->Result->Shared->Prop}{k:Nat}
  (δ:oV W L m opq f Qf RR) (hC:W.SCS (n.inner sc x i) cs β) (hE:W.SX (n.inner sc x i) e e') (it:wz W I items a st) (ρ:items.length<=line)
  (μ:cenv.locals=C) (hx:cenv.scope.names.lookup x=some .local) (hk:cenv.scope.kind=.function) (ψ:∀o m' u v,(∀p∈opq,p∈o)->m' x=some u->VR u v->W.L cenv (n.inner sc x i) C m' o (l.set i v))
  (κ:L≠D) (γ:L≠I) (U:I≠D) (d:∀p∈opq,p.1≠I/\p.1≠D/\p.1≠L) (g2:∀g:Heap,g.get? L=some oL->g.Ns L m) (g4:W.h₀.objs.size<=L)
  (P:Dm W opq L I D C items a st (one W a cs e i l) Qf oL f k s):codeAny W.M W.A (.compLoop (.ListComp e' [⟨.Name x px,it',β,0⟩] sc pos) 0 (.ref I) (.ref D) cenv) (RR (.ref D) C) s:=by
 refine codeAny_compLoop_tests (λk Y=>Dm W opq L I D C items a st (one W a cs e i l) Qf oL f k Y) ?_ k P
 clear P k
 rintro k Y ⟨j,o,m',B,ys,V,nn,w,rfl,hj,θ,H',mL,Z,mD,mo,ζ,ε,G,R,hc⟩
 cases hv:items[j]? with
 |some v=>
  have h:=(be hv).1
  have less:items.length-(j+1)<items.length-j:=Nat.sub_lt_sub_left h (Nat.lt_succ_self j)
  rw[tX hv]at hc
  refine it.next j v hv C o m' B Y w _ _ H' Z ζ ε λu h2 tk c ru hg2 O υ=>?_
  have η:=HS.opq_set H' Z υ hg2
  dsimp only
  refine PySem.wpAny_assign_Name (wpAny_storeName_local (m:=m') hx (by rw[μ];exact η.casesOn λ_ _ _ _ F _ _=>F.ns) (λh3 K J=>?_) (gL hk))
  rw[μ]at K J
  have π:=bg (ob':=c) mL γ
  have t:=bg (ob':=c) mD (Ne.symm U)
  have Q:∀p∈opq,p∈eQ I c o:=λp r=>bg (mo p r) (d p r).1
  have ξ:=ψ (eQ I c o) (λz=>if z=x then some u else m' z) u v Q (if_pos rfl) ru
  dsimp only
  refine jE (nK hC cenv C _ _ _ B {Y with heap:=h3,toks:=tk+1} _ _ ξ (HS.store η K J) hc) λb ν s4 la4 H4 h4=>?_
  have N:=θ.trans (d8.trans ⟨h3,tk+1,rfl⟩ la4)
  cases b with
  |false=>
   rw[if_neg Bool.false_ne_true]
   have q:=h4.2 rfl
   exact⟨_,less,.mk (j+1) _ _ ν ys V nn c rfl h N H4 π (eB Z) t Q O q.1 G (Nat.le_succ_of_le R) q.2⟩
  |true=>
   rw[if_pos rfl]
   exact aN (hE cenv C _ _ _ ν s4 _ _ ξ H4 (h4.1 rfl)) λu5 y ω s5 la5 φ H5 h5=>H5.casesOn λg tu news D5 F5 N5 R5=>
    append_K (its:=V.toArray) (n:=nn) F5 N5 (eY R5.nd (R5.oq _ t).1) (λh6 F6 N6=>⟨_,less,.mk (j+1) (eQ D (listOf (V.toArray.push u5) (nn+1)) (eQ I c o)) _ ω (ys++[y]) (V++[u5]) (nn+1) c rfl h (N.trans (la5.trans ⟨h6,s5.toks,rfl⟩)) ⟨g,tu,_,D5,F6,N6,R5.opq_set t⟩ (bg π κ) (bg (eB Z) U)
     (by rw[show(V++[u5]).toArray=V.toArray.push u5 by simp];exact eB t) (λp r=>bg (Q p r) (d p r).2.1) O h5.1 (G.append (.one φ)) (by rw[List.length_append];exact Nat.succ_le_succ R) h5.2⟩)
     (wv G.length (Nat.le_trans R (Nat.le_trans hj ρ)))
 |none=>
  have h:=List.getElem?_eq_none_iff.mp hv
  obtain rfl:=Nat.le_antisymm hj h
  rw[List.drop_length]at hc
  exact it.fin C o m' B Y w _ _ H' Z ζ ε λh2 χ=>δ D C (cy I o) m' B _ ys V nn oL (θ.trans ⟨h2,Y.toks,rfl⟩) (HS.opq_drop H' Z χ) (aA.mpr ⟨mL,γ⟩) g2 g4 κ (aA.mpr ⟨mD,Ne.symm U⟩)
   (λp r=>⟨aA.mpr ⟨mo p r,(d p r).1⟩,(d p r).2⟩) G hc
theorem oI{g:Scope}{x:Str}{px pos:Pos}{i:Nat}{it' Z:Expr}{z:List Expr}{Y:CS}{e:X}{I:Addr}{items:List AV}{f:Hp->Prop}{st:Nat->Obj->Prop}{ob:Obj}{j:Shared}{Qf:List AV->Hp->Prop}{RR:Value->Addr->Result->Shared->Prop}(N:oV W L m opq j Qf RR)
  (lv:W.L env n L m opq l) (V:n.lf=false) (ok:Mv n g x) (hi:(n.nm.all λp=>!(p.2==i))=true) (hC:W.SCS (n.inner g x i) Y z) (hE:W.SX (n.inner g x i) e Z)
  (it:wz W I items f st) (G:items.length<=line) (la:d8 j s) (H:W.H L ((I,ob)::opq) m σ s.heap) (K:st 0 ob) (w:f σ) (Q:∀p∈opq,p.1≠I)
  (h:jx (one W f Y e i l) items [] σ Qf):
  wpAny W.M W.A (newList []) (λB D=>wpAny W.M W.A (newFunctionEnv g env.globals (pN env g.names []) [] env.qual none .none (some env)) (λcenv J=>
   codeAny W.M W.A (.compStart (.ListComp Z [⟨.Name x px,it',z,0⟩] g pos) 0 (.ref I) B {cenv with scope:=relabel g env}) (RR B cenv.locals) J) E D) E s:=by
 have hI:=H.opq_get (.head _)
 refine wpAny_newObj_type (wpAny_newFunctionEnv (λy U=>by have:=ok.nc y U;intro e;rw[e]at this;cases this) (by intro y U;simp at U) (λd a c=>?_) ok.k)
 dsimp only at a c ⊢
 have HD:=HS.opq_push lv.gd.st H {cls:=.type "list",dict:=none,data:=.seq ([]:List Value).toArray} rfl
 refine HS.enter (m':=λx=>List.lookup x ([]:List (Str×Value)).reverse) lv.gd.st HD (Nat.le_refl _) a (λb o q=>c.extBut b o (Nat.ne_of_lt (Heap.lt_size q)) (Heap.get?_push_of_some _ q)) λoL g2 _ g4 HC=>?_
 have R:L≠s.heap.objs.size:=H.casesOn λ_ _ _ _ F _ _=>Nat.ne_of_lt F.ns.lt
 have t:=vn (s:={s with heap:=d,toks:=s.toks+([]:List (Str×Value)).length}) (px:=px) (pos:=pos) (it':=it') (cenv:=compEnvC g (pN env g.names []) (s.heap.push {cls:=.type "list",dict:=none,data:=.seq ([]:List Value).toArray}).objs.size env) N hC hE it G rfl (lookup_relabel_local ok.x) ok.k
  (λo m' u v mo hm r=>yM lv V ok hi mo hm r) R (Ne.symm hI.2.1) (Nat.ne_of_lt (Heap.lt_size hI.1))
  (λp O=>have q:=H.opq_get (.tail _ O);⟨Q p O,Nat.ne_of_lt (Heap.lt_size q.1),q.2.1⟩) g2 g4
  (.mk 0 _ _ σ [] [] 0 ob rfl (Nat.zero_le _) (la.trans ⟨d,_,rfl⟩) HC (.head _) (.tail _ (.tail _ (.head _))) (.tail _ (.head _)) (λp O=>.tail _ (.tail _ (.tail _ O))) K w .nil (Nat.le_refl _) h)
 exact codeAny_compStart_list t (it.self 0 _ _ _ σ {s with heap:=d,toks:=s.toks+([]:List (Str×Value)).length} ob _ _ HC (.tail _ (.tail _ (.head _))) K t)
theorem sq{i:Nat}{d:X}{q:CS}{e:X}{j it':Expr}{x:Str}{px pos:Pos}{b:List Expr}{u:Scope}{use:Option (Value->Sem Unit)}{Q:PX}{I:Value->Shared->Prop}
  (c:aX W.t n (.comp i d q e) (.ListComp j [⟨.Name x px,it',b,0⟩] u pos)=true) (R:∀e,aX W.t n d e=true->W.SX n d e) (Z:∀n es,kM W.t n q es=true->W.SCS n q es) (ie:∀n j,aX W.t n e j=true->W.SX n e j)
  (lv:W.L env n L m opq l) (H:W.H L opq m σ s.heap) (h:cY W.F W.cal (.comp i d q e) l σ Q)
  (o:oV W L m opq s (λys f=>∀c,f c=none->Q (.ref c) (upd f c (false,.list ys))) (λw C=>compPost W.M W.A E use I w C)):
  wpAny W.M W.A (comprehension (.ListComp j [⟨.Name x px,it',b,0⟩] u pos) u env (firstIterPos [⟨.Name x px,it',b,0⟩] pos) (newList []) (firstAsync [⟨.Name x px,it',b,0⟩]) (firstIter [⟨.Name x px,it',b,0⟩] env) use) I E s:=by
 exact Pu (yJ (um c)) λz c2 c3 J c5 O N c8=>
  have ok:=xq c3
  wpAny_comprehension_free (use:=use) rfl (λ_=>fI (nt J)) (iL λy B Y=>lv.cc (nt z) y.1 (lG (lv.sc _) (ok.fr y B Y))) ok.k (λy B e=>u9 (ok.lc y B (by rw[e];rfl)))
   (aN (R _ O env L m opq l σ s _ E lv H h) λv a K U la r D g=>b8 r g λG g=>D.cL lv.gd.st g λV xs vs nn ex g1 r1 _ g=>wpAny_pyIter_list (aL g1)
    (oI o lv (nt z) ok c2 (Z _ _ N) (ie _ _ c8) (uU lv.gd.st (lv.hh (nt z)) _ G xs) g.1 (la.trans ⟨_,U.toks,rfl⟩) (HS.opq_push lv.gd.st D {cls:=.type "list_iterator",data:=.fields #[.ref G,.int 0 0]} rfl) ⟨rfl,rfl⟩ ⟨V,ex⟩ (λp hp=>Nat.ne_of_lt (Heap.lt_size (D.opq_get hp).1)) g.2))
theorem Ey{i:Nat}{a:X}{d:CS}{e:X}{ex:Expr}(c:aX W.t n (.comp i a d e) ex=true)(o:∀e,aX W.t n a e=true->W.SX n a e)(p:∀n es,kM W.t n d es=true->W.SCS n d es)(q:∀n f,aX W.t n e f=true->W.SX n e f):
  W.SX n (.comp i a d e) ex:=
 iQ c λf v u r g=>jg g λx j b k g env L m opq l σ s Q E lv H h=>by
  rw[eval_ListComp]
  exact sq (px:=j) (pos:=r) (it':=b) g o p q lv H h qy
end
end
section
section
variable {W:Wd} {env:Env} {n:Cn} {L:Addr} {m:Str->Option Value} {opq:List (Addr×Obj)} {l:aG} {E:Value->Shared->Prop} {σ:Hp} {s:Shared}
theorem EQ{h:Heap}(H:W.H L opq m σ h):∀p∈opq,p.1≠h.objs.size:=λp a=>Nat.ne_of_lt (Heap.lt_size (H.opq_get a).1)
theorem pc{a b c:Int}{t u v:Tok}{k:Nat}{R:Value->Shared->Prop}(lv:W.L env n L m opq l)(H:W.H L opq m σ s.heap)(hs:Builtin.Range.small a b c=true)(e:Builtin.Range.rangeSize a b c=k)
  (q:∀I s',d8 s s'->W.H L ((I,jy a k c)::opq) m σ s'.heap->(∀p∈opq,p.1≠I)->R (.ref I) s'):
  wpAny W.M W.A (pyIter (.ref s.heap.objs.size)) R E {s with heap:=s.heap.push {cls:=.type "range",data:=.fields #[.int a t,.int b u,.int c v]}}:=by
 have d:W.H L opq m σ (s.heap.push {cls:=.type "range",data:=.fields #[.int a t,.int b u,.int c v]}):=FJ H
 refine wpAny_pyIter_range (IsRange.new ..) hs ?_
 rw[e]
 exact q _ _ ⟨_,s.toks,rfl⟩ (HS.opq_push lv.gd.st d (jy a k c) rfl) (EQ d)
theorem t7{lo hi:Int}:Builtin.Range.rangeSize lo hi 1=((hi-lo).toNat:Nat):=by
 rw[rangeSize_one];split<;>rename_i h
 ·exact tn (Int.sub_nonneg_of_le (Int.le_of_lt h))
 ·rw[t0 (Int.sub_nonpos_of_le (il h))];rfl
theorem qE{lo hi:Int}(a: -line<=lo/\lo<=line/\ -line<=hi/\hi<=line):Builtin.Range.small lo hi 1=true:=by
 exact small_one (Int.le_trans (by decide) a.1) (Int.lt_of_le_of_lt a.2.1 (by decide)) (Int.le_trans (by decide) a.2.2.1) (Int.lt_of_le_of_lt a.2.2.2 (by decide))
theorem tS{lo:Int}:Builtin.Range.rangeSize lo (-1) (-1)=((lo+1).toNat:Nat):=by
 unfold Builtin.Range.rangeSize
 have:¬(-1:Int)>0:=by decide
 rw[if_neg this]
 split<;>rename_i h
 ·simp;exact(Int.max_eq_left (Int.le_of_lt (Int.lt_add_one_of_le (h:(0:Int)<=lo)))).symm
 ·rw[t0 (Int.add_le_add_right (il h) 1)];rfl
theorem zf{lo:Int}(a: -line<=lo/\lo<=line):Builtin.Range.small lo (-1) (-1)=true:=by
 have:=bI
 unfold Builtin.Range.small
 rw[tS]
 simp only[Builtin.Range.rangeFitsLong,Bool.and_eq_true,Bool.or_eq_true,decide_eq_true_eq,beq_iff_eq,show¬(-1:Int)>0 by decide,if_false]
 exact⟨⟨⟨⟨⟨Int.le_trans (by decide) a.1,Int.lt_of_le_of_lt a.2 (by decide)⟩,by decide,by decide⟩,by decide,by decide⟩,Int.le_trans (by decide) (Int.natCast_nonneg _),Int.lt_of_le_of_lt (bF (Int.toNat_le.mpr (Int.add_le_add_right a.2 1):_<=10001)) (by decide)⟩,.inr ⟨by decide,by decide⟩⟩
theorem qZ{r:Str}{p1 p2:Pos}{xs:XS}{as:List Expr}{Qs:List AV->Hp->Prop}{R:Value->Shared->Prop}(lv:W.L env n L m opq l)(H:W.H L opq m σ s.heap)(d:(r==gg)=true)(i:n.bi W.t r=true)
  (c:dq W.t n xs as=true) (p:W.SXS n xs as) (h:kL W.F W.cal xs l σ Qs)
  (k:∀vs b a s',d8 s s'->aF VR vs b->W.H L opq m a s'.heap->Qs b a->wpAny W.M W.A (call (.type "range") vs) R E s'):
  wpAny W.M W.A (eval (.Call (.Name r p1) as [] p2) env) R E s:=by
 obtain rfl:=eq_of_beq d
 exact wK i λg j _ _ _=>Call_ (nP lv (nt g) j H lv.ok.rg uS (by decide) (nJ (P:=λ_=>True) c p (jr (Ap rfl)) lv H h λvs as a s' e r o f=>⟨trivial,k vs as a s' e r o f⟩))
noncomputable def QY(a:X):XS:=.cons a .nil
noncomputable def M9(a b:X):XS:=.cons a (.cons b .nil)
theorem Bm{v:AV}(h:Gb v=true):v=.int 0:=by
 cases v with
 |int i=>exact congrArg _ (of_decide_eq_true h)
 |_=>cases h
theorem wc{x:X}(h:pa x=true):x=.k (.int 0):=xD (P:=λx=>x=.k (.int 0)) h λv h=>congrArg _ (Bm h)
theorem r8{lo hi:Int}:(aM lo hi).map AV.int=(List.range (hi-lo).toNat).map λj=>.int (lo+1*(j:Nat)):=by
 unfold aM
 rw[List.map_map]
 refine List.map_congr_left λj _=>?_
 show AV.int (lo+(j:Nat))=_
 rw[Int.one_mul]
theorem yL{lo:Int}:(dS lo).map AV.int=(List.range (lo+1).toNat).map λj=>.int (lo+(-1)*(j:Nat)):=by
 unfold dS
 rw[List.map_map]
 refine List.map_congr_left λj _=>?_
 show AV.int (lo-(j:Nat))=_
 rw[Int.neg_one_mul];rfl
theorem Of{a b:X}{d c:Expr}(g:bC d=false)(f:bC c=false)(e:aX W.t n a d=true)(h:aX W.t n b c=true):dq W.t n (M9 a b) [d,c]=true:=by
 show(!bC d&&aX W.t n a d&&(!bC c&&aX W.t n b c&&true))=true
 rw[g,e,f,h];rfl
theorem RM{b:X}{a:Expr}(c:bC a=false)(d:aX W.t n b a=true):dq W.t n (QY b) [a]=true:=by
 show(!bC a&&aX W.t n b a&&true)=true
 rw[c,d];rfl
theorem qq{r:Str}{p1 p2:Pos}{lo hi:X}{as:List Expr}{Q:Int->Int->Hp->Prop}{R:Value->Shared->Prop}(lv:W.L env n L m opq l)(H:W.H L opq m σ s.heap)(Y:(r==gg)=true)(hb:n.bi W.t r=true)
  (c:(Fj as (λi f=>!bC i&&!bC f&&aX W.t n lo i&&aX W.t n hi f)||vx as λf=>!bC f&&pa lo&&aX W.t n hi f)=true)
  (ia:∀e,aX W.t n lo e=true->W.SX n lo e) (Z:∀e,aX W.t n hi e=true->W.SX n hi e)
  (h:cY W.F W.cal lo l σ λa d=>cY W.F W.cal hi l d λb w=>bU a λx=>bU b λy=>Q x y w)
  (hq:∀x y d,Q x y d-> -line<=x/\x<=line/\ -line<=y/\y<=line)
  (k:∀lo hi d I s',Q lo hi d->d8 s s'->W.H L ((I,jy lo (hi-lo).toNat 1)::opq) m d s'.heap->(∀p∈opq,p.1≠I)->R (.ref I) s'):
  wpAny W.M W.A (eval (.Call (.Name r p1) as [] p2) env) (λv z=>wpAny W.M W.A (pyIter v) R E z) E s:=
 bor c
  (λc=>sw c λi f c=>Af c λN J O c4=>
   have g:=Of (nt N) (nt J) O c4
   qZ (Qs:=λB d=>Dh B λa b=>bU a λx=>bU b λy=>Q x y d) lv H Y hb g (iz g ia λes c=>iz c Z λes c=>l5 c) h λvs B d s' K G V j=>
    jY G j λv a u b r1 U j=>eN r1 U j λlo t1 hi t2 q=>call_range_2 (pc (s:={s' with toks:=s'.toks+1}) lv V (qE (hq _ _ _ q)) t7 λI s2 o D hI=>k lo hi d I s2 q (K.trans (d8.trans ⟨s'.heap,_,rfl⟩ o)) D hI))
  λc=>dP c λf c=>kW c λN J O=>by
   obtain rfl:=wc J
   have g:=RM (W:=W) (nt N) O
   exact qZ (Qs:=λB d=>Ak B λb=>bU b λy=>Q 0 y d) lv H Y hb g (iz g Z λes c=>l5 c) h λvs B d s' K G V j=>
    fZ G j λv a U j=>bq U j λhi t2 q=>call_range_1 (pc (s:={s' with toks:=s'.toks+1+1}) lv V (qE (hq _ _ _ q)) t7 λI s2 o D hI=>k 0 hi d I s2 q (K.trans (d8.trans ⟨s'.heap,_,rfl⟩ o)) D hI)
theorem yw{r:Str}{p1 p2:Pos}{lo hi:X}{d g:Expr}{k1 p3 p4}{Q:Int->Int->Hp->Prop}{R:Value->Shared->Prop}(lv:W.L env n L m opq l)(H:W.H L opq m σ s.heap)(J:(r==gg)=true)(Z:n.bi W.t r=true)
  (c1:bC d=false) (Y:bC g=false) (D:aX W.t n lo d=true) (B:aX W.t n hi g=true)
  (ia:∀e,aX W.t n lo e=true->W.SX n lo e) (N:∀e,aX W.t n hi e=true->W.SX n hi e)
  (h:cY W.F W.cal lo l σ λa c=>cY W.F W.cal hi l c λb f=>bU a λx=>bU b λy=>Q x y f)
  (U:∀x y c,Q x y c->y= -1/\ -line<=x/\x<=line)
  (k:∀lo c I s',Q lo (-1) c->d8 s s'->W.H L ((I,jy lo (lo+1).toNat (-1))::opq) m c s'.heap->(∀p∈opq,p.1≠I)->R (.ref I) s'):
  wpAny W.M W.A (eval (.Call (.Name r p1) [d,g,.UnaryOp .USub (.Constant (.int 1) k1 p3) p4] [] p2) env) (λv j=>wpAny W.M W.A (pyIter v) R E j) E s:=by
 obtain rfl:=eq_of_beq J
 refine wK Z λgG kW _ _ _=>Call_ (nP lv (nt gG) kW H lv.ok.rg uS (by decide) ?_)
 have k3:aX W.t n (.k (.int (-1))) (.UnaryOp .USub (.Constant (.int 1) k1 p3) p4)=true:=rfl
 have g2:=Of (W:=W) (a:=hi) (b:=.k (.int (-1))) Y rfl B k3
 have g1:dq W.t n (.cons lo (M9 hi (.k (.int (-1))))) [d,g,.UnaryOp .USub (.Constant (.int 1) k1 p3) p4]=true:=by
  show(!bC d&&aX W.t n lo d&&dq W.t n (M9 hi (.k (.int (-1)))) _)=true
  rw[c1,D,g2];rfl
 have G:=eG (pos:=p2) (env:=env) g1
 refine callWith_of (P:=λ_=>True) (by rw[G.1];rfl) (jr (Ap rfl)) ?_
 rw[G.2 _ _ rfl,(eG (pos:=p2) (env:=env) g2).2 _ _ rfl]
 exact evalArgs_plain (spliced_cons (aN (ia _ D env L m opq l σ s _ E lv H h) λv x c s' e r H' V=>spliced_cons (aN (N _ B env L m opq l c s' _ E lv H' V) λv' y f i O r' z o=>
  spliced_cons (wpAny_UnaryOp (wpAny_Constant_int (neg_int λt=>spliced_nil ⟨trivial,eN r r' o λlo t1 y t2 q=>by
   have w:=U _ _ _ q
   obtain⟨rfl,w⟩:=w
   exact call_range_3 (by decide) (pc (s:={i with toks:=i.toks+1+1}) lv z (zf w) tS λI s2 u K hI=>k lo f I s2 q ((e.trans O).trans (d8.trans ⟨i.heap,_,rfl⟩ u)) K hI) (.inl (PyProof.noPylong_small (by decide)))⟩))))))
theorem EG{lo hi:Int}(h:0<=lo)(q:hi<=line):((aM lo hi).map AV.int).length<=line:=by
 rw[aM,List.length_map,List.length_map,List.length_range];exact Int.toNat_le.mpr (Int.le_trans (Int.sub_le_self hi h) q)
theorem oK{i:Nat}{lo hi:X}{q:CS}{e:X}{o:Expr}{x r:Str}{px pos p1 p2:Pos}{as:List Expr}{d:List Expr}{u:Scope}{use:Option (Value->Sem Unit)}{Q:PX}{D:Value->Shared->Prop}
  (c:aX W.t n (.compR i lo hi q e) (.ListComp o [⟨.Name x px,.Call (.Name r p1) as [] p2,d,0⟩] u pos)=true) (ia:∀e,aX W.t n lo e=true->W.SX n lo e) (J:∀e,aX W.t n hi e=true->W.SX n hi e)
  (R:∀n es,kM W.t n q es=true->W.SCS n q es) (Z:∀n o,aX W.t n e o=true->W.SX n e o)
  (lv:W.L env n L m opq l) (H:W.H L opq m σ s.heap) (h:cY W.F W.cal (.compR i lo hi q e) l σ Q)
  (p:oV W L m opq s (λys j=>∀c,j c=none->Q (.ref c) (upd j c (false,.list ys))) (λw C=>compPost W.M W.A E use D w C)):
  wpAny W.M W.A (comprehension (.ListComp o [⟨.Name x px,.Call (.Name r p1) as [] p2,d,0⟩] u pos) u env (firstIterPos [⟨.Name x px,.Call (.Name r p1) as [] p2,d,0⟩] pos) (newList []) (firstAsync [⟨.Name x px,.Call (.Name r p1) as [] p2,d,0⟩]) (firstIter [⟨.Name x px,.Call (.Name r p1) as [] p2,d,0⟩] env) use) D E s:=
 Af (Hh (yJ (um c))) λg G c8 c9=>Fn g λz U Y c4 N K=>
  have ok:=xq Y
  wpAny_comprehension_free (use:=use) rfl (λ_=>fI rfl) (iL λy B O=>lv.cc (nt z) y.1 (lG (lv.sc _) (ok.fr y B O))) ok.k (λy B e=>u9 (ok.lc y B (by rw[e];rfl)))
   (qq lv H N K G ia J h (λa b v f=>⟨Int.le_trans (by decide) f.1.1,f.1.2.1,Int.le_trans (by decide) f.1.2.2.1,f.1.2.2.2⟩) λlo hi v I s' f V H' hI=>
    oI p lv (nt z) ok U (R _ _ c8) (Z _ _ c9) (r8▸mn (lv.hh (nt z)) I lo 1 (hi-lo).toNat) (EG f.1.1 f.1.2.2.2) V H' (by show _=_;simp) trivial hI f.2)
theorem BD{i:Nat}{lo hi:X}{a:CS}{e:X}{ex:Expr}(c:aX W.t n (.compR i lo hi a e) ex=true)(w:∀e,aX W.t n lo e=true->W.SX n lo e)(o:∀e,aX W.t n hi e=true->W.SX n hi e)
  (p:∀n es,kM W.t n a es=true->W.SCS n a es) (u:∀n b,aX W.t n e b=true->W.SX n e b):W.SX n (.compR i lo hi a e) ex:=
 iQ c λb A y v g=>jg g λx f q k g=>gr g λr j z d g env L m opq l σ s Q E lv H h=>by
  rw[eval_ListComp]
  exact oK (px:=f) (pos:=v) (p1:=j) (p2:=d) g w o p u lv H h qy
end
end
section
variable {W:Wd}
mutual
theorem bY:∀(x:X) (n:Cn) (e:Expr),aX W.t n x e=true->W.SX n x e
 |.k _,_,_,c=>QL c
 |.v _,_,_,c=>Qn c
 |.at o _,n,_,c=>MV c λe c=>bY o n e c
 |.bin _ a b,n,_,c=>FE c (λe c=>bY a n e c) λe c=>bY b n e c
 |.cmp _ a b,n,_,c=>CH c (λe c=>bY a n e c) λe c=>bY b n e c
 |.orX a b,n,_,c=>K8 c (λe c=>bY a n e c) λe c=>bY b n e c
 |.ite t a b,n,_,c=>Ib c (λe c=>Em t n e c) (λe c=>bY a n e c) λe c=>bY b n e c
 |.sub a b,n,_,c=>Id c (λe c=>bY a n e c) λe c=>bY b n e c
 |.upto a b,n,_,c=>E6 c (λe c=>bY a n e c) λe c=>bY b n e c
 |.frm a b,n,_,c=>Gk c (λe c=>bY a n e c) λe c=>bY b n e c
 |.lst es,n,_,c=>Ii c λe c=>pG es n e c
 |.tup es,n,_,c=>G7 c λe c=>pG es n e c
 |.dic,_,_,c=>GC c
 |.fn _ es,n,_,c=>MU c λe c=>pG es n e c
 |.mk _ es,n,_,c=>LP c λe c=>pG es n e c
 |.mth o _ es,n,_,c=>G6 c (λe c=>bY o n e c) λe c=>pG es n e c
 |.bi _ es,n,_,c=>K7 c λe c=>pG es n e c
 |.bm _ o es,n,_,c=>MK c (λe c=>bY o n e c) λe c=>pG es n e c
 |.comp _ f d x,n,_,c=>Ey c (λe c=>bY f n e c) (λn es c=>sH d n es c) λn e c=>bY x n e c
 |.compR _ a b d x,n,_,c=>BD c (λe c=>bY a n e c) (λe c=>bY b n e c) (λn es c=>sH d n es c) λn e c=>bY x n e c
theorem pG:∀(xs:XS) (n:Cn) (es:List Expr),dq W.t n xs es=true->W.SXS n xs es
 |.nil,_,_,c=>l5 c
 |.cons x xs,n,_,c=>iz c (λe c=>bY x n e c) λe c=>pG xs n e c
theorem Em:∀(x:C) (n:Cn) (e:Expr),tW W.t n x e=true->W.SC n x e
 |.t (.cmp o a b),n,_,c=>o6 c (λe c=>CH c (λe c=>bY a n e c) λe c=>bY b n e c) λo' l j h=>by cases h;exact⟨λe c=>bY a n e c,λe c=>bY b n e c⟩
 |.t (.k v),n,_,c=>o6 c (λe c=>bY (.k v) n e c) λ_ _ _ h=>nomatch h
 |.t (.v i),n,_,c=>o6 c (λe c=>bY (.v i) n e c) λ_ _ _ h=>nomatch h
 |.t (.at o f),n,_,c=>o6 c (λe c=>bY (.at o f) n e c) λ_ _ _ h=>nomatch h
 |.t (.bin o a b),n,_,c=>o6 c (λe c=>bY (.bin o a b) n e c) λ_ _ _ h=>nomatch h
 |.t (.orX a b),n,_,c=>o6 c (λe c=>bY (.orX a b) n e c) λ_ _ _ h=>nomatch h
 |.t (.ite t a b),n,_,c=>o6 c (λe c=>bY (.ite t a b) n e c) λ_ _ _ h=>nomatch h
 |.t (.sub a b),n,_,c=>o6 c (λe c=>bY (.sub a b) n e c) λ_ _ _ h=>nomatch h
 |.t (.upto a b),n,_,c=>o6 c (λe c=>bY (.upto a b) n e c) λ_ _ _ h=>nomatch h
 |.t (.frm a b),n,_,c=>o6 c (λe c=>bY (.frm a b) n e c) λ_ _ _ h=>nomatch h
 |.t (.lst es),n,_,c=>o6 c (λe c=>bY (.lst es) n e c) λ_ _ _ h=>nomatch h
 |.t (.tup es),n,_,c=>o6 c (λe c=>bY (.tup es) n e c) λ_ _ _ h=>nomatch h
 |.t .dic,n,_,c=>o6 c (λe c=>bY .dic n e c) λ_ _ _ h=>nomatch h
 |.t (.fn f es),n,_,c=>o6 c (λe c=>bY (.fn f es) n e c) λ_ _ _ h=>nomatch h
 |.t (.mk f es),n,_,c=>o6 c (λe c=>bY (.mk f es) n e c) λ_ _ _ h=>nomatch h
 |.t (.mth o f es),n,_,c=>o6 c (λe c=>bY (.mth o f es) n e c) λ_ _ _ h=>nomatch h
 |.t (.bi f es),n,_,c=>o6 c (λe c=>bY (.bi f es) n e c) λ_ _ _ h=>nomatch h
 |.t (.bm f o es),n,_,c=>o6 c (λe c=>bY (.bm f o es) n e c) λ_ _ _ h=>nomatch h
 |.t (.comp i g d x),n,_,c=>o6 c (λe c=>bY (.comp i g d x) n e c) λ_ _ _ h=>nomatch h
 |.t (.compR i a b d x),n,_,c=>o6 c (λe c=>bY (.compR i a b d x) n e c) λ_ _ _ h=>nomatch h
 |.not x,n,_,c=>FP c λe c=>Em x n e c
 |.and d,n,_,c=>Gh c λe c=>sH d n e c
 |.or d,n,_,c=>HY c λe c=>sH d n e c
theorem sH:∀(a:CS) (n:Cn) (es:List Expr),kM W.t n a es=true->W.SCS n a es
 |.nil,n,es,c=>by
  refine cR c ?_
  trivial
 |.cons x a,n,es,c=>by
  refine iU c λe r g=>?_
  refine gG g λg1 g2=>?_
  exact⟨Em x n e g1,sH a n r g2⟩
end
end
section
structure Lw(W:Wd)(env:Env)(n:Cn)(L:Addr)(m:Str->Option Value)(U Z:List (Addr×Obj))(l:aG):Prop where
 lv:W.L env n L m (U++Z) l
 lf:n.lf=false
 ce:∀y,env.scope.names.lookup y=some .cell->∃ca o v,env.cells.lookup y=some ca/\(ca,o)∈U/\o.data=.cell v
 ij:∀y z ca,env.scope.names.lookup y=some .cell->env.cells.lookup y=some ca->env.cells.lookup z=some ca->z=y
 ap:∀y ca,env.scope.names.lookup y=some .cell->env.cells.lookup y=some ca->∀p∈Z,p.1≠ca
 ni:∀y z i,n.nm.lookup y=some i->n.nm.lookup z=some i->y=z
 nf:∀y,env.scope.names.lookup y≠some .free
inductive Da:Flow->Fl->Prop
 |next:Da .next .next
 |brk:Da .brk .brk
 |cont:Da .cont .cont
 |ret {v a}:VR v a->Da (.ret v) (.ret a)
section
variable {W:Wd} {env:Env} {n:Cn} {L:Addr} {m:Str->Option Value} {opq U Z:List (Addr×Obj)} {l:aG} {E:Value->Shared->Prop} {σ:Hp} {s:Shared}
inductive PT(W:Wd)(env:Env)(n:Cn)(L:Addr)(Z:List (Addr×Obj))(l:aG)(σ:Hp)(s s':Shared):Prop
 |mk m' cs' h' tk (h1:s'={s with heap:=h',toks:=tk}) (h2:Lw W env n L m' cs' Z l) (h3:W.H L (cs'++Z) m' σ h'):PT W env n L Z l σ s s'
inductive PS(W:Wd)(env:Env)(n:Cn)(L:Addr)(Z:List (Addr×Obj))(Q:Fl->aG->Hp->Prop)(s:Shared)(f:Flow)(s':Shared):Prop
 |mk fl l' σ' m' cs' h' tk (h1:s'={s with heap:=h',toks:=tk}) (h2:Da f fl) (h3:Lw W env n L m' cs' Z l') (h4:W.H L (cs'++Z) m' σ' h') (h5:Q fl l' σ'):PS W env n L Z Q s f s'
@[elab_as_elim] theorem yG{Q:Fl->aG->Hp->Prop}{P:Flow->Shared->Prop}{f:Flow}{s':Shared}(p:PS W env n L Z Q s f s')(k:∀{f e},Da f e->∀c b m' a s',d8 s s'->Lw W env n L m' a Z c->W.H L (a++Z) m' b s'.heap->Q e c b->P f s'):P f s':=by
 obtain⟨e,c,b,m',a,h,d,rfl,r,g,j,i⟩:=p
 exact k r c b m' a _ ⟨h,d,rfl⟩ g j i
theorem yS{Q:Fl->aG->Hp->Prop}{s':Shared}(e:d8 s s'){f:Flow}{a:Shared}(p:PS W env n L Z Q s' f a):PS W env n L Z Q s f a:=by
 obtain⟨t,u,rfl⟩:=e
 obtain⟨q,j,b,g,d,i,c,rfl,r,k,o,h⟩:=p
 exact⟨q,j,b,g,d,i,c,rfl,r,k,o,h⟩
theorem yv{t:Sem Flow}{Q:Fl->aG->Hp->Prop}{a:Shared}(e:d8 a s)(h:wpAny W.M W.A t (PS W env n L Z Q s) E s):wpAny W.M W.A t (PS W env n L Z Q a) E s:=
 wpAny_mono h (λ_ _ p=>yS e p) λ_ _ x=>x
theorem bf{Q:Fl->aG->Hp->Prop}{a:Shared}{f:Flow}{b:Fl}(e:d8 a s)(r:Da f b)(c:Lw W env n L m U Z l)(H:W.H L (U++Z) m σ s.heap)(q:Q b l σ):PS W env n L Z Q a f s:=
 yS e ⟨b,l,σ,m,U,s.heap,s.toks,rfl,r,c,H,q⟩
theorem Ex{x:Str}{i:Nat}(h:n.sto x=some i):n.nm.lookup x=some i:=lJ h λ_ h=>h
theorem jQ{a:Addr}{ob:Obj}:∀{o:List (Addr×Obj)},(∀p∈o,p.1≠a)->eQ a ob o=o
 |[],_=>rfl
 |p::r,h=>by
  show(if p.1=a then(a,ob) else p)::eQ a ob r=_
  rw[if_neg (h p (.head _)),jQ λq b=>h q (.tail _ b)]
theorem rZ{a:Addr}{ob:Obj}{o o':List (Addr×Obj)}:eQ a ob (o++o')=eQ a ob o++eQ a ob o':=List.map_append
theorem xL{x:Str}{i:Nat}{v:Value}{a:AV}{m':Str->Option Value}{o:List (Addr×Obj)}(g:Lw W env n L m U Z l)(hi:n.nm.lookup x=some i)(r:VR v a)(p:AF env m' o x v)(k:∀y w,y≠x->AF env m (U++Z) y w->AF env m' o y w):AD env n.nm m' o (l.set i a):=λy j b f=>by
 by_cases c:y=x
 ·rw[c,hi]at b
  obtain rfl:=Option.some.inj b
  rw[PZ f,c]
  exact⟨v,p,r⟩
 ·have d:i≠j:=λe=>c (g.ni y x i (e▸b) hi)
  rw[iO d]at f ⊢
  exact(g.lv.lr y j b f).elim λw h=>⟨w,k y w c h.1,h.2⟩
theorem rR{x:Str}{i:Nat}{v:Value}{a:AV}(b:Lw W env n L m U Z l)(hi:n.nm.lookup x=some i)(c:env.scope.names.lookup x=some .local)(r:VR v a):AD env n.nm (HO m x v) (U++Z) (l.set i a):=
 xL b hi r (.inl ⟨c,if_pos rfl⟩) λy w d h=>h.imp (λh=>⟨h.1,(if_neg d).trans h.2⟩) id
theorem Av{x:Str}{i:Nat}{v:Value}{a:AV}{b:Addr}{o o':Obj}(f:Lw W env n L m U Z l)(hi:n.nm.lookup x=some i)(g:env.scope.names.lookup x=some .cell)(d:env.cells.lookup x=some b)(t:(b,o)∈U)(j:o'.data=.cell (some v))(r:VR v a):
  AD env n.nm m (eQ b o' U++Z) (l.set i a):=
 xL f hi r (.inr ⟨by rw[g];rfl,b,o',d,List.mem_append_left _ (eB t),j⟩) λy w p h=>h.imp id λh=>⟨h.1,h.2.elim λc h=>h.elim λk h=>⟨c,k,h.1,
  (aE h.2.1).elim (λq=>List.mem_append_left _ (bg q λe=>p (f.ij x y b g d ((show c=b from e)▸h.1)))) (List.mem_append_right _),h.2.2⟩⟩
theorem qL{x:Str}{i:Nat}{v:Value}{a:AV}(b:Lw W env n L m U Z l)(J:n.sto x=some i)(r:VR v a)(H:W.H L (U++Z) m σ s.heap):
  wpAny W.M W.A (storeName env x v) (λ_ s'=>PT W env n L Z (l.set i a) σ s s') E s:=
 lJ J λc u=>bor c
  (λc=>by
   have d:=b.lv.sc x
   rw[bZ c]at d
   replace d:=d.local
   refine wpAny_storeName_local (m:=m) d (by rw[b.lv.lo];exact H.casesOn λ_ _ _ _ F _ _=>F.ns) (λk t j=>?_) (gL b.lv.gd.fk)
   rw[b.lv.lo]at t j
   exact⟨HO m x v,U,k,s.toks+1,rfl,⟨{b.lv with lr:=rR b u d r},b.lf,b.ce,b.ij,b.ap,b.ni,b.nf⟩,HS.store H t j⟩)
  λc=>by
   have d:=b.lv.sc x
   rw[bZ c]at d
   replace d:=d.cell
   obtain⟨f,o,Q,q,p,K⟩:=b.ce x d
   have B:(f,o)∈U++Z:=List.mem_append_left _ p
   refine wpAny_storeName_cell b.lv.gd.fk d q ⟨o,(H.opq_get B).1,K⟩ λk G j=>G.elim λw g=>?_
   have D:=HS.opq_set H B j g.1
   rw[rZ,jQ (b.ap x f d q)]at D
   refine⟨m,eQ f w U,k,s.toks,rfl,⟨{b.lv with lr:=Av b u d q p g.2 r},b.lf,λy O=>?_,b.ij,b.ap,b.ni,b.nf⟩,D⟩
   exact(b.ce y O).elim λz h=>h.elim λN h=>h.elim λI h=>if e:z=f then⟨f,w,some v,e▸h.1,eB p,g.2⟩ else⟨z,N,I,h.1,bg h.2.1 e,h.2.2⟩
theorem EF{d:aG}{s':Shared}(e:d8 s s'){a:Shared}(p:PT W env n L Z d σ s' a):PT W env n L Z d σ s a:=by
 obtain⟨j,i,rfl⟩:=e
 obtain⟨g,b,h,c,rfl,r,f⟩:=p
 exact⟨g,b,h,c,rfl,r,f⟩
theorem l8{x:Str}{i:Nat}{v:Value}{a:AV}{R:Shared->Prop}(d:Lw W env n L m U Z l)(e:n.sto x=some i)(r:VR v a)(H:W.H L (U++Z) m σ s.heap)(k:∀m' b s',d8 s s'->Lw W env n L m' b Z (l.set i a)->W.H L (b++Z) m' σ s'.heap->R s'):
  wpAny W.M W.A (storeName env x v) (λ_ s'=>R s') E s:=
 wpAny_mono (qL d e r H) (λ_ s' p=>by obtain⟨m',b,f,c,rfl,r,g⟩:=p;exact k m' b _ ⟨f,c,rfl⟩ r g) λ_ _ x=>x
theorem ko:∀{is:List Nat} {ts:List Expr} {vs:List Value} {as:List AV} {l a:aG} {m:Str->Option Value} {U:List (Addr×Obj)} {s:Shared},names n is ts=true->yW l is as=some a->aF VR vs as->Lw W env n L m U Z l->W.H L (U++Z) m σ s.heap->
  wpAny W.M W.A (assignInOrder ((assignEach ts env).map (·.2)) vs) (λ_ s'=>PT W env n L Z a σ s s') E s
 |[],ts,_,as,l,a,m,U,s,c,h,r,b,H=>cR (P:=λts=>wpAny W.M W.A (assignInOrder ((assignEach ts env).map (·.2)) _) _ E s) c (by
  cases r with
  |nil=>obtain rfl:=Option.some.inj h;exact assignInOrder_nil ⟨m,U,s.heap,s.toks,rfl,b,H⟩
  |cons _ _=>cases h)
 |i::is,ts,vs,as,l,a,m,U,s,c,h,r,b,H=>iU (P:=λts=>wpAny W.M W.A (assignInOrder ((assignEach ts env).map (·.2)) vs) _ E s) c λt ts c=>bX (P:=λt=>wpAny W.M W.A (assignInOrder ((assignEach (t::ts) env).map (·.2)) vs) _ E s) c λx p c=>gG c λg e=>by
  cases r with
  |nil=>cases h
  |cons k r=>
   exact assignInOrder_cons (PySem.wpAny_assign_Name (l8 b (bH g) k H λq j s' f d o=>wpAny_mono (ko e h r d o) (λ_ _ p=>EF f p) λ_ _ x=>x))
theorem lS{env:Env}{n:Cn}:∀{is:List Nat} {ts:List Expr},names n is ts=true->(assignEach ts env).length=is.length/\(assignEach ts env).findIdx? (·.1)=none
 |[],ts,c=>cR c ⟨rfl,rfl⟩
 |i::is,ts,c=>iU c λt ts c=>bX c λx p c=>gG c λ_ a=>
  have h:=lS (env:=env) a
  ⟨congrArg Nat.succ h.1,by
   show((false,assign (.Name x p) env)::assignEach ts env).findIdx? (·.1)=none
   rw[List.findIdx?_cons,h.2];rfl⟩
theorem qP:∀{is:List Nat} {as:List AV} {l a:aG},yW l is as=some a->is.length=as.length
 |[],[],_,_,_=>rfl
 |[],_::_,_,_,h=>by cases h
 |_::_,[],_,_,h=>by cases h
 |_::is,_::as,_,_,h=>congrArg Nat.succ (qP (is:=is) (as:=as) h)
theorem wf{is:List Nat}{a:AV}{Q:aG->Prop}(b:Gz is=true)(h:eZ is a l σ Q):kH a λr=>cT (σ r) λvs=>op (yW l is vs) λc=>vs.length<=8/\Q c:=by
 cases is with
 |nil=>exact fT b
 |cons i is=>cases is with
  |nil=>exact fT b
  |cons j is=>exact h
theorem kF{is:List Nat}{ts:List Expr}{z:Nat}{pos:Pos}{v:Value}{a:AV}{R:Shared->Prop}{Q:aG->Prop}(q:Gz is=true)(c:names n is ts=true)(r:VR v a)(i:Lw W env n L m U Z l)(H:W.H L (U++Z) m σ s.heap)(h:eZ is a l σ Q)
  (k:∀j m' b s',Q j->d8 s s'->Lw W env n L m' b Z j->W.H L (b++Z) m' σ s'.heap->R s'):
  wpAny W.M W.A (assign (.Tuple ts z pos) env v) (λ_ s'=>R s') E s:=
 b8 r (wf q h) λO h=>CE h λV Y ex h=>dh h λj t u=>(HS.tup i.lv.gd.st H ex).elim λB d=>d.elim λK d=>by
  have e:=lS (env:=env) c
  refine H.casesOn λg I f D F N R=>unpackN_ (items:=B.toArray) F N ⟨_,d.1,rfl,_,rfl⟩ (i.lv.hh i.lf) (e.1.trans ((qP t).trans d.2.length.symm)) e.2 λy w G=>?_
  exact wpAny_mono (ko (s:={s with heap:=y}) c t d.2 i ⟨g,I,f,D,w,G,R⟩) (λ_ _ p=>by obtain⟨m',b,q,o,rfl,r,J⟩:=p;exact k j m' b _ u.2 ⟨q,o,rfl⟩ r J) λ_ _ x=>x
end
end
section
def Wd.StOk(W:Wd)(n:Cn)(x:S)(st:Stmt):Prop:=∀env L m U Z l σ s Q E,Lw W env n L m U Z l->W.H L (U++Z) m σ s.heap->Os W.F W.cal x l σ Q->wpAny W.M W.A (exec st env) (PS W env n L Z Q s) E s
def Wd.StsOk(W:Wd)(n:Cn)(x:SS)(a:List Stmt):Prop:=∀env L m U Z l σ s Q E,Lw W env n L m U Z l->W.H L (U++Z) m σ s.heap->jf W.F W.cal x l σ Q->wpAny W.M W.A (execs a env) (PS W env n L Z Q s) E s
section
variable {W:Wd} {env:Env} {n:Cn} {L:Addr} {m:Str->Option Value} {opq U Z:List (Addr×Obj)} {l:aG} {E:Value->Shared->Prop} {σ:Hp} {s:Shared}
theorem qm{e:Expr}{t:Option Expr}{k:Nat}(h:qg e=false):swapsWith e t k env=pure false:=by
 cases e<;>first|rfl|cases h
theorem jP{e t:Expr}{k:Nat}(h:qg e=false):swapsWithSole [t] e k env=pure false:=by
 cases e<;>first|rfl|cases h
theorem vL{e:Expr}{ts:List Expr}{k:Nat}{p:Pos}(h:xu e=true):swappedStores [.Tuple ts k p] e env=pure none:=by
 cases e<;>first|rfl|cases h
theorem wn{i:Expr}{ov a new:Value}(h:f8 i=false):augStore i ov a new=(do holding [new,ov,a] (PySem.setItem ov a new);release [new,ov,a] [];pure .next):=by
 cases i<;>first|rfl|cases h
theorem mU{x:Str}{i:Nat}{v:Value}{a:AV}{b:Shared}{Q:Fl->aG->Hp->Prop}(e:d8 b s)(d:Lw W env n L m U Z l)(g:n.sto x=some i)(r:VR v a)(H:W.H L (U++Z) m σ s.heap)(q:Q .next (l.set i a) σ):
  wpAny W.M W.A (storeName env x v) (λ_=>PS W env n L Z Q b .next) E s:=
 l8 d g r H λk h o f c j=>bf (e.trans f) .next c j q
theorem rG{e:Expr}{b:List Comprehension}{a:Scope}{p pos:Pos}{x:Str}{k:Nat}:
  swapsWith (.ListComp e b a p) (some (.Name x pos)) k env=pure (env.blockKind==.function&&env.kindOf x==some .local&&pos.line==p.line&&!(a.names.any λ(n,k)=>n==x&&(k==.local||k==.cell))):=rfl
theorem Fs{x:Str}{i:Nat}{Q:Fl->aG->Hp->Prop}{s':Shared}(b:Lw W env n L m U Z l)(k:n.sto x=some i)(g:env.kindOf x=some .local)(h:PU W L (U++Z) m x (λv c=>Q .next (l.set i v) c) s s'):PS W env n L Z Q s .next s':=
 h.casesOn λv a c f d e r j q=>⟨.next,l.set i a,c,HO m x v,U,f,d,e,.next,⟨{b.lv with lr:=rR b (Ex k) g r},b.lf,b.ce,b.ij,b.ap,b.ni,b.nf⟩,j,q⟩
theorem RN{t:Ct}{e:X}{a:Expr}{d:List Comprehension}{b:Scope}{p:Pos}(c:aX t n e (.ListComp a d b p)=true):e.ctorIdx=18∨e.ctorIdx=19:=by
 cases e with
 |comp=>exact .inl rfl
 |compR=>exact .inr rfl
 |_=>exact absurd c Bool.false_ne_true
theorem yr{i:Nat}{x:Str}{px N p:Pos}{e:X}{k:Expr}{d:List Comprehension}{f:Scope}{Q:Fl->aG->Hp->Prop}(c:aX W.t n e (.ListComp k d f p)=true)(Y:n.sto x=some i)(I:env.kindOf x=some .local)
  (D:swapsWith (.ListComp k d f p) (some (.Name x px)) N.line env=pure true) (w:Lw W env n L m U Z l) (H:W.H L (U++Z) m σ s.heap) (h:cY W.F W.cal e l σ λv b=>Q .next (l.set i v) b):
  wpAny W.M W.A (exec (.Assign [.Name x px] (.ListComp k d f p) N) env) (PS W env n L Z Q s) E s:=by
 rw[exec_Assign_Name_used _ _ _ _ D]
 refine wpAny_bind (wpAny_standAt (wpAny_bind (wpAny_bind ?_)))
 show wpAny W.M W.A (comprehension (.ListComp k d f p) f env (firstIterPos d p) (newList []) (firstAsync d) (firstIter d env) (some (assign (.Name x px) env))) _ E s
 have fin:=λ(g:Shared) u=>wpAny_pure (M:=W.M) (A:=W.A) (E:=E) (Q:=λ_ g=>wpAny W.M W.A (pure Flow.next) (PS W env n L Z Q s) E g) (a:=()) (wpAny_pure (Fs (s':=g) w Y I u))
 rcases RN c with q|q
 ·exact X.comp.elim (motive_1:=λe=>aX W.t n e (.ListComp k d f p)=true->cY W.F W.cal e l σ (λv b=>Q .next (l.set i v) b)->wpAny W.M W.A (comprehension (.ListComp k d f p) f env (firstIterPos d p) (newList []) (firstAsync d) (firstIter d env) (some (assign (.Name x px) env))) _ E s) e q
   (λj G r J c h=>jg (um c) λx0 o z y c=>wpAny_mono (sq (px:=o) (pos:=p) (it':=z) c (λe c=>bY G n e c) (λn B c=>sH r n B c) (λn e c=>bY J n e c) w.lv H h (sh (Q:=λv b=>Q .next (l.set i v) b) w.lv I)) (λ_ g u=>fin g u) λ_ _ x=>x) c h
 ·exact X.compR.elim (motive_1:=λe=>aX W.t n e (.ListComp k d f p)=true->cY W.F W.cal e l σ (λv b=>Q .next (l.set i v) b)->wpAny W.M W.A (comprehension (.ListComp k d f p) f env (firstIterPos d p) (newList []) (firstAsync d) (firstIter d env) (some (assign (.Name x px) env))) _ E s) e q
   (λj lo V r J c h=>jg (um c) λx0 o z y c=>gr c λr0 O R K c=>wpAny_mono (oK (px:=o) (pos:=p) (p1:=O) (p2:=K) c (λe c=>bY lo n e c) (λe c=>bY V n e c) (λn B c=>sH r n B c) (λn e c=>bY J n e c) w.lv H h (sh (Q:=λv b=>Q .next (l.set i v) b) w.lv I)) (λ_ g u=>fin g u) λ_ _ x=>x) c h
theorem Fw{i:Nat}{e:X}{st:Stmt}(c:oc W.t n (.asg i e) st=true):W.StOk n (.asg i e) st:=
 fj c λV d y g=>dP g λd0 g=>bX g λx o g=>kW g λB G u env L m U Z l σ s Q E f H h=>by
  have w:=bH B
  have plain:swapsWith d (some (.Name x o)) y.line env=pure false->wpAny W.M W.A (exec (.Assign [.Name x o] d y) env) (PS W env n L Z Q s) E s:=λD=>wpAny_Assign_Name (aN (bY e n d u env L m (U++Z) l σ s (λv b=>Q .next (l.set i v) b) E f.lv H h) λv a b O J r N I=>mU J f w r N I) D
  cases q:qg d with
  |false=>exact plain (qm q)
  |true=>
   obtain⟨R,Y,z,p,rfl⟩:=FY q G
   cases j:(env.blockKind==.function&&env.kindOf x==some .local&&o.line==p.line&&!(z.names.any λ(n,k)=>n==x&&(k==.local||k==.cell)))with
   |false=>exact plain (by rw[rG,j])
   |true=>exact Af j λ_ K _ _=>yr u w (eq_of_beq K) (by rw[rG,j]) f H h
theorem EV{is:List Nat}{e:X}{st:Stmt}(c:oc W.t n (.asgT is e) st=true):W.StOk n (.asgT is e) st:=
 fj c λD q R g=>dP g λV g=>iX g λK k N g=>wK g λz x A i p env L m U Z l σ s Q E f H h=>
  Assign_Tuple (aN (bY e n q p env L m (U++Z) l σ s _ E f.lv H h) λv a j J y r G w=>kF A i r f G w λO I B s2 u b d o=>bf (y.trans b) .next d o u) (jP (nt z)) (vL x)
theorem ji{Q:Fl->aG->Hp->Prop}{a:Shared}{t:Sem Unit}(e:d8 a s)(d:Lw W env n L m U Z l)
  (h:wpAny W.M W.A t (λ_ s'=>kC W.T W.hb W.h₀ L (U++Z) m (λσ=>Q .next l σ) s s') E s):wpAny W.M W.A t (λ_=>PS W env n L Z Q a .next) E s:=
 wpAny_mono h (λ_ s' p=>by
  obtain⟨b,f,c,rfl,g,q⟩:=p
  exact bf (e.trans ⟨f,c,rfl⟩) .next d g q) λ_ _ x=>x
theorem EN{o:X}{f:Nat}{e:X}{st:Stmt}(c:oc W.t n (.setA o f e) st=true):W.StOk n (.setA o f e) st:=
 fj c λK w V g=>dP g λY g=>dc g λk x I g=>Af g λD z G p env L m U Z l σ s Q E b H h=>
  wpAny_Assign_stores (aN (bY e n w p env L m (U++Z) l σ s _ E b.lv H h) λv a d j B r O y=>show wpAny W.M W.A (assign (.Attribute k x I) env v) _ E j from
   kas_attr (aN (bY o n k G env L m (U++Z) l d j _ E b.lv O y) λR a2 q s2 i N u J=>ji (B.trans i) b (iP b.lv.ok b.lv.gd.Xb (bH z) N r u J))) (jP (nt D)) rfl
theorem D9{o i:X}{e:X}{st:Stmt}(c:oc W.t n (.setI o i e) st=true):W.StOk n (.setI o i e) st:=
 fj c λR B sp g=>dP g λd0 g=>bJ g λu q K g=>wK g λI c2 J w z env L m U Z l σ s Q E b H h=>
  wpAny_Assign_stores (aN (bY e n B z env L m (U++Z) l σ s _ E b.lv H h) λv a d p G r H' D=>show wpAny W.M W.A (assign (.Subscript u q K) env v) _ E p from
   kas_sub (aN (bY o n u J env L m (U++Z) l d p _ E b.lv H' D) λv2 a2 j s2 k r2 y N=>aN (bY i n q w env L m (U++Z) l j s2 _ E b.lv y N) λv3 a3 V s3 f x Y O=>
    ji ((G.trans k).trans f) b (iM r2 x r Y O))) (jP (nt I)) rfl
theorem jK{o:BO}{x y:Int}{t u:Tok}{Q:PX}(a:tM o=true)(H:W.H L opq m σ s.heap)(h:bin o (.int x) (.int y) σ Q):wpAny W.M W.A (inplaceOp (NB o) (.int x t) (.int y u)) (W.P L opq m Q s) E s:=by
 cases o with
 |add=>exact iadd_int (aC.same H (oz _ _) h)
 |sub=>exact PyProof.Rows.isub_int (aC.same H (oz _ _) h)
 |mul=>exact PyProof.Rows.imul_int (aC.same H (oz _ _) h.2) (PySem.IntMulOk.of_left (uJ h.1))
 |_=>cases a
theorem zK{a:AV}{k:Int->Prop}(h:bU a k):zd a λv=>bU v k:=by
 cases a with
 |int i=>exact h
 |_=>exact h.elim
theorem Bs{x:Str}{i:Nat}(a:n.sto x=some i):n.loc x=some i:=lJ a λc h=>by unfold Cn.loc;rw[c];exact h
theorem FL{i:Nat}{o:BO}{e:X}{st:Stmt}(c:oc W.t n (.aug i o e) st=true):W.StOk n (.aug i o e) st:=
 eO c λd0 o' G sp g=>bX g λx px g=>Af g λO K I N=>cg I λenv L m U Z l σ s Q E p H h=>
  have z:=bH K
  wpAny_AugAssign_Name (aN (rF (Q:=λv f=>bU v λx=>cY W.F W.cal e l f λy d=>bU y λy=>bin o (.int x) (.int y) d λv b=>Q .next (l.set i v) b) p.lv (Bs z) H (zK h)) λv a k s1 J r H1 u=>bq r u λx t1 u=>
   aN (bY e n G N env L m (U++Z) l k s1 _ E p.lv H1 u) λv2 a2 A s2 w r2 D q=>bq r2 q λy t2 q=>aN (jK (E:=E) O D q) λv3 a3 V s3 j B Y R=>mU ((J.trans w).trans j) p z B Y R)
theorem Dq{o:X}{f:Nat}{op:BO}{e:X}{st:Stmt}(c:oc W.t n (.augA o f op e) st=true):W.StOk n (.augA o f op e) st:=
 eO c λd0 z D sp g=>dc g λO x px g=>Fn g λJ c1 q I u A=>cg I λenv L m U Z l σ s Q E a H h=>
  wpAny_AugAssign_AttributeAny (aN (bY o n O u env L m (U++Z) l σ s _ E a.lv H h) λv1 a1 B s1 j r H1 N=>aN (mR (E:=E) a.lv.ok a.lv.gd.Xb a.lv.gd.st (bH q) r H1 N) λv2 a2 d s2 k r2 w K=>
   aN (bY e n D A env L m (U++Z) l d s2 _ E a.lv w K) λv3 a3 V s3 b v Y p=>eN r2 v p λx t1 y t2 p=>aN (jK (E:=E) J Y p) λv4 a4 β s4 i R G h4=>
    ji (((j.trans k).trans b).trans i) a (iP a.lv.ok a.lv.gd.Xb (bH q) r R G h4))
theorem D1{o i:X}{op:BO}{e:X}{st:Stmt}(c:oc W.t n (.augI o i op e) st=true):W.StOk n (.augI o i op e) st:=
 eO c λd0 z D sp g=>bJ g λo' i' px g=>Fn g λI V Y w c5 c6=>cg Y λenv L m U Z l σ s Q E a H h=>
  wpAny_AugAssign_SubscriptAny (aN (bY o n o' w env L m (U++Z) l σ s _ E a.lv H h) λv1 a1 b s1 q v H1 h1=>aN (bY i n i' c5 env L m (U++Z) l b s1 _ E a.lv H1 h1) λv2 a2 γ s2 r u N A=>
   aN (nk (E:=E) a.lv.gd.st v u N A) λv3 a3 j B f r3 H3 h3=>aN (bY e n D c6 env L m (U++Z) l j B _ E a.lv H3 h3) λv4 a4 β s4 p J O d=>eN r3 J d λx t1 y t2 d=>
    aN (jK (E:=E) I O d) λv5 a5 R s5 k K H5 G=>ji ((((q.trans r).trans f).trans p).trans k) a (iM v u K H5 G)) λov iv new=>wn (nt V)
theorem M4{e:X}{st:Stmt}(c:oc W.t n (.ex e) st=true):W.StOk n (.ex e) st:=
 vG c λo p g=>gG g λi f env L m U Z l σ s Q E a H h=>
  wpAny_Expr_any (aN (bY e n _ f env L m (U++Z) l σ s _ E a.lv H h) λr q d s1 b u k j=>bf b .next a k j) (by unfold interactive;rw[a.lv.gd.fk];rfl) (qm (nt i))
theorem E8{v:AV}(h:C4 v=true):v=.none:=by
 cases v with
 |none=>rfl
 |_=>cases h
theorem HB{e:X}{st:Stmt}(c:oc W.t n (.ret e) st=true):W.StOk n (.ret e) st:=
 rY c λo p g=>bor g
  (λg=>sK g λk g env L m U Z l σ s Q E a H h=>wpAny_Return_some (aN (bY e n _ g env L m (U++Z) l σ s _ E a.lv H h) λr q d s1 b i j f=>bf b (.ret i) a j f))
  λg=>gG g λg2 g3=>fJ g2 (xD g3 λv g=>by obtain rfl:=E8 g;exact λenv L m U Z l σ s Q E a H h=>wpAny_Return_none (bf (.refl s) (.ret PG) a H h))
theorem Hy{t:C}{a b:SS}{st:Stmt}(c:oc W.t n (.ite t a b) st=true)(u:∀d,aJ W.t n a d=true->W.StsOk n a d)(o:∀d,aJ W.t n b d=true->W.StsOk n b d):W.StOk n (.ite t a b) st:=
 Bk c λv y w x g=>kW g λq p r env L m U Z l σ s Q E i H h=>
  wpAny_If (jE (Em t n _ q env L m (U++Z) l σ s _ E i.lv H h) λb e s1 f k j=>by
   cases b with
   |true=>rw[if_pos rfl];exact yv f (u _ p env L m U Z l e s1 Q E i k (j.1 rfl))
   |false=>rw[if_neg Bool.false_ne_true];exact yv f (o _ r env L m U Z l e s1 Q E i k (j.2 rfl)))
theorem G1{st:Stmt}(c:oc W.t n .brk st=true):W.StOk n .brk st:=tx c λb g env L m U Z l σ s Q E a H h=>wpAny_Break (bf (.refl s) .brk a H h)
theorem HP{st:Stmt}(c:oc W.t n .cnt st=true):W.StOk n .cnt st:=oe c λb g env L m U Z l σ s Q E a H h=>wpAny_Continue (bf (.refl s) .cont a H h)
theorem Gw{st:Stmt}(c:oc W.t n .pas st=true):W.StOk n .pas st:=vZ c λb g env L m U Z l σ s Q E a H h=>wpAny_Pass (bf (.refl s) .next a H h)
theorem D6{o i:X}{st:Stmt}(c:oc W.t n (.delI o i) st=true):W.StOk n (.delI o i) st:=
 qQ c λy J g=>dP g λR g=>bJ g λw q I g=>kW g λG r f env L m U Z l σ s Q E b H h=>
  wpAny_Delete (wpAny_deleteEach_cons (wpAny_delete_Subscript (aN (bY o n w r env L m (U++Z) l σ s _ E b.lv H h) λO K a s1 d z A v=>aN (bY i n q f env L m (U++Z) l a s1 _ E b.lv A v) λD V j s2 e B k u=>
   wpAny_mono (ji (Q:=Q) (d.trans e) b (oi z B k u)) (λ_ N p=>wpAny_deleteEach_nil p) λ_ _ x=>x)))
theorem FU{b:SS}{st:Stmt}(c:oc W.t n (.tri b) st=true)(j:∀a,aJ W.t n b a=true->W.StsOk n b a):W.StOk n (.tri b) st:=
 yz c λu d o f v g=>Af g λk i e g2=>cR e (cR i λenv L m U Z l σ s Q E q H h=>by
  cases d with
  |nil=>cases k
  |cons r d=>
   refine wpAny_Try_except (wpAny_mono (j _ g2 env L m U Z l σ s Q _ q H h) (λf s1 p=>?_) λ_ _ x=>x)
   cases f with
   |next=>exact wpAny_execs_nil p
   |_=>exact p)
theorem GL{a:List Stmt}(c:aJ W.t n .nil a=true):W.StsOk n .nil a:=cR c λenv L m U Z l σ s Q E b H h=>wpAny_execs_nil (bf (.refl s) .next b H h)
theorem DR{x:S}{xs:SS}{b:List Stmt}(c:aJ W.t n (.cons x xs) b=true)(B:∀st,oc W.t n x st=true->W.StOk n x st)(k:∀o,aJ W.t n xs o=true->W.StsOk n xs o):W.StsOk n (.cons x xs) b:=
 iU c λD r g=>gG g λz y env L m U Z l σ s Q E w H h=>
  wpAny_execs_cons (wpAny_mono (B _ z env L m U Z l σ s _ E w H h) (λf s1 p=>yG p λv A i u j s1 d a e q=>by
   cases v with
   |next=>exact yv d (k _ y env L u j Z A i _ Q E a e q)
   |brk=>exact bf d .brk a e q
   |cont=>exact bf d .cont a e q
   |ret r=>exact bf d (.ret r) a e q) λ_ _ x=>x)
end
end
section
section
variable {W:Wd} {env:Env} {n:Cn} {L:Addr} {m:Str->Option Value} {opq U Z:List (Addr×Obj)} {l:aG} {E:Value->Shared->Prop} {σ:Hp} {s:Shared}
theorem Lw.re{d b:List (Addr×Obj)}(c:Lw W env n L m U Z l)
  (t:∀y a o,env.scope.names.lookup y=some .cell->env.cells.lookup y=some a->(a,o)∈U++Z->(a,o)∈d++b)
  (k:∀y a o,env.scope.names.lookup y=some .cell->env.cells.lookup y=some a->(a,o)∈U->(a,o)∈d)
  (u:∀y a,env.scope.names.lookup y=some .cell->env.cells.lookup y=some a->∀p∈b,p.1≠a):Lw W env n L m d b l where
 lv:={c.lv with lr:=λy j x i=>(c.lv.lr y j x i).elim λw h=>⟨w,h.1.imp id λq=>⟨q.1,q.2.elim λf r=>r.elim λo r=>⟨f,o,r.1,t y f o (bor q.1 bZ λe=>absurd (bZ e) (c.nf y)) r.1 r.2.1,r.2.2⟩⟩,h.2⟩}
 lf:=c.lf
 ce:=λy g=>(c.ce y g).elim λa h=>h.elim λo h=>h.elim λv h=>⟨a,o,v,h.1,k y a o g h.1 h.2.1,h.2.2⟩
 ij:=c.ij
 ap:=u
 ni:=c.ni
 nf:=c.nf
theorem AR{P:Prop}{p q:Addr×Obj}{a b:List (Addr×Obj)}(h:p∈a++q::b)(f:p∈a->P)(g:p=q->P)(k:p∈b->P):P:=(aE h).elim f λh=>(au h).elim g k
theorem Lw.ne{I:Addr}{ob:Obj}(c:Lw W env n L m U ((I,ob)::Z) l){y:Str}{a:Addr}(d:env.scope.names.lookup y=some .cell)(b:env.cells.lookup y=some a):a≠I:=λe=>c.ap y a d b _ (.head _) e.symm
theorem Lw.it_new{I:Addr}{ob:Obj}(b:Lw W env n L m U Z l)(hI:∀p∈U++Z,p.1≠I):Lw W env n L m U ((I,ob)::Z) l:=
 b.re (λy a o _ _ h=>(aE h).elim (List.mem_append_left _) λh=>List.mem_append_right _ (.tail _ h)) (λy a o _ _ h=>h)
  λy a d c p f=>(au f).elim (λe=>(b.ce y d).elim λg h=>h.elim λo h=>h.elim λv h=>λq=>hI _ (List.mem_append_left _ h.2.1) ((Option.some.inj (h.1.symm.trans c)).trans (q.symm.trans (congrArg Prod.fst e)))) (b.ap y a d c p)
theorem Lw.it_set{I:Addr}{ob ob':Obj}(c:Lw W env n L m U ((I,ob)::Z) l):Lw W env n L m (eQ I ob' U) ((I,ob')::Z) l:=
 c.re (λy f o b a h=>AR h (λh=>List.mem_append_left _ (bg h (c.ne b a))) (λe=>absurd (Prod.mk.inj e).1 (c.ne b a)) λh=>List.mem_append_right _ (.tail _ h)) (λy f o b a h=>bg h (c.ne b a))
  λy f b a p d=>(au d).elim (λe=>e▸Ne.symm (c.ne b a)) λd=>c.ap y f b a p (.tail _ d)
theorem Lw.it_end{I:Addr}{ob:Obj}(c:Lw W env n L m U ((I,ob)::Z) l):Lw W env n L m (cy I U) Z l:=
 c.re (λy d o b a h=>AR h (λh=>List.mem_append_left _ (aA.mpr ⟨h,c.ne b a⟩)) (λe=>absurd (Prod.mk.inj e).1 (c.ne b a)) (List.mem_append_right _)) (λy d o b a h=>aA.mpr ⟨h,c.ne b a⟩) λy d b a p f=>c.ap y d b a p (.tail _ f)
theorem Lw.it_off{I:Addr}{ob:Obj}(d:Lw W env n L m U ((I,ob)::Z) l):Lw W env n L m U Z l:=
 d.re (λy c o b a h=>AR h (List.mem_append_left _) (λe=>absurd (Prod.mk.inj e).1 (d.ne b a)) (List.mem_append_right _)) (λy c o b a h=>h) λy c b a p f=>d.ap y c b a p (.tail _ f)
theorem Cp{I:Addr}{ob:Obj}{h:Heap}(H:W.H L (U++(I,ob)::Z) m σ h):W.H L (U++Z) m σ h:=H.opq_sub λp a=>(aE a).elim (List.mem_append_left _) λh=>List.mem_append_right _ (.tail _ h)
inductive FW(W:Wd)(env:Env)(n:Cn)(L:Addr)(Z:List (Addr×Obj))(I:Nat->aG->Hp->Prop)(s:Shared)(k:Nat)(s':Shared):Prop
 |mk (l:aG) (σ:Hp) (m:Str->Option Value) (U:List (Addr×Obj)) (_:d8 s s') (_:Lw W env n L m U Z l) (_:W.H L (U++Z) m σ s'.heap) (_:I k l σ):FW W env n L Z I s k s'
theorem FV{t:C}{b:SS}{st:Stmt}(c:oc W.t n (.whl t b) st=true)(O:∀D,aJ W.t n b D=true->W.StsOk n b D):W.StOk n (.whl t b) st:=
 sO c λc' b' o sp g=>kW g λY g2 g3=>cR Y λenv L m U Z l σ s Q E i H h=>h.elim λI h=>h.1.elim λk0 A=>by
  refine wpAny_While (codeAny_whileLoop (FW W env n L Z I s) ?_ k0 ⟨l,σ,m,U,.refl s,i,H,A⟩)
  rintro k R ⟨l,σ,m,U,G,i,H,hI⟩
  refine jE (Em t n _ g2 env L m (U++Z) l σ R _ _ i.lv H (h.2 k l σ hI)) λb y s1 j N K=>?_
  cases b with
  |true=>
   rw[if_pos rfl]
   exact wpAny_mono (O _ g3 env L m U Z l y s1 _ _ i N (K.1 rfl)) (λf s2 p=>yG p λV J e B u s2 z d v q=>by
    have a:=(G.trans j).trans z
    cases V with
    |next=>exact q.elim λw q=>⟨w,q.1,.mk J e B u a d v q.2⟩
    |cont=>exact q.elim λw q=>⟨w,q.1,.mk J e B u a d v q.2⟩
    |brk=>exact bf a .next d v q
    |ret r=>exact bf a (.ret r) d v q) λ_ _ x=>x
  |false=>
   rw[if_neg Bool.false_ne_true]
   exact wpAny_execs_nil (bf (G.trans j) .next i N (K.2 rfl))
def ue(W:Wd)(env:Env)(n:Cn)(L I:Addr)(Z:List (Addr×Obj))(e:List Nat)(b:Expr)(st:Nat->Obj->Prop):Prop:=
 ∀(j:Nat) (d:Obj) (v:Value) (a:AV) (m:Str->Option Value) (U:List (Addr×Obj)) (l:aG) (σ:Hp) (s:Shared) (Q:aG->Prop) (E i:Value->Shared->Prop) (R:Unit->Shared->Prop),Lw W env n L m U ((I,d)::Z) l->W.H L (U++(I,d)::Z) m σ s.heap->st j d->VR v a->eZ e a l σ Q->
  (∀h g c f,Q h->d8 s f->Lw W env n L g c ((I,d)::Z) h->W.H L (c++(I,d)::Z) g σ f.heap->R () f)->
  wpAny W.M W.A (letOwnedTupleGo b (.ref I) v) (λ_ s1=>wpAny W.M W.A (assign b env v) R E s1) i s
theorem my{I:Addr}{x:Str}{px:Pos}{i:Nat}{st:Nat->Obj->Prop}(o:n.sto x=some i):ue W env n L I Z [i] (.Name x px) st:=
 λj u v a m U l σ s Q E q R f H t r h k=>wpAny_of_eq (a:=()) rfl (PySem.wpAny_assign_Name (l8 f o r H λd b e g c p=>k _ d b e h g c p))
theorem wh{I r:Addr}{is:List Nat}{ts:List Expr}{i:Nat}{pos:Pos}(x:Gz is=true)(c:names n is ts=true):ue W env n L I Z is (.Tuple ts i pos) (MG r):=by
 intro j D v a m U l σ s Q E B R u H g q h k
 have d:wpAny W.M W.A (assign (.Tuple ts i pos) env v) R E s:=kF (R:=R ()) x c q u H h λy o e p t w f z=>k y o e p t w f z
 have hI:=(H.opq_get (List.mem_append_right U (.head _))).1
 unfold letOwnedTupleGo
 cases v with
 |ref b=>
  dsimp only
  refine wpAny_bind (wpAny_load hI ?_)
  rw[g.1,g.2]
  dsimp only
  rw[show(["enumerate","zip","dict_itemiterator","dict_reverseitemiterator","odict_iterator","itertools.zip_longest","itertools.pairwise"].contains "list_iterator")=false by decide]
  exact wpAny_pure d
 |_=>exact wpAny_pure d
inductive HX(W:Wd)(env:Env)(n:Cn)(L I:Addr)(Z:List (Addr×Obj))(items:List AV)(need:Hp->Prop)(st:Nat->Obj->Prop)(P:List AV->aG->Hp->Prop)(s₀:Shared)(k:Nat)(s':Shared):Prop
 |mk (j:Nat) (l:aG) (σ:Hp) (m:Str->Option Value) (U:List (Addr×Obj)) (ob:Obj) (_:k=items.length-j) (_:j<=items.length) (_:d8 s₀ s') (_:Lw W env n L m U ((I,ob)::Z) l) (_:W.H L (U++(I,ob)::Z) m σ s'.heap) (_:st j ob) (_:need σ) (_:P (items.drop j) l σ):HX W env n L I Z items need st P s₀ k s'
theorem mF{I:Addr}{items:List AV}{c:Hp->Prop}{st:Nat->Obj->Prop}{ob:Obj}{B:List Nat}{d:Expr}{b:SS}{b':List Stmt}{o:Shared}{Q:Fl->aG->Hp->Prop}
  (it:wz W I items c st) (ht:ue W env n L I Z B d st) (ib:W.StsOk n b b') (D:d8 o s) (G:Lw W env n L m U Z l) (hI:∀p∈U++Z,p.1≠I) (H:W.H L ((I,ob)::(U++Z)) m σ s.heap) (Y:st 0 ob) (y:c σ)
  (h:iG c B (λl σ P=>jf W.F W.cal b l σ P) Q items l σ):
  codeAny W.M W.A (.forLoop d (.ref I) b' [] env) (λr s'=>match r with|.ok f=>PS W env n L Z Q o f s'|.error e=>cameBackBy W.M W.A env E e s') s:=by
 have R:∀p∈Z,p.1≠I:=λp J=>hI p (List.mem_append_right _ J)
 refine codeAny_forLoop_any (HX W env n L I Z items c st (iG c B (λl σ P=>jf W.F W.cal b l σ P) Q) o) ?_ items.length
  ⟨0,l,σ,m,U,ob,rfl,Nat.zero_le _,D,G.it_new hI,H.opq_sub (λp J=>AR J (λh=>.tail _ (List.mem_append_left _ h)) (λe=>e▸.head _) λh=>.tail _ (List.mem_append_right _ h)),Y,y,h⟩
 clear G H Y y h D hI
 rintro k s' ⟨j,l,σ,m,U,ob,rfl,hj,la,G,H,O,N,hf⟩
 have hm:(I,ob)∈U++(I,ob)::Z:=List.mem_append_right _ (.head _)
 cases hv:items[j]? with
 |some v=>
  have t:=(be hv).1
  have less:items.length-(j+1)<items.length-j:=Nat.sub_lt_sub_left t (Nat.lt_succ_self j)
  rw[tX hv]at hf
  refine it.next j v hv L _ m σ s' ob _ _ H hm O N λu h2 tk a ru θ w β=>?_
  have H2:=HS.opq_set H hm β θ
  rw[show eQ I a (U++(I,ob)::Z)=eQ I a U++(I,a)::Z by
   rw[rZ]
   show eQ I a U++(if I=I then(I,a) else(I,ob))::eQ I a Z=_
   rw[if_pos rfl,jQ R]]at H2
  dsimp only
  exact ht (j+1) a u v m (eQ I a U) l σ {s' with heap:=h2,toks:=tk} _ _ _ _ (G.it_set (ob':=a)) H2 w ru hf λl3 m3 η s3 hb δ ζ H3=>
   wpAny_mono (ib env L m3 η ((I,a)::Z) l3 σ s3 _ _ ζ H3 hb) (λf s4 p=>yG p λγ l4 V m4 K s4 i z H4 q=>by
    have i:=(la.trans (d8.trans ⟨h2,tk,rfl⟩ δ)).trans i
    cases γ with
    |next=>exact⟨_,less,.mk (j+1) l4 V m4 K a rfl t i z H4 w q.1 q.2⟩
    |cont=>exact⟨_,less,.mk (j+1) l4 V m4 K a rfl t i z H4 w q.1 q.2⟩
    |brk=>exact bf i .next z.it_off (Cp H4) q
    |ret r=>exact bf i (.ret r) z.it_off (Cp H4) q) λ_ _ x=>x
 |none=>
  have t:=List.getElem?_eq_none_iff.mp hv
  obtain rfl:=Nat.le_antisymm hj t
  rw[List.drop_length]at hf
  exact it.fin L _ m σ s' ob _ _ H hm O N λh2 ε=>wpAny_execs_nil (bf (la.trans ⟨h2,s'.toks,rfl⟩) .next G.it_end ((HS.opq_drop H hm ε).opq_sub λp J=>(aE J).elim
   (λh=>have g:=aA.mp h;aA.mpr ⟨List.mem_append_left _ g.1,g.2⟩) λh=>aA.mpr ⟨List.mem_append_right _ (.tail _ h),R p h⟩) hf)
theorem uC{is:List Nat}{e:X}{b:SS}{c iter:Expr}{body:List Stmt}{pos:Pos}(x:oS iter=false)(q:aX W.t n e iter=true)(y:W.StsOk n b body)(j:∀env L Z I r,ue W env n L I Z is c (MG r)):W.StOk n (.for is e b) (.For c iter body [] pos):=
 λenv L m U Z l σ s Q E d H h=>wpAny_For (aN (bY e n iter q env L m (U++Z) l σ s _ E d.lv H h) λv a o s1 w r i f=>b8 r f λg f=>i.cL d.lv.gd.st f λk z B A ex g1 D _ f=>wpAny_pyIter_list (aL g1)
  (mF (uU d.lv.gd.st (d.lv.hh d.lf) _ g z) (j _ _ _ _ g) y (w.trans ⟨_,s1.toks,rfl⟩) d (λp u=>Nat.ne_of_lt (Heap.lt_size (i.opq_get u).1)) (HS.opq_push d.lv.gd.st i {cls:=.type "list_iterator",data:=.fields #[.ref g,.int 0 0]} rfl) ⟨rfl,rfl⟩ ⟨k,ex⟩ f.2)) (λ_=>fI x)
theorem Hw{is:List Nat}{a:X}{b:SS}{st:Stmt}(c:oc W.t n (.for is a b) st=true)(j:∀h,aJ W.t n b h=true->W.StsOk n b h):W.StOk n (.for is a b) st:=
 qW c λd v A o B g=>wK g λu q r f p=>cR u (bor r
  (λg=>bX g λx y g=>dP g λi e=>uC (nt q) f (j _ p) λ_ _ _ _ _=>my (bH e))
  λg=>iX g λz k y g=>gG g λe w=>uC (nt q) f (j _ p) λ_ _ _ _ _=>wh e w)
end
end
section
section
variable {W:Wd} {env:Env} {n:Cn} {L:Addr} {m:Str->Option Value} {opq U Z:List (Addr×Obj)} {l:aG} {E:Value->Shared->Prop} {σ:Hp} {s:Shared}
theorem EJ{i:Nat}{lo hi:X}{up:Bool}{b:SS}{st:Stmt}(c:oc W.t n (.forR i lo hi up b) st=true)(A:∀z,aJ W.t n b z=true->W.StsOk n b z):W.StOk n (.forR i lo hi up b) st:=
 qW c λd Y b' o sp g=>gG g λV g=>cR V (bX g λx px g=>gr g λr p1 as p2 g=>wK g λG D J K B=>bor K
  (λc=>gG c λp q env L m U Z l σ s Q E j H h=>by
   subst p
   exact wpAny_For (qq j.lv H G D q (λe c=>bY lo n e c) (λe c=>bY hi n e c) h (λa b k f=>⟨f.1.1,f.1.2.1,f.1.2.2.1,f.1.2.2.2.1⟩) λlo hi k I O f v y hI=>
    mF (st:=λi w=>w=jy (lo+1*i) ((hi-lo).toNat-i) 1) (r8▸mn (j.lv.hh j.lf) I lo 1 (hi-lo).toNat) (my (bH J)) (A _ B) v j hI y (by show _=_;simp) trivial f.2) (λ_=>fI rfl))
  λc=>gG c λp q=>iU q λR r7 g=>sw g λN st g=>gb g λu c0 p4 g=>gG g λk4 g=>cg k4 (fq g λcc β p3 g=>wK g λd1 d2 d3 d4 d5=>cg d1 λenv L m U Z l σ s Q E j H h=>by
   obtain rfl:=nt p
   exact wpAny_For (yw j.lv H G D (nt d2) (nt d3) d4 d5 (λe c=>bY lo n e c) (λe c=>bY hi n e c) h (λa b k f=>⟨f.1.2.2.2.2.elim (λe=>fT e) id,f.1.1,f.1.2.1⟩) λlo k I O f v y hI=>
    mF (st:=λi w=>w=jy (lo+(-1)*i) ((lo+1).toNat-i) (-1)) (yL▸mn (j.lv.hh j.lf) I lo (-1) (lo+1).toNat) (my (bH J)) (A _ B) v j hI y (by show _=_;simp) trivial f.2) (λ_=>fI rfl)))
end
variable {W:Wd}
mutual
theorem Rb:∀(x:S) (n:Cn) (st:Stmt),oc W.t n x st=true->W.StOk n x st
 |.asg _ _,_,_,c=>Fw c
 |.asgT _ _,_,_,c=>EV c
 |.setA _ _ _,_,_,c=>EN c
 |.setI _ _ _,_,_,c=>D9 c
 |.aug _ _ _,_,_,c=>FL c
 |.augA _ _ _ _,_,_,c=>Dq c
 |.augI _ _ _ _,_,_,c=>D1 c
 |.ex _,_,_,c=>M4 c
 |.ret _,_,_,c=>HB c
 |.ite _ a b,n,_,c=>Hy c (λd c=>pM a n d c) λd c=>pM b n d c
 |.whl _ b,n,_,c=>FV c λd c=>pM b n d c
 |.for _ _ b,n,_,c=>Hw c λd c=>pM b n d c
 |.forR _ _ _ _ b,n,_,c=>EJ c λd c=>pM b n d c
 |.brk,_,_,c=>G1 c
 |.cnt,_,_,c=>HP c
 |.pas,_,_,c=>Gw c
 |.delI _ _,_,_,c=>D6 c
 |.tri b,n,_,c=>FU c λd c=>pM b n d c
 |.dead,_,_,_=>λ_ _ _ _ _ _ _ _ _ _ _ _ h=>h.elim
theorem pM:∀(x:SS) (n:Cn) (a:List Stmt),aJ W.t n x a=true->W.StsOk n x a
 |.nil,_,_,c=>GL c
 |.cons x xs,n,_,c=>DR c (λst c=>Rb x n st c) λb c=>pM xs n b c
end
end
section
theorem tf:∀{ns:List Str} {vs:List Value},ns.Nodup->vs.length=ns.length->(ns.filterMap λn=>((ns.zip vs).lookup n).map λv=>(n,v))=ns.zip vs:=by
 have f:∀(ns l:List Str) (vs:List Value) (bD:List (Str×Value)),ns.Nodup->vs.length=ns.length->(∀(i:Nat) (n:Str) (v:Value),ns[i]?=some n->vs[i]?=some v->bD.lookup n=some v)->(ns.filterMap λn=>(bD.lookup n).map λv=>(n,v))=ns.zip vs:=by
  intro ns l vs bD
  induction ns generalizing vs with
  |nil=>intro _ _ _;rfl
  |cons n r g=>
   intro d c h
   cases vs with
   |nil=>simp at c
   |cons v vs=>
    rw[List.filterMap_cons,h 0 n v rfl rfl]
    show(n,v)::_=(n,v)::r.zip vs
    rw[g vs (List.nodup_cons.mp d).2 (by simpa using c) λi m w a b=>h (i+1) m w (by simpa using a) (by simpa using b)]
 intro ns vs d c
 refine f ns [] vs _ d c ?_
 clear f
 induction ns generalizing vs with
 |nil=>intro i n v h;simp at h
 |cons m r g=>
  cases vs with
  |nil=>simp at c
  |cons u k=>
   intro i n v a b
   rw[List.zip_cons_cons,List.lookup_cons]
   cases i with
   |zero=>simp at a b;subst a b;simp
   |succ i=>
    simp at a b
    have j:n≠m:=λe=>(List.nodup_cons.mp d).1 (e▸List.mem_of_getElem? a)
    rw[show(n==m)=false by simpa using j]
    exact g (vs:=k) (List.nodup_cons.mp d).2 (by simpa using c) i n v a b
theorem rO:∀{ns:List Str} {vs:List Value},vs.length=ns.length->∀n∈ns,((ns.zip vs).lookup n).isSome=true
 |[],_,_,_,h=>nomatch h
 |m::r,[],a,_,_=>by simp at a
 |m::r,v::vs,a,n,h=>by
  rw[List.zip_cons_cons,List.lookup_cons]
  cases e:n==m with
  |true=>rfl
  |false=>
   rcases au h with rfl|h
   ·simp at e
   ·exact rO (by simpa using a) n h
theorem nN{name c:Str}{a:List Arg}{i:List (Option Expr)}{j:List Expr}{body:List Stmt}{h:Scope}{t g s:Value}{o:Option Addr}{fG ct:Value}{vs:List Value}(d:(a.map (·.arg)).Nodup)(u:vs.length=a.length):
  bindArgs (fnX name c ⟨[],a,none,[],i,none,j⟩ body h [] .none t g s o fG ct) ⟨vs,[]⟩=pure ((a.map (·.arg)).zip vs):=by
 have b:vs.length=(a.map (·.arg)).length:=by rw[List.length_map,u]
 have r:=tf d b
 have p:¬(decide (vs.length>(a.map (·.arg)).length)&&true)=true:=by rw[b];simp
 have m:∀k,¬(!(List.filter (λn=>(List.lookup n ((a.map (·.arg)).zip vs)).isNone) ((a.map (·.arg)).take k)).isEmpty)=true:=λk=>by
  rw[List.filter_eq_nil_iff.mpr λn d=>?_]
  ·exact Bool.false_ne_true
  ·have:=rO b n (List.mem_of_mem_take d)
   cases e:List.lookup n ((a.map (·.arg)).zip vs)with
   |none=>rw[e]at this;cases this
   |some _=>exact Bool.false_ne_true
 have q:∀(X:List Str) k,List.zip X (List.drop k ([]:List Value))=[]:=λX k=>by rw[List.drop_nil,List.zip_nil_right]
 refine(if_neg p).trans ((if_neg (m _)).trans ((congrArg (λl=>forIn l _ _ >>= _) (q _ _)).trans ?_))
 exact congrArg (pure (f:=Sem)) ((congrArg (List.filterMap _) (List.append_nil _)).trans r)
end
section
theorem mC(k:NameKind):(k==.cell)=fC k:=by cases k<;>rfl
theorem bx:∀(names:List (Str×NameKind)) (n:Nat) (a:List (Str×Addr)),(∀p∈a,p.2<n)->(a.map (·.2)).Nodup->(∀p∈a,0<=p.2)->
  ((cellsFrom n names a).map (·.2)).Nodup/\(∀p∈cellsFrom n names a,p∈a∨n<=p.2)/\(∀y,(y,NameKind.cell)∈names∨(a.lookup y).isSome=true->((cellsFrom n names a).lookup y).isSome=true)
 |[],n,a,d,c,_=>⟨c,λp b=>.inl b,λy h=>h.elim (λh=>nM h) id⟩
 |(x,k)::r,n,a,d,c,g=>by
  unfold cellsFrom
  rw[mC]
  by_cases f:fC k=true
  ·rw[if_pos f]
   obtain⟨g1,g2,g3⟩:=bx r (n+1) ((x,n)::a) (λp b=>by
    rcases au b with rfl|b
    ·exact Nat.lt_succ_self _
    ·exact Nat.lt_succ_of_lt (d p b)) (by
    rw[List.map_cons,List.nodup_cons]
    exact⟨λh=>by obtain⟨p,b,e⟩:=bw h;exact absurd (d p b) (by rw[e];exact Nat.lt_irrefl _),c⟩) (λ_ _=>Nat.zero_le _)
   refine⟨g1,λp b=>?_,λy h=>g3 y ?_⟩
   ·rcases g2 p b with h|h
    ·rcases au h with rfl|h
     ·exact .inr (Nat.le_refl _)
     ·exact .inl h
    ·exact .inr (Nat.le_of_succ_le h)
   ·rcases h with h|h
    ·rcases au h with e|h
     ·cases e;right;simp[List.lookup_cons]
     ·exact .inl h
    ·right
     rw[List.lookup_cons]
     cases y==x with
     |true=>rfl
     |false=>exact h
  ·rw[if_neg f]
   obtain⟨g1,g2,g3⟩:=bx r n a d c g
   refine⟨g1,g2,λy h=>g3 y ?_⟩
   rcases h with h|h
   ·rcases au h with e|h
    ·cases e;exact absurd rfl f
    ·exact .inl h
   ·exact .inr h
theorem gR{b:Str->Option Value}{a:List (Str×Addr)}{cells:List (Addr×Obj)}(h:CellsAre b a cells):cells.map (·.1)=a.map (·.2)/\∀y c,a.lookup y=some c->∃o,(c,o)∈cells/\o.data=.cell (b y):=by
 induction h with
 |nil=>exact⟨rfl,λy c h=>by simp at h⟩
 |cons g k d=>
  rename_i j c o a cells
  refine⟨by rw[List.map_cons,List.map_cons,d.1],λy f h=>?_⟩
  rw[List.lookup_cons]at h
  cases e:y==j with
  |true=>
   rw[e]at h
   cases h
   rw[eq_of_beq e]
   exact⟨o,.head _,g⟩
  |false=>
   rw[e]at h
   obtain⟨i,g1,g2⟩:=d.2 y f h
   exact⟨i,.tail _ g1,g2⟩
theorem tC{b:List (Str×Addr)}(a:(b.map (·.2)).Nodup){y z:Str}{c:Addr}(h:b.lookup y=some c)(g:b.lookup z=some c):z=y:=by
 have m1:=bc h
 have m2:=bc g
 clear h g
 induction b with
 |nil=>cases m1
 |cons p r i=>
  rw[List.map_cons,List.nodup_cons]at a
  rcases au m1 with e|m1<;>rcases au m2 with d|m2
  ·rw[←e]at d;exact(Prod.mk.inj d).1
  ·exact absurd (List.mem_map_of_mem (f:=(·.2)) m2) (by rw[←e]at a;exact a.1)
  ·exact absurd (List.mem_map_of_mem (f:=(·.2)) m1) (by rw[←d]at a;exact a.1)
  ·exact i a.2 m1 m2
theorem zi{a:Str->Option NameKind}:∀{binds:List (Str×Value)} {m:Str->Option Value} {x:Str} {v:Value},(binds.map (·.1)).Nodup->(x,v)∈binds->a x=some .local->bindL a binds m x=some v:=by
 have keep:∀(binds:List (Str×Value)) (m:Str->Option Value) (x:Str),(∀p∈binds,p.1≠x)->bindL a binds m x=m x:=by
  intro binds
  induction binds with
  |nil=>intro m x _;rfl
  |cons p r c=>
   intro m x h
   obtain⟨n,v⟩:=p
   show bindL a r _ x=m x
   rw[c _ x λq b=>h q (.tail _ b)]
   split
   ·exact if_neg (Ne.symm (h (n,v) (.head _)))
   ·rfl
 intro binds
 induction binds with
 |nil=>intro m x v _ h;cases h
 |cons p r c=>
  intro m x v d h g
  obtain⟨n,w⟩:=p
  rw[List.map_cons,List.nodup_cons]at d
  show bindL a r _ x=some v
  rcases au h with e|h
  ·cases e
   rw[keep r _ x λq b e=>d.1 (by rw[←e];exact List.mem_map_of_mem (f:=(·.1)) b),if_pos g]
   exact if_pos rfl
  ·exact c d.2 h g
theorem yF{a:Str->Option NameKind}:∀{binds:List (Str×Value)} {m:Str->Option Value} {x:Str} {v:Value},(binds.map (·.1)).Nodup->(x,v)∈binds->a x≠some .local->bindC a binds m x=some v:=by
 have keep:∀(binds:List (Str×Value)) (m:Str->Option Value) (x:Str),(∀p∈binds,p.1≠x)->bindC a binds m x=m x:=by
  intro binds
  induction binds with
  |nil=>intro m x _;rfl
  |cons p r c=>
   intro m x h
   obtain⟨n,v⟩:=p
   show bindC a r _ x=m x
   rw[c _ x λq b=>h q (.tail _ b)]
   split
   ·rfl
   ·exact if_neg (Ne.symm (h (n,v) (.head _)))
 intro binds
 induction binds with
 |nil=>intro m x v _ h;cases h
 |cons p r c=>
  intro m x v d h g
  obtain⟨n,w⟩:=p
  rw[List.map_cons,List.nodup_cons]at d
  show bindC a r _ x=some v
  rcases au h with e|h
  ·cases e
   rw[keep r _ x λq b e=>d.1 (by rw[←e];exact List.mem_map_of_mem (f:=(·.1)) b),if_neg g]
   exact if_pos rfl
  ·exact c d.2 h g
structure Fd where
 np:Nat
 nl:Nat
 cn:Cn
 body:SS
noncomputable def gw(F:Ft)(bD:Addr->Option Fd)(ext:bj):Nat->bj
 |0,_,_,_,_=>False
 |k+1,f,as,σ,Q=>match bD f with
  |some d=>(as.length=d.np/\jf F (gw F bD ext k) d.body (as++List.replicate (d.nl-d.np) .undef) σ λc _ b=>(match c with
   |.next=>∃a,Wk a b/\Q .none a
   |.ret v=>∃a,Wk a b/\Q v a
   |_=>False))∨ext f as σ Q
  |none=>False
noncomputable def Es(d:Fd)(a:List Arg):Bool:=
 decide (a.length=d.np)&&!d.cn.lf&&zX d.cn.nm&&(a.zipIdx.all λp=>gZ (d.cn.nm.lookup p.1.arg) p.2&&(uZ (d.cn.sc.names.lookup p.1.arg) .local||uZ (d.cn.sc.names.lookup p.1.arg) .cell))&&(d.cn.sc.names.all λy=>!dR y.2)&&
  decide ((d.cn.sc.names.filter λy=>fC y.2).map (·.1)).Nodup&&decide (a.map (·.arg)).Nodup&&!d.cn.sc.isCoroutine&&!d.cn.sc.isGenerator&&decide (d.cn.sc.kind=.function)
structure zM(K:Frag)(t:Ct)(f:Addr)(d:Fd)(body:List Stmt):Prop where
 ex:∃(fo:Obj) (name qual:Str) (ps:List Arg) (kd:List (Option Expr)) (ds:List Expr) (kV doc pm:Value) (an:Option Addr) (fG ct:Value),K.lookup f=some fo/\fo.data=.func (fnX name qual ⟨[],ps,none,[],kd,none,ds⟩ body d.cn.sc [] .none kV doc pm an fG ct)/\
  codeIn K fG qual=true/\aJ t d.cn d.body body=true/\Es d ps=true
end
section
theorem cE.pull{U h₀ g c:Heap}(b:U.StaysIn h₀)(st:h₀.StaysIn g)(x:cE U g c):∃h',cE U h₀ h'/\h'.StaysIn c:=by
 obtain⟨t,s⟩:=kts_turn_at (h:=c) (fs:=(List.range h₀.objs.size).filter λb=>(h₀.get? b).isSome) (g:=h₀)
  (λb U=>Option.isSome_iff_exists.mp (fH U).2)
  (λb o e n=>absurd (List.mem_filter.mpr ⟨List.mem_range.mpr (Heap.lt_size e),by rw[e];rfl⟩) n)
  λb o e _=>x.up b o (st b o e)
 refine⟨_,⟨t.size,t.none_,λa o e=>?_,λa o e=>t.up e⟩,s⟩
 obtain⟨d,h⟩:=t.up (b a o e)
 have q:=s a _ h
 rw[x.base a o e]at q
 rw[h,Option.some.inj q]
inductive Bl(U h₀:Heap)(A:Around)(env:Env):Prop
 |mk O Z (h1:Below O U Z h₀) (h2:KtsDicts (Z.filterMap (·.frame)) h₀) (h3:A.frames=some (env::Z)):Bl U h₀ A env
theorem cE.below{U h₀ g:Heap}{O:Around}{Z:List Env}(x:cE U h₀ g)(B:Below O U Z h₀):Below O U Z g:=
 ⟨B.stack,x.base,B.frames.of_keeps λb o e _=>by obtain⟨a,h⟩:=x.up b o e;exact⟨_,h,rfl⟩⟩
theorem cE.dicts{U h₀ g:Heap}{fs:List Addr}(x:cE U h₀ g)(D:KtsDicts fs h₀):KtsDicts fs g:=λb m=>by
 obtain⟨o,a,n,c,hd⟩:=D b m
 obtain⟨d,h⟩:=x.up b o c
 exact⟨_,a,n,h,hd⟩
theorem cE.bl{U h₀ g:Heap}{A:Around}{env:Env}(x:cE U h₀ g)(B:Bl U h₀ A env):Bl U g A env:=by
 obtain⟨O,Z,b,d,e⟩:=B
 exact⟨O,Z,x.below b,x.dicts d,e⟩
inductive G8(U h₀:Heap)(L:Addr)(m:Str->Option Value)(g:Heap)(R:Result->Shared->Prop)(v:Value)(s':Shared):Prop
 |mk g' L' m' news' (h1:cE U g g') (h2:Fr g' L' s'.heap m') (h3:News g' L' s'.heap news') (h4:∀h',cE U h₀ h'->Fr h' L s'.heap m->News h' L s'.heap news'->R (.ok (.ret v)) s'):G8 U h₀ L m g R v s'
section
variable {prog:Program} {w:World} {O A:Around} {s:Shared} {U h₀:Heap} {Z:List Env} {L:Addr} {m:Str->Option Value} {env:Env} {J:List (Addr×Obj)}
 {R:Result->Shared->Prop} {name qual:Str} {params:Arguments} {body:List Stmt} {scope:Scope} {dV kV doc pm fG ct:Value} {an:Option Addr} {fo:Obj} {f:Addr} {args:Args} {binds:List (Str×Value)}
theorem H0(θ:U.StaysIn h₀)(B:Below O U Z h₀)(D:KtsDicts (Z.filterMap (·.frame)) h₀)(F:Fr h₀ L s.heap m)(N:News h₀ L s.heap J)(V:h₀.NoLimit)(hA:A.frames=some (env::Z))(hf:env.frame=some L)(δ:env.scope.kind=.function)
  (ho:s.heap.get? f=some fo) (hd:fo.data=.func (fnX name qual params body scope [] dV kV doc pm an fG ct)) (η:s.heap.CodeRec fG qual) (z:A.depth<recursionLimit)
  (t:BindsTo s (fnX name qual params body scope [] dV kV doc pm an fG ct) args binds)
  (E:∀n,∀x∈binds,scope.names.lookup x.1=some .local∨(scope.names.lookup x.1=some .cell/\((cellsFrom n scope.names []).lookup x.1).isSome=true))
  (ε:((cellsFrom 0 scope.names []).map (·.1)).Nodup)
  (h:∀g i a tk cells,Fr h₀ L g m->Fr g i a (bindL (envOfC qual scope i f fG).kindOf binds λ_=>none)->News g i a (cells++J)->
   CellsAre (bindC (envOfC qual scope i f fG).kindOf binds λ_=>none) (cellsFrom (i+1) scope.names []) cells->Below A U (env::Z) g->KtsDicts ((env::Z).filterMap (·.frame)) g->h₀.StaysIn g->(∀p∈J,p.1<i)->
   wpAny (model prog w) (A.deeper (envOfC qual scope i f fG)) (execs body (envOfC qual scope i f fG))
    (λfl s'=>G8 U h₀ L m g R (match fl with|.ret v=>v|_=>.none) s')
    (λe s'=>wpAny (model prog w) (A.deeper (envOfC qual scope i f fG)) (leaving (envOfC qual scope i f fG) e) (λ_ u=>R (.error e) u) (λe' u=>R (.error e') u) s')
    {s with heap:=a,toks:=tk})
  (ζ:scope.isCoroutine=false) (Q:scope.isGenerator=false) (hk:scope.kind=.function):codeAny (model prog w) A (.call (.ref f) args) R s:=by
 obtain⟨FG,BG,st,_⟩:=groundX (R:=R) B F N hA hf δ
 obtain⟨oL,W,ep,K,I,β,γ⟩:=id FG.ns
 have DG:KtsDicts ((env::Z).filterMap (·.frame)) (hideAll s.heap (J.map (·.1))):=λb G=>by
  rw[List.filterMap_cons,hf]at G
  rcases au G with rfl|G
  ·exact⟨oL,W,ep,K,I⟩
  ·obtain⟨o,W,n,q1,q2⟩:=D b G
   exact⟨o,W,n,st _ _ q1,q2⟩
 refine codeAny_call_function z ho hd ζ Q rfl η (t _ _ _ _ ?_)
 refine wpAny_newFunctionEnv_cells hk (E _) λμ he s' x=>?_
 subst he
 refine⟨(V.keeps F.keep).keeps x.toInCall.keep,codeAny_func ?_⟩
 obtain⟨a,tk,rfl,_⟩:=x.done
 have j:=x.toInCall.keep
 obtain⟨cells,NC,Y⟩:=Cl.news (h₀:=s.heap) (Nat.le_refl _) λn c G=>⟨x.cell n c (lookup_of_mem_nodup (cellsFrom_names scope.names 0 (s.heap.objs.size+1) [] [] rfl▸ε) G),x.above n c G⟩
 refine wpAny_mono (h _ s.heap.objs.size a tk cells FG ⟨x.toInCall.ns,λb o e=>j b o (of_hideAll _ e),Nat.le_of_eq (hideAll_size _ _)⟩ (λp d=>?_) Y BG DG st (λp d=>Heap.lt_size (N p d).1)) (λfl s' hl=>?_) λ_ _ y=>y
 ·rcases aE d with d|d
  ·refine⟨(NC p d).1,(NC p d).2.1,?_⟩
   cases q:(hideAll s.heap (J.map (·.1))).get? p.1 with
   |none=>rfl
   |some o=>have:=of_hideAll _ q;rw[(NC p d).2.2]at this;cases this
  ·exact⟨j _ _ (N p d).1,Nat.ne_of_lt (Heap.lt_size (N p d).1),hideAll_none _ (List.mem_map_of_mem d)⟩
 ·obtain⟨g',i,m',κ,T',F',N',k⟩:=hl
  obtain⟨h',r,l⟩:=cE.pull θ st T'
  obtain⟨sl,hs⟩:=T'.up _ _ K
  refine k h' r ⟨⟨_,W,ep,F'.keep _ _ hs,I,β,γ⟩,λb o e=>F'.keep b o (l b o e),r.size▸F.above⟩ λp d=>⟨(N' p d).1,λq=>?_,?_⟩
  ·have:=(N' p d).2.2;rw[q,hs]at this;cases this
  ·cases q:h'.get? p.1 with
   |none=>rfl
   |some o=>have:=(N' p d).2.2;rw[l _ _ q]at this;cases this
end
end
section
theorem HR.opq_many{T:Tb}{σ:Hp}{i:Heap}{b:List (Addr×Obj)}{D:Addr->Addr}{opq:List (Addr×Obj)}(R:HR T σ i b D opq):∀{cells:List (Addr×Obj)},(cells.map (·.1)).Nodup->(∀p∈cells,(∀q∈b,q.1≠p.1)/\i.get? p.1=none)->
  HR T σ i (cells++b) D (cells++opq)
 |[],_,_=>R
 |c::cells,g,h=>by
  rw[List.map_cons,List.nodup_cons]at g
  have j:=R.opq_many (cells:=cells) g.2 λp d=>h p (.tail _ d)
  refine j.opq_new (a:=c.1) (ob:=c.2) (λp d e=>?_) (h c (.head _)).2
  rcases aE d with d|d
  ·exact g.1 (by rw[←e];exact List.mem_map_of_mem (f:=(·.1)) d)
  ·exact(h c (.head _)).1 p d e
theorem lY:∀{l:List (Str×Nat)},zX l=true->∀y z i,l.lookup y=some i->l.lookup z=some i->y=z
 |[],_,y,z,i,h,_=>by simp at h
 |(x,j)::r,h,y,z,i,b,a=>by
  simp only[zX,Bool.and_eq_true,List.all_eq_true,Bool.not_eq_true',beq_eq_false_iff_ne]at h
  rw[List.lookup_cons]at b a
  cases d:y==x with
  |true=>
   rw[d]at b;cases b
   cases c:z==x with
   |true=>rw[eq_of_beq d,eq_of_beq c]
   |false=>rw[c]at a;exact absurd rfl (h.1 _ (bc a))
  |false=>
   rw[d]at b
   cases c:z==x with
   |true=>rw[c]at a;cases a;exact absurd rfl (h.1 _ (bc b))
   |false=>rw[c]at a;exact lY h.2 y z i b a
structure FF(d:Fd)(ps:List Arg):Prop where
 np:ps.length=d.np
 lf:d.cn.lf=false
 nm:zX d.cn.nm=true
 ix:∀i p,ps[i]?=some p->d.cn.nm.lookup p.arg=some i
 kd:∀p∈ps,d.cn.sc.names.lookup p.arg=some .local∨d.cn.sc.names.lookup p.arg=some .cell
 nf:∀y∈d.cn.sc.names,dR y.2=false
 nc:((d.cn.sc.names.filter λy=>fC y.2).map (·.1)).Nodup
 nd:(ps.map (·.arg)).Nodup
 co:d.cn.sc.isCoroutine=false
 ge:d.cn.sc.isGenerator=false
 k:d.cn.sc.kind=.function
theorem uL{d:Fd}{e:List Arg}(h:Es d e=true):FF d e:=
 kW h λh j c=>Pu h λn m o u l g f s=>
  have q:=λ{i:Nat} {p:Arg} (b:e[i]?=some p)=>kY u (p,i) (List.mk_mem_zipIdx_iff_getElem?.mpr b)
  ⟨of_decide_eq_true n,nt m,o,λi p b=>gG (q b) λa _=>bH a,λp b=>(List.getElem?_of_mem b).elim λi k=>gG (q k) λ_ a=>bor a (λa=>.inl (bZ a)) λa=>.inr (bZ a),
   λy r=>nt (kY l y r),of_decide_eq_true g,of_decide_eq_true f,nt s,nt j,of_decide_eq_true c⟩
theorem jD{names:List (Str×NameKind)}(h:((names.filter λy=>fC y.2).map (·.1)).Nodup)(n:Nat):((cellsFrom n names []).map (·.1)).Nodup:=by
 have:∀(names:List (Str×NameKind)) (n:Nat) (a:List (Str×Addr)),(cellsFrom n names a).map (·.1)=((names.filter λy=>fC y.2).map (·.1)).reverse++a.map (·.1):=by
  intro names
  induction names with
  |nil=>intro n a;rfl
  |cons p r c=>
   intro n a
   obtain⟨x,k⟩:=p
   unfold cellsFrom
   rw[mC,List.filter_cons]
   by_cases b:fC k=true
   ·rw[if_pos b,if_pos b,c];simp
   ·rw[if_neg b,if_neg b,c]
 rw[this,List.map_nil,List.append_nil]
 exact(List.reverse_perm _).nodup_iff.mpr h
section
variable {prog:Program} {w:World} {K:Frag} {T:Tb} {F:Ft} {t:Ct} {bD:Addr->Option Fd}
def cO(Q:PX):Fl->aG->Hp->Prop:=λc _ b=>(match c with
   |.next=>∃a,Wk a b/\Q .none a
   |.ret v=>∃a,Wk a b/\Q v a
   |_=>False)
theorem si{a:Addr}{names:List (Str×NameKind)}{cells:List (Addr×Obj)}(b:cells.map (·.1)=(cellsFrom (a+1) names []).map (·.2)):∀p∈cells,a<p.1:=λp c=>by
 have q:p.1∈cells.map (·.1):=List.mem_map_of_mem (f:=(·.1)) c
 rw[b]at q
 exact(bw q).elim λq h=>h.2▸((bx names (a+1) [] (λ_ h=>nM h) .nil (λ_ h=>nM h)).2.1 q h.1).elim (λh=>nM h) id
theorem AA{as:List AV}{k j:Nat}:get (as++List.replicate k .undef) j=get as j:=by
 unfold get
 rw[List.getD_eq_getElem?_getD,List.getD_eq_getElem?_getD]
 by_cases h:j<as.length
 ·rw[List.getElem?_append_left h]
 ·rw[List.getElem?_append_right (Nat.le_of_not_lt h),List.getElem?_eq_none (Nat.le_of_not_lt h),List.getElem?_replicate]
  split<;>rfl
theorem qJ{cal:bj}{d:Fd}{q:List Arg}(ok:Cr K T F t)(f:FF d q){U:Around}{W g:Heap}{b:Env}{s:Addr}{cells opq:List (Addr×Obj)}{as:List AV}{vs:List Value}(l:b.scope=d.cn.sc)(u:b.cells=cellsFrom (s+1) d.cn.sc.names [])(E:b.locals=s)
  (Y:CellsAre (bindC b.kindOf ((q.map (·.arg)).zip vs) λ_=>none) (cellsFrom (s+1) d.cn.sc.names []) cells) (δ:Gd K W g U b) (c:gY prog w T cal U W g s) (hh:U.handled=none) (n:as.length=d.np) (r:aF VR vs as) (β:∀p∈opq,p.1<s):
  Lw ⟨prog,w,K,T,F,t,cal,U,W,g⟩ b d.cn s (bindL b.kindOf ((q.map (·.arg)).zip vs) λ_=>none) cells opq (as++List.replicate (d.nl-d.np) .undef):=by
 have I:(((q.map (·.arg)).zip vs).map (·.1))=q.map (·.arg):=by
  rw[←List.unzip_fst,List.unzip_zip (by rw[List.length_map,f.np,r.length,n])]
 have N:=bx d.cn.sc.names (s+1) [] (λ_ h=>nM h) .nil (λ_ h=>nM h)
 have G:=gR Y
 have V:=si G.1
 have Q:∀y,b.scope.names.lookup y≠some .free:=λy e=>by
  rw[l]at e
  have:=f.nf _ (bc e)
  cases this
 have cellOf:∀{P:Prop} {y},b.scope.names.lookup y=some .cell->(∀c o,b.cells.lookup y=some c->(c,o)∈cells->o.data=.cell (bindC b.kindOf ((q.map (·.arg)).zip vs) (λ_=>none) y)->P)->P:=λ{P y} e k=>
  (Option.isSome_iff_exists.mp (N.2.2 y (.inl (bc (l▸e))))).elim λc D=>(G.2 y c D).elim λo g=>k c o (by rw[u];exact D) g.1 g.2
 refine⟨⟨δ,ok,λy j hj hu=>?_,λx=>.inl (by rw[l]),E,λ_ y A=>bor A (λe=>cellOf (bZ e) λc _ h _ _=>by rw[h];rfl) λe=>absurd (bZ e) (Q y),λ_=>c,λ_=>hh⟩,f.lf,λy A=>cellOf A λc o O h2 h3=>⟨c,o,_,O,h2,h3⟩,
  λy z c A O h2=>tC N.1 (u▸O) (u▸h2),λy c A O p J=>cellOf A λε o c1 Z _ e=>?_,lY f.nm,Q⟩
 ·rw[AA]at hu ⊢
  cases R:as[j]? with
  |none=>exact absurd (by rw[get,List.getD_eq_getElem?_getD,R];rfl) hu
  |some a=>
   have γ:=(be R).1
   obtain⟨p,J⟩:∃p,q[j]?=some p:=⟨_,List.getElem?_eq_getElem (by rw[f.np,←n];exact γ)⟩
   have hyp:y=p.arg:=lY f.nm _ _ j hj (f.ix j p J)
   refine r.at R λv hv rv=>⟨v,?_,by rw[get,List.getD_eq_getElem?_getD,R];exact rv⟩
   have m:(y,v)∈(q.map (·.arg)).zip vs:=List.mem_of_getElem? (i:=j) (List.getElem?_zip_eq_some.mpr ⟨by rw[List.getElem?_map,J,hyp];rfl,hv⟩)
   have kd:b.scope.names.lookup y=some .local∨b.scope.names.lookup y=some .cell:=by rw[l,hyp];exact f.kd p (List.mem_of_getElem? J)
   refine kd.imp (λB=>⟨B,zi (by rw[I];exact f.nd) m B⟩) λB=>⟨by rw[B];rfl,cellOf B λc o c1 Z c3=>⟨c,o,c1,List.mem_append_left _ Z,?_⟩⟩
   rw[c3,yF (by rw[I];exact f.nd) m (by show b.scope.names.lookup y≠_;rw[B];exact nofun)]
 ·obtain rfl:=Option.some.inj (O.symm.trans c1)
  exact absurd (V _ Z) (iJ (Nat.le_of_lt (e▸β p J)))
structure En(hb:Heap)(A':Around)(env:Env)(L:Addr)(m:Str->Option Value)(f:Addr)(sc:Scope)(g0 g:Heap)(L2:Addr)(env2:Env)(s s2:Shared):Prop where
 ee:∃qual fG,env2=envOfC qual sc L2 f fG
 bl:∃outer,A'.frames=some (env::outer)/\Below A' hb (env::outer) g/\KtsDicts ((env::outer).filterMap (·.frame)) g
 fr:Fr g0 L g m
 la:d8 s s2
theorem En.b{h:Heap}{d:Around}{env:Env}{L:Addr}{m:Str->Option Value}{f:Addr}{i:Scope}{j g:Heap}{l:Addr}{a:Env}{s s2:Shared}(e:En h d env L m f i j g l a s s2):Bl h g (d.deeper a) a:=by
 obtain⟨c,n,k,o⟩:=e.bl
 exact⟨d,env::c,k,o,by show d.frames.map _=_;rw[n];rfl⟩
theorem En.f{j:Heap}{d:Around}{env:Env}{L:Addr}{m:Str->Option Value}{f:Addr}{h:Scope}{i g:Heap}{b:Addr}{a:Env}{s s2:Shared}(e:En j d env L m f h i g b a s s2):a.frame=some b:=by
 obtain⟨q,c,rfl⟩:=e.ee;rfl
theorem qb{cal:bj}{f:Addr}{d:Fd}{body:List Stmt}(ok:Cr K T F t)(γ:zM K t f d body){A:Around}{env:Env}{i h₀:Heap}{L:Addr}(E:Gd K i h₀ A env)(hf:env.frame=some L)(hB:Bl i h₀ A env)
  (hh:A.handled=none) (hd:A.depth<=990) (hu:A.units+300<=cLine)
  (κ:∀A2 c g L2,Gd K i g A2 c->c.frame=some L2->Bl i g A2 c->A2.handled=none->A2.depth<=A.depth+3->A2.units<=A.units+13->gY prog w T cal A2 i g L2)
  {z:Around} {as:List AV} {vs:List Value} {σ:Hp} {s:Shared} {opq:List (Addr×Obj)} {m:Str->Option Value} {Q:PX} {R:Result->Shared->Prop} (sb:Fp A z) (O:as.length=d.np) (r:aF VR vs as) (H:HS T i h₀ L opq m σ s.heap)
  (hR:∀v s',aC T i h₀ L opq m Q s v s'->R (.ok (.ret v)) s')
  (U:∀c g0 g L2 m2 cells s2,En i z env L m f d.cn.sc g0 g L2 c s s2->cE i h₀ g0->Lw ⟨prog,w,K,T,F,t,cal,z.deeper c,i,g⟩ c d.cn L2 m2 cells opq (as++List.replicate (d.nl-d.np) .undef)->HS T i g L2 (cells++opq) m2 σ s2.heap->aJ t d.cn d.body body=true->
   wpAny (model prog w) (z.deeper c) (execs body c) (PS ⟨prog,w,K,T,F,t,cal,z.deeper c,i,g⟩ c d.cn L2 opq (cO Q) s2)
    (λe s'=>wpAny (model prog w) (z.deeper c) (leaving c e) (λ_ V=>R (.error e) V) (λe' V=>R (.error e') V) s') s2):
  codeAny (model prog w) z (.call (.ref f) ⟨vs,[]⟩) R s:=by
 refine H.casesOn λg0 tu β D Fh N R0=>(tu.bl hB).casesOn λρ Z B DD hA=>?_
 replace E:=E.turn tu.base
 obtain⟨fo,name,j,ps,kd,ds,kV,φ,pm,an,fG,ct,e1,e2,e3,e4,e5⟩:=γ.ex
 have G:=uL e5
 have hX:K.In s.heap:=E.X.keeps Fh.keep
 refine H0 (binds:=(ps.map (·.arg)).zip vs) E.st B DD Fh N E.lim (sb.fr.trans hA) hf E.fk (hX _ _ e1) e2 (codeRec_of hX e3) (Nat.lt_of_le_of_lt (Nat.le_trans sb.dp (Nat.add_le_add_right hd 2)) (by decide)) (.of_eq (nN G.nd (by rw[r.length,O,G.np]))) (λn x hx=>?_) (jD G.nc 0) (λg J u tk cells F0 F' N' Y B' D' st ζ=>?_) G.co G.ge G.k
 ·obtain⟨p,I,e⟩:=bw (List.of_mem_zip hx).1
  rw[←(show p.arg=_ from e)]
  exact(G.kd p I).imp id λh=>⟨h,(bx d.cn.sc.names n [] (λ_ h=>nM h) .nil (λ_ h=>nM h)).2.2 _ (.inl (bc h))⟩
 ·have ε:=gR Y
  have θ:=si ε.1
  have W:i.StaysIn g:=λb o e=>st _ _ (E.st _ _ e)
  have R1:HR T σ i (cells++β) D (cells++opq):=R0.opq_many (by rw[ε.1];exact(bx d.cn.sc.names (J+1) [] (λ_ h=>nM h) .nil (λ_ h=>nM h)).1) λp I=>⟨λq hq=>Nat.ne_of_lt (Nat.lt_trans (ζ q hq) (θ p I)),pY W (N' p (List.mem_append_left _ I)).2.2⟩
  have un:z.units+3<=A.units+13:=Nat.add_le_add_right (k:=3) sb.un
  have η:Gd K i g (z.deeper (envOfC j d.cn.sc J f fG)) (envOfC j d.cn.sc J f fG):=⟨E.Xb,E.trb,W,G.k,rfl,rfl,Nat.lt_of_lt_of_le (Nat.lt_of_le_of_lt (Nat.add_le_add_right un 200) (Nat.add_lt_add_left (show 213<300 by decide) _)) hu,E.fits⟩
  have en:En i z env L m f d.cn.sc g0 g J (envOfC j d.cn.sc J f fG) s {s with heap:=u,toks:=tk}:=⟨⟨j,fG,rfl⟩,⟨Z,by rw[sb.fr,hA],B',D'⟩,F0,u,tk,rfl⟩
  have ca:=κ _ _ g J η en.f en.b (sb.hh.trans hh) (Nat.succ_le_succ sb.dp) un
  have lw:=qJ (prog:=prog) (w:=w) (cal:=cal) (vs:=vs) (opq:=opq) ok G rfl rfl rfl Y η ca (sb.hh.trans hh) O r λp I=>ζ p (R0.oq p I).1
  refine wpAny_mono (U _ g0 g J _ cells {s with heap:=u,toks:=tk} en tu lw ⟨g,.refl W,_,D,F',N',R1⟩ e4) (λfl s' p=>?_) λ_ _ x=>x
  obtain⟨ψ,l',ν,m',χ,h',δ,rfl,π,υ,H',q⟩:=p
  refine H'.casesOn λg' μ y D' F2 N2 R2=>⟨g',J,m',y,μ,F2,N2,λh3 ξ F3 N3=>?_⟩
  have fin:∀{v a},VR v a->(∃l,Wk l ν/\Q a l)->R (.ok (.ret v)) {s with heap:=h',toks:=δ}:=λrv q=>q.elim λl q=>hR _ _ ⟨_,l,h',δ,rfl,rv,⟨h3,tu.trans ξ,y,D',F3,N3,(R2.opq_sub λp I=>List.mem_append_right _ I).wk q.1⟩,q.2⟩
  cases π with
  |next=>exact fin (a:=.none) trivial q
  |ret rv=>exact fin rv q
  |brk=>exact q.elim
  |cont=>exact q.elim
theorem rH{ext:bj}(ok:Cr K T F t)(vg:∀f d,bD f=some d->∃body,zM K t f d body)
  (e:∀(A:Around) (env:Env) (c h₀:Heap) (L:Addr),Gd K c h₀ A env->env.frame=some L->Bl c h₀ A env->A.handled=none->A.depth<=890->A.units+320<=cLine->gY prog w T ext A c h₀ L):
  ∀(k:Nat) (A:Around) (env:Env) (c h₀:Heap) (L:Addr),Gd K c h₀ A env->env.frame=some L->Bl c h₀ A env->A.handled=none->
  A.depth+4*(k+1)<=890->A.units+20*(k+1)+300<=cLine->gY prog w T (gw F bD ext k) A c h₀ L
 |0,A,env,c,h₀,L,_,_,_,_,_,_=>λp f as vs σ s opq m Q R sb h=>h.elim
 |k+1,A,env,c,h₀,L,I,E,G,D,hd,u=>λp f as vs σ s opq m Q R sb h r H hR=>by
  unfold gw at h
  split at h
  ·rename_i d q
   rcases h with⟨l,i⟩|h
   ·obtain⟨body,j⟩:=vg f d q
    exact qb ok j I E G D (by exact n1 [_,_] OF (.le (.a (.v 0) (.m 4 (.a (.a (.v 1) (.n 1)) (.n 1)))) (.n 890)) rfl hd) (by exact n1 [_,_,_] NR (.le (.a (.a (.v 0) (.m 20 (.a (.a (.v 2) (.n 1)) (.n 1)))) (.n 300)) (.v 1)) rfl u) (λO b g x B y z o Y V=>rH ok vg e k O b c g x B y z o (by exact n2 [_,_,_] (.le (.a (.v 0) (.m 4 (.a (.v 1) (.n 1)))) (.n 890)) (.le (.a (.v 2) (.m 4 (.a (.a (.v 1) (.n 1)) (.n 1)))) (.n 890)) Ou rfl hd Y) (by exact n2 [_,_,_,_] (.le (.a (.a (.v 0) (.m 20 (.a (.v 1) (.n 1)))) (.n 300)) (.v 2)) (.le (.a (.a (.v 3) (.m 20 (.a (.a (.v 1) (.n 1)) (.n 1)))) (.n 300)) (.v 2)) (.le (.v 0) (.a (.v 3) (.n 13))) rfl u V)) sb l r H hR
     λb g0 g x m2 cells s2 Z tu U N J=>pM (W:=⟨prog,w,K,T,F,t,gw F bD ext k,p.deeper b,c,g⟩) d.body d.cn body J b x m2 cells opq _ σ s2 _ _ U N i
   ·exact e A env c h₀ L I E G D (by exact Nat.le_trans (Nat.le_add_right _ _) hd) (by exact n1 [_,_,_] (.le (.a (.v 0) (.n 320)) (.v 1)) (.le (.a (.a (.v 0) (.m 20 (.a (.a (.v 2) (.n 1)) (.n 1)))) (.n 300)) (.v 1)) rfl u) p f as vs σ s opq m Q R sb h r H hR
  ·exact h.elim
end
end
section
section
variable {prog:Program} {w:World} {K:Frag} {T:Tb} {F:Ft} {t:Ct}
theorem td{cal:bj}{f:Addr}{d:Fd}{body:List Stmt}(ok:Cr K T F t)(I:zM K t f d body){s:Shared}{as:List AV}{vs:List Value}{σ:Hp}{D:Addr->Addr}{Q:PX}{R:Result->Shared->Prop}
  (X:K.In s.heap) (Tp:∃p B U mg mb,Top p B U mg mb s.heap) (V:mainGlobals<s.heap.objs.size) (R0:HR T σ s.heap [] D []) (u:as.length=d.np) (r:aF VR vs as)
  (β:∀G j g L2,Gd K s.heap g G j->j.frame=some L2->Bl s.heap g G j->G.handled=none->G.depth<=callerA.depth+3->G.units<=callerA.units+13->gY prog w T cal G s.heap g L2)
  (z:jf F cal d.body (as++List.replicate (d.nl-d.np) .undef) σ (cO Q))
  (hR:∀v a A h' tk,VR v a->Q a A->s.heap.StaysIn h'->R (.ok (.ret v)) {s with heap:=h',toks:=tk}):codeAny (model prog w) callerA (.call (.ref f) ⟨vs,[]⟩) R s:=by
 obtain⟨fo,name,l,ps,kd,ds,kV,κ,pm,an,fG,ct,e1,e2,e3,e4,e5⟩:=I.ex
 have m:=uL e5
 have N:s.heap.NoLimit:=Tp.elim λ_ h=>h.elim λ_ h=>h.elim λ_ h=>h.elim λ_ h=>h.elim λ_ h=>h.nolimit
 have hc:=λn=>bx d.cn.sc.names n [] (λ_ h=>nM h) .nil (λ_ h=>nM h)
 refine codeAny_call_function (by decide+kernel) (X _ _ e1) e2 m.co m.ge rfl (codeRec_of X e3) ((BindsTo.of_eq (nN m.nd (by rw[r.length,u,m.np]))) _ _ _ _ (wpAny_newFunctionEnv_cells m.k (λx hx=>?_) λη he s' x=>?_))
 ·obtain⟨p,hp,e⟩:=bw (List.of_mem_zip hx).1
  rw[←(show p.arg=_ from e)]
  exact(m.kd p hp).imp id λh=>⟨h,(hc _).2.2 _ (.inl (bc h))⟩
 subst he
 refine⟨N.keeps x.toInCall.keep,codeAny_func ?_⟩
 obtain⟨O,tk,rfl,_⟩:=x.done
 have E:=x.toInCall.keep
 have γ:=jD m.nc 0
 obtain⟨cells,NC,Y⟩:=Cl.news (h₀:=s.heap) (Nat.le_refl _) λn c hm=>⟨x.cell n c (lookup_of_mem_nodup (cellsFrom_names d.cn.sc.names 0 (s.heap.objs.size+1) [] [] rfl▸γ) hm),x.above n c hm⟩
 have st:s.heap.StaysIn s.heap:=λ_ _ e=>e
 have R1:HR T σ s.heap (cells++[]) D (cells++[]):=R0.opq_many (by rw[(gR Y).1];exact(hc _).1) λp hp=>⟨λq hq=>(nM hq),(NC p hp).2.2⟩
 have Z:Gd K s.heap s.heap (callerA.deeper (envOfC l d.cn.sc s.heap.objs.size f fG)) (envOfC l d.cn.sc s.heap.objs.size f fG):=⟨X,Tp,st,m.k,rfl,rfl,by show 4+3+200<cLine;decide+kernel,V⟩
 have lw:=qJ (prog:=prog) (w:=w) (cal:=cal) (vs:=vs) (opq:=[]) ok m rfl rfl rfl Y Z (β _ _ _ _ Z rfl ⟨callerA,[],below_caller _,ktsDicts_nil,rfl⟩ rfl (Nat.le_add_right _ 2) (Nat.le_add_right _ 10)) rfl u r (λ_ h=>nM h)
 refine wpAny_mono (pM (W:=⟨prog,w,K,T,F,t,cal,callerA.deeper (envOfC l d.cn.sc s.heap.objs.size f fG),s.heap,s.heap⟩) d.body d.cn body e4 _ _ _ cells [] _ σ {s with heap:=O,toks:=tk} _ _ lw ⟨s.heap,.refl st,_,D,⟨x.toInCall.ns,E,Nat.le_refl _⟩,by rw[List.append_nil];exact NC,R1⟩ z) (λfl s' p=>?_) λ_ _ y=>y
 obtain⟨ν,l',A,m',μ,h',J,rfl,ε,θ,H',q⟩:=p
 refine H'.casesOn λg' δ ζ D' F2 N2 R2=>?_
 have fin:∀{v a},VR v a->(∃i,Wk i A/\Q a i)->R (.ok (.ret v)) {s with heap:=h',toks:=J}:=λrv q=>q.elim λi q=>hR _ _ i h' J rv q.2 λb o e=>F2.keep _ _ (δ.base _ _ e)
 cases ε with
 |next=>exact fin (a:=.none) trivial q
 |ret rv=>exact fin rv q
 |brk=>exact q.elim
 |cont=>exact q.elim
end
end
section
noncomputable abbrev pw:Program:=PySem.Challenge.pw_xm0840_01
noncomputable def ao:Stmt->List Stmt
 |.FunctionDef _ _ b _ _ _ _ _ _ _=>b
 |_=>[]
noncomputable def ae:Stmt->Scope
 |.FunctionDef _ _ _ _ _ _ a _ _ _=>a
 |_=>default
noncomputable def fW:Stmt->Arguments
 |.FunctionDef _ a _ _ _ _ _ _ _ _=>a
 |_=>⟨[],[],none,[],[],none,[]⟩
noncomputable def BN:Stmt->List Stmt
 |.ClassDef _ _ _ b _ _ _ _ _ _ _=>b
 |_=>[]
noncomputable def top(i:Nat):Stmt:=pw.main.body.getD i (.Pass default)
noncomputable def sub(i j:Nat):Stmt:=(BN (top i)).getD j (.Pass default)
noncomputable def ar(b:Scope):Cn:=
 let a:=(b.names.filter λp=>pD p.2||fC p.2).map (·.1)
 ⟨b,a.zipIdx,[("e",a.length),("one",a.length+1),("k",a.length+2),("n",a.length+3),("x",a.length+4)],false⟩
noncomputable def PV:List (Str×Nat):=[(Str.ofString "put_fixed32",10),(Str.ofString "put_fixed64",11),(Str.ofString "read_fixed32",12),(Str.ofString "read_fixed64",13),(Str.ofString "pack_tag",14),(Str.ofString "make_ikey",15),(Str.ofString "split_ikey",16),(Str.ofString "user_of",17),(Str.ofString "tag_of",18),(Str.ofString "find_file",43),(Str.ofString "total_size",60),(Str.ofString "key_range",61),(Str.ofString "max_octets_of",68),(Str.ofString "score_of",69),(Str.ofString "_law_draw",76),(Str.ofString "_law_user",77),(Str.ofString "_law_ikey",78),(Str.ofString "_law_made",79),(Str.ofString "_law_put",80),(Str.ofString "_law_compact",81),(Str.ofString "_law_told",82),(Str.ofString "_law_readers_told",83),(Str.ofString "_law_forget",84),(Str.ofString "_law_smallest",85),(Str.ofString "_law_by_hand",86),(Str.ofString "_law_writes",87),(Str.ofString "_law_live",88),(Str.ofString "law",89)]
noncomputable def OI:List (Str×Nat):=[(Str.ofString "SnapMark",7),(Str.ofString "MarkList",8),(Str.ofString "Order",9),(Str.ofString "BytesOrder",10),(Str.ofString "InternalOrder",11),(Str.ofString "Options",12),(Str.ofString "Sieve",13),(Str.ofString "FileMeta",14),(Str.ofString "VersionEdit",15),(Str.ofString "Version",16),(Str.ofString "VersionMaker",17),(Str.ofString "Compaction",18),(Str.ofString "Picker",19)]
noncomputable def OC:List (Str×Int):=[(Str.ofString "MAX_32",4294967295),(Str.ofString "MAX_64",18446744073709551615),(Str.ofString "CHECK_CRC",1),(Str.ofString "CHECK_SUM",2),(Str.ofString "KIND_DELETE",0),(Str.ofString "KIND_VALUE",1),(Str.ofString "KIND_SEEK",1),(Str.ofString "MAX_SEQ",72057594037927935),(Str.ofString "TAG_LENGTH",8),(Str.ofString "LEAST_BLOCK",8),(Str.ofString "MOST_BLOCK",65542),(Str.ofString "MOST_LEVELS",12)]
noncomputable def N9:List (Str×Nat):=[(Str.ofString "score",0),(Str.ofString "score_level",1),(Str.ofString "number",2),(Str.ofString "seq",3),(Str.ofString "live",4),(Str.ofString "marks",5),(Str.ofString "made",6),(Str.ofString "user_order",7),(Str.ofString "check",8),(Str.ofString "log_block",9),(Str.ofString "sync_writes",10),(Str.ofString "create_missing",11),(Str.ofString "paranoid",12),(Str.ofString "write_buffer",13),(Str.ofString "max_height",14),(Str.ofString "heights",15),(Str.ofString "block_size",16),(Str.ofString "restart_interval",17),(Str.ofString "filter_bits",18),(Str.ofString "filter_base_lg",19),(Str.ofString "max_file_size",20),(Str.ofString "num_levels",21),(Str.ofString "l0_trigger",22),(Str.ofString "l0_stop",23),(Str.ofString "base_bytes",24),(Str.ofString "level_factor",25),(Str.ofString "max_mem_level",26),(Str.ofString "grandparent_factor",27),(Str.ofString "expand_factor",28),(Str.ofString "c",29),(Str.ofString "smallest",30),(Str.ofString "current",31),(Str.ofString "newer",32),(Str.ofString "stop",33),(Str.ofString "size",34),(Str.ofString "largest",35),(Str.ofString "comparator",36),(Str.ofString "log_number",37),(Str.ofString "next_file",38),(Str.ofString "last_seq",39),(Str.ofString "compact_pointers",40),(Str.ofString "deleted",41),(Str.ofString "added",42),(Str.ofString "reset",43),(Str.ofString "order",44),(Str.ofString "files",45),(Str.ofString "refs",46),(Str.ofString "base",47),(Str.ofString "dropped",48),(Str.ofString "level",49),(Str.ofString "version",50),(Str.ofString "options",51),(Str.ofString "users",52),(Str.ofString "inputs",53),(Str.ofString "grandparents",54),(Str.ofString "edit",55),(Str.ofString "manual",56),(Str.ofString "grand_at",57),(Str.ofString "grand_octets",58),(Str.ofString "seen_key",59),(Str.ofString "places",60)]
noncomputable def Pr:List (Str×Nat):=[(Str.ofString "__init__",0),(Str.ofString "size",1),(Str.ofString "add",2),(Str.ofString "place",3),(Str.ofString "holds",4),(Str.ofString "drop",5),(Str.ofString "drop_all",6),(Str.ofString "smallest",7),(Str.ofString "compare",8),(Str.ofString "separator",9),(Str.ofString "successor",10),(Str.ofString "name",11),(Str.ofString "dress",12),(Str.ofString "check_all",13),(Str.ofString "tiny",14),(Str.ofString "turn",15),(Str.ofString "row",16),(Str.ofString "encode",17),(Str.ofString "overlapping",18),(Str.ofString "candidates",19),(Str.ofString "get",20),(Str.ofString "overlaps",21),(Str.ofString "level_for_mem",22),(Str.ofString "level_octets",23),(Str.ofString "numbers",24),(Str.ofString "iterators",25),(Str.ofString "check",26),(Str.ofString "within",27),(Str.ofString "apply",28),(Str.ofString "before",29),(Str.ofString "finish",30),(Str.ofString "grand_limit",31),(Str.ofString "trivial",32),(Str.ofString "stop_before",33),(Str.ofString "base_level_for",34),(Str.ofString "add_deletions",35),(Str.ofString "needs_compaction",36),(Str.ofString "user_range",37),(Str.ofString "pick",38),(Str.ofString "pick_range",39),(Str.ofString "set_up_other",40)]
noncomputable def ct:Ct:=⟨PV,OI,OC,N9,Pr⟩
noncomputable def b1:SS:=
 (.cons (.setA (.v 0) 2 (.v 1))
 (.cons (.setA (.v 0) 3 (.v 2))
 (.cons (.setA (.v 0) 4 (.k (.bool true)))
 .nil)))
noncomputable def s1:Stmt:=sub 10 0
theorem RW:aJ ct (ar (ae s1)) b1 (ao s1)=true:=by kernel_rfl
noncomputable def b2:SS:=
 (.cons (.setA (.v 0) 5 (.lst .nil))
 (.cons (.setA (.v 0) 6 (.k (.int 0)))
 .nil))
noncomputable def s2:Stmt:=sub 11 0
theorem R7:aJ ct (ar (ae s2)) b2 (ao s2)=true:=by kernel_rfl
noncomputable def b4:SS:=
 (.cons (.ite (.and (.cons (.t (.at (.v 0) 5)) (.cons (.t (.cmp .gt (.at (.sub (.at (.v 0) 5) (.k (.int (-1)))) 3) (.v 1))) .nil))) (.cons .dead
 .nil) .nil)
 (.cons (.augA (.v 0) 6 .add (.k (.int 1)))
 (.cons (.asg 2 (.mk 7 (.cons (.at (.v 0) 6) (.cons (.v 1) .nil))))
 (.cons (.ex (.bm .append (.at (.v 0) 5) (.cons (.v 2) .nil)))
 (.cons (.ret (.v 2))
 .nil)))))
noncomputable def s4:Stmt:=sub 11 2
theorem R6:aJ ct (ar (ae s4)) b4 (ao s4)=true:=by kernel_rfl
noncomputable def b5:SS:=
 (.cons (.asg 2 (.k (.int 0)))
 (.cons (.asg 3 (.bi .len (.cons (.at (.v 0) 5) .nil)))
 (.cons (.whl (.t (.cmp .lt (.v 2) (.v 3))) (.cons (.asg 4 (.bin .fdiv (.bin .add (.v 2) (.v 3)) (.k (.int 2))))
 (.cons (.ite (.t (.cmp .lt (.at (.sub (.at (.v 0) 5) (.v 4)) 2) (.at (.v 1) 2))) (.cons (.asg 2 (.bin .add (.v 4) (.k (.int 1))))
 .nil) (.cons (.asg 3 (.v 4))
 .nil))
 .nil)))
 (.cons (.ite (.or (.cons (.t (.cmp .eq (.v 2) (.bi .len (.cons (.at (.v 0) 5) .nil)))) (.cons (.not (.t (.at (.v 1) 4))) .nil))) (.cons (.ret (.k (.int (-1))))
 .nil) .nil)
 (.cons (.asg 5 (.sub (.at (.v 0) 5) (.v 2)))
 (.cons (.ite (.or (.cons (.t (.cmp .ne (.at (.v 5) 2) (.at (.v 1) 2))) (.cons (.t (.cmp .ne (.at (.v 5) 3) (.at (.v 1) 3))) .nil))) (.cons (.ret (.k (.int (-1))))
 .nil) .nil)
 (.cons (.ret (.v 2))
 .nil)))))))
noncomputable def s5:Stmt:=sub 11 3
theorem R4:aJ ct (ar (ae s5)) b5 (ao s5)=true:=by kernel_rfl
noncomputable def b7:SS:=
 (.cons (.asg 2 (.mth (.v 0) 3 (.cons (.v 1) .nil)))
 (.cons (.ite (.t (.cmp .lt (.v 2) (.k (.int 0)))) (.cons .dead
 .nil) .nil)
 (.cons (.setA (.sub (.at (.v 0) 5) (.v 2)) 4 (.k (.bool false)))
 (.cons (.setA (.v 1) 4 (.k (.bool false)))
 (.cons (.delI (.at (.v 0) 5) (.v 2))
 .nil)))))
noncomputable def s7:Stmt:=sub 11 5
theorem RY:aJ ct (ar (ae s7)) b7 (ao s7)=true:=by kernel_rfl
noncomputable def b9:SS:=
 (.cons (.ite (.not (.t (.at (.v 0) 5))) (.cons .dead
 .nil) .nil)
 (.cons (.ret (.at (.sub (.at (.v 0) 5) (.k (.int 0))) 3))
 .nil))
noncomputable def s9:Stmt:=sub 11 7
theorem RX:aJ ct (ar (ae s9)) b9 (ao s9)=true:=by kernel_rfl
noncomputable def Kf:SS:=
 (.cons (.ite (.or (.cons (.t (.cmp .lt (.v 0) (.k (.int 0)))) (.cons (.t (.cmp .gt (.v 0) (.k (.int 4294967295)))) .nil))) (.cons .dead
 .nil) .nil)
 (.cons (.ret (.bi .bytes (.cons (.lst (.cons (.bin .band (.v 0) (.k (.int 255))) (.cons (.bin .band (.bin .shr (.v 0) (.k (.int 8))) (.k (.int 255))) (.cons (.bin .band (.bin .shr (.v 0) (.k (.int 16))) (.k (.int 255))) (.cons (.bin .shr (.v 0) (.k (.int 24))) .nil))))) .nil)))
 .nil))
noncomputable def Kz:Stmt:=top 17
theorem QQ:aJ ct (ar (ae Kz)) Kf (ao Kz)=true:=by kernel_rfl
noncomputable def Ki:SS:=
 (.cons (.ite (.or (.cons (.t (.cmp .lt (.v 0) (.k (.int 0)))) (.cons (.t (.cmp .gt (.v 0) (.k (.int 18446744073709551615)))) .nil))) (.cons .dead
 .nil) .nil)
 (.cons (.ret (.bin .add (.fn 10 (.cons (.bin .band (.v 0) (.k (.int 4294967295))) .nil)) (.fn 10 (.cons (.bin .shr (.v 0) (.k (.int 32))) .nil))))
 .nil))
noncomputable def KT:Stmt:=top 18
theorem QC:aJ ct (ar (ae KT)) Ki (ao KT)=true:=by kernel_rfl
noncomputable def Je:SS:=
 (.cons (.ite (.or (.cons (.t (.cmp .lt (.v 1) (.k (.int 0)))) (.cons (.t (.cmp .gt (.bin .add (.v 1) (.k (.int 4))) (.bi .len (.cons (.v 0) .nil)))) .nil))) (.cons .dead
 .nil) .nil)
 (.cons (.ret (.bin .bor (.bin .bor (.bin .bor (.sub (.v 0) (.v 1)) (.bin .shl (.sub (.v 0) (.bin .add (.v 1) (.k (.int 1)))) (.k (.int 8)))) (.bin .shl (.sub (.v 0) (.bin .add (.v 1) (.k (.int 2)))) (.k (.int 16)))) (.bin .shl (.sub (.v 0) (.bin .add (.v 1) (.k (.int 3)))) (.k (.int 24)))))
 .nil))
noncomputable def Ja:Stmt:=top 19
theorem Rx:aJ ct (ar (ae Ja)) Je (ao Ja)=true:=by kernel_rfl
noncomputable def IB:SS:=
 (.cons (.ite (.or (.cons (.t (.cmp .lt (.v 1) (.k (.int 0)))) (.cons (.t (.cmp .gt (.bin .add (.v 1) (.k (.int 8))) (.bi .len (.cons (.v 0) .nil)))) .nil))) (.cons .dead
 .nil) .nil)
 (.cons (.ret (.bin .bor (.fn 12 (.cons (.v 0) (.cons (.v 1) .nil))) (.bin .shl (.fn 12 (.cons (.v 0) (.cons (.bin .add (.v 1) (.k (.int 4))) .nil))) (.k (.int 32)))))
 .nil))
noncomputable def Kr:Stmt:=top 20
theorem QS:aJ ct (ar (ae Kr)) IB (ao Kr)=true:=by kernel_rfl
noncomputable def Jo:SS:=
 (.cons (.ite (.or (.cons (.t (.cmp .lt (.v 0) (.k (.int 0)))) (.cons (.t (.cmp .gt (.v 0) (.k (.int 72057594037927935)))) .nil))) (.cons .dead
 .nil) .nil)
 (.cons (.ite (.and (.cons (.t (.cmp .ne (.v 1) (.k (.int 0)))) (.cons (.t (.cmp .ne (.v 1) (.k (.int 1)))) .nil))) (.cons .dead
 .nil) .nil)
 (.cons (.ret (.bin .bor (.bin .shl (.v 0) (.k (.int 8))) (.v 1)))
 .nil)))
noncomputable def IG:Stmt:=top 30
theorem QE:aJ ct (ar (ae IG)) Jo (ao IG)=true:=by kernel_rfl
noncomputable def Ka:SS:=
 (.cons (.ret (.bin .add (.bi .bytes (.cons (.v 0) .nil)) (.fn 11 (.cons (.fn 14 (.cons (.v 1) (.cons (.v 2) .nil))) .nil))))
 .nil)
noncomputable def Jz:Stmt:=top 31
theorem Rf:aJ ct (ar (ae Jz)) Ka (ao Jz)=true:=by kernel_rfl
noncomputable def Cu:SS:=
 (.cons (.asg 1 (.fn 17 (.cons (.v 0) .nil)))
 (.cons (.asg 2 (.fn 18 (.cons (.v 0) .nil)))
 (.cons (.asg 3 (.bin .band (.v 2) (.k (.int 255))))
 (.cons (.ite (.t (.cmp .gt (.v 3) (.k (.int 1)))) (.cons .dead
 .nil) .nil)
 (.cons (.ret (.tup (.cons (.v 1) (.cons (.bin .shr (.v 2) (.k (.int 8))) (.cons (.v 3) .nil)))))
 .nil)))))
noncomputable def KN:Stmt:=top 32
theorem QN:aJ ct (ar (ae KN)) Cu (ao KN)=true:=by kernel_rfl
noncomputable def JI:SS:=
 (.cons (.ite (.t (.cmp .lt (.bi .len (.cons (.v 0) .nil)) (.k (.int 8)))) (.cons .dead
 .nil) .nil)
 (.cons (.ret (.bi .bytes (.cons (.upto (.v 0) (.bin .sub (.bi .len (.cons (.v 0) .nil)) (.k (.int 8)))) .nil)))
 .nil))
noncomputable def Ku:Stmt:=top 33
theorem QT:aJ ct (ar (ae Ku)) JI (ao Ku)=true:=by kernel_rfl
noncomputable def KH:SS:=
 (.cons (.ite (.t (.cmp .lt (.bi .len (.cons (.v 0) .nil)) (.k (.int 8)))) (.cons .dead
 .nil) .nil)
 (.cons (.ret (.fn 13 (.cons (.v 0) (.cons (.bin .sub (.bi .len (.cons (.v 0) .nil)) (.k (.int 8))) .nil))))
 .nil))
noncomputable def IH:Stmt:=top 34
theorem Rm:aJ ct (ar (ae IH)) KH (ao IH)=true:=by kernel_rfl
noncomputable def Iw:SS:=
 (.cons (.ite (.t (.cmp .lt (.v 1) (.v 2))) (.cons (.ret (.k (.int (-1))))
 .nil) .nil)
 (.cons (.ite (.t (.cmp .gt (.v 1) (.v 2))) (.cons (.ret (.k (.int 1)))
 .nil) .nil)
 (.cons (.ret (.k (.int 0)))
 .nil)))
noncomputable def JV:Stmt:=sub 35 0
theorem QO:aJ ct (ar (ae JV)) Iw (ao JV)=true:=by kernel_rfl
noncomputable def JT:SS:=
 (.cons (.setA (.v 0) 7 (.mk 10 .nil))
 .nil)
noncomputable def Jy:Stmt:=sub 37 0
theorem P6:aJ ct (ar (ae Jy)) JT (ao Jy)=true:=by kernel_rfl
noncomputable def CM:SS:=
 (.cons (.asg 3 (.mth (.at (.v 0) 7) 8 (.cons (.fn 17 (.cons (.v 1) .nil)) (.cons (.fn 17 (.cons (.v 2) .nil)) .nil))))
 (.cons (.ite (.t (.cmp .ne (.v 3) (.k (.int 0)))) (.cons (.ret (.v 3))
 .nil) .nil)
 (.cons (.asg 4 (.fn 18 (.cons (.v 1) .nil)))
 (.cons (.asg 5 (.fn 18 (.cons (.v 2) .nil)))
 (.cons (.ite (.t (.cmp .gt (.v 4) (.v 5))) (.cons (.ret (.k (.int (-1))))
 .nil) .nil)
 (.cons (.ite (.t (.cmp .lt (.v 4) (.v 5))) (.cons (.ret (.k (.int 1)))
 .nil) .nil)
 (.cons (.ret (.k (.int 0)))
 .nil)))))))
noncomputable def JU:Stmt:=sub 37 1
theorem Qv:aJ ct (ar (ae JU)) CM (ao JU)=true:=by kernel_rfl
noncomputable def Jn:SS:=
 (.cons (.setA (.v 0) 8 (.k (.int 1)))
 (.cons (.setA (.v 0) 9 (.k (.int 32768)))
 (.cons (.setA (.v 0) 10 (.k (.bool true)))
 (.cons (.setA (.v 0) 11 (.k (.bool true)))
 (.cons (.setA (.v 0) 12 (.k (.bool false)))
 (.cons (.setA (.v 0) 13 (.k (.int 4194304)))
 (.cons (.setA (.v 0) 14 (.k (.int 12)))
 (.cons (.setA (.v 0) 15 (.tup (.cons (.k (.int 1)) (.cons (.k (.int 2)) (.cons (.k (.int 1)) (.cons (.k (.int 3)) (.cons (.k (.int 1)) (.cons (.k (.int 2)) (.cons (.k (.int 1)) (.cons (.k (.int 4)) .nil))))))))))
 (.cons (.setA (.v 0) 16 (.k (.int 4096)))
 (.cons (.setA (.v 0) 17 (.k (.int 16)))
 (.cons (.setA (.v 0) 18 (.k (.int 10)))
 (.cons (.setA (.v 0) 19 (.k (.int 11)))
 (.cons (.setA (.v 0) 20 (.k (.int 2097152)))
 (.cons (.setA (.v 0) 21 (.k (.int 7)))
 (.cons (.setA (.v 0) 22 (.k (.int 4)))
 (.cons (.setA (.v 0) 23 (.k (.int 12)))
 (.cons (.setA (.v 0) 24 (.k (.int 10485760)))
 (.cons (.setA (.v 0) 25 (.k (.int 10)))
 (.cons (.setA (.v 0) 26 (.k (.int 2)))
 (.cons (.setA (.v 0) 27 (.k (.int 10)))
 (.cons (.setA (.v 0) 28 (.k (.int 25)))
 .nil)))))))))))))))))))))
noncomputable def Kd:Stmt:=sub 38 0
theorem Qt:aJ ct (ar (ae Kd)) Jn (ao Kd)=true:=by kernel_rfl
noncomputable def KZ:SS:=
 (.cons (.setA (.v 0) 8 (.k (.int 2)))
 (.cons (.setA (.v 0) 9 (.k (.int 32)))
 (.cons (.setA (.v 0) 13 (.k (.int 96)))
 (.cons (.setA (.v 0) 14 (.k (.int 4)))
 (.cons (.setA (.v 0) 16 (.k (.int 48)))
 (.cons (.setA (.v 0) 17 (.k (.int 2)))
 (.cons (.setA (.v 0) 18 (.k (.int 4)))
 (.cons (.setA (.v 0) 19 (.k (.int 5)))
 (.cons (.setA (.v 0) 20 (.k (.int 128)))
 (.cons (.setA (.v 0) 21 (.k (.int 4)))
 (.cons (.setA (.v 0) 22 (.k (.int 2)))
 (.cons (.setA (.v 0) 23 (.k (.int 4)))
 (.cons (.setA (.v 0) 24 (.k (.int 256)))
 (.cons (.setA (.v 0) 25 (.k (.int 2)))
 (.cons (.ret (.v 0))
 .nil)))))))))))))))
noncomputable def Jg:Stmt:=sub 38 2
theorem Rl:aJ ct (ar (ae Jg)) KZ (ao Jg)=true:=by kernel_rfl
noncomputable def IC:SS:=
 (.cons (.setA (.v 0) 29 (.v 1))
 (.cons (.setA (.v 0) 30 (.v 2))
 (.cons (.setA (.v 0) 31 (.k .none))
 (.cons (.setA (.v 0) 32 (.bin .add (.k (.int 72057594037927935)) (.k (.int 1))))
 (.cons (.setA (.v 0) 33 (.k (.bool false)))
 .nil)))))
noncomputable def JS:Stmt:=sub 41 0
theorem QU:aJ ct (ar (ae JS)) IC (ao JS)=true:=by kernel_rfl
noncomputable def Ir:SS:=
 (.cons (.asgT [3,4,5] (.fn 16 (.cons (.v 1) .nil)))
 (.cons (.ite (.t (.mth (.at (.v 0) 29) 33 (.cons (.v 1) .nil))) (.cons (.setA (.v 0) 33 (.k (.bool true)))
 .nil) .nil)
 (.cons (.asg 6 (.k (.bool false)))
 (.cons (.ite (.or (.cons (.t (.cmp .is (.at (.v 0) 31) (.k .none))) (.cons (.t (.cmp .ne (.v 3) (.at (.v 0) 31))) .nil))) (.cons (.ite (.t (.cmp .ge (.v 2) (.k (.int 0)))) (.cons (.asg 6 (.orX (.at (.v 0) 33) (.cmp .ge (.v 2) (.at (.at (.at (.v 0) 29) 51) 20))))
 .nil) .nil)
 (.cons (.setA (.v 0) 31 (.v 3))
 (.cons (.setA (.v 0) 32 (.bin .add (.k (.int 72057594037927935)) (.k (.int 1))))
 .nil))) .nil)
 (.cons (.ite (.or (.cons (.t (.cmp .lt (.v 2) (.k (.int 0)))) (.cons (.t (.v 6)) .nil))) (.cons (.setA (.v 0) 33 (.k (.bool false)))
 .nil) .nil)
 (.cons (.asg 7 (.k (.bool false)))
 (.cons (.ite (.t (.cmp .le (.at (.v 0) 32) (.at (.v 0) 30))) (.cons (.asg 7 (.k (.bool true)))
 .nil) (.cons (.ite (.and (.cons (.t (.cmp .eq (.v 5) (.k (.int 0)))) (.cons (.t (.cmp .le (.v 4) (.at (.v 0) 30))) .nil))) (.cons (.asg 7 (.mth (.at (.v 0) 29) 34 (.cons (.v 3) .nil)))
 .nil) .nil)
 .nil))
 (.cons (.setA (.v 0) 32 (.v 4))
 (.cons (.ret (.tup (.cons (.v 6) (.cons (.v 7) .nil))))
 .nil)))))))))
noncomputable def IM:Stmt:=sub 41 1
theorem Q6:aJ ct (ar (ae IM)) Ir (ao IM)=true:=by kernel_rfl
noncomputable def Jp:SS:=
 (.cons (.setA (.v 0) 2 (.v 1))
 (.cons (.setA (.v 0) 34 (.v 2))
 (.cons (.setA (.v 0) 30 (.v 3))
 (.cons (.setA (.v 0) 35 (.v 4))
 .nil))))
noncomputable def Ix:Stmt:=sub 43 0
theorem Qu:aJ ct (ar (ae Ix)) Jp (ao Ix)=true:=by kernel_rfl
noncomputable def II:SS:=
 (.cons (.setA (.v 0) 36 (.k .none))
 (.cons (.setA (.v 0) 37 (.k .none))
 (.cons (.setA (.v 0) 38 (.k .none))
 (.cons (.setA (.v 0) 39 (.k .none))
 (.cons (.setA (.v 0) 40 (.lst .nil))
 (.cons (.setA (.v 0) 41 (.lst .nil))
 (.cons (.setA (.v 0) 42 (.lst .nil))
 (.cons (.setA (.v 0) 43 (.k (.bool false)))
 .nil))))))))
noncomputable def I5:Stmt:=sub 44 0
theorem Rz:aJ ct (ar (ae I5)) II (ao I5)=true:=by kernel_rfl
noncomputable def JE:SS:=
 (.cons (.asg 3 (.k (.int 0)))
 (.cons (.asg 4 (.bi .len (.cons (.v 0) .nil)))
 (.cons (.whl (.t (.cmp .lt (.v 3) (.v 4))) (.cons (.asg 5 (.bin .fdiv (.bin .add (.v 3) (.v 4)) (.k (.int 2))))
 (.cons (.ite (.t (.cmp .lt (.mth (.v 2) 8 (.cons (.at (.sub (.v 0) (.v 5)) 35) (.cons (.v 1) .nil))) (.k (.int 0)))) (.cons (.asg 3 (.bin .add (.v 5) (.k (.int 1))))
 .nil) (.cons (.asg 4 (.v 5))
 .nil))
 .nil)))
 (.cons (.ret (.v 3))
 .nil))))
noncomputable def IO:Stmt:=top 45
theorem QH:aJ ct (ar (ae IO)) JE (ao IO)=true:=by kernel_rfl
noncomputable def Km:SS:=
 (.cons (.setA (.v 0) 21 (.v 1))
 (.cons (.setA (.v 0) 44 (.v 2))
 (.cons (.setA (.v 0) 45 (.lst .nil))
 (.cons (.forR 3 (.k (.int 0)) (.v 1) true (.cons (.ex (.bm .append (.at (.v 0) 45) (.cons (.lst .nil) .nil)))
 .nil))
 (.cons (.setA (.v 0) 46 (.k (.int 0)))
 (.cons (.setA (.v 0) 0 (.tup (.cons (.k (.int 0)) (.cons (.k (.int 1)) .nil))))
 (.cons (.setA (.v 0) 1 (.k (.int (-1))))
 .nil)))))))
noncomputable def IW:Stmt:=sub 46 0
theorem Q9:aJ ct (ar (ae IW)) Km (ao IW)=true:=by kernel_rfl
noncomputable def Jb:SS:=
 (.cons (.asg 4 (.v 2))
 (.cons (.asg 5 (.v 3))
 (.cons (.asg 6 (.lst .nil))
 (.cons (.asg 7 (.k (.int 0)))
 (.cons (.whl (.t (.cmp .lt (.v 7) (.bi .len (.cons (.sub (.at (.v 0) 45) (.v 1)) .nil)))) (.cons (.asg 8 (.sub (.sub (.at (.v 0) 45) (.v 1)) (.v 7)))
 (.cons (.asg 9 (.fn 17 (.cons (.at (.v 8) 30) .nil)))
 (.cons (.asg 10 (.fn 17 (.cons (.at (.v 8) 35) .nil)))
 (.cons (.aug 7 .add (.k (.int 1)))
 (.cons (.ite (.and (.cons (.t (.cmp .isnt (.v 4) (.k .none))) (.cons (.t (.cmp .lt (.v 10) (.v 4))) .nil))) (.cons .cnt
 .nil) .nil)
 (.cons (.ite (.and (.cons (.t (.cmp .isnt (.v 5) (.k .none))) (.cons (.t (.cmp .gt (.v 9) (.v 5))) .nil))) (.cons .cnt
 .nil) .nil)
 (.cons (.ex (.bm .append (.v 6) (.cons (.v 8) .nil)))
 (.cons (.ite (.t (.cmp .eq (.v 1) (.k (.int 0)))) (.cons (.ite (.and (.cons (.t (.cmp .isnt (.v 4) (.k .none))) (.cons (.t (.cmp .lt (.v 9) (.v 4))) .nil))) (.cons (.asg 4 (.v 9))
 (.cons (.asg 6 (.lst .nil))
 (.cons (.asg 7 (.k (.int 0)))
 .nil))) (.cons (.ite (.and (.cons (.t (.cmp .isnt (.v 5) (.k .none))) (.cons (.t (.cmp .gt (.v 10) (.v 5))) .nil))) (.cons (.asg 5 (.v 10))
 (.cons (.asg 6 (.lst .nil))
 (.cons (.asg 7 (.k (.int 0)))
 .nil))) .nil)
 .nil))
 .nil) .nil)
 .nil)))))))))
 (.cons (.ret (.v 6))
 .nil))))))
noncomputable def IV:Stmt:=sub 46 1
theorem Qp:aJ ct (ar (ae IV)) Jb (ao IV)=true:=by kernel_rfl
noncomputable def JC:SS:=
 (.cons (.asg 2 (.fn 17 (.cons (.v 1) .nil)))
 (.cons (.asg 3 (.lst .nil))
 (.cons (.asg 4 (.sub (.at (.v 0) 45) (.k (.int 0))))
 (.cons (.forR 5 (.bin .sub (.bi .len (.cons (.v 4) .nil)) (.k (.int 1))) (.k (.int (-1))) false (.cons (.asg 6 (.sub (.v 4) (.v 5)))
 (.cons (.ite (.and (.cons (.t (.cmp .le (.fn 17 (.cons (.at (.v 6) 30) .nil)) (.v 2))) (.cons (.t (.cmp .le (.v 2) (.fn 17 (.cons (.at (.v 6) 35) .nil)))) .nil))) (.cons (.ex (.bm .append (.v 3) (.cons (.tup (.cons (.k (.int 0)) (.cons (.v 6) .nil))) .nil)))
 .nil) .nil)
 .nil)))
 (.cons (.forR 7 (.k (.int 1)) (.at (.v 0) 21) true (.cons (.asg 8 (.sub (.at (.v 0) 45) (.v 7)))
 (.cons (.asg 5 (.fn 43 (.cons (.v 8) (.cons (.v 1) (.cons (.at (.v 0) 44) .nil)))))
 (.cons (.ite (.and (.cons (.t (.cmp .lt (.v 5) (.bi .len (.cons (.v 8) .nil)))) (.cons (.t (.cmp .le (.fn 17 (.cons (.at (.sub (.v 8) (.v 5)) 30) .nil)) (.v 2))) .nil))) (.cons (.ex (.bm .append (.v 3) (.cons (.tup (.cons (.v 7) (.cons (.sub (.v 8) (.v 5)) .nil))) .nil)))
 .nil) .nil)
 .nil))))
 (.cons (.ret (.v 3))
 .nil))))))
noncomputable def Jr:Stmt:=sub 46 2
theorem QW:aJ ct (ar (ae Jr)) JC (ao Jr)=true:=by kernel_rfl
noncomputable def IN:SS:=
 (.cons (.asg 4 (.fn 15 (.cons (.v 2) (.cons (.v 3) (.cons (.k (.int 1)) .nil)))))
 (.cons (.for [5,6] (.mth (.v 0) 19 (.cons (.v 4) .nil)) (.cons (.asg 7 (.bm .get (.v 1) (.cons (.at (.v 6) 2) (.cons (.v 4) .nil))))
 (.cons (.ite (.t (.cmp .is (.v 7) (.k .none))) (.cons .cnt
 .nil) .nil)
 (.cons (.asgT [8,9,10] (.fn 16 (.cons (.sub (.v 7) (.k (.int 0))) .nil)))
 (.cons (.ite (.t (.cmp .eq (.v 8) (.v 2))) (.cons (.ite (.t (.cmp .eq (.v 10) (.k (.int 0)))) (.cons (.ret (.tup (.cons (.k (.bool true)) (.cons (.k (.int 0)) (.cons (.k (.bytes [])) .nil)))))
 .nil) .nil)
 (.cons (.ret (.tup (.cons (.k (.bool true)) (.cons (.k (.int 1)) (.cons (.sub (.v 7) (.k (.int 1))) .nil)))))
 .nil)) .nil)
 .nil)))))
 (.cons (.ret (.tup (.cons (.k (.bool false)) (.cons (.k (.int 0)) (.cons (.k (.bytes [])) .nil)))))
 .nil)))
noncomputable def JX:Stmt:=sub 46 3
theorem P7:aJ ct (ar (ae JX)) IN (ao JX)=true:=by kernel_rfl
noncomputable def KU:SS:=
 (.cons (.asg 2 (.k (.int 0)))
 (.cons (.for [3] (.sub (.at (.v 0) 45) (.v 1)) (.cons (.aug 2 .add (.at (.v 3) 34))
 .nil))
 (.cons (.ret (.v 2))
 .nil)))
noncomputable def KF:Stmt:=sub 46 6
theorem Rc:aJ ct (ar (ae KF)) KU (ao KF)=true:=by kernel_rfl
noncomputable def Jh:SS:=
 (.cons (.asg 1 (.lst .nil))
 (.cons (.for [2] (.at (.v 0) 45) (.cons (.for [3] (.v 2) (.cons (.ex (.bm .append (.v 1) (.cons (.at (.v 3) 2) .nil)))
 .nil))
 .nil))
 (.cons (.ret (.bi .sorted (.cons (.v 1) .nil)))
 .nil)))
noncomputable def Jl:Stmt:=sub 46 7
theorem Qq:aJ ct (ar (ae Jl)) Jh (ao Jl)=true:=by kernel_rfl
noncomputable def Kb:SS:=
 (.cons (.asg 1 (.mth (.v 0) 24 .nil))
 (.cons (.forR 2 (.k (.int 1)) (.bi .len (.cons (.v 1) .nil)) true (.cons (.ite (.t (.cmp .eq (.sub (.v 1) (.bin .sub (.v 2) (.k (.int 1)))) (.sub (.v 1) (.v 2)))) (.cons .dead
 .nil) .nil)
 .nil))
 (.cons (.forR 3 (.k (.int 0)) (.at (.v 0) 21) true (.cons (.asg 4 (.sub (.at (.v 0) 45) (.v 3)))
 (.cons (.forR 2 (.k (.int 0)) (.bi .len (.cons (.v 4) .nil)) true (.cons (.asg 5 (.sub (.v 4) (.v 2)))
 (.cons (.ite (.t (.cmp .gt (.mth (.at (.v 0) 44) 8 (.cons (.at (.v 5) 30) (.cons (.at (.v 5) 35) .nil))) (.k (.int 0)))) (.cons .dead
 .nil) .nil)
 (.cons (.ite (.t (.cmp .eq (.v 2) (.k (.int 0)))) (.cons .cnt
 .nil) .nil)
 (.cons (.asg 6 (.sub (.v 4) (.bin .sub (.v 2) (.k (.int 1)))))
 (.cons (.ite (.t (.cmp .eq (.v 3) (.k (.int 0)))) (.cons (.ite (.t (.cmp .ge (.at (.v 6) 2) (.at (.v 5) 2))) (.cons .dead
 .nil) .nil)
 .nil) (.cons (.ite (.t (.cmp .ge (.fn 17 (.cons (.at (.v 6) 35) .nil)) (.fn 17 (.cons (.at (.v 5) 30) .nil)))) (.cons .dead
 .nil) .nil)
 .nil))
 .nil))))))
 .nil)))
 .nil)))
noncomputable def JR:Stmt:=sub 46 9
theorem RH:aJ ct (ar (ae JR)) Kb (ao JR)=true:=by kernel_rfl
noncomputable def ID:SS:=
 (.cons (.setA (.v 0) 47 (.v 1))
 (.cons (.setA (.v 0) 48 (.k (.bool false)))
 (.cons (.setA (.v 0) 41 (.lst .nil))
 (.cons (.setA (.v 0) 42 (.lst .nil))
 (.cons (.forR 2 (.k (.int 0)) (.at (.v 1) 21) true (.cons (.ex (.bm .append (.at (.v 0) 41) (.cons .dic .nil)))
 (.cons (.ex (.bm .append (.at (.v 0) 42) (.cons .dic .nil)))
 .nil)))
 .nil)))))
noncomputable def IU:Stmt:=sub 47 0
theorem Qe:aJ ct (ar (ae IU)) ID (ao IU)=true:=by kernel_rfl
noncomputable def I3:SS:=
 (.cons (.ite (.or (.cons (.t (.cmp .lt (.v 1) (.k (.int 0)))) (.cons (.t (.cmp .ge (.v 1) (.at (.at (.v 0) 47) 21))) .nil))) (.cons .dead
 .nil) .nil)
 .nil)
noncomputable def Jt:Stmt:=sub 47 1
theorem QF:aJ ct (ar (ae Jt)) I3 (ao Jt)=true:=by kernel_rfl
noncomputable def Kq:SS:=
 (.cons (.for [2,3] (.at (.v 1) 41) (.cons (.ex (.mth (.v 0) 27 (.cons (.v 2) .nil)))
 .nil))
 (.cons (.for [2,4] (.at (.v 1) 42) (.cons (.ex (.mth (.v 0) 27 (.cons (.v 2) .nil)))
 .nil))
 (.cons (.ite (.t (.at (.v 1) 43)) (.cons (.setA (.v 0) 48 (.k (.bool true)))
 (.cons (.forR 2 (.k (.int 0)) (.at (.at (.v 0) 47) 21) true (.cons (.setI (.at (.v 0) 41) (.v 2) .dic)
 (.cons (.setI (.at (.v 0) 42) (.v 2) .dic)
 .nil)))
 .nil)) .nil)
 (.cons (.for [2,3] (.at (.v 1) 41) (.cons (.setI (.sub (.at (.v 0) 41) (.v 2)) (.v 3) (.k (.bool true)))
 (.cons (.ite (.t (.cmp .isin (.v 3) (.sub (.at (.v 0) 42) (.v 2)))) (.cons (.delI (.sub (.at (.v 0) 42) (.v 2)) (.v 3))
 .nil) .nil)
 .nil)))
 (.cons (.for [2,4] (.at (.v 1) 42) (.cons (.setI (.sub (.at (.v 0) 42) (.v 2)) (.at (.v 4) 2) (.v 4))
 (.cons (.ite (.t (.cmp .isin (.at (.v 4) 2) (.sub (.at (.v 0) 41) (.v 2)))) (.cons (.delI (.sub (.at (.v 0) 41) (.v 2)) (.at (.v 4) 2))
 .nil) .nil)
 .nil)))
 .nil)))))
noncomputable def KD:Stmt:=sub 47 2
theorem Ql:aJ ct (ar (ae KD)) Kq (ao KD)=true:=by kernel_rfl
noncomputable def Jv:SS:=
 (.cons (.ite (.t (.cmp .gt (.v 1) (.k (.int 0)))) (.cons (.asg 4 (.mth (.at (.at (.v 0) 47) 44) 8 (.cons (.at (.v 2) 30) (.cons (.at (.v 3) 30) .nil))))
 (.cons (.ite (.t (.cmp .ne (.v 4) (.k (.int 0)))) (.cons (.ret (.cmp .lt (.v 4) (.k (.int 0))))
 .nil) .nil)
 .nil)) .nil)
 (.cons (.ret (.cmp .lt (.at (.v 2) 2) (.at (.v 3) 2)))
 .nil))
noncomputable def Jw:Stmt:=sub 47 3
theorem Qg:aJ ct (ar (ae Jw)) Jv (ao Jw)=true:=by kernel_rfl
noncomputable def IX:SS:=
 (.cons (.asg 4 (.k (.int 0)))
 (.cons (.asg 5 (.bi .len (.cons (.v 2) .nil)))
 (.cons (.whl (.t (.cmp .lt (.v 4) (.v 5))) (.cons (.asg 6 (.bin .fdiv (.bin .add (.v 4) (.v 5)) (.k (.int 2))))
 (.cons (.ite (.t (.mth (.v 0) 29 (.cons (.v 1) (.cons (.sub (.v 2) (.v 6)) (.cons (.v 3) .nil))))) (.cons (.asg 4 (.bin .add (.v 6) (.k (.int 1))))
 .nil) (.cons (.asg 5 (.v 6))
 .nil))
 .nil)))
 (.cons (.ex (.bm .insert (.v 2) (.cons (.v 4) (.cons (.v 3) .nil))))
 .nil))))
noncomputable def JB:Stmt:=sub 47 4
theorem Rh:aJ ct (ar (ae JB)) IX (ao JB)=true:=by kernel_rfl
noncomputable def JG:SS:=
 (.cons (.asg 1 (.mk 16 (.cons (.at (.at (.v 0) 47) 21) (.cons (.at (.at (.v 0) 47) 44) .nil))))
 (.cons (.forR 2 (.k (.int 0)) (.at (.at (.v 0) 47) 21) true (.cons (.asg 3 (.sub (.at (.v 1) 45) (.v 2)))
 (.cons (.ite (.not (.t (.at (.v 0) 48))) (.cons (.for [4] (.sub (.at (.at (.v 0) 47) 45) (.v 2)) (.cons (.ite (.t (.cmp .isin (.at (.v 4) 2) (.sub (.at (.v 0) 41) (.v 2)))) (.cons .cnt
 .nil) .nil)
 (.cons (.ite (.t (.cmp .isin (.at (.v 4) 2) (.sub (.at (.v 0) 42) (.v 2)))) (.cons .cnt
 .nil) .nil)
 (.cons (.ex (.bm .append (.v 3) (.cons (.v 4) .nil)))
 .nil))))
 .nil) .nil)
 (.cons (.for [5] (.bi .sorted (.cons (.sub (.at (.v 0) 42) (.v 2)) .nil)) (.cons (.ex (.mth (.v 0) 3 (.cons (.v 2) (.cons (.v 3) (.cons (.sub (.sub (.at (.v 0) 42) (.v 2)) (.v 5)) .nil)))))
 .nil))
 .nil))))
 (.cons (.ex (.mth (.v 1) 26 .nil))
 (.cons (.ret (.v 1))
 .nil))))
noncomputable def I6:Stmt:=sub 47 5
theorem RF:aJ ct (ar (ae I6)) JG (ao I6)=true:=by kernel_rfl
noncomputable def Jq:SS:=
 (.cons (.asg 1 (.k (.int 0)))
 (.cons (.for [2] (.v 0) (.cons (.aug 1 .add (.at (.v 2) 34))
 .nil))
 (.cons (.ret (.v 1))
 .nil)))
noncomputable def I9:Stmt:=top 49
theorem Qh:aJ ct (ar (ae I9)) Jq (ao I9)=true:=by kernel_rfl
noncomputable def Iu:SS:=
 (.cons (.asg 2 (.at (.sub (.v 0) (.k (.int 0))) 30))
 (.cons (.asg 3 (.at (.sub (.v 0) (.k (.int 0))) 35))
 (.cons (.for [4] (.frm (.v 0) (.k (.int 1))) (.cons (.ite (.t (.cmp .lt (.mth (.v 1) 8 (.cons (.at (.v 4) 30) (.cons (.v 2) .nil))) (.k (.int 0)))) (.cons (.asg 2 (.at (.v 4) 30))
 .nil) .nil)
 (.cons (.ite (.t (.cmp .gt (.mth (.v 1) 8 (.cons (.at (.v 4) 35) (.cons (.v 3) .nil))) (.k (.int 0)))) (.cons (.asg 3 (.at (.v 4) 35))
 .nil) .nil)
 .nil)))
 (.cons (.ret (.tup (.cons (.v 2) (.cons (.v 3) .nil))))
 .nil))))
noncomputable def Ip:Stmt:=top 50
theorem RB:aJ ct (ar (ae Ip)) Iu (ao Ip)=true:=by kernel_rfl
noncomputable def IS:SS:=
 (.cons (.setA (.v 0) 49 (.v 1))
 (.cons (.setA (.v 0) 50 (.v 2))
 (.cons (.setA (.v 0) 51 (.v 3))
 (.cons (.setA (.v 0) 44 (.mk 11 .nil))
 (.cons (.setA (.v 0) 52 (.mk 10 .nil))
 (.cons (.setA (.v 0) 53 (.lst (.cons (.lst .nil) (.cons (.lst .nil) .nil))))
 (.cons (.setA (.v 0) 54 (.lst .nil))
 (.cons (.setA (.v 0) 55 (.mk 15 .nil))
 (.cons (.setA (.v 0) 56 (.k (.bool false)))
 (.cons (.setA (.v 0) 57 (.k (.int 0)))
 (.cons (.setA (.v 0) 58 (.k (.int 0)))
 (.cons (.setA (.v 0) 59 (.k (.bool false)))
 (.cons (.setA (.v 0) 60 (.bin .mul (.lst (.cons (.k (.int 0)) .nil)) (.at (.v 3) 21)))
 .nil)))))))))))))
noncomputable def Kl:Stmt:=sub 51 0
theorem QM:aJ ct (ar (ae Kl)) IS (ao Kl)=true:=by kernel_rfl
noncomputable def K5:SS:=
 (.cons (.ret (.bin .mul (.at (.at (.v 0) 51) 27) (.at (.at (.v 0) 51) 20)))
 .nil)
noncomputable def Jf:Stmt:=sub 51 1
theorem Qm:aJ ct (ar (ae Jf)) K5 (ao Jf)=true:=by kernel_rfl
noncomputable def Iq:SS:=
 (.cons (.ite (.or (.cons (.t (.cmp .ne (.bi .len (.cons (.sub (.at (.v 0) 53) (.k (.int 0))) .nil)) (.k (.int 1)))) (.cons (.t (.cmp .ne (.bi .len (.cons (.sub (.at (.v 0) 53) (.k (.int 1))) .nil)) (.k (.int 0)))) .nil))) (.cons (.ret (.k (.bool false)))
 .nil) .nil)
 (.cons (.ret (.cmp .le (.fn 60 (.cons (.at (.v 0) 54) .nil)) (.mth (.v 0) 31 .nil)))
 .nil))
noncomputable def Jj:Stmt:=sub 51 2
theorem Qj:aJ ct (ar (ae Jj)) Iq (ao Jj)=true:=by kernel_rfl
noncomputable def Ky:SS:=
 (.cons (.whl (.t (.cmp .lt (.at (.v 0) 57) (.bi .len (.cons (.at (.v 0) 54) .nil)))) (.cons (.asg 2 (.sub (.at (.v 0) 54) (.at (.v 0) 57)))
 (.cons (.ite (.t (.cmp .le (.mth (.at (.v 0) 44) 8 (.cons (.v 1) (.cons (.at (.v 2) 35) .nil))) (.k (.int 0)))) (.cons .brk
 .nil) .nil)
 (.cons (.ite (.t (.at (.v 0) 59)) (.cons (.augA (.v 0) 58 .add (.at (.v 2) 34))
 .nil) .nil)
 (.cons (.augA (.v 0) 57 .add (.k (.int 1)))
 .nil)))))
 (.cons (.setA (.v 0) 59 (.k (.bool true)))
 (.cons (.ite (.t (.cmp .gt (.at (.v 0) 58) (.mth (.v 0) 31 .nil))) (.cons (.setA (.v 0) 58 (.k (.int 0)))
 (.cons (.ret (.k (.bool true)))
 .nil)) .nil)
 (.cons (.ret (.k (.bool false)))
 .nil))))
noncomputable def KB:Stmt:=sub 51 3
theorem QB:aJ ct (ar (ae KB)) Ky (ao KB)=true:=by kernel_rfl
noncomputable def JZ:SS:=
 (.cons (.forR 2 (.bin .add (.at (.v 0) 49) (.k (.int 2))) (.at (.at (.v 0) 51) 21) true (.cons (.asg 3 (.sub (.at (.at (.v 0) 50) 45) (.v 2)))
 (.cons (.whl (.t (.cmp .lt (.sub (.at (.v 0) 60) (.v 2)) (.bi .len (.cons (.v 3) .nil)))) (.cons (.asg 4 (.sub (.v 3) (.sub (.at (.v 0) 60) (.v 2))))
 (.cons (.ite (.t (.cmp .le (.mth (.at (.v 0) 52) 8 (.cons (.v 1) (.cons (.fn 17 (.cons (.at (.v 4) 35) .nil)) .nil))) (.k (.int 0)))) (.cons (.ite (.t (.cmp .ge (.mth (.at (.v 0) 52) 8 (.cons (.v 1) (.cons (.fn 17 (.cons (.at (.v 4) 30) .nil)) .nil))) (.k (.int 0)))) (.cons (.ret (.k (.bool false)))
 .nil) .nil)
 (.cons .brk
 .nil)) .nil)
 (.cons (.augI (.at (.v 0) 60) (.v 2) .add (.k (.int 1)))
 .nil))))
 .nil)))
 (.cons (.ret (.k (.bool true)))
 .nil))
noncomputable def IR:Stmt:=sub 51 4
theorem Qb:aJ ct (ar (ae IR)) JZ (ao IR)=true:=by kernel_rfl
noncomputable def I4:SS:=
 (.cons (.forR 1 (.k (.int 0)) (.k (.int 2)) true (.cons (.for [2] (.sub (.at (.v 0) 53) (.v 1)) (.cons (.ex (.bm .append (.at (.at (.v 0) 55) 41) (.cons (.tup (.cons (.bin .add (.at (.v 0) 49) (.v 1)) (.cons (.at (.v 2) 2) .nil))) .nil)))
 .nil))
 .nil))
 .nil)
noncomputable def IT:Stmt:=sub 51 5
theorem RV:aJ ct (ar (ae IT)) I4 (ao IT)=true:=by kernel_rfl
noncomputable def I7:SS:=
 (.cons (.asg 2 (.at (.v 0) 24))
 (.cons (.whl (.t (.cmp .gt (.v 1) (.k (.int 1)))) (.cons (.aug 2 .mul (.at (.v 0) 25))
 (.cons (.aug 1 .sub (.k (.int 1)))
 .nil)))
 (.cons (.ret (.v 2))
 .nil)))
noncomputable def JH:Stmt:=top 52
theorem QP:aJ ct (ar (ae JH)) I7 (ao JH)=true:=by kernel_rfl
noncomputable def KO:SS:=
 (.cons (.ite (.t (.cmp .eq (.bi .len (.cons (.at (.v 0) 45) .nil)) (.k (.int 0)))) (.cons (.ret (.at (.v 0) 0))
 .nil) .nil)
 (.cons (.asg 2 (.bi .len (.cons (.sub (.at (.v 0) 45) (.k (.int 0))) .nil)))
 (.cons (.asg 3 (.at (.v 1) 22))
 (.cons (.asg 4 (.k (.int 0)))
 (.cons (.forR 5 (.k (.int 1)) (.bin .sub (.at (.v 1) 21) (.k (.int 1))) true (.cons (.asg 6 (.mth (.v 0) 23 (.cons (.v 5) .nil)))
 (.cons (.asg 7 (.fn 68 (.cons (.v 1) (.cons (.v 5) .nil))))
 (.cons (.ite (.t (.cmp .gt (.bin .mul (.v 6) (.v 3)) (.bin .mul (.v 2) (.v 7)))) (.cons (.asg 2 (.v 6))
 (.cons (.asg 3 (.v 7))
 (.cons (.asg 4 (.v 5))
 .nil))) .nil)
 .nil))))
 (.cons (.setA (.v 0) 0 (.tup (.cons (.v 2) (.cons (.v 3) .nil))))
 (.cons (.setA (.v 0) 1 (.v 4))
 (.cons (.ret (.at (.v 0) 0))
 .nil))))))))
noncomputable def I8:Stmt:=top 53
theorem RC:aJ ct (ar (ae I8)) KO (ao I8)=true:=by kernel_rfl
noncomputable def IY:SS:=
 (.cons (.setA (.v 0) 51 (.v 1))
 (.cons (.setA (.v 0) 44 (.v 2))
 .nil))
noncomputable def KI:Stmt:=sub 54 0
theorem QA:aJ ct (ar (ae KI)) IY (ao KI)=true:=by kernel_rfl
noncomputable def IE:SS:=
 (.cons (.ret (.cmp .ge (.sub (.at (.v 1) 0) (.k (.int 0))) (.sub (.at (.v 1) 0) (.k (.int 1)))))
 .nil)
noncomputable def IJ:Stmt:=sub 54 1
theorem Qd:aJ ct (ar (ae IJ)) IE (ao IJ)=true:=by kernel_rfl
noncomputable def JD:SS:=
 (.cons (.asg 2 (.fn 61 (.cons (.v 1) (.cons (.at (.v 0) 44) .nil))))
 (.cons (.ret (.tup (.cons (.fn 17 (.cons (.sub (.v 2) (.k (.int 0))) .nil)) (.cons (.fn 17 (.cons (.sub (.v 2) (.k (.int 1))) .nil)) .nil))))
 .nil))
noncomputable def JK:Stmt:=sub 54 2
theorem Qi:aJ ct (ar (ae JK)) JD (ao JK)=true:=by kernel_rfl
noncomputable def Iy:SS:=
 (.cons (.ite (.not (.t (.mth (.v 0) 36 (.cons (.v 1) .nil)))) (.cons (.ret (.k .none))
 .nil) .nil)
 (.cons (.asg 3 (.at (.v 1) 1))
 (.cons (.asg 4 (.mk 18 (.cons (.v 3) (.cons (.v 1) (.cons (.at (.v 0) 51) .nil)))))
 (.cons (.asg 5 (.sub (.at (.v 1) 45) (.v 3)))
 (.cons (.asg 6 (.sub (.v 2) (.v 3)))
 (.cons (.asg 7 (.sub (.v 5) (.k (.int 0))))
 (.cons (.for [8] (.v 5) (.cons (.ite (.or (.cons (.t (.cmp .eq (.v 6) (.k (.bytes [])))) (.cons (.t (.cmp .gt (.mth (.at (.v 0) 44) 8 (.cons (.at (.v 8) 35) (.cons (.v 6) .nil))) (.k (.int 0)))) .nil))) (.cons (.asg 7 (.v 8))
 (.cons .brk
 .nil)) .nil)
 .nil))
 (.cons (.setI (.at (.v 4) 53) (.k (.int 0)) (.lst (.cons (.v 7) .nil)))
 (.cons (.ite (.t (.cmp .eq (.v 3) (.k (.int 0)))) (.cons (.asg 9 (.mth (.v 0) 37 (.cons (.sub (.at (.v 4) 53) (.k (.int 0))) .nil)))
 (.cons (.setI (.at (.v 4) 53) (.k (.int 0)) (.mth (.v 1) 18 (.cons (.k (.int 0)) (.cons (.sub (.v 9) (.k (.int 0))) (.cons (.sub (.v 9) (.k (.int 1))) .nil)))))
 .nil)) .nil)
 (.cons (.ex (.mth (.v 0) 40 (.cons (.v 4) (.cons (.v 2) .nil))))
 (.cons (.ret (.v 4))
 .nil)))))))))))
noncomputable def Kg:Stmt:=sub 54 3
theorem QR:aJ ct (ar (ae Kg)) Iy (ao Kg)=true:=by kernel_rfl
noncomputable def Iz:SS:=
 (.cons (.ite (.or (.cons (.t (.cmp .lt (.v 3) (.k (.int 0)))) (.cons (.t (.cmp .ge (.v 3) (.bin .sub (.at (.at (.v 0) 51) 21) (.k (.int 1))))) .nil))) (.cons .dead
 .nil) .nil)
 (.cons (.asg 6 (.mth (.v 1) 18 (.cons (.v 3) (.cons (.v 4) (.cons (.v 5) .nil)))))
 (.cons (.ite (.t (.cmp .eq (.bi .len (.cons (.v 6) .nil)) (.k (.int 0)))) (.cons (.ret (.k .none))
 .nil) .nil)
 (.cons (.ite (.t (.cmp .gt (.v 3) (.k (.int 0)))) (.cons (.asg 7 (.k (.int 0)))
 (.cons (.asg 8 (.k (.int 0)))
 (.cons (.whl (.and (.cons (.t (.cmp .lt (.v 8) (.bi .len (.cons (.v 6) .nil)))) (.cons (.t (.cmp .lt (.v 7) (.at (.at (.v 0) 51) 20))) .nil))) (.cons (.aug 7 .add (.at (.sub (.v 6) (.v 8)) 34))
 (.cons (.aug 8 .add (.k (.int 1)))
 .nil)))
 (.cons (.asg 6 (.upto (.v 6) (.v 8)))
 .nil)))) .nil)
 (.cons (.asg 9 (.mk 18 (.cons (.v 3) (.cons (.v 1) (.cons (.at (.v 0) 51) .nil)))))
 (.cons (.setA (.v 9) 56 (.k (.bool true)))
 (.cons (.setI (.at (.v 9) 53) (.k (.int 0)) (.v 6))
 (.cons (.ex (.mth (.v 0) 40 (.cons (.v 9) (.cons (.v 2) .nil))))
 (.cons (.ret (.v 9))
 .nil)))))))))
noncomputable def K2:Stmt:=sub 54 4
theorem RO:aJ ct (ar (ae K2)) Iz (ao K2)=true:=by kernel_rfl
noncomputable def Ke:SS:=
 (.cons (.asg 3 (.at (.v 1) 49))
 (.cons (.asg 4 (.at (.v 1) 50))
 (.cons (.asg 5 (.mth (.v 0) 37 (.cons (.sub (.at (.v 1) 53) (.k (.int 0))) .nil)))
 (.cons (.setI (.at (.v 1) 53) (.k (.int 1)) (.mth (.v 4) 18 (.cons (.bin .add (.v 3) (.k (.int 1))) (.cons (.sub (.v 5) (.k (.int 0))) (.cons (.sub (.v 5) (.k (.int 1))) .nil)))))
 (.cons (.asg 6 (.mth (.v 0) 37 (.cons (.bin .add (.sub (.at (.v 1) 53) (.k (.int 0))) (.sub (.at (.v 1) 53) (.k (.int 1)))) .nil)))
 (.cons (.ite (.t (.cmp .gt (.bi .len (.cons (.sub (.at (.v 1) 53) (.k (.int 1))) .nil)) (.k (.int 0)))) (.cons (.asg 7 (.mth (.v 4) 18 (.cons (.v 3) (.cons (.sub (.v 6) (.k (.int 0))) (.cons (.sub (.v 6) (.k (.int 1))) .nil)))))
 (.cons (.asg 8 (.bin .mul (.at (.at (.v 0) 51) 28) (.at (.at (.v 0) 51) 20)))
 (.cons (.asg 9 (.bin .add (.fn 60 (.cons (.sub (.at (.v 1) 53) (.k (.int 1))) .nil)) (.fn 60 (.cons (.v 7) .nil))))
 (.cons (.ite (.and (.cons (.t (.cmp .gt (.bi .len (.cons (.v 7) .nil)) (.bi .len (.cons (.sub (.at (.v 1) 53) (.k (.int 0))) .nil)))) (.cons (.t (.cmp .lt (.v 9) (.v 8))) .nil))) (.cons (.asg 5 (.mth (.v 0) 37 (.cons (.v 7) .nil)))
 (.cons (.asg 10 (.mth (.v 4) 18 (.cons (.bin .add (.v 3) (.k (.int 1))) (.cons (.sub (.v 5) (.k (.int 0))) (.cons (.sub (.v 5) (.k (.int 1))) .nil)))))
 (.cons (.ite (.t (.cmp .eq (.bi .len (.cons (.v 10) .nil)) (.bi .len (.cons (.sub (.at (.v 1) 53) (.k (.int 1))) .nil)))) (.cons (.setI (.at (.v 1) 53) (.k (.int 0)) (.v 7))
 (.cons (.setI (.at (.v 1) 53) (.k (.int 1)) (.v 10))
 (.cons (.asg 6 (.mth (.v 0) 37 (.cons (.bin .add (.sub (.at (.v 1) 53) (.k (.int 0))) (.sub (.at (.v 1) 53) (.k (.int 1)))) .nil)))
 .nil))) .nil)
 .nil))) .nil)
 .nil)))) .nil)
 (.cons (.ite (.t (.cmp .lt (.bin .add (.v 3) (.k (.int 2))) (.at (.at (.v 0) 51) 21))) (.cons (.setA (.v 1) 54 (.mth (.v 4) 18 (.cons (.bin .add (.v 3) (.k (.int 2))) (.cons (.sub (.v 6) (.k (.int 0))) (.cons (.sub (.v 6) (.k (.int 1))) .nil)))))
 .nil) .nil)
 (.cons (.asg 11 (.sub (.fn 61 (.cons (.sub (.at (.v 1) 53) (.k (.int 0))) (.cons (.at (.v 0) 44) .nil))) (.k (.int 1))))
 (.cons (.setI (.v 2) (.v 3) (.v 11))
 (.cons (.ex (.bm .append (.at (.at (.v 1) 55) 40) (.cons (.tup (.cons (.v 3) (.cons (.v 11) .nil))) .nil)))
 .nil))))))))))
noncomputable def KM:Stmt:=sub 54 5
theorem QV:aJ ct (ar (ae KM)) Ke (ao KM)=true:=by kernel_rfl
noncomputable def Jk:SS:=
 (.cons (.ret (.bin .add (.sub (.v 0) (.bin .mod (.v 1) (.bi .len (.cons (.v 0) .nil)))) (.bin .mul (.k (.int 7919)) (.bin .fdiv (.v 1) (.bi .len (.cons (.v 0) .nil))))))
 .nil)
noncomputable def I2:Stmt:=top 56
theorem Rt:aJ ct (ar (ae I2)) Jk (ao I2)=true:=by kernel_rfl
noncomputable def JO:SS:=
 (.cons (.ret (.sub (.lst (.cons (.k (.bytes [])) (.cons (.k (.bytes [97])) (.cons (.k (.bytes [97,0])) (.cons (.k (.bytes [98])) .nil))))) (.v 0)))
 .nil)
noncomputable def IQ:Stmt:=top 57
theorem QI:aJ ct (ar (ae IQ)) JO (ao IQ)=true:=by kernel_rfl
noncomputable def Io:SS:=
 (.cons (.ret (.bin .add (.fn 77 (.cons (.sub (.v 0) (.k (.int 0))) .nil)) (.bi .bytes (.cons (.lst (.cons (.sub (.v 0) (.k (.int 2))) (.cons (.bin .sub (.k (.int 0)) (.sub (.v 0) (.k (.int 1)))) (.cons (.k (.int 0)) (.cons (.k (.int 0)) (.cons (.k (.int 0)) (.cons (.k (.int 0)) (.cons (.k (.int 0)) (.cons (.k (.int 0)) .nil))))))))) .nil))))
 .nil)
noncomputable def JL:Stmt:=top 58
theorem P8:aJ ct (ar (ae JL)) Io (ao JL)=true:=by kernel_rfl
noncomputable def Ji:SS:=
 (.cons (.asg 3 (.mk 17 (.cons (.v 0) .nil)))
 (.cons (.ex (.mth (.v 3) 28 (.cons (.v 1) .nil)))
 (.cons (.asg 4 (.mth (.v 3) 30 .nil))
 (.cons (.ex (.fn 69 (.cons (.v 4) (.cons (.v 2) .nil))))
 (.cons (.ret (.v 4))
 .nil)))))
noncomputable def Ju:Stmt:=top 59
theorem Q0:aJ ct (ar (ae Ju)) Ji (ao Ju)=true:=by kernel_rfl
noncomputable def JQ:SS:=
 (.cons (.asg 5 (.fn 78 (.cons (.sub (.v 1) (.k (.int 0))) .nil)))
 (.cons (.asg 6 (.fn 78 (.cons (.sub (.v 1) (.bin .sub (.bi .len (.cons (.v 1) .nil)) (.k (.int 1)))) .nil)))
 (.cons (.ex (.bm .append (.at (.v 3) 42) (.cons (.tup (.cons (.v 0) (.cons (.mk 14 (.cons (.bi .len (.cons (.v 2) .nil)) (.cons (.bin .mul (.bi .len (.cons (.v 1) .nil)) (.v 4)) (.cons (.v 5) (.cons (.v 6) .nil))))) .nil))) .nil)))
 (.cons (.ex (.bm .append (.v 2) (.cons (.v 1) .nil)))
 .nil))))
noncomputable def KK:Stmt:=top 60
theorem Qo:aJ ct (ar (ae KK)) JQ (ao KK)=true:=by kernel_rfl
noncomputable def Kh:SS:=
 (.cons (.ite (.and (.cons (.t (.mth (.v 0) 32 .nil)) (.cons (.not (.t (.at (.v 0) 56))) .nil))) (.cons (.asg 4 (.sub (.sub (.at (.v 0) 53) (.k (.int 0))) (.k (.int 0))))
 (.cons (.ex (.bm .append (.at (.at (.v 0) 55) 41) (.cons (.tup (.cons (.at (.v 0) 49) (.cons (.at (.v 4) 2) .nil))) .nil)))
 (.cons (.ex (.bm .append (.at (.at (.v 0) 55) 42) (.cons (.tup (.cons (.bin .add (.at (.v 0) 49) (.k (.int 1))) (.cons (.v 4) .nil))) .nil)))
 (.cons (.ret (.lst .nil))
 .nil)))) .nil)
 (.cons (.asg 5 (.lst .nil))
 (.cons (.asg 6 (.lst .nil))
 (.cons (.forR 7 (.k (.int 0)) (.k (.int 2)) true (.cons (.for [4] (.sub (.at (.v 0) 53) (.v 7)) (.cons (.asg 5 (.bin .add (.v 5) (.sub (.v 1) (.at (.v 4) 2))))
 (.cons (.ex (.bm .append (.v 6) (.cons (.at (.v 4) 2) .nil)))
 .nil)))
 .nil))
 (.cons (.ex (.mth (.v 0) 35 .nil))
 (.cons (.asg 8 (.mk 13 (.cons (.v 0) (.cons (.v 2) .nil))))
 (.cons (.asg 9 (.lst .nil))
 (.cons (.for [10] (.bi .sorted (.cons (.v 5) .nil)) (.cons (.asg 11 (.bin .mul (.bi .len (.cons (.v 9) .nil)) (.v 3)))
 (.cons (.ite (.t (.cmp .eq (.v 11) (.k (.int 0)))) (.cons (.asg 11 (.bin .sub (.k (.int 0)) (.k (.int 1))))
 .nil) .nil)
 (.cons (.asgT [12,13] (.mth (.v 8) 15 (.cons (.fn 78 (.cons (.v 10) .nil)) (.cons (.v 11) .nil))))
 (.cons (.ite (.t (.v 12)) (.cons (.ex (.fn 80 (.cons (.bin .add (.at (.v 0) 49) (.k (.int 1))) (.cons (.v 9) (.cons (.v 1) (.cons (.at (.v 0) 55) (.cons (.v 3) .nil)))))))
 (.cons (.asg 9 (.lst .nil))
 .nil)) .nil)
 (.cons (.ite (.not (.t (.v 13))) (.cons (.asg 9 (.bin .add (.v 9) (.lst (.cons (.v 10) .nil))))
 .nil) .nil)
 .nil))))))
 (.cons (.ite (.t (.cmp .gt (.bi .len (.cons (.v 9) .nil)) (.k (.int 0)))) (.cons (.ex (.fn 80 (.cons (.bin .add (.at (.v 0) 49) (.k (.int 1))) (.cons (.v 9) (.cons (.v 1) (.cons (.at (.v 0) 55) (.cons (.v 3) .nil)))))))
 .nil) .nil)
 (.cons (.ret (.v 6))
 .nil))))))))))
noncomputable def Js:Stmt:=top 61
theorem RL:aJ ct (ar (ae Js)) Kh (ao Js)=true:=by kernel_rfl
noncomputable def KA:SS:=
 (.cons (.asg 4 .dic)
 (.cons (.for [5] (.mth (.v 0) 24 .nil) (.cons (.setI (.v 4) (.v 5) (.k .none))
 (.cons (.asg 6 (.comp 10 (.sub (.v 1) (.v 5)) (.cons (.t (.cmp .ge (.tup (.cons (.sub (.v 10) (.k (.int 0))) (.cons (.sub (.v 10) (.k (.int 1))) .nil))) (.tup (.cons (.v 2) (.cons (.bin .sub (.k (.int 0)) (.v 3)) .nil))))) .nil) (.v 10)))
 (.cons (.ite (.t (.cmp .gt (.bi .len (.cons (.v 6) .nil)) (.k (.int 0)))) (.cons (.setI (.v 4) (.v 5) (.tup (.cons (.fn 78 (.cons (.sub (.v 6) (.k (.int 0))) .nil)) (.cons (.bi .bytes (.cons (.lst (.cons (.bin .sub (.k (.int 0)) (.sub (.sub (.v 6) (.k (.int 0))) (.k (.int 1)))) .nil)) .nil)) .nil))))
 .nil) .nil)
 .nil))))
 (.cons (.asgT [7,8,9] (.mth (.v 0) 20 (.cons (.v 4) (.cons (.fn 77 (.cons (.v 2) .nil)) (.cons (.v 3) .nil)))))
 (.cons (.ite (.and (.cons (.t (.v 7)) (.cons (.t (.cmp .eq (.v 8) (.k (.int 1)))) .nil))) (.cons (.ret (.v 9))
 .nil) .nil)
 (.cons (.ret (.k .none))
 .nil)))))
noncomputable def IL:Stmt:=top 62
theorem Rn:aJ ct (ar (ae IL)) KA (ao IL)=true:=by kernel_rfl
noncomputable def K0:SS:=
 (.cons (.for [3,4,5] (.v 0) (.cons (.for [6] (.v 2) (.cons (.ite (.t (.cmp .ne (.fn 82 (.cons (.v 3) (.cons (.v 1) (.cons (.v 6) (.cons (.v 4) .nil))))) (.sub (.v 5) (.v 6)))) (.cons (.ret (.k (.bool false)))
 .nil) .nil)
 .nil))
 .nil))
 (.cons (.ret (.k (.bool true)))
 .nil))
noncomputable def IZ:Stmt:=top 63
theorem Ry:aJ ct (ar (ae IZ)) K0 (ao IZ)=true:=by kernel_rfl
noncomputable def JJ:SS:=
 (.cons (.asg 3 (.mth (.v 1) 24 .nil))
 (.cons (.for [4] (.v 2) (.cons (.asg 3 (.bin .add (.v 3) (.sub (.v 4) (.k (.int 3)))))
 .nil))
 (.cons (.forR 5 (.k (.int 1)) (.bi .len (.cons (.v 0) .nil)) true (.cons (.ite (.t (.cmp .notin (.v 5) (.v 3))) (.cons (.setI (.v 0) (.v 5) (.k .none))
 .nil) .nil)
 .nil))
 .nil)))
noncomputable def I1:Stmt:=top 64
theorem Q1:aJ ct (ar (ae I1)) JJ (ao I1)=true:=by kernel_rfl
noncomputable def Jm:SS:=
 (.cons (.tri (.cons (.asg 3 (.mth (.v 0) 7 .nil))
 .nil))
 (.cons (.ite (.and (.cons (.t (.cmp .gt (.bi .len (.cons (.v 1) .nil)) (.k (.int 0)))) (.cons (.t (.cmp .eq (.v 3) (.bi .min1 (.cons (.comp 5 (.v 1) .nil (.sub (.v 5) (.k (.int 1)))) .nil)))) .nil))) (.cons (.ret (.v 3))
 .nil) .nil)
 (.cons (.ret (.bin .sub (.k (.int 0)) (.k (.int 1))))
 .nil)))
noncomputable def Al:Stmt:=top 65
theorem QX:aJ ct (ar (ae Al)) Jm (ao Al)=true:=by kernel_rfl
noncomputable def KL:SS:=
 (.cons (.asg 5 (.compR 12 (.k (.int 0)) (.bin .sub (.v 4) (.k (.int 1))) (.cons (.t (.cmp .gt (.bi .len (.cons (.sub (.at (.v 1) 45) (.v 12)) .nil)) (.k (.int 0)))) .nil) (.v 12)))
 (.cons (.ite (.t (.cmp .eq (.bi .len (.cons (.v 5) .nil)) (.k (.int 0)))) (.cons (.ret (.k .none))
 .nil) .nil)
 (.cons (.asg 6 (.sub (.v 5) (.bin .mod (.bin .fdiv (.v 3) (.k (.int 4))) (.bi .len (.cons (.v 5) .nil)))))
 (.cons (.asg 7 (.bin .mod (.bin .fdiv (.v 3) (.k (.int 12))) (.k (.int 4))))
 (.cons (.asg 8 (.k .none))
 (.cons (.asg 9 (.k .none))
 (.cons (.ite (.t (.cmp .gt (.bin .mod (.bin .fdiv (.v 3) (.k (.int 192))) (.k (.int 3))) (.k (.int 0)))) (.cons (.asg 8 (.fn 77 (.cons (.v 7) .nil)))
 .nil) .nil)
 (.cons (.ite (.t (.cmp .eq (.bin .mod (.bin .fdiv (.v 3) (.k (.int 192))) (.k (.int 3))) (.k (.int 2)))) (.cons (.asg 9 (.fn 77 (.cons (.bin .add (.v 7) (.bin .mod (.bin .fdiv (.v 3) (.k (.int 48))) (.bin .sub (.k (.int 4)) (.v 7)))) .nil)))
 .nil) .nil)
 (.cons (.ret (.mth (.v 0) 39 (.cons (.v 1) (.cons (.v 2) (.cons (.v 6) (.cons (.v 8) (.cons (.v 9) .nil)))))))
 .nil)))))))))
noncomputable def Ko:Stmt:=top 66
theorem Qw:aJ ct (ar (ae Ko)) KL (ao Ko)=true:=by kernel_rfl
noncomputable def KS:SS:=
 (.cons (.asg 2 (.lst .nil))
 (.cons (.forR 3 (.k (.int 0)) (.bin .sub (.k (.int 3)) (.bin .mod (.v 0) (.k (.int 3)))) true (.cons (.asg 4 (.bin .fdiv (.bin .fdiv (.v 0) (.k (.int 3))) (.bin .pow (.k (.int 12)) (.v 3))))
 (.cons (.ex (.bm .append (.v 2) (.cons (.tup (.cons (.bin .mod (.v 4) (.k (.int 4))) (.cons (.bin .sub (.bin .sub (.bin .sub (.k (.int 0)) (.v 1)) (.k (.int 1))) (.v 3)) (.cons (.bi .min2 (.cons (.k (.int 1)) (.cons (.bin .mod (.bin .fdiv (.v 4) (.k (.int 4))) (.k (.int 3))) .nil))) .nil)))) .nil)))
 .nil)))
 (.cons (.ret (.v 2))
 .nil)))
noncomputable def IK:Stmt:=top 67
theorem Qz:aJ ct (ar (ae IK)) KS (ao IK)=true:=by kernel_rfl
noncomputable def JN:SS:=
 (.cons (.asg 1 (.fn 76 (.cons (.v 0) (.cons (.k (.int 0)) .nil))))
 (.cons (.asg 2 (.mk 12 .nil))
 (.cons (.ite (.t (.cmp .ne (.bin .mod (.v 1) (.k (.int 4))) (.k (.int 3)))) (.cons (.asg 2 (.mth (.mk 12 .nil) 14 .nil))
 .nil) .nil)
 (.cons (.asg 3 (.at (.v 2) 21))
 (.cons (.asg 4 (.bin .mul (.bin .fdiv (.at (.v 2) 20) (.k (.int 8))) (.sub (.lst (.cons (.k (.int 12)) (.cons (.k (.int 6)) (.cons (.k (.int 3)) (.cons (.k (.int 40)) .nil))))) (.bin .mod (.bin .fdiv (.v 1) (.k (.int 4))) (.k (.int 4))))))
 (.cons (.asg 5 (.mk 11 .nil))
 (.cons (.asg 6 (.mk 19 (.cons (.v 2) (.cons (.v 5) .nil))))
 (.cons (.asg 7 (.bin .mul (.lst (.cons (.k (.bytes [])) .nil)) (.v 3)))
 (.cons (.asg 8 (.mk 16 (.cons (.v 3) (.cons (.v 5) .nil))))
 (.cons (.asg 9 (.mk 8 .nil))
 (.cons (.asg 10 (.lst (.cons (.lst .nil) .nil)))
 (.cons (.asg 11 (.lst .nil))
 (.cons (.asg 12 (.lst .nil))
 (.cons (.asg 13 (.lst .nil))
 (.cons (.asg 14 (.lst (.cons (.k .none) (.cons (.k .none) (.cons (.k .none) (.cons (.k .none) .nil))))))
 (.cons (.asg 15 (.k (.int 0)))
 (.cons (.ite (.t (.cmp .ne (.fn 85 (.cons (.v 9) (.cons (.v 12) (.cons (.v 15) .nil)))) (.k (.int 0)))) (.cons (.ret (.k (.bool false)))
 .nil) .nil)
 (.cons (.forR 16 (.k (.int 0)) (.k (.int 3)) true (.cons (.asg 17 (.fn 76 (.cons (.v 0) (.cons (.bin .add (.k (.int 2)) (.bin .mul (.k (.int 5)) (.v 16))) .nil))))
 (.cons (.forR 18 (.k (.int 0)) (.k (.int 2)) true (.cons (.ite (.or (.cons (.and (.cons (.t (.cmp .eq (.v 18) (.k (.int 0)))) (.cons (.or (.cons (.t (.cmp .eq (.v 16) (.k (.int 0)))) (.cons (.t (.cmp .ne (.bin .mod (.bin .fdiv (.v 17) (.k (.int 8))) (.k (.int 4))) (.k (.int 3)))) .nil))) .nil))) (.cons (.and (.cons (.t (.cmp .eq (.v 18) (.k (.int 1)))) (.cons (.t (.cmp .gt (.v 16) (.k (.int 0)))) (.cons (.t (.cmp .eq (.bin .mod (.bin .fdiv (.v 17) (.k (.int 8))) (.k (.int 4))) (.k (.int 3)))) .nil)))) .nil))) (.cons (.asg 19 (.fn 87 (.cons (.fn 76 (.cons (.v 0) (.cons (.bin .add (.k (.int 1)) (.bin .mul (.k (.int 5)) (.v 16))) .nil))) (.cons (.v 15) .nil))))
 (.cons (.asg 15 (.bin .add (.v 15) (.bi .len (.cons (.v 19) .nil))))
 (.cons (.for [20] (.v 19) (.cons (.setI (.v 14) (.sub (.v 20) (.k (.int 0))) (.ite (.t (.cmp .eq (.sub (.v 20) (.k (.int 2))) (.k (.int 1)))) (.bi .bytes (.cons (.lst (.cons (.bin .sub (.k (.int 0)) (.sub (.v 20) (.k (.int 1)))) .nil)) .nil)) (.k .none)))
 .nil))
 (.cons (.asg 21 (.mk 15 .nil))
 (.cons (.ex (.bm .append (.v 11) (.cons (.bi .len (.cons (.v 10) .nil)) .nil)))
 (.cons (.ex (.fn 80 (.cons (.k (.int 0)) (.cons (.bi .sorted (.cons (.v 19) .nil)) (.cons (.v 10) (.cons (.v 21) (.cons (.v 4) .nil)))))))
 (.cons (.asg 8 (.fn 79 (.cons (.v 8) (.cons (.v 21) (.cons (.v 2) .nil)))))
 .nil))))))) (.cons (.forR 22 (.k (.int 0)) (.sub (.lst (.cons (.k (.int 1)) (.cons (.k (.int 1)) (.cons (.k (.int 2)) (.cons (.k (.int 0)) .nil))))) (.bin .mod (.v 17) (.k (.int 4)))) true (.cons (.ex (.bm .append (.v 12) (.cons (.tup (.cons (.mth (.v 9) 2 (.cons (.v 15) .nil)) (.cons (.v 15) (.cons (.bi .list (.cons (.v 14) .nil)) .nil)))) .nil)))
 .nil))
 (.cons (.ite (.t (.cmp .eq (.bin .mod (.bin .fdiv (.v 17) (.k (.int 4))) (.k (.int 2))) (.k (.int 1)))) (.cons (.ex (.bm .append (.v 13) (.cons (.tup (.cons (.v 8) (.cons (.v 15) (.cons (.bi .list (.cons (.v 14) .nil)) (.cons (.mth (.v 8) 24 .nil) .nil))))) .nil)))
 .nil) .nil)
 .nil)))
 .nil))
 (.cons (.asg 23 (.fn 76 (.cons (.v 0) (.cons (.bin .add (.k (.int 3)) (.bin .mul (.k (.int 5)) (.v 16))) .nil))))
 (.cons (.ite (.and (.cons (.t (.cmp .gt (.bi .len (.cons (.v 12) .nil)) (.k (.int 0)))) (.cons (.t (.cmp .eq (.bin .mod (.v 23) (.k (.int 3))) (.k (.int 0)))) .nil))) (.cons (.asg 24 (.bm .pop (.v 12) (.cons (.bin .mod (.bin .fdiv (.v 23) (.k (.int 3))) (.bi .len (.cons (.v 12) .nil))) .nil)))
 (.cons (.ex (.mth (.v 9) 5 (.cons (.sub (.v 24) (.k (.int 0))) .nil)))
 .nil)) .nil)
 (.cons (.ite (.and (.cons (.t (.cmp .gt (.bi .len (.cons (.v 13) .nil)) (.k (.int 0)))) (.cons (.t (.cmp .eq (.bin .mod (.bin .fdiv (.v 23) (.k (.int 24))) (.k (.int 3))) (.k (.int 0)))) .nil))) (.cons (.ex (.bm .pop (.v 13) (.cons (.bin .mod (.bin .fdiv (.v 23) (.k (.int 72))) (.bi .len (.cons (.v 13) .nil))) .nil)))
 .nil) .nil)
 (.cons (.ex (.fn 84 (.cons (.v 10) (.cons (.v 8) (.cons (.v 13) .nil)))))
 (.cons (.asg 25 (.fn 76 (.cons (.v 0) (.cons (.bin .add (.k (.int 4)) (.bin .mul (.k (.int 5)) (.v 16))) .nil))))
 (.cons (.forR 26 (.k (.int 0)) (.bin .add (.k (.int 1)) (.bin .mod (.bin .fdiv (.v 25) (.k (.int 2))) (.k (.int 2)))) true (.cons (.asg 27 (.bin .add (.v 25) (.bin .mul (.k (.int 5)) (.v 26))))
 (.cons (.asg 28 (.fn 85 (.cons (.v 9) (.cons (.v 12) (.cons (.v 15) .nil)))))
 (.cons (.ite (.t (.cmp .lt (.v 28) (.k (.int 0)))) (.cons (.ret (.k (.bool false)))
 .nil) .nil)
 (.cons (.asg 29 (.k .none))
 (.cons (.ite (.t (.cmp .eq (.bin .mod (.v 27) (.k (.int 2))) (.k (.int 0)))) (.cons (.asg 29 (.mth (.v 6) 38 (.cons (.v 8) (.cons (.v 7) .nil))))
 .nil) .nil)
 (.cons (.ite (.and (.cons (.t (.cmp .is (.v 29) (.k .none))) (.cons (.or (.cons (.t (.cmp .gt (.v 16) (.k (.int 0)))) (.cons (.t (.cmp .eq (.bin .mod (.v 27) (.k (.int 2))) (.k (.int 1)))) .nil))) .nil))) (.cons (.asg 29 (.fn 86 (.cons (.v 6) (.cons (.v 8) (.cons (.v 7) (.cons (.v 27) (.cons (.v 3) .nil)))))))
 .nil) .nil)
 (.cons (.ite (.t (.cmp .isnt (.v 29) (.k .none))) (.cons (.asg 30 (.bi .len (.cons (.v 10) .nil)))
 (.cons (.asg 31 (.fn 81 (.cons (.v 29) (.cons (.v 10) (.cons (.v 28) (.cons (.v 4) .nil))))))
 (.cons (.asg 11 (.bin .add (.comp 37 (.v 11) (.cons (.t (.cmp .notin (.v 37) (.v 31))) .nil) (.v 37)) (.compR 37 (.v 30) (.bi .len (.cons (.v 10) .nil)) .nil (.v 37))))
 (.cons (.asg 8 (.fn 79 (.cons (.v 8) (.cons (.at (.v 29) 55) (.cons (.v 2) .nil)))))
 (.cons (.ex (.fn 84 (.cons (.v 10) (.cons (.v 8) (.cons (.v 13) .nil)))))
 (.cons (.ite (.t (.cmp .ne (.mth (.v 8) 24 .nil) (.v 11))) (.cons (.ret (.k (.bool false)))
 .nil) .nil)
 .nil)))))) .nil)
 .nil))))))))
 (.cons (.asg 32 (.bin .add (.lst (.cons (.tup (.cons (.v 8) (.cons (.v 15) (.cons (.v 14) .nil)))) .nil)) (.comp 35 (.v 12) .nil (.tup (.cons (.v 8) (.cons (.sub (.v 35) (.k (.int 1))) (.cons (.sub (.v 35) (.k (.int 2))) .nil)))))))
 (.cons (.asg 32 (.bin .add (.v 32) (.comp 35 (.v 13) .nil (.tup (.cons (.sub (.v 35) (.k (.int 0))) (.cons (.sub (.v 35) (.k (.int 1))) (.cons (.sub (.v 35) (.k (.int 2))) .nil)))))))
 (.cons (.asg 33 (.lst (.cons (.k (.int 0)) (.cons (.k (.int 1)) (.cons (.k (.int 2)) (.cons (.k (.int 3)) .nil))))))
 (.cons (.ite (.t (.cmp .lt (.v 16) (.k (.int 2)))) (.cons (.asg 33 (.lst (.cons (.bin .mod (.bin .fdiv (.v 25) (.k (.int 4))) (.k (.int 4))) (.cons (.bin .mod (.bin .add (.bin .fdiv (.v 25) (.k (.int 4))) (.k (.int 1))) (.k (.int 4))) .nil))))
 .nil) .nil)
 (.cons (.ite (.not (.t (.fn 83 (.cons (.v 32) (.cons (.v 10) (.cons (.v 33) .nil)))))) (.cons (.ret (.k (.bool false)))
 .nil) .nil)
 .nil))))))))))))))
 (.cons (.for [24] (.v 13) (.cons (.ite (.t (.cmp .ne (.mth (.sub (.v 24) (.k (.int 0))) 24 .nil) (.sub (.v 24) (.k (.int 3))))) (.cons (.ret (.k (.bool false)))
 .nil) .nil)
 .nil))
 (.cons (.ret (.cmp .ge (.fn 85 (.cons (.v 9) (.cons (.v 12) (.cons (.v 15) .nil)))) (.k (.int 0))))
 .nil))))))))))))))))))))
noncomputable def Kc:Stmt:=top 68
theorem Rg:aJ ct (ar (ae Kc)) JN (ao Kc)=true:=by kernel_rfl
noncomputable def JA:SS:=
 (.cons (.asg 1 (.comp 7 (.upto (.v 0) (.k (.int 20))) .nil (.bin .mod (.v 7) (.k (.int 999983)))))
 (.cons (.ite (.t (.cmp .eq (.bi .len (.cons (.v 1) .nil)) (.k (.int 0)))) (.cons (.asg 1 (.lst (.cons (.k (.int 0)) .nil)))
 .nil) .nil)
 (.cons (.asg 2 (.k (.bool false)))
 (.cons (.tri (.cons (.asg 2 (.fn 88 (.cons (.v 1) .nil)))
 .nil))
 (.cons (.ret (.v 2))
 .nil)))))
noncomputable def Ci:Stmt:=top 69
theorem RJ:aJ ct (ar (ae Ci)) JA (ao Ci)=true:=by kernel_rfl
end
section
noncomputable def Qk:List Addr:=[21,120,141,148,155,162,169,176,183,190,204,211,218,225,232,239,246,253,260,274,281,288,295,316,323,330,349,356,363,370,377,384,403,410,417,431,445,452,473,480,501,508,515,529,543,550,557,564,571,578,585,592,599,606,627,634,641,648,655,662,676,683,697,704,711,718,725,732,746,753,767,774,781,788,795,802,816,823,830,837,844,851,856,863,870,875,880,887,892,897]
noncomputable def QK:List Addr:=[31,44,56,68,80,92,104,123,193,298,333,387,420,455,483,518,609,665,735,805]
noncomputable def DO:List Str:=[Str.ofString "score",Str.ofString "score_level",Str.ofString "number",Str.ofString "seq",Str.ofString "live",Str.ofString "marks",Str.ofString "made",Str.ofString "user_order",Str.ofString "check",Str.ofString "log_block",Str.ofString "sync_writes",Str.ofString "create_missing",Str.ofString "paranoid",Str.ofString "write_buffer",Str.ofString "max_height",Str.ofString "heights",Str.ofString "block_size",Str.ofString "restart_interval",Str.ofString "filter_bits",Str.ofString "filter_base_lg",Str.ofString "max_file_size",Str.ofString "num_levels",Str.ofString "l0_trigger",Str.ofString "l0_stop",Str.ofString "base_bytes",Str.ofString "level_factor",Str.ofString "max_mem_level",Str.ofString "grandparent_factor",Str.ofString "expand_factor",Str.ofString "c",Str.ofString "smallest",Str.ofString "current",Str.ofString "newer",Str.ofString "stop",Str.ofString "size",Str.ofString "largest",Str.ofString "comparator",Str.ofString "log_number",Str.ofString "next_file",Str.ofString "last_seq",Str.ofString "compact_pointers",Str.ofString "deleted",Str.ofString "added",Str.ofString "reset",Str.ofString "order",Str.ofString "files",Str.ofString "refs",Str.ofString "base",Str.ofString "dropped",Str.ofString "level",Str.ofString "version",Str.ofString "options",Str.ofString "users",Str.ofString "inputs",Str.ofString "grandparents",Str.ofString "edit",Str.ofString "manual",Str.ofString "grand_at",Str.ofString "grand_octets",Str.ofString "seen_key",Str.ofString "places"]
noncomputable def OD:List (Nat×Nat×Nat):=[(8,2,4),(8,3,5),(8,5,7),(8,7,9),(9,8,19),(10,8,19),(11,8,27),(12,14,34),(13,15,37),(16,18,45),(16,19,46),(16,20,47),(16,23,50),(16,24,51),(16,26,53),(17,3,58),(17,27,55),(17,28,56),(17,29,57),(17,30,59),(18,31,63),(18,32,64),(18,33,65),(18,34,66),(18,35,67),(19,36,71),(19,37,72),(19,38,73),(19,39,74),(19,40,75)]
noncomputable def P5:List (Nat×Nat):=[(7,1),(8,2),(11,26),(12,32),(13,36),(14,38),(15,40),(16,44),(17,54),(18,62),(19,70)]
noncomputable def Oc:List (Nat×List Nat):=[(7,[2,3,4]),(8,[5,6]),(9,[]),(10,[]),(11,[7]),(12,[8,9,10,11,12,13,14,15,16,17,18,19,20,21,22,23,24,25,26,27,28]),(13,[29,30,31,32,33]),(14,[2,34,30,35]),(15,[36,37,38,39,40,41,42,43]),(16,[21,44,45,46,0,1]),(17,[47,48,41,42]),(18,[49,50,51,44,52,53,54,55,56,57,58,59,60]),(19,[51,44])]
noncomputable def T:Tb:=⟨λi=>DO.getD i (Str.ofString ""),61,λi=>QK.getD i 0⟩
noncomputable def K4:List (Nat×Nat×Nat)->Nat->Nat->Option Nat
 |[],_,_=>none
 |(a,b,f)::r,c,g=>if a==c&&b==g then some f else K4 r c g
noncomputable def OM:List (Nat×Nat)->Nat->Option Nat
 |[],_=>none
 |(a,f)::r,c=>if a==c then some f else OM r c
noncomputable def JF:List (Nat×List Nat)->Nat->Nat->Bool
 |[],_,_=>false
 |(a,fs)::r,c,f=>if a==c then fs.contains f else JF r c f
noncomputable def F:Ft:=⟨λi=>Qk.getD i 0,K4 OD,OM P5,JF Oc⟩
noncomputable def d1:Fd:=⟨3,3,ar (ae s1),b1⟩
noncomputable def d2:Fd:=⟨1,1,ar (ae s2),b2⟩
noncomputable def d4:Fd:=⟨2,3,ar (ae s4),b4⟩
noncomputable def d5:Fd:=⟨2,6,ar (ae s5),b5⟩
noncomputable def d7:Fd:=⟨2,3,ar (ae s7),b7⟩
noncomputable def d9:Fd:=⟨1,1,ar (ae s9),b9⟩
noncomputable def Oh:Fd:=⟨1,1,ar (ae Kz),Kf⟩
noncomputable def N8:Fd:=⟨1,1,ar (ae KT),Ki⟩
noncomputable def P3:Fd:=⟨2,2,ar (ae Ja),Je⟩
noncomputable def OL:Fd:=⟨2,2,ar (ae Kr),IB⟩
noncomputable def ON:Fd:=⟨2,2,ar (ae IG),Jo⟩
noncomputable def Pt:Fd:=⟨3,3,ar (ae Jz),Ka⟩
noncomputable def OV:Fd:=⟨1,4,ar (ae KN),Cu⟩
noncomputable def OO:Fd:=⟨1,1,ar (ae Ku),JI⟩
noncomputable def Ow:Fd:=⟨1,1,ar (ae IH),KH⟩
noncomputable def Pi:Fd:=⟨3,3,ar (ae JV),Iw⟩
noncomputable def O8:Fd:=⟨1,1,ar (ae Jy),JT⟩
noncomputable def PW:Fd:=⟨3,6,ar (ae JU),CM⟩
noncomputable def Oy:Fd:=⟨1,1,ar (ae Kd),Jn⟩
noncomputable def Pg:Fd:=⟨1,1,ar (ae Jg),KZ⟩
noncomputable def N7:Fd:=⟨3,3,ar (ae JS),IC⟩
noncomputable def Pf:Fd:=⟨3,8,ar (ae IM),Ir⟩
noncomputable def O1:Fd:=⟨5,5,ar (ae Ix),Jp⟩
noncomputable def PF:Fd:=⟨1,1,ar (ae I5),II⟩
noncomputable def PH:Fd:=⟨3,6,ar (ae IO),JE⟩
noncomputable def NS:Fd:=⟨3,4,ar (ae IW),Km⟩
noncomputable def N0:Fd:=⟨4,11,ar (ae IV),Jb⟩
noncomputable def Oj:Fd:=⟨2,9,ar (ae Jr),JC⟩
noncomputable def O9:Fd:=⟨4,11,ar (ae JX),IN⟩
noncomputable def d50:Fd:=⟨2,4,ar (ae KF),KU⟩
noncomputable def Pk:Fd:=⟨1,4,ar (ae Jl),Jh⟩
noncomputable def Py:Fd:=⟨1,7,ar (ae JR),Kb⟩
noncomputable def OP:Fd:=⟨2,3,ar (ae IU),ID⟩
noncomputable def OA:Fd:=⟨2,2,ar (ae Jt),I3⟩
noncomputable def OT:Fd:=⟨2,5,ar (ae KD),Kq⟩
noncomputable def PP:Fd:=⟨4,5,ar (ae Jw),Jv⟩
noncomputable def P0:Fd:=⟨4,7,ar (ae JB),IX⟩
noncomputable def OZ:Fd:=⟨1,6,ar (ae I6),JG⟩
noncomputable def OX:Fd:=⟨1,3,ar (ae I9),Jq⟩
noncomputable def OK:Fd:=⟨2,5,ar (ae Ip),Iu⟩
noncomputable def PE:Fd:=⟨4,4,ar (ae Kl),IS⟩
noncomputable def P1:Fd:=⟨1,1,ar (ae Jf),K5⟩
noncomputable def Ok:Fd:=⟨1,1,ar (ae Jj),Iq⟩
noncomputable def Px:Fd:=⟨2,3,ar (ae KB),Ky⟩
noncomputable def PD:Fd:=⟨2,5,ar (ae IR),JZ⟩
noncomputable def N1:Fd:=⟨1,3,ar (ae IT),I4⟩
noncomputable def Pq:Fd:=⟨2,3,ar (ae JH),I7⟩
noncomputable def Oo:Fd:=⟨2,8,ar (ae I8),KO⟩
noncomputable def NV:Fd:=⟨3,3,ar (ae KI),IY⟩
noncomputable def OB:Fd:=⟨2,2,ar (ae IJ),IE⟩
noncomputable def Ob:Fd:=⟨2,3,ar (ae JK),JD⟩
noncomputable def NU:Fd:=⟨3,10,ar (ae Kg),Iy⟩
noncomputable def NY:Fd:=⟨6,10,ar (ae K2),Iz⟩
noncomputable def Ox:Fd:=⟨3,12,ar (ae KM),Ke⟩
noncomputable def PY:Fd:=⟨2,2,ar (ae I2),Jk⟩
noncomputable def O7:Fd:=⟨1,1,ar (ae IQ),JO⟩
noncomputable def Ot:Fd:=⟨1,1,ar (ae JL),Io⟩
noncomputable def OQ:Fd:=⟨3,5,ar (ae Ju),Ji⟩
noncomputable def PA:Fd:=⟨5,7,ar (ae KK),JQ⟩
noncomputable def Od:Fd:=⟨4,14,ar (ae Js),Kh⟩
noncomputable def Oe:Fd:=⟨4,15,ar (ae IL),KA⟩
noncomputable def Pd:Fd:=⟨3,7,ar (ae IZ),K0⟩
noncomputable def OS:Fd:=⟨3,6,ar (ae I1),JJ⟩
noncomputable def oB:Fd:=⟨3,9,ar (ae Al),Jm⟩
noncomputable def Pp:Fd:=⟨5,15,ar (ae Ko),KL⟩
noncomputable def PQ:Fd:=⟨2,5,ar (ae IK),KS⟩
noncomputable def Po:Fd:=⟨1,39,ar (ae Kc),JN⟩
noncomputable def L5:Fd:=⟨1,8,ar (ae Ci),JA⟩
noncomputable def jw:List (Addr×Fd×Stmt):=[(120,d1,s1),(141,d2,s2),(155,d4,s4),(162,d5,s5),(176,d7,s7),(190,d9,s9),(204,Oh,Kz),(211,N8,KT),(218,P3,Ja),(225,OL,Kr),(232,ON,IG),(239,Pt,Jz),(246,OV,KN),(253,OO,Ku),(260,Ow,IH),(274,Pi,JV),(349,O8,Jy),(356,PW,JU),(403,Oy,Kd),(417,Pg,Jg),(445,N7,JS),(452,Pf,IM),(473,O1,Ix),(501,PF,I5),(529,PH,IO),(543,NS,IW),(550,N0,IV),(557,Oj,Jr),(564,O9,JX),(585,d50,KF),(592,Pk,Jl),(606,Py,JR),(627,OP,IU),(634,OA,Jt),(641,OT,KD),(648,PP,Jw),(655,P0,JB),(662,OZ,I6),(676,OX,I9),(683,OK,Ip),(697,PE,Kl),(704,P1,Jf),(711,Ok,Jj),(718,Px,KB),(725,PD,IR),(732,N1,IT),(746,Pq,JH),(753,Oo,I8),(767,NV,KI),(774,OB,IJ),(781,Ob,JK),(788,NU,Kg),(795,NY,K2),(802,Ox,KM),(816,PY,I2),(823,O7,IQ),(830,Ot,JL),(837,OQ,Ju),(844,PA,KK),(851,Od,Js),(856,Oe,IL),(863,Pd,IZ),(870,OS,I1),(875,oB,Al),(880,Pp,Ko),(887,PQ,IK),(892,Po,Kc),(897,L5,Ci)]
noncomputable def bD(f:Addr):Option Fd:=(jw.lookup f).map (·.1)
theorem Q8:bD (F.fa 1)=some d1:=by kernel_rfl
theorem RT:bD (F.fa 2)=some d2:=by kernel_rfl
theorem Rv:bD (F.fa 4)=some d4:=by kernel_rfl
theorem Qc:bD (F.fa 5)=some d5:=by kernel_rfl
theorem RK:bD (F.fa 7)=some d7:=by kernel_rfl
theorem RD:bD (F.fa 9)=some d9:=by kernel_rfl
theorem MO:bD (F.fa 10)=some Oh:=by kernel_rfl
theorem Lk:bD (F.fa 11)=some N8:=by kernel_rfl
theorem MY:bD (F.fa 12)=some P3:=by kernel_rfl
theorem L7:bD (F.fa 13)=some OL:=by kernel_rfl
theorem Lh:bD (F.fa 14)=some ON:=by kernel_rfl
theorem MJ:bD (F.fa 15)=some Pt:=by kernel_rfl
theorem Lc:bD (F.fa 16)=some OV:=by kernel_rfl
theorem Lg:bD (F.fa 17)=some OO:=by kernel_rfl
theorem NL:bD (F.fa 18)=some Ow:=by kernel_rfl
theorem MT:bD (F.fa 19)=some Pi:=by kernel_rfl
theorem Nu:bD (F.fa 26)=some O8:=by kernel_rfl
theorem M1:bD (F.fa 27)=some PW:=by kernel_rfl
theorem Ni:bD (F.fa 32)=some Oy:=by kernel_rfl
theorem MS:bD (F.fa 34)=some Pg:=by kernel_rfl
theorem NP:bD (F.fa 36)=some N7:=by kernel_rfl
theorem Md:bD (F.fa 37)=some Pf:=by kernel_rfl
theorem LK:bD (F.fa 38)=some O1:=by kernel_rfl
theorem Nx:bD (F.fa 40)=some PF:=by kernel_rfl
theorem LD:bD (F.fa 43)=some PH:=by kernel_rfl
theorem Nj:bD (F.fa 44)=some NS:=by kernel_rfl
theorem MF:bD (F.fa 45)=some N0:=by kernel_rfl
theorem MX:bD (F.fa 46)=some Oj:=by kernel_rfl
theorem L9:bD (F.fa 47)=some O9:=by kernel_rfl
theorem M2:bD (F.fa 50)=some d50:=by kernel_rfl
theorem Mr:bD (F.fa 51)=some Pk:=by kernel_rfl
theorem NH:bD (F.fa 53)=some Py:=by kernel_rfl
theorem NG:bD (F.fa 54)=some OP:=by kernel_rfl
theorem Mp:bD (F.fa 55)=some OA:=by kernel_rfl
theorem LJ:bD (F.fa 56)=some OT:=by kernel_rfl
theorem Lu:bD (F.fa 57)=some PP:=by kernel_rfl
theorem LW:bD (F.fa 58)=some P0:=by kernel_rfl
theorem Nz:bD (F.fa 59)=some OZ:=by kernel_rfl
theorem LL:bD (F.fa 60)=some OX:=by kernel_rfl
theorem Lf:bD (F.fa 61)=some OK:=by kernel_rfl
theorem Nm:bD (F.fa 62)=some PE:=by kernel_rfl
theorem Nh:bD (F.fa 63)=some P1:=by kernel_rfl
theorem LR:bD (F.fa 64)=some Ok:=by kernel_rfl
theorem Na:bD (F.fa 65)=some Px:=by kernel_rfl
theorem Lr:bD (F.fa 66)=some PD:=by kernel_rfl
theorem Mb:bD (F.fa 67)=some N1:=by kernel_rfl
theorem NQ:bD (F.fa 68)=some Pq:=by kernel_rfl
theorem MI:bD (F.fa 69)=some Oo:=by kernel_rfl
theorem NF:bD (F.fa 70)=some NV:=by kernel_rfl
theorem Lq:bD (F.fa 71)=some OB:=by kernel_rfl
theorem Lo:bD (F.fa 72)=some Ob:=by kernel_rfl
theorem MH:bD (F.fa 73)=some NU:=by kernel_rfl
theorem LG:bD (F.fa 74)=some NY:=by kernel_rfl
theorem MZ:bD (F.fa 75)=some Ox:=by kernel_rfl
theorem Mz:bD (F.fa 76)=some PY:=by kernel_rfl
theorem Lz:bD (F.fa 77)=some O7:=by kernel_rfl
theorem Nt:bD (F.fa 78)=some Ot:=by kernel_rfl
theorem Ln:bD (F.fa 79)=some OQ:=by kernel_rfl
theorem ND:bD (F.fa 80)=some PA:=by kernel_rfl
theorem ML:bD (F.fa 81)=some Od:=by kernel_rfl
theorem Ly:bD (F.fa 82)=some Oe:=by kernel_rfl
theorem LS:bD (F.fa 83)=some Pd:=by kernel_rfl
theorem Nq:bD (F.fa 84)=some OS:=by kernel_rfl
theorem Hi:bD (F.fa 85)=some oB:=by kernel_rfl
theorem LI:bD (F.fa 86)=some Pp:=by kernel_rfl
theorem M8:bD (F.fa 87)=some PQ:=by kernel_rfl
theorem MN:bD (F.fa 88)=some Po:=by kernel_rfl
theorem HZ:bD (F.fa 89)=some L5:=by kernel_rfl
end
section
noncomputable def o4(v:Option (Option Value))(a:Addr):Bool:=match v with
 |some (some (.ref b))=>a==b
 |_=>false
noncomputable def wH(v:Option (Option Value))(i:Int):Bool:=match v with
 |some (some (.int j _))=>i==j
 |_=>false
noncomputable def wY(v:Option (Option Value)):Bool:=match v with
 |some none=>true
 |_=>false
noncomputable def xX(v:Option (Option Value))(s:String):Bool:=match v with
 |some (some (.builtin t))=>s==t
 |_=>false
theorem gM{v:Option (Option Value)}{a:Addr}(h:o4 v a=true):v=some (some (.ref a)):=by
 cases v with
 |none=>exact fT h
 |some v=>cases v with
  |none=>exact fT h
  |some v=>cases v with
   |ref b=>rw[eq_of_beq (show(a==b)=true from h)]
   |_=>exact fT h
theorem xz{v:Option (Option Value)}{i:Int}(h:wH v i=true):∃t,v=some (some (.int i t)):=by
 cases v with
 |none=>exact fT h
 |some v=>cases v with
  |none=>exact fT h
  |some v=>cases v with
   |int j t=>rw[eq_of_beq (show(i==j)=true from h)];exact⟨_,rfl⟩
   |_=>exact fT h
theorem qc{v:Option (Option Value)}(h:wY v=true):v=some none:=by
 cases v with
 |none=>exact fT h
 |some v=>cases v with
  |none=>rfl
  |some v=>exact fT h
theorem qY{v:Option (Option Value)}{s:String}(h:xX v s=true):v=some (some (.builtin s)):=by
 cases v with
 |none=>exact fT h
 |some v=>cases v with
  |none=>exact fT h
  |some v=>cases v with
   |builtin t=>rw[eq_of_beq (show(s==t)=true from h)]
   |_=>exact fT h
noncomputable def Jd(K:Frag)(c:Addr):Bool:=plainGet K c ""&&hasDictIn K c&&xX (findIn K (.ref c) "__setattr__") "object.__setattr__"&&plainOver K c
theorem xV{K:Frag}{c:Addr}(h:Jd K c=true):DT K c:=by
 simp only[Jd,Bool.and_eq_true]at h
 exact⟨h.1.1.1,h.1.1.2,qY h.1.2,h.2⟩
theorem eE{a:Type}{l:List (Str×a)}{p:Str×a->Bool}(h:l.all p=true){x:Str}{b:a}(e:l.lookup x=some b):p (x,b)=true:=kY h _ (bc e)
theorem gO{b:Type}:∀{l:List (Addr×b)} {x:Addr} {k:b},l.lookup x=some k->(x,k)∈l
 |[],_,_,h=>by simp at h
 |(n,k)::r,x,q,h=>by
  rw[List.lookup_cons]at h
  cases a:x==n with
  |true=>rw[a]at h;cases h;rw[eq_of_beq a];exact .head _
  |false=>rw[a]at h;exact .tail _ (gO h)
noncomputable def Ck:Arguments->Bool
 |⟨[],_,none,[],_,none,_⟩=>true
 |_=>false
theorem zR{a:Arguments}(h:Ck a=true):a=⟨[],a.args,none,[],a.kw_defaults,none,a.defaults⟩:=by
 obtain⟨p,q,v,k,d,w,e⟩:=a
 cases p with
 |cons _ _=>cases h
 |nil=>cases v with
  |some _=>cases h
  |none=>cases k with
   |cons _ _=>cases h
   |nil=>cases w with
    |some _=>cases h
    |none=>rfl
noncomputable def uy:Value->Bool
 |.none=>true
 |_=>false
theorem sI{v:Value}(h:uy v=true):v=.none:=by cases v<;>first|rfl|cases h
noncomputable def HA(K:Frag)(f:Addr):Option FuncData:=(K.lookup f).bind λo=>match o.data with
 |.func fd=>some fd
 |_=>none
noncomputable def tZ(fd:FuncData):List Stmt:=match fd.body with
 |.stmts b=>b
 |_=>[]
noncomputable def tG:FuncBody->Bool
 |.stmts _=>true
 |_=>false
noncomputable def KW(K:Frag)(fd:FuncData):Bool:=tG fd.body&&fd.globals==mainGlobals&&fd.closure.isEmpty&&uy fd.defaults&&fd.builtins==builtinsNs&&codeIn K fd.code fd.qualname
noncomputable def CG(K:Frag)(f:Addr):Option (Arguments×List Stmt×Scope):=(HA K f).bind λfd=>if KW K fd then some (fd.params,tZ fd,fd.scope) else none
noncomputable def Og(K:Frag):Bool:=OC.all λp=>wH (nsIn K mainGlobals p.1) p.2
noncomputable def O4(K:Frag):Bool:=PV.all λp=>o4 (nsIn K mainGlobals p.1) (F.fa p.2)&&keepIn K (.ref (F.fa p.2))
noncomputable def PI(K:Frag):Bool:=OI.all λp=>o4 (nsIn K mainGlobals p.1) (T.ca p.2)&&keepIn K (.ref (T.ca p.2))&&makesIn K (T.ca p.2)&&
  (match F.mi p.2 with|some g=>o4 (findIn K (.ref (T.ca p.2)) "__init__") (F.fa g)&&isFn K (.ref (F.fa g))|none=>xX (findIn K (.ref (T.ca p.2)) "__init__") "object.__init__")
noncomputable def Ph(K:Frag):Bool:=Oc.all λp=>Jd K (T.ca p.1)&&p.2.all λf=>Nat.blt f T.nf&&wY (findIn K (.ref (T.ca p.1)) (T.an f))
noncomputable def Om(K:Frag):Bool:=Pr.all λp=>OD.all λq=>!(q.2.1==p.2)||(Jd K (T.ca q.1)&&o4 (findIn K (.ref (T.ca q.1)) p.1) (F.fa q.2.2)&&isFn K (.ref (F.fa q.2.2))&&keepIn K (.ref (F.fa q.2.2)))
noncomputable def Fi(K:Frag)(b:BF):Bool:=wY (nsIn K mainGlobals (mQ b))
noncomputable def Mf(K:Frag):Bool:=o4 (nsIn K mainGlobals (Str.ofString "NotFound")) 80&&excIn K 80 [.type "Exception",.type "BaseException",.type "object"] "Exception.__new__"&&ktsIn K 80 "BaseException"
noncomputable def Nc(K:Frag):Bool:=(Og K&&(O4 K&&(PI K&&(Ph K&&(Om K&&(Mf K&&(wY (nsIn K mainGlobals gg)&&(Fi K .len&&(Fi K .sorted&&(Fi K .min1&&(Fi K .bytes&&Fi K .list)))))))))))
structure HK(K:Frag):Prop where
 c:Nc K=true
 v:jw.map (λp=>CG K p.1)=jw.map λp=>some (fW p.2.2,ao p.2.2,ae p.2.2)
theorem FK:jw.all (λp=>aJ ct p.2.1.cn p.2.1.body (ao p.2.2)&&Es p.2.1 (fW p.2.2).args&&Ck (fW p.2.2))=true:=by kernel_rfl
theorem Ig:jw.map (λp=>p.2.1.cn.sc)=jw.map λp=>ae p.2.2:=by kernel_rfl
theorem xU{b c:Type}{f g:b->c}:∀{l:List b},l.map f=l.map g->∀a∈l,f a=g a
 |_::_,h,a,m=>by
  rw[List.map_cons,List.map_cons,List.cons.injEq]at h
  rcases au m with rfl|m
  ·exact h.1
  ·exact xU h.2 a m
theorem Ga{fd:FuncData}{c:Arguments}{b:List Stmt}{a:Scope}(b1:tG fd.body=true)(b2:fd.globals=mainGlobals)(d:fd.closure=[])(b4:fd.defaults=.none)(b5:fd.builtins=builtinsNs)(g:fd.params=c)(f:tZ fd=b)(e:fd.scope=a):
  fd=fnX fd.name fd.qualname c b a [] .none fd.kwdefaults fd.doc fd.pyModule fd.annotations fd.code fd.closureTuple:=by
 subst g f e
 cases fd with
 |mk n m c h a s cl p r i q o l j k=>
  cases h with
  |stmts b=>
   dsimp only at b2 d b4 b5
   rw[b2,d,b4,b5]
   rfl
  |_=>exact fT b1
theorem Dl{K:Frag}{f:Addr}{fd:FuncData}(h:HA K f=some fd):∃o,K.lookup f=some o/\o.data=.func fd:=by
 unfold HA at h
 cases e:K.lookup f with
 |none=>rw[e]at h;exact oQ h
 |some o=>
  rw[e]at h
  cases o with
  |mk c d dt b=>cases dt with
   |func a=>exact⟨_,rfl,congrArg _ (Option.some.inj h)⟩
   |_=>exact oQ h
theorem lB{K:Frag}(h:HK K){p:Addr×Fd×Stmt}(m:p∈jw):zM K ct p.1 p.2.1 (ao p.2.2):=by
 have a:(HA K p.1).bind (λfd=>if KW K fd then some (fd.params,tZ fd,fd.scope) else none)=_:=xU h.v p m
 have f:=xU Ig p m
 have d:=kY FK p m
 cases e:HA K p.1 with
 |none=>rw[e]at a;exact oQ a
 |some fd=>
  rw[e]at a
  replace a:(if KW K fd=true then some (fd.params,tZ fd,fd.scope) else none)=some (fW p.2.2,ao p.2.2,ae p.2.2):=a
  by_cases b:KW K fd=true
  ·rw[if_pos b]at a
   have w:=Option.some.inj a
   exact kW d λj g k=>Fn b λb1 b2 l b4 b5 i=>(Dl e).elim λo c=>by
    have q:=Ga b1 (eq_of_beq b2) (List.isEmpty_iff.mp l) (sI b4) (eq_of_beq b5) (congrArg Prod.fst w) (congrArg (λx=>x.2.1) w) ((congrArg (λx=>x.2.2) w).trans f.symm)
    refine⟨⟨o,fd.name,fd.qualname,(fW p.2.2).args,(fW p.2.2).kw_defaults,(fW p.2.2).defaults,fd.kwdefaults,fd.doc,fd.pyModule,fd.annotations,fd.code,fd.closureTuple,c.1,?_,i,j,g⟩⟩
    rw[←zR k]
    exact c.2.trans (congrArg _ q)
  ·rw[if_neg b]at a;exact oQ a
theorem ER{f:Addr}{d:Fd}(h:bD f=some d):∃s,(f,d,s)∈jw:=by
 unfold bD at h
 cases e:jw.lookup f with
 |none=>rw[e]at h;cases h
 |some q=>rw[e]at h;cases h;exact⟨q.2,gO e⟩
theorem vg{K:Frag}(h:HK K)(f:Addr)(d:Fd)(e:bD f=some d):∃b,zM K ct f d b:=by
 obtain⟨s,m⟩:=ER e
 exact⟨_,lB h m⟩
structure HC(K:Frag):Prop where
 int:Og K=true
 fn:O4 K=true
 cl:PI K=true
 fo:Ph K=true
 mt:Om K=true
 nf:Mf K=true
 rg:wY (nsIn K mainGlobals gg)=true
 bi:∀b,Fi K b=true
theorem HK.k{K:Frag}(h:HK K):HC K:=by
 have:=h.c
 unfold Nc at this
 simp only[Bool.and_eq_true]at this
 obtain⟨a,b,c,d,e,f,g,i,j,k,l,m⟩:=this
 exact⟨a,b,c,d,e,f,g,λx=>by cases x<;>assumption⟩
noncomputable def Iv:List Str->Bool
 |[]=>true
 |x::r=>r.all (λy=>!(x==y))&&Iv r
theorem zB:∀{l:List Str},Iv l=true->l.Nodup
 |[],_=>.nil
 |x::r,h=>by
  simp only[Iv,Bool.and_eq_true,List.all_eq_true,Bool.not_eq_true',beq_eq_false_iff_ne]at h
  exact List.nodup_cons.mpr ⟨λa=>h.1 x a rfl,zB h.2⟩
theorem Mm:Iv DO=true:=by kernel_rfl
theorem CF:DO.length=T.nf:=by kernel_rfl
theorem Lb:N9.all (λp=>p.1==T.an p.2)=true:=by kernel_rfl
theorem tH:∀{l:List (Nat×Nat×Nat)} {c g f:Nat},K4 l c g=some f->(c,g,f)∈l
 |[],_,_,_,h=>by cases h
 |(a,b,k)::r,c,g,f,h=>by
  unfold K4 at h
  split at h
  ·rename_i d
   simp only[Bool.and_eq_true,beq_iff_eq]at d
   cases h
   rw[d.1,d.2];exact .head _
  ·exact .tail _ (tH h)
theorem ve:∀{l:List (Nat×List Nat)} {c f:Nat},JF l c f=true->∃fs,(c,fs)∈l/\f∈fs
 |[],_,_,h=>by cases h
 |(a,fs)::r,c,f,h=>by
  unfold JF at h
  split at h
  ·rename_i d
   obtain rfl:=eq_of_beq d
   exact⟨fs,.head _,by simpa using h⟩
  ·obtain⟨fs,e,b⟩:=ve h
   exact⟨fs,.tail _ e,b⟩
theorem CP{K:Frag}(H:HK K):Cr K T F ct where
 int:=λx n h=>xz (eE H.k.int h)
 fn:=λx i h=>by
  have:=eE H.k.fn h
  simp only[Bool.and_eq_true]at this
  exact⟨gM this.1,this.2⟩
 cl:=λx i h=>by
  have:=eE H.k.cl h
  simp only[Bool.and_eq_true]at this
  obtain⟨⟨⟨a,p⟩,l⟩,d⟩:=this
  refine⟨gM a,p,l,?_,?_⟩
  ·cases e:F.mi i with
   |some g=>rw[e]at d;simp only[Bool.and_eq_true]at d;exact gM d.1
   |none=>rw[e]at d;exact qY d
  ·intro g e
   rw[e]at d;simp only[Bool.and_eq_true]at d;exact d.2
 fld:=λc f h=>by
  obtain⟨u,a,p⟩:=ve h
  have:=kY H.k.fo _ a
  simp only[Bool.and_eq_true,List.all_eq_true]at this
  have l:=this.2 f p
  exact⟨by have:=l.1;unfold Nat.blt at this;exact Nat.le_of_ble_eq_true this,xV this.1,qc l.2⟩
 inj:=λi j r s e=>by
  have m:i<DO.length:=by rw[CF];exact r
  have o:j<DO.length:=by rw[CF];exact s
  have q:DO.getD i (Str.ofString "")=DO.getD j (Str.ofString ""):=e
  rw[List.getD_eq_getElem?_getD,List.getD_eq_getElem?_getD,List.getElem?_eq_getElem m,List.getElem?_eq_getElem o]at q
  exact(List.getElem_inj (zB Mm)).mp q
 atn:=λx i h=>eq_of_beq (eE Lb h)
 mth:=λx g h c f t=>by
  have a:=kY (eE H.k.mt h) _ (tH t)
  simp only[beq_self_eq_true,Bool.not_true,Bool.false_or,Bool.and_eq_true]at a
  exact⟨xV a.1.1.1,gM a.1.1.2,a.1.2,a.2⟩
 bi:=λb=>qc (H.k.bi b)
 rg:=qc H.k.rg
end
section
noncomputable def iq(p:Program)(w:World)(a:Nat)(b:Option Value):Nat->SharedT->Thread->Option SharedT
 |0,_,_=>none
 |n+1,s,t=>match through t with
  |true=>some s
  |false=>match PySem.W.Fast.tw6613529449190102663 a b t with
   |false=>none
   |true=>match PySem.W.Fast.tw10156331382660048174 (PySem.W.Fast.tw11892475500146522536 PySem.W.Fast.tw14364793385576792824) p w s t with
    |some (s',c)=>iq p w a b n s' c
    |none=>none
noncomputable def Qa(P:Params):BT:=(((((((((((BT.nil.ins 0 (boot_o_0 P)).ins 1 (boot_o_1 P)).ins 2 (boot_o_2 P)).ins 3 (boot_o_3 P)).ins 4 (boot_o_4 P)).ins 5 (boot_o_5 P)).ins 6 (boot_o_6 P)).ins 7 (boot_o_7 P)).ins 8 (boot_o_8 P)).ins 9 (boot_o_9 P)).ins 10 (boot_o_10 P))
noncomputable def H8(w:World)(os:OsState):SharedT:=⟨Qa w.params,11,{},#[],boot_drawn,boot_toks,os⟩
noncomputable def rI(p:Program):Thread:=
 ⟨(PySem.W.Fast.tw17154629097778926822 p.main).bind λcode=>(PySem.W.Fast.tw12822647523644345616 code mainNs mainNs).bind λframe=>
   (run (.body (behindTheImports p) {scope:=p.main.scope,locals:=mainNs,globals:=mainNs,cells:=[],code,frame:=some frame})).bind λ_=>PySem.W.Fast.tw6905046200447255374 .none,
  .builtin "claim.caller" {},default,[]⟩
noncomputable def jn(p:Program)(w:World)(a:Nat)(b:Option Value):Nat->SharedT->Thread->Option SharedT
 |0,_,_=>none
 |n+1,s,t=>match through t with
  |true=>some s
  |false=>match stepOk a b t with
   |false=>none
   |true=>match stepT (denote treeTable) p w s t with
    |some (s',c)=>jn p w a b n s' c
    |none=>none
theorem nD(p:Program)(w:World)(a:Nat)(b:Option Value):∀(n:Nat) (s:SharedT) (t:Thread),iq p w a b n s t=jn p w a b n s t
 |0,_,_=>rfl
 |n+1,s,t=>by
  unfold iq jn
  rw[←PySem.W.Fast.te6613529449190102663,←PySem.W.Fast.te10156331382660048174,←PySem.W.Fast.te11892475500146522536,←PySem.W.Fast.te14364793385576792824]
  simp only[nD p w a b n]
theorem oD{p:Program}{w:World}{a:Nat}{b:Option Value}:∀{n:Nat} {s s':SharedT} {t:Thread},jn p w a b n s t=some s'->topRun treeTable p w a b n s.abs t=some s'.abs
 |0,_,_,_,h=>by cases h
 |n+1,s,s',t,h=>by
  unfold jn at h
  unfold topRun
  cases c:through t with
  |true=>rw[c]at h;cases h;rfl
  |false=>
   rw[c]at h
   cases f:stepOk a b t with
   |false=>rw[f]at h;cases h
   |true=>
    rw[f]at h
    cases hs:stepT (denote treeTable) p w s t with
    |none=>rw[hs]at h;cases h
    |some r=>obtain⟨d,e⟩:=r;rw[hs]at h;rw[stepT_spec hs];exact oD h
theorem zP(p:Program):rI p=topStub p:=by
 unfold rI topStub
 rw[←PySem.W.Fast.te17154629097778926822,←PySem.W.Fast.te12822647523644345616,←PySem.W.Fast.te6905046200447255374]
 rfl
theorem BZ(w:World)(os:OsState):(H8 w os).abs=⟨boot_heap w.params,#[],boot_drawn,boot_toks,os⟩:=by
 unfold H8 SharedT.abs
 dsimp only
 rfl
noncomputable def RA:Stmt:=pw.main.body.getLast?.getD (.Pass default)
noncomputable def qH:Program:={pw with main:={pw.main with body:=[RA]}}
noncomputable def K3:List PySem.Str:=[PySem.Str.ofString "_wall",PySem.Str.ofString "KeepError",PySem.Str.ofString "StoreError",PySem.Str.ofString "Corrupt",PySem.Str.ofString "ShortOctets",PySem.Str.ofString "NotFound",PySem.Str.ofString "BadOption",PySem.Str.ofString "StaleSnapshot",PySem.Str.ofString "SnapMark",PySem.Str.ofString "MarkList",PySem.Str.ofString "MAX_32",PySem.Str.ofString "MAX_64",PySem.Str.ofString "CHECK_CRC",PySem.Str.ofString "CHECK_SUM",PySem.Str.ofString "put_fixed32",PySem.Str.ofString "put_fixed64",PySem.Str.ofString "read_fixed32",PySem.Str.ofString "read_fixed64",PySem.Str.ofString "KIND_DELETE",PySem.Str.ofString "KIND_VALUE",PySem.Str.ofString "KIND_SEEK",PySem.Str.ofString "MAX_SEQ",PySem.Str.ofString "TAG_LENGTH",PySem.Str.ofString "LEAST_BLOCK",PySem.Str.ofString "MOST_BLOCK",PySem.Str.ofString "MOST_LEVELS",PySem.Str.ofString "pack_tag",PySem.Str.ofString "make_ikey",PySem.Str.ofString "split_ikey",PySem.Str.ofString "user_of",PySem.Str.ofString "tag_of",PySem.Str.ofString "Order",PySem.Str.ofString "BytesOrder",PySem.Str.ofString "InternalOrder",PySem.Str.ofString "Options",PySem.Str.ofString "check_heights",PySem.Str.ofString "Sieve",PySem.Str.ofString "FileMeta",PySem.Str.ofString "VersionEdit",PySem.Str.ofString "find_file",PySem.Str.ofString "Version",PySem.Str.ofString "VersionMaker",PySem.Str.ofString "total_size",PySem.Str.ofString "key_range",PySem.Str.ofString "Compaction",PySem.Str.ofString "max_octets_of",PySem.Str.ofString "score_of",PySem.Str.ofString "Picker",PySem.Str.ofString "_law_draw",PySem.Str.ofString "_law_user",PySem.Str.ofString "_law_ikey",PySem.Str.ofString "_law_made",PySem.Str.ofString "_law_put",PySem.Str.ofString "_law_compact",PySem.Str.ofString "_law_told",PySem.Str.ofString "_law_readers_told",PySem.Str.ofString "_law_forget",PySem.Str.ofString "_law_smallest",PySem.Str.ofString "_law_by_hand",PySem.Str.ofString "_law_writes",PySem.Str.ofString "_law_live"]
end
section
theorem ou{p q:Program}{a:List Str}{Xt:Shared->Bool}{j:Type}{m:Shared->j}{l:World->j}{N M:Nat}{H₀:Params->Heap}{c:Drawn}{b f:Nat}{i:Option Value}
  (g:∀w:World,(fencedOpening treeTable p w N).map (λs=>(s.heap,s.gens,s.drawn,s.toks))=some (H₀ w.params,#[],c,b))
  (z1:∀w:World,(H₀ w.params).isNs mainGlobals=true) (z2:∀w:World,(H₀ w.params).objs.size=f) (z3:∀w:World,(H₀ w.params).nsMap mainGlobals "__annotations__"=i) (le:Nat.ble M N=true)
  (run:∀(w:World) (os:OsState),∃s',topRun treeTable p w f i M ⟨H₀ w.params,#[],c,b,os⟩ (topStub p)=some s'/\
   (staticsOk (importedModules p.main.body) (H₀ w.params) s'.heap&&namesBound p s'.heap&&gensDone s'&&laidKept (H₀ w.params) s'.heap)=true/\
   openSeen q a (importedModules p.main.body) Xt true s' = openGood q a /\ m s' = l w) : LeftO p q a Xt m l N := λw => by
 obtain⟨⟨h,v,d,k,os⟩,e,u⟩:=Option.map_eq_some_iff.mp (g w)
 obtain⟨rfl,rfl,rfl,rfl⟩:h=H₀ w.params/\v=#[]/\d=c/\k=b:=by simpa using u
 obtain⟨s',y,x,n,o⟩:=run w os
 have r:=topRun_mono (N-M) _ _ _ _ y
 rw[show M+(N-M)=N from Nat.add_sub_cancel' (Nat.le_of_ble_eq_true le)]at r
 have t:topFrom treeTable p w N ⟨H₀ w.params,#[],d,k,os⟩=some s':=by
  unfold topFrom
  dsimp only
  rw[z1 w,z2 w,z3 w,r]
  show(match staticsOk (importedModules p.main.body) (H₀ w.params) s'.heap&&namesBound p s'.heap&&gensDone s'&&laidKept (H₀ w.params) s'.heap with|true=>_|false=>_)=_
  rw[x]
 unfold openEnds
 rw[e]
 show(topFrom treeTable p w N _).map _=_
 rw[t]
 exact congrArg some (Prod.ext n o)
theorem AW{p q:Program}{a:List Str}{d:Type}{g:Shared->d}{f:World->d}{M b:Nat}{w:World}{c:Option Value}{h₀:Heap}{S:SharedT}{Xt:Shared->Bool}
  (h:(iq p w b c M S (rI p)).map (λs=>((staticsOk (importedModules p.main.body) h₀ s.abs.heap&&namesBound p s.abs.heap&&gensDone s.abs&&laidKept h₀ s.abs.heap),
   PySem.W.Fast.tw4187177175401517315 q a (PySem.W.Fast.tw5923862056798008813 p.main.body) Xt true s.abs,g s.abs))=some (true,openGood q a,f w)):
  ∃s',topRun treeTable p w b c M S.abs (topStub p)=some s'/\
   (staticsOk (importedModules p.main.body) h₀ s'.heap&&namesBound p s'.heap&&gensDone s'&&laidKept h₀ s'.heap)=true/\
   openSeen q a (importedModules p.main.body) Xt true s' = openGood q a /\ g s' = f w := by
 obtain⟨s',i,l⟩:=Option.map_eq_some_iff.mp h
 rw[nD,zP]at i
 obtain⟨k,e,j⟩:_/\_/\_:=by simpa only[Prod.mk.injEq]using l
 rw[←PySem.W.Fast.te4187177175401517315,←PySem.W.Fast.te5923862056798008813]at e
 exact⟨s'.abs,oD i,k,e,j⟩
theorem tv:opening pw=plainProg pw.main.scope.names:=by kernel_rfl
theorem xp(s:Shared):fenceModules? pw s=some s:=by kernel_rfl
theorem Hn(w:World):(boot_heap w.params).objs.size=11:=by rfl
theorem G9(w:World):(boot_heap w.params).nsMap mainGlobals "__annotations__"=some (.ref 6):=by kernel_rfl
theorem GW(w:World):(boot_heap w.params).isNs mainGlobals=true:=by
 have e:(boot_heap w.params).get? mainGlobals=some (boot_o_3 w.params):=by rfl
 unfold Heap.isNs
 rw[e]
 unfold boot_o_3
 simp
theorem y8(w:World)(os:OsState):(H8 w os).abs=⟨boot_heap w.params,#[],boot_drawn,boot_toks,os⟩:=BZ w os
theorem AC{b:Type}{d:Shared->b}{c:World->b}{q:Program}{a:List Str}{Xt:Shared->Bool}
  (h:∀w os,(iq pw w 11 (some (.ref 6)) 7400 (H8 w os) (rI pw)).map (λs=>((staticsOk (importedModules pw.main.body) (boot_heap w.params) s.abs.heap&&namesBound pw s.abs.heap&&gensDone s.abs&&laidKept (boot_heap w.params) s.abs.heap),
   PySem.W.Fast.tw4187177175401517315 q a (PySem.W.Fast.tw5923862056798008813 pw.main.body) Xt true s.abs,d s.abs))=some (true,openGood q a,c w)):
  LeftO pw q a Xt d c 8000:=
 ou (H₀:=boot_heap) (boot_open tv (by decide+kernel) xp) GW Hn G9 (by decide+kernel) λw os=>y8 w os▸AW (h w os)
end
section
noncomputable def RI:List Addr:=[3,31,30,44,43,80,79,123,122,193,192,298,297,333,332,387,386,420,419,455,454,483,482,518,517,609,608,665,664,735,734,805,804,120,119,141,140,155,154,162,161,176,175,190,189,204,203,211,210,218,217,225,224,232,231,239,238,246,245,253,252,260,259,274,273,349,348,356,355,403,402,417,416,445,444,452,451,473,472,501,500,529,528,543,542,550,549,557,556,564,563,585,584,592,591,606,605,627,626,634,633,641,640,648,647,655,654,662,661,676,675,683,682,697,696,704,703,711,710,718,717,725,724,732,731,746,745,753,752,767,766,774,773,781,780,788,787,795,794,802,801,816,815,823,822,830,829,837,836,844,843,851,850,856,855,863,862,870,869,875,874,880,879,887,886,892,891,897,896]
noncomputable def JY(h:Heap):Frag:=RI.filterMap λa=>(h.get? a).map λo=>(a,o)
theorem EU{h:Heap}:(JY h).In h:=λa o e=>by
 obtain⟨b,_,f⟩:=List.mem_filterMap.mp (gO e)
 obtain⟨g,d,c⟩:=Option.map_eq_some_iff.mp f
 cases c;exact d
noncomputable def xH(s:Shared):Bool:=xlAt qH [] s&&recOk [] s
noncomputable def yH(K:Frag):=(Nc K,jw.map λp=>CG K p.1)
noncomputable def aH:=(true,jw.map λp=>some (fW p.2.2,ao p.2.2,ae p.2.2))
def YH(_:World)(h:Heap):Prop:=∃K:Frag,K.In h/\HK K
theorem Ht(w:World)(os:OsState):(iq pw w 11 (some (.ref 6)) 7400 (H8 w os) (rI pw)).map (λs=>((staticsOk (importedModules pw.main.body) (boot_heap w.params) s.abs.heap&&namesBound pw s.abs.heap&&gensDone s.abs&&laidKept (boot_heap w.params) s.abs.heap),
   PySem.W.Fast.tw4187177175401517315 qH K3 (PySem.W.Fast.tw5923862056798008813 pw.main.body) xH true s.abs,yH (JY s.abs.heap)))=some (true,openGood qH K3,aH):=by kernel_rfl
theorem GG(w:World)(s:Shared)(e:yH (JY s.heap)=aH):YH w s.heap:=by
 unfold yH aH at e
 exact⟨_,EU,(Prod.mk.inj e).1,(Prod.mk.inj e).2⟩
theorem zn(w:World)(h h':Heap)(x:YH w h)(k:∀b o,h.get? b=some o->h'.get? b=some o):YH w h':=x.elim λK y=>⟨K,y.1.keeps k,y.2⟩
noncomputable def dH:DefRec:=⟨Str.ofString "law",fW Ci,ao Ci,ae Ci,match Ci with|.FunctionDef _ _ _ _ _ _ _ _ _ p=>p|_=>default⟩
theorem MQ:defOf qH (Str.ofString "law")=some (dH,[]):=by kernel_rfl
end
section
theorem xt:PySem.Challenge.rw_xm0840_01.row.prog=pw:=by kernel_rfl
theorem Ij:LeftO PySem.Challenge.rw_xm0840_01.row.prog qH K3 xH (λs=>yH (JY s.heap)) (λ_=>aH) 8000:=by
 rw[xt]
 exact AC Ht
theorem GA:PySem.Challenge.rw_xm0840_01.wellSaid=true:=by rw[PySem.W.Fast.te9446332074065402090];kernel_rfl
def C5:Prop:=WalkO qH K3 (XL qH []) YH PySem.Challenge.rw_xm0840_01.row.toRowW dH [] (λf a=>PySem.call f a)
theorem Q7:PySem.Challenge.rw_xm0840_01.row.prog.theDef PySem.Challenge.rw_xm0840_01.row.name=some (dH.params,dH.body,dH.scope):=by kernel_rfl
theorem Ru:kwWritten? dH.params.kwonlyargs dH.params.kw_defaults=some []:=by kernel_rfl
theorem Rs:(chainsOk qH&&opensWell PySem.Challenge.rw_xm0840_01.row.prog&&(frees PySem.Challenge.rw_xm0840_01.row.toRowW&&PySem.Challenge.rw_xm0840_01.row.within.isEmpty))=true:=by kernel_rfl
theorem QG:PySem.Challenge.rw_xm0840_01.row.prog.bare:=by
 rw[xt]
 exact⟨by kernel_rfl,by kernel_rfl,by kernel_rfl,by kernel_rfl,by kernel_rfl,by kernel_rfl⟩
theorem QZ:PySem.Challenge.rw_xm0840_01.row.toRowW.promised:=⟨[.list []],by kernel_rfl,by kernel_rfl⟩
theorem Rq:defOf qH PySem.Challenge.rw_xm0840_01.row.name=some (dH,[]):=MQ
end
section
noncomputable abbrev cB(ext:bj)(k:Nat):bj:=gw F bD ext k
@[irreducible] def Go(cal:bj)(U:SS)(l:aG)(σ:Hp)(Q:Fl->aG->Hp->Prop):Prop:=jf F cal U l σ Q
@[irreducible] def Gx(cal:bj)(e:X)(l:aG)(σ:Hp)(K:PX):Prop:=cY F cal e l σ K
@[irreducible] def tm(cal:bj)(es:XS)(l:aG)(σ:Hp)(K:List AV->Hp->Prop):Prop:=kL F cal es l σ K
@[irreducible] def Gc(cal:bj)(c:C)(l:aG)(σ:Hp)(K:Bool->Hp->Prop):Prop:=Ai F cal c l σ K
@[irreducible] def DH(cal:bj)(c:CS)(l:aG)(σ:Hp)(K:Bool->Hp->Prop):Prop:=qB F cal c l σ K
@[irreducible] def JP(cal:bj)(c:CS)(l:aG)(σ:Hp)(K:Bool->Hp->Prop):Prop:=A9 F cal c l σ K
section
variable {cal:bj} {l:aG} {σ Z:Hp} {K:PX} {Q:Fl->aG->Hp->Prop} {U:SS}
def Kt(cal:bj)(U:SS)(Q:Fl->aG->Hp->Prop):Fl->aG->Hp->Prop:=λf l σ=>match f with
 |.next=>Go cal U l σ Q
 |f=>Q f l σ
def Kw(cal:bj)(R:aG->Hp->Prop)(U:SS)(Q:Fl->aG->Hp->Prop):Fl->aG->Hp->Prop:=λf l σ=>match f with
 |.next=>R l σ
 |.cont=>R l σ
 |.brk=>Go cal U l σ Q
 |.ret v=>Q (.ret v) l σ
theorem cq(h:Go cal U l σ Q):Kt cal U Q .next l σ:=by with_unfolding_all exact h
theorem BL(h:Q .brk l σ):Kt cal U Q .brk l σ:=by with_unfolding_all exact h
theorem Qy(h:Q .cont l σ):Kt cal U Q .cont l σ:=by with_unfolding_all exact h
theorem vA{v:AV}(h:Q (.ret v) l σ):Kt cal U Q (.ret v) l σ:=by with_unfolding_all exact h
theorem AN{R:aG->Hp->Prop}(h:Go cal U l σ Q):Kw cal R U Q .brk l σ:=by with_unfolding_all exact h
theorem FS{R:aG->Hp->Prop}{v:AV}(h:Q (.ret v) l σ):Kw cal R U Q (.ret v) l σ:=by with_unfolding_all exact h
theorem aR{R:aG->Hp->Prop}(h:R l σ):Kw cal R U Q .next l σ:=by with_unfolding_all exact h
theorem yq{R:aG->Hp->Prop}(h:R l σ):Kw cal R U Q .cont l σ:=by with_unfolding_all exact h
theorem cU{v:AV}(w:Wk Z σ)(h:K v Z):cO K (.ret v) l σ:=⟨Z,w,h⟩
theorem gn(w:Wk Z σ)(h:K .none Z):cO K .next l σ:=⟨Z,w,h⟩
theorem jN{a:Type}{o:Option a}{v:a}{k:a->Prop}(e:o=some v)(h:k v):op o k:=by rw[e];exact h
section
variable {o:Option (Bool×AO)} {fz:Bool} {xs:List AV} {es:List (Int×AV)} {O G:List AV->Prop} {N:List (Int×AV)->Prop} {J:Nat->List (Nat×AV)->Prop}
theorem eT(e:o=some (fz,.list xs))(h:O xs):AM o O G N:=by rw[e];exact h
theorem zb(e:o=some (fz,.tup xs))(h:G xs):AM o O G N:=by rw[e];exact h
theorem xQ(e:o=some (fz,.dict es))(h:N es):AM o O G N:=by rw[e];exact h
theorem El{c:Nat}{fs:List (Nat×AV)}(e:o=some (fz,.inst c fs))(h:J c fs):cN o J:=by rw[e];exact h
theorem wN(e:o=some (false,.list xs))(h:O xs):C7 o O N J:=by rw[e];exact⟨rfl,h⟩
theorem Ms(e:o=some (false,.dict es))(h:N es):C7 o O N J:=by rw[e];exact⟨rfl,h⟩
theorem Ls{c:Nat}{fs:List (Nat×AV)}(e:o=some (false,.inst c fs))(h:J c fs):C7 o O N J:=by rw[e];exact⟨rfl,h⟩
end
theorem ak(h:Q .next l σ):Go cal .nil l σ Q:=by with_unfolding_all exact h
theorem az{i:Nat}{e:X}(h:Gx cal e l σ λv Z=>Go cal U (l.set i v) Z Q):Go cal (.cons (.asg i e) U) l σ Q:=by with_unfolding_all exact h
theorem dL{e:X}(h:Gx cal e l σ λ_ Z=>Go cal U l Z Q):Go cal (.cons (.ex e) U) l σ Q:=by with_unfolding_all exact h
theorem fe{e:X}(h:Gx cal e l σ λv Z=>Q (.ret v) l Z):Go cal (.cons (.ret e) U) l σ Q:=by with_unfolding_all exact h
theorem zF{o e:X}{f:Nat}(h:Gx cal e l σ λv Z=>Gx cal o l Z λa c=>setAttr F.fo a f v c λb=>Go cal U l b Q):Go cal (.cons (.setA o f e) U) l σ Q:=by with_unfolding_all exact h
theorem dC{o i e:X}(h:Gx cal e l σ λv Z=>Gx cal o l Z λa d=>Gx cal i l d λj c=>setItem a j v c λb=>Go cal U l b Q):Go cal (.cons (.setI o i e) U) l σ Q:=by with_unfolding_all exact h
theorem th{is:List Nat}{e:X}(h:Gx cal e l σ λv Z=>eZ is v l Z λa=>Go cal U a Z Q):Go cal (.cons (.asgT is e) U) l σ Q:=by with_unfolding_all exact h
def AB(o:BO)(x y:AV)(σ:Hp)(K:PX):Prop:=bU x λx=>bU y λy=>bin o (.int x) (.int y) σ K
theorem Cs{o:BO}{x y:Int}(h:bin o (.int x) (.int y) σ K):AB o (.int x) (.int y) σ K:=by with_unfolding_all exact h
theorem yd{i:Nat}{o:BO}{x:Int}{e:X}(g:get l i=.int x)(h:Gx cal e l σ λy Z=>AB o (.int x) y Z λv a=>Go cal U (l.set i v) a Q):Go cal (.cons (.aug i o e) U) l σ Q:=by
 with_unfolding_all show bU (get l i) _
 rw[g];with_unfolding_all exact h
theorem DN{o e:X}{f:Nat}{op:BO}(h:Gx cal o l σ λa Z=>yI F.fo a f Z λx g=>Gx cal e l g λy d=>AB op x y d λv b=>setAttr F.fo a f v b λc=>Go cal U l c Q):Go cal (.cons (.augA o f op e) U) l σ Q:=by with_unfolding_all exact h
theorem Ei{o i e:X}{op:BO}(h:Gx cal o l σ λa Z=>Gx cal i l Z λj g=>oA a j g λx f=>Gx cal e l f λy b=>AB op x y b λv d=>setItem a j v d λc=>Go cal U l c Q):Go cal (.cons (.augI o i op e) U) l σ Q:=by with_unfolding_all exact h
theorem bK{c:C}{a b:SS}(h:Gc cal c l σ λt Z=>(t=true->Go cal a l Z (Kt cal U Q))/\(t=false->Go cal b l Z (Kt cal U Q))):Go cal (.cons (.ite c a b) U) l σ Q:=by with_unfolding_all exact h
theorem ua(h:Q .brk l σ):Go cal (.cons .brk U) l σ Q:=by with_unfolding_all exact h
theorem PJ(h:Q .cont l σ):Go cal (.cons .cnt U) l σ Q:=by with_unfolding_all exact h
theorem C2{b:SS}(h:Go cal b l σ (Kt cal U Q)):Go cal (.cons (.tri b) U) l σ Q:=by with_unfolding_all exact h
theorem LQ{o i:X}(h:Gx cal o l σ λa Z=>Gx cal i l Z λj c=>delItem a j c λb=>Go cal U l b Q):Go cal (.cons (.delI o i) U) l σ Q:=by with_unfolding_all exact h
theorem He{c:C}{b:SS}(I:Nat->aG->Hp->Prop)(n:Nat)(d:I n l σ)(h:∀n l σ,I n l σ->Gc cal c l σ λt Z=>(t=true->Go cal b l Z (Kw cal (λl σ=>∃m,m<n/\I m l σ) U Q))/\(t=false->Go cal U l Z Q)):Go cal (.cons (.whl c b) U) l σ Q:=
 by with_unfolding_all exact⟨I,⟨n,d⟩,λn l σ a=>h n l σ a⟩
def vF(r:Addr)(xs:List AV)(σ:Hp):Prop:=∃fz,σ r=some (fz,.list xs)
def fQ(cal:bj)(U:SS)(Q:Fl->aG->Hp->Prop):Fl->aG->Hp->Prop:=λf a Z=>match f with|.next=>Go cal U a Z Q|f=>Q f a Z
def sZ(cal:bj)(c:List Nat)(b U:SS)(Q:Fl->aG->Hp->Prop)(a:AV)(l:aG)(σ:Hp):Prop:=kH a λr=>cL (σ r) λxs=>xs.length<=line/\iG (vF r xs) c (λl σ P=>Go cal b l σ P) (fQ cal U Q) xs l σ
def we(cal:bj)(t:Nat)(up:Bool)(b U:SS)(Q:Fl->aG->Hp->Prop)(a c:AV)(l:aG)(σ:Hp):Prop:=bU a λlo=>bU c λd=>(-line<=lo/\lo<=line/\ -line<=d/\d<=line/\(up=true∨d= -1))/\iG (λ_=>True) [t] (λl σ P=>Go cal b l σ P) (fQ cal U Q) ((if up then aM lo d else dS lo).map .int) l σ
theorem mK{c:List Nat}{d:X}{b:SS}(h:Gx cal d l σ λa Z=>sZ cal c b U Q a l Z):Go cal (.cons (.for c d b) U) l σ Q:=by with_unfolding_all exact h
theorem g8{t:Nat}{lo hi:X}{up:Bool}{b:SS}(h:Gx cal lo l σ λa Z=>Gx cal hi l Z λc d=>we cal t up b U Q a c l d):Go cal (.cons (.forR t lo hi up b) U) l σ Q:=by with_unfolding_all exact h
theorem uI{ok:Hp->Prop}{a:List Nat}{b:SS}{P:List AV->aG->Hp->Prop}(c:∀d l σ,P d l σ->ok σ)
  (step:∀v r l σ (R:aG->Hp->Prop),P (v::r) l σ->(∀l σ,P r l σ->R l σ)->eZ a v l σ λe=>Go cal b e σ (Kw cal R U Q)) (done:∀l σ,P [] l σ->Go cal U l σ Q):
  ∀d l σ,P d l σ->iG ok a (λl σ P=>Go cal b l σ P) (fQ cal U Q) d l σ
 |[],l,σ,h=>done l σ h
 |v::r,l,σ,h=>step v r l σ (λl σ=>ok σ/\iG ok a (λl σ P=>Go cal b l σ P) (fQ cal U Q) r l σ) h λe Z h'=>⟨c _ _ _ h',uI c step done r e Z h'⟩
theorem HQ{r:Addr}{fz:Bool}{xs:List AV}{a:List Nat}{b:SS}(P:List AV->aG->Hp->Prop)(h:σ r=some (fz,.list xs))(len:xs.length<=line)(c:∀e l σ,P e l σ->vF r xs σ)(f:P xs l σ)
  (step:∀v r l σ (R:aG->Hp->Prop),P (v::r) l σ->(∀l σ,P r l σ->R l σ)->eZ a v l σ λd=>Go cal b d σ (Kw cal R U Q)) (done:∀l σ,P [] l σ->Go cal U l σ Q):sZ cal a b U Q (.ref r) l σ:=eT h ⟨len,uI c step done xs l σ f⟩
theorem qT{lo hi:Int}(h:lo<hi):aM lo hi=lo::aM (lo+1) hi:=by
 unfold aM
 obtain⟨n,e⟩:=t1 (Int.sub_pos_of_lt h)
 rw[←Int.sub_sub,e,Int.add_sub_cancel,te (x:=(n:Int)+1) (n:=n+1) rfl,te (x:=(n:Int)) rfl,List.range_succ_eq_map,List.map_cons,List.map_map]
 refine congr (congrArg _ (by exact Int.le_antisymm (z0 [_] (.le (.a (.v 0) (.n 0)) (.v 0)) rfl) (z0 [_] (.le (.v 0) (.a (.v 0) (.n 0))) rfl))) (List.map_congr_left λk _=>?_)
 show lo+((k+1:Nat):Int)=lo+1+k
 exact Int.le_antisymm (z0 [_,_] P4 rfl) (z0 [_,_] PM rfl)
theorem sL{lo hi:Int}(h:¬lo<hi):aM lo hi=[]:=by
 unfold aM;rw[t0 (Int.sub_nonpos_of_le (il h))];rfl
theorem rj{hi:Int}(h:0<=hi):dS hi=hi::dS (hi-1):=by
 unfold dS
 obtain⟨n,e⟩:=Int.eq_ofNat_of_zero_le h
 rw[Int.sub_add_cancel,te (x:=hi+1) (n:=n+1) (by rw[e];rfl),te (x:=hi) e,List.range_succ_eq_map,List.map_cons,List.map_map]
 refine congr (congrArg _ (by exact Int.le_antisymm (z0 [_] (.le (.a (.v 0) (.g (.n 0))) (.v 0)) rfl) (z0 [_] (.le (.v 0) (.a (.v 0) (.g (.n 0)))) rfl))) (List.map_congr_left λk _=>?_)
 show hi-((k+1:Nat):Int)=hi-1-k
 exact Int.le_antisymm (z0 [_,_] (.le (.a (.v 0) (.g (.a (.v 1) (.n 1)))) (.a (.a (.v 0) (.g (.n 1))) (.g (.v 1)))) rfl) (z0 [_,_] (.le (.a (.a (.v 0) (.g (.n 1))) (.g (.v 1))) (.a (.v 0) (.g (.a (.v 1) (.n 1))))) rfl)
theorem tq{hi:Int}(h:¬0<=hi):dS hi=[]:=by
 unfold dS;rw[t0 (ig h)];rfl
theorem Gl{t:Nat}{lo hi:Int}{b:SS}(P:Int->aG->Hp->Prop)(d:0<=lo/\lo<=9000/\0<=hi/\hi<=9000)(q:P lo l σ)
  (step:∀i l σ (R:aG->Hp->Prop),lo<=i->i<hi->P i l σ->(∀l σ,P (i+1) l σ->R l σ)->Go cal b (l.set t (.int i)) σ (Kw cal R U Q)) (done:∀i l σ,lo<=i->hi<=i->(i=lo∨i=hi)->P i l σ->Go cal U l σ Q):we cal t true b U Q (.int lo) (.int hi) l σ:=by
 have e:=bI
 refine⟨⟨by exact y2 [_,_] Ia 0 1 (-1) Mn LF rfl d.1 (ce e),by exact y2 [_,_] J0 0 1 (-1) jJ uv rfl d.2.1 (ce e),by exact y2 [_,_] Ia 0 1 (-1) Mn LF rfl d.2.2.1 (ce e),by exact y2 [_,_] J0 0 1 (-1) jJ uv rfl d.2.2.2 (ce e),.inl rfl⟩,?_⟩
 show iG _ _ _ _ ((aM lo hi).map .int) l σ
 have:∀n i,(hi-i).toNat=n->lo<=i->(i=lo∨i<=hi)->∀l σ,P i l σ->iG (λ_=>True) [t] (λl σ P=>Go cal b l σ P) (fQ cal U Q) ((aM i hi).map .int) l σ:=by
  intro n
  induction n with
  |zero=>intro i c a h l σ f;have g:=Int.le_of_sub_nonpos (tz c);rw[sL (fX g)];exact done i l σ a g (h.imp id λk=>Int.le_antisymm k g) f
  |succ n j=>
   intro i c a h l σ f
   have g:=Int.lt_of_sub_pos (tp c)
   rw[qT g]
   exact step i l σ (λl σ=>True/\iG (λ_=>True) [t] (λl σ P=>Go cal b l σ P) (fQ cal U Q) ((aM (i+1) hi).map .int) l σ) a g f λp Z m=>⟨trivial,j (i+1) (by rw[←Int.sub_sub];exact t2 c) (Int.le_trans a (Int.le_add_one (Int.le_refl i))) (.inr g) p Z m⟩
 exact this _ lo rfl (Int.le_refl _) (.inl rfl) l σ q
theorem FA{t:Nat}{hi:Int}{b:SS}(P:Int->aG->Hp->Prop)(f: -1<=hi/\hi<=9000)(p:P hi l σ)
  (step:∀i l σ (R:aG->Hp->Prop),0<=i->i<=hi->P i l σ->(∀l σ,P (i-1) l σ->R l σ)->Go cal b (l.set t (.int i)) σ (Kw cal R U Q)) (done:∀l σ,P (-1) l σ->Go cal U l σ Q):we cal t false b U Q (.int hi) (.int (-1)) l σ:=by
 have e:=bI
 refine⟨⟨by exact y2 [_,_] Ia 0 1 (-1) (.le (.g (.n 1)) (.v 1)) LF rfl f.1 (ce e),by exact y2 [_,_] J0 0 1 (-1) jJ uv rfl f.2 (ce e),by exact Int.natCast_nonneg 9999,by exact Int.NonNeg.mk (line+Nat.succ 0),.inr rfl⟩,?_⟩
 show iG _ _ _ _ ((dS hi).map .int) l σ
 have:∀n i,(i+1).toNat=n-> -1<=i->i<=hi->∀l σ,P i l σ->iG (λ_=>True) [t] (λl σ P=>Go cal b l σ P) (fQ cal U Q) ((dS i).map .int) l σ:=by
  intro n
  induction n with
  |zero=>intro i a c h l σ d;rw[tq (Int.not_le.mpr (tz a))];exact done l σ (by rw[show(-1:Int)=i from Int.le_antisymm c (Int.le_sub_one_of_lt (tz a))];exact d)
  |succ n j=>
   intro i a c h l σ d
   have g:=Int.le_of_lt_add_one (tp a)
   rw[rj g]
   exact step i l σ (λl σ=>True/\iG (λ_=>True) [t] (λl σ P=>Go cal b l σ P) (fQ cal U Q) ((dS (i-1)).map .int) l σ) g h d λm Z k=>⟨trivial,j (i-1) (by rw[Int.sub_add_cancel];exact Int.add_sub_cancel i 1▸t2 a) (Int.sub_le_sub_right g 1) (Int.le_trans (Int.sub_le_self i (by decide)) h) m Z k⟩
 exact this _ hi rfl (by exact z1 [_] Ov Ov rfl f.1) (by exact Int.le_refl hi) l σ p
theorem vR{i j:Nat}{r:Addr}{fz:Bool}{a b:AV}{P:aG->Prop}(h:σ r=some (fz,.tup [a,b]))(k:P ((l.set i a).set j b)):eZ [i,j] (.ref r) l σ P:=zb h ⟨Nat.le_of_ble_eq_true rfl,k⟩
theorem Bw{i j m:Nat}{r:Addr}{fz:Bool}{a b c:AV}{P:aG->Prop}(h:σ r=some (fz,.tup [a,b,c]))(k:P (((l.set i a).set j b).set m c)):eZ [i,j,m] (.ref r) l σ P:=zb h ⟨Nat.le_of_ble_eq_true rfl,k⟩
theorem iK{v:AV}(h:K v σ):Gx cal (.k v) l σ K:=by with_unfolding_all exact h
theorem rC{i:Nat}{v:AV}(g:get l i=v)(n:v≠.undef)(h:K v σ):Gx cal (.v i) l σ K:=by
 with_unfolding_all show zd (get l i) _
 rw[g];cases v with
 |undef=>exact(n rfl).elim
 |_=>exact h
theorem dk{o:BO}{a b:X}(h:Gx cal a l σ λx Z=>Gx cal b l Z λy c=>bin o x y c K):Gx cal (.bin o a b) l σ K:=by with_unfolding_all exact h
theorem cG{o:CO}{a b:X}(h:Gx cal a l σ λx Z=>Gx cal b l Z λy d=>cmp o x y d λc=>K (.bool c) d):Gx cal (.cmp o a b) l σ K:=by with_unfolding_all exact h
def Oi(cal:bj)(b:X)(l:aG)(K:PX)(x:AV)(Z:Hp):Prop:=Li x λt=>(t=true->K (.bool true) Z)/\(t=false->Gx cal b l Z K)
theorem MD{a b:X}(h:Gx cal a l σ λx Z=>Oi cal b l K x Z):Gx cal (.orX a b) l σ K:=by with_unfolding_all exact h
theorem Mq{b:X}{x:Bool}(a:x=true->K (.bool true) σ)(c:x=false->Gx cal b l σ K):Oi cal b l K (.bool x) σ:=⟨a,c⟩
theorem Gi{c:C}{a b:X}(h:Gc cal c l σ λt Z=>(t=true->Gx cal a l Z K)/\(t=false->Gx cal b l Z K)):Gx cal (.ite c a b) l σ K:=by with_unfolding_all exact h
theorem qx{a i:X}(h:Gx cal a l σ λx Z=>Gx cal i l Z λy b=>oA x y b K):Gx cal (.sub a i) l σ K:=by with_unfolding_all exact h
def xR(K:PX)(x y:AV)(a:Hp):Prop:=sel x False (λ_=>False) (λb=>bU y λn=>(b.length<=line/\0<=n/\n<=line)/\K (.bytes (b.take n.toNat)) a)
 λr=>bU y λn=>cL (a r) λxs=>(xs.length<=line/\0<=n/\n<=line)/\∀c,a c=none->K (.ref c) (upd a c (false,.list (xs.take n.toNat)))
theorem yQ{a i:X}(h:Gx cal a l σ λx Z=>Gx cal i l Z λy b=>xR K x y b):Gx cal (.upto a i) l σ K:=by with_unfolding_all exact h
theorem DY{b:List UInt8}{n:Int}(h:b.length<=9000/\0<=n/\n<=9000)(k:K (.bytes (b.take n.toNat)) σ):xR K (.bytes b) (.int n) σ:=⟨⟨by have:=bI;exact m2 [_,_] J0 0 1 (-1) jJ uv rfl h.1 this,h.2.1,by have:=bI;exact y2 [_,_] J0 0 1 (-1) jJ uv rfl h.2.2 (ce this)⟩,k⟩
theorem zA{r:Addr}{fz:Bool}{xs:List AV}{n:Int}(g:σ r=some (fz,.list xs))(h:xs.length<=9000/\0<=n/\n<=9000)(k:∀c,σ c=none->K (.ref c) (upd σ c (false,.list (xs.take n.toNat)))):xR K (.ref r) (.int n) σ:=eT g ⟨⟨by have:=bI;exact m2 [_,_] J0 0 1 (-1) jJ uv rfl h.1 this,h.2.1,by have:=bI;exact y2 [_,_] J0 0 1 (-1) jJ uv rfl h.2.2 (ce this)⟩,k⟩
def Hq(K:PX)(x y:AV)(a:Hp):Prop:=kH x λr=>bU y λn=>cL (a r) λxs=>(xs.length<=line/\0<=n/\n<=line)/\∀c,a c=none->K (.ref c) (upd a c (false,.list (xs.drop n.toNat)))
theorem GF{a i:X}(h:Gx cal a l σ λx Z=>Gx cal i l Z λy b=>Hq K x y b):Gx cal (.frm a i) l σ K:=by with_unfolding_all exact h
theorem HL{r:Addr}{fz:Bool}{xs:List AV}{n:Int}(g:σ r=some (fz,.list xs))(h:xs.length<=9000/\0<=n/\n<=9000)(k:∀c,σ c=none->K (.ref c) (upd σ c (false,.list (xs.drop n.toNat)))):Hq K (.ref r) (.int n) σ:=eT g ⟨⟨by have:=bI;exact m2 [_,_] J0 0 1 (-1) jJ uv rfl h.1 this,h.2.1,by have:=bI;exact y2 [_,_] J0 0 1 (-1) jJ uv rfl h.2.2 (ce this)⟩,k⟩
def Gj(K:PX)(vs:List AV)(Z:Hp):Prop:=vs.length<=line/\∀r,Z r=none->K (.ref r) (upd Z r (false,.list vs))
def FO(K:PX)(vs:List AV)(Z:Hp):Prop:=vs.length<=line/\∀r,Z r=none->K (.ref r) (upd Z r (true,.tup vs))
theorem uB{es:XS}(h:tm cal es l σ λvs Z=>Gj K vs Z):Gx cal (.lst es) l σ K:=by with_unfolding_all exact h
theorem oP{es:XS}(h:tm cal es l σ λvs Z=>FO K vs Z):Gx cal (.tup es) l σ K:=by with_unfolding_all exact h
theorem bN{n:Nat}(h:n<=9000):n<=line:=by have:=bI;exact m2 [_,_] J0 0 1 (-1) jJ uv rfl h this
theorem uF{vs:List AV}(h:Nat.ble vs.length 9000=true)(k:∀r,σ r=none->K (.ref r) (upd σ r (false,.list vs))):Gj K vs σ:=⟨bN (Nat.le_of_ble_eq_true h),k⟩
theorem oG{vs:List AV}(h:Nat.ble vs.length 9000=true)(k:∀r,σ r=none->K (.ref r) (upd σ r (true,.tup vs))):FO K vs σ:=⟨bN (Nat.le_of_ble_eq_true h),k⟩
theorem yg(h:∀r,σ r=none->K (.ref r) (upd σ r (false,.dict []))):Gx cal .dic l σ K:=by with_unfolding_all exact h
theorem At{f:Nat}{es:XS}(h:tm cal es l σ λvs Z=>cal (F.fa f) vs Z K):Gx cal (.fn f es) l σ K:=by with_unfolding_all exact h
noncomputable def MW(K:PX)(r:Addr):PX:=λv a=>Di v (K (.ref r) a)
theorem wu{r:Addr}(h:K (.ref r) σ):MW K r .none σ:=by with_unfolding_all exact h
def NM(cal:bj)(c:Nat)(K:PX)(vs:List AV)(Z:Hp):Prop:=∀r,Z r=none->ei (F.mi c) (λg=>cal (F.fa g) (.ref r::vs) (upd Z r (false,.inst c [])) λv a=>Di v (K (.ref r) a))
  (vs=[]/\K (.ref r) (upd Z r (false,.inst c [])))
theorem GR{c:Nat}{es:XS}(h:tm cal es l σ λvs Z=>NM cal c K vs Z):Gx cal (.mk c es) l σ K:=by with_unfolding_all exact h
theorem MA{c g:Nat}{vs:List AV}(m:F.mi c=some g)(k:∀r,σ r=none->cal (F.fa g) (.ref r::vs) (upd σ r (false,.inst c [])) (MW K r)):NM cal c K vs σ:=λr a=>by rw[m];exact k r a
theorem L6{c:Nat}(m:F.mi c=none)(k:∀r,σ r=none->K (.ref r) (upd σ r (false,.inst c []))):NM cal c K [] σ:=λr a=>by rw[m];exact⟨rfl,k r a⟩
def Hv(cal:bj)(g:Nat)(es:XS)(l:aG)(K:PX)(a:AV)(Z:Hp):Prop:=kH a λr=>cN (Z r) λc e=>op (F.mt c g) λf=>(e.all λp=>F.fo c p.1)=true/\tm cal es l Z λd b=>cal (F.fa f) (.ref r::d) b K
theorem fO{o:X}{g:Nat}{es:XS}(h:Gx cal o l σ λa Z=>Hv cal g es l K a Z):Gx cal (.mth o g es) l σ K:=by with_unfolding_all exact h
theorem fU{g:Nat}{es:XS}{r:Addr}{fz:Bool}{c f:Nat}{fs:List (Nat×AV)}(h:σ r=some (fz,.inst c fs))(m:F.mt c g=some f)(a:(fs.all λp=>F.fo c p.1)=true)
  (k:tm cal es l σ λvs b=>cal (F.fa f) (.ref r::vs) b K):Hv cal g es l K (.ref r) σ:=El h (jN m ⟨a,k⟩)
theorem mJ{b:BF}{es:XS}(h:tm cal es l σ λvs Z=>eI b vs Z K):Gx cal (.bi b es) l σ K:=by with_unfolding_all exact h
def LZ(cal:bj)(b:BM)(es:XS)(l:aG)(K:PX)(a:AV)(Z:Hp):Prop:=kH a λr=>OE b (Z r)/\tm cal es l Z λd c=>jj b (.ref r) d c K
theorem iH{b:BM}{o:X}{es:XS}(h:Gx cal o l σ λa Z=>LZ cal b es l K a Z):Gx cal (.bm b o es) l σ K:=by with_unfolding_all exact h
noncomputable def BM.li:BM->Bool
 |.get=>false
 |_=>true
theorem ja{b:BM}{es:XS}{r:Addr}{fz:Bool}{xs:List AV}(h:σ r=some (fz,.list xs))(n:BM.li b=true)(k:tm cal es l σ λvs a=>jj b (.ref r) vs a K):LZ cal b es l K (.ref r) σ:=⟨by cases b<;>first|exact eT h trivial|exact Bool.noConfusion n,k⟩
theorem L4{es:XS}{r:Addr}{fz:Bool}{xs:List (Int×AV)}(h:σ r=some (fz,.dict xs))(k:tm cal es l σ λvs a=>jj .get (.ref r) vs a K):LZ cal .get es l K (.ref r) σ:=⟨xQ h trivial,k⟩
theorem aD{P:List AV->Hp->Prop}(h:P [] σ):tm cal .nil l σ P:=by with_unfolding_all exact h
theorem aj{e:X}{es:XS}{P:List AV->Hp->Prop}(h:Gx cal e l σ λv Z=>tm cal es l Z λvs a=>P (v::vs) a):tm cal (.cons e es) l σ P:=by with_unfolding_all exact h
section
variable {P:Bool->Hp->Prop}
theorem kX{e:X}(h:Gx cal e l σ λa Z=>mh a Z λb=>P b Z):Gc cal (.t e) l σ P:=by with_unfolding_all exact h
theorem C1{c:C}(h:Gc cal c l σ λb Z=>P (!b) Z):Gc cal (.not c) l σ P:=by with_unfolding_all exact h
theorem ku{a:CS}(h:DH cal a l σ P):Gc cal (.and a) l σ P:=by with_unfolding_all exact h
theorem E3{a:CS}(h:JP cal a l σ P):Gc cal (.or a) l σ P:=by with_unfolding_all exact h
theorem da(h:P true σ):DH cal .nil l σ P:=by with_unfolding_all exact h
theorem bz{c:C}{a:CS}(h:Gc cal c l σ λb Z=>(b=true->DH cal a l Z P)/\(b=false->P false Z)):DH cal (.cons c a) l σ P:=by with_unfolding_all exact h
theorem sT(h:P false σ):JP cal .nil l σ P:=by with_unfolding_all exact h
theorem jC{c:C}{a:CS}(h:Gc cal c l σ λb Z=>(b=true->P true Z)/\(b=false->JP cal a l Z P)):JP cal (.cons c a) l σ P:=by with_unfolding_all exact h
end
theorem br{p:Prop}[Decidable p]{A B:Prop}(b:p->A)(a:¬p->B):(decide p=true->A)/\(decide p=false->B):=⟨λh=>b (of_decide_eq_true h),λh=>a (of_decide_eq_false h)⟩
theorem Nn{p:Prop}[Decidable p]{A B:Prop}(h:p)(a:A):(decide p=true->A)/\(decide p=false->B):=br (λ_=>a) λn=>(n h).elim
theorem GN{p:Prop}[Decidable p]{A B:Prop}(h:¬p)(a:B):(decide p=true->A)/\(decide p=false->B):=br (λn=>(h n).elim) λ_=>a
theorem jv{b:Bool}{A B:Prop}(c:b=true->A)(a:b=false->B):(b=true->A)/\(b=false->B):=⟨c,a⟩
theorem eJ{A B:Prop}(h:A):(true=true->A)/\(true=false->B):=⟨λ_=>h,λn=>nomatch n⟩
theorem df{A B:Prop}(h:B):(false=true->A)/\(false=false->B):=⟨λn=>(nomatch n),λ_=>h⟩
theorem GQ{p:Prop}[Decidable p]{A B:Prop}(b:¬p->A)(a:p->B):((!decide p)=true->A)/\((!decide p)=false->B):=
 ⟨λh=>b (by cases e:decide p with|true=>rw[e]at h;cases h|false=>exact of_decide_eq_false e),λh=>a (by cases e:decide p with|true=>exact of_decide_eq_true e|false=>rw[e]at h;cases h)⟩
theorem yx{x y:Int}(h:K (.int (x+y)) σ):bin .add (.int x) (.int y) σ K:=by with_unfolding_all exact h
theorem GD{x y:Int}(c: -(2 ^ 62)<x/\x<2 ^ 62)(h:K (.int (x*y)) σ):bin .mul (.int x) (.int y) σ K:=⟨c,h⟩
theorem Dj{x y:Int}(c:0<y/\y<2 ^ 30)(h:K (.int (x/y)) σ):bin .fdiv (.int x) (.int y) σ K:=⟨c,h⟩
theorem G0{x y:Int}(h:K (.int (Builtin.bitOr x y)) σ):bin .bor (.int x) (.int y) σ K:=by with_unfolding_all exact h
theorem Gg{x y:Int}(c:0<=y/\y<=100/\x.natAbs<2 ^ 64)(h:K (.int (x*2 ^ y.toNat)) σ):bin .shl (.int x) (.int y) σ K:=⟨c,h⟩
theorem FI{y:Int}(c:0<=y/\y<=2)(h:K (.int (12 ^ y.toNat)) σ):bin .pow (.int 12) (.int y) σ K:=⟨⟨rfl,c⟩,h⟩
theorem sP{x y:List UInt8}(c:x.length<=9000/\y.length<=9000)(h:K (.bytes (x++y)) σ):bin .add (.bytes x) (.bytes y) σ K:=⟨⟨bN c.1,bN c.2⟩,h⟩
theorem iY{a b:Addr}{f g:Bool}{xs ys:List AV}(e:σ a=some (f,.list xs))(d:σ b=some (g,.list ys))(c:xs.length<=9000/\ys.length<=9000)(h:∀r,σ r=none->K (.ref r) (upd σ r (false,.list (xs++ys)))):bin .add (.ref a) (.ref b) σ K:=eT e (eT d ⟨⟨bN c.1,bN c.2⟩,h⟩)
theorem xM{a:Addr}{f:Bool}{x:AV}{n:Int}(b:σ a=some (f,.list [x]))(c:0<=n/\n<=100)(h:∀r,σ r=none->K (.ref r) (upd σ r (false,.list (List.replicate n.toNat x)))):bin .mul (.ref a) (.int n) σ K:=eT b ⟨c,h⟩
section
variable {P:Bool->Prop}
theorem Mg{x y:Int}(h:P (decide (x=y))):cmp .eq (.int x) (.int y) σ P:=by with_unfolding_all exact h
theorem Ma{x y:Int}(h:P (decide (x≠y))):cmp .ne (.int x) (.int y) σ P:=by with_unfolding_all exact h
theorem HT{x y:Int}(h:P (decide (x<y))):cmp .lt (.int x) (.int y) σ P:=by with_unfolding_all exact h
theorem De{x y:Int}(h:P (decide (x<=y))):cmp .le (.int x) (.int y) σ P:=by with_unfolding_all exact h
theorem zu{x y:Int}(h:P (decide (y<x))):cmp .gt (.int x) (.int y) σ P:=by with_unfolding_all exact h
theorem G4{x y:Int}(h:P (decide (y<=x))):cmp .ge (.int x) (.int y) σ P:=by with_unfolding_all exact h
theorem Ih{x y:List UInt8}(h:P (decide (x≠y))):cmp .ne (.bytes x) (.bytes y) σ P:=by with_unfolding_all exact h
theorem zL{x y:List UInt8}(h:P (!decide (y<x))):cmp .le (.bytes x) (.bytes y) σ P:=by with_unfolding_all exact h
theorem Il{x y:List UInt8}(h:P (!decide (x<y))):cmp .ge (.bytes x) (.bytes y) σ P:=by with_unfolding_all exact h
noncomputable def Pa(x:AV):Bool:=!C4 x
theorem Np{x:AV}(h:P (C4 x)):cmp .is x .none σ P:=h
theorem Ek{x:AV}(h:P (Pa x)):cmp .isnt x .none σ P:=h
theorem GB(h:P false):cmp .ne .none .none σ P:=by with_unfolding_all exact h
theorem DU{x:Int}{a:Addr}{f:Bool}{es:List (Int×AV)}(g:σ a=some (f,.dict es))(h:P (bE es x).isSome):cmp .isin (.int x) (.ref a) σ P:=xQ g h
theorem Cg{x:Int}{a:Addr}{f:Bool}{ys:List AV}{ns:List Int}(g:σ a=some (f,.list ys))(e:cJ ys=some ns)(h:P (!ns.any (·==x))):cmp .notin (.int x) (.ref a) σ P:=eT g (jN e h)
theorem Cz{a b:Addr}{f d:Bool}{xs ys:List AV}{ms ns:List Int}(g:σ a=some (f,.list xs))(i:σ b=some (d,.list ys))(e:cJ xs=some ms)(c:cJ ys=some ns)(h:P (!decide (ms=ns))):cmp .ne (.ref a) (.ref b) σ P:=eT g (eT i (jN e (jN c h)))
theorem Ho{a b:Addr}{f c:Bool}{x y u v:Int}(g:σ a=some (f,.tup [.int x,.int y]))(d:σ b=some (c,.tup [.int u,.int v]))(h:P (decide (u<x∨(u=x/\v<=y)))):cmp .ge (.ref a) (.ref b) σ P:=zb g (zb d h)
theorem dK{b:Bool}(h:P b):mh (.bool b) σ P:=by with_unfolding_all exact h
theorem NO{r:Addr}{f:Bool}{xs:List AV}(g:σ r=some (f,.list xs))(c:xs.length<=9000)(h:P (!xs.isEmpty)):mh (.ref r) σ P:=eT g ⟨bN c,h⟩
end
noncomputable def fp:List (Nat×AV)->Nat->Option AV
 |[],_=>none
 |(g,v)::r,f=>match g==f with|true=>some v|false=>fp r f
theorem qA:∀(fs:List (Nat×AV)) (f:Nat),vM fs f=fp fs f
 |[],f=>rfl
 |(g,v)::r,f=>by
  unfold vM fp
  rw[List.find?_cons]
  cases h:g==f with
  |true=>rfl
  |false=>exact qA r f
theorem OU{r:Addr}{fz:Bool}{c f:Nat}{fs:List (Nat×AV)}{v:AV}(h:σ r=some (fz,.inst c fs))(e:fp fs f=some v)(o:F.fo c f=true)(k:K v σ):yI F.fo (.ref r) f σ K:=El h ⟨o,jN (by rw[qA,e]) k⟩
theorem AP{P:Hp->Prop}{r:Addr}{c f:Nat}{fs:List (Nat×AV)}{v:AV}(h:σ r=some (false,.inst c fs))(o:F.fo c f=true)(n:Nat.ble fs.length 100=true)(k:P (upd σ r (false,.inst c (gF f v fs)))):setAttr F.fo (.ref r) f v σ P:=Ls h ⟨o,Nat.le_of_ble_eq_true n,k⟩
theorem wQ{r:Addr}{fz:Bool}{xs:List AV}{i:Nat}{v:AV}(h:σ r=some (fz,.list xs))(n:xs.length<=9000)(e:xs[i]?=some v)(k:K v σ):oA (.ref r) (.int i) σ K:=eT h ⟨bN n,by rw[if_pos (Int.natCast_nonneg i)];exact jN e k⟩
theorem L8{r:Addr}{fz:Bool}{xs:List AV}{v:AV}(h:σ r=some (fz,.list xs))(n:xs.length<=9000)(e:xs.getLast?=some v)(k:K v σ):oA (.ref r) (.int (-1)) σ K:=eT h ⟨bN n,by rw[if_neg (by decide)];exact⟨rfl,jN e k⟩⟩
theorem G3{r:Addr}{fz:Bool}{xs:List AV}{i:Nat}{v:AV}(h:σ r=some (fz,.tup xs))(n:Nat.ble xs.length 9000=true)(e:xs[i]?=some v)(k:K v σ):oA (.ref r) (.int i) σ K:=zb h ⟨bN (Nat.le_of_ble_eq_true n),Int.natCast_nonneg i,jN e k⟩
theorem Lx{r:Addr}{fz:Bool}{es:List (Int×AV)}{i:Int}{v:AV}(h:σ r=some (fz,.dict es))(n:es.length<=9000)(e:bE es i=some v)(k:K v σ):oA (.ref r) (.int i) σ K:=xQ h ⟨bN n,jN e k⟩
section
variable {P:Hp->Prop}
theorem s8{r:Addr}{xs:List AV}{i:Nat}{v:AV}(h:σ r=some (false,.list xs))(n:xs.length<=9000)(b:i<xs.length)(k:P (upd σ r (false,.list (xs.set i v)))):setItem (.ref r) (.int i) v σ P:=wN h ⟨bN n,Int.natCast_nonneg i,dF b,k⟩
theorem Bp{r:Addr}{es:List (Int×AV)}{i:Int}{v:AV}(h:σ r=some (false,.dict es))(n:es.length<=9000)(k:P (upd σ r (false,.dict (d6 i v es)))):setItem (.ref r) (.int i) v σ P:=Ms h ⟨bN n,k⟩
theorem Nr{r:Addr}{xs:List AV}{i:Nat}(h:σ r=some (false,.list xs))(n:xs.length<=9000)(b:i<xs.length)(k:P (upd σ r (false,.list (xs.eraseIdx i)))):delItem (.ref r) (.int i) σ P:=wN h ⟨bN n,Int.natCast_nonneg i,dF b,k⟩
end
theorem Ev{r:Addr}{fz:Bool}{xs:List AV}(h:σ r=some (fz,.list xs))(n:xs.length<=9000)(k:K (.int xs.length) σ):eI .len [.ref r] σ K:=eT h ⟨bN n,k⟩
theorem A7{b:List UInt8}(n:b.length<=9000)(k:K (.int b.length) σ):eI .len [.bytes b] σ K:=⟨bN n,k⟩
theorem DM{b:List UInt8}(n:b.length<=9000)(k:K (.bytes b) σ):eI .bytes [.bytes b] σ K:=⟨bN n,k⟩
theorem lQ{r:Addr}{fz:Bool}{xs:List AV}{b:List UInt8}(h:σ r=some (fz,.list xs))(n:xs.length<=8)(e:EM xs=some b)(k:K (.bytes b) σ):eI .bytes [.ref r] σ K:=eT h ⟨n,jN e k⟩
theorem vf{r:Addr}{fz:Bool}{xs:List AV}(h:σ r=some (fz,.list xs))(n:xs.length<=9000)(k:∀c,σ c=none->K (.ref c) (upd σ c (false,.list xs))):eI .list [.ref r] σ K:=eT h ⟨bN n,k⟩
theorem BB{r:Addr}{fz:Bool}{xs:List AV}{ns:List Int}(h:σ r=some (fz,.list xs))(n:xs.length<=9000)(e:cJ xs=some ns)(p:0<ns.length)(k:∀M,M∈ns->(∀a,a∈ns->M<=a)->K (.int M) σ):eI .min1 [.ref r] σ K:=eT h ⟨bN n,jN e ⟨p,k⟩⟩
theorem yo{r:Addr}{fz:Bool}{xs:List AV}{ns:List Int}(h:σ r=some (fz,.list xs))(n:xs.length<=60)(e:cJ xs=some ns)(k:∀c (a:List Int),σ c=none->a.Perm ns->a.Pairwise (·<=·)->K (.ref c) (upd σ c (false,.list (a.map .int)))):eI .sorted [.ref r] σ K:=eT h ⟨n,by rw[e];exact k⟩
theorem y5{r:Addr}{fz:Bool}{es:List (Int×AV)}(h:σ r=some (fz,.dict es))(n:es.length<=60)(k:∀c (a:List Int),σ c=none->a.Perm (es.map (·.1))->a.Pairwise (·<=·)->K (.ref c) (upd σ c (false,.list (a.map .int)))):eI .sorted [.ref r] σ K:=xQ h ⟨n,k⟩
theorem wJ{r:Addr}{fz:Bool}{xs:List AV}{rs:List (Int×Int×Int)}(h:σ r=some (fz,.list xs))(n:xs.length<=60)(d:cJ xs=none)(e:dI σ xs=some rs)(f:rs.Nodup)
  (k:∀c (ys:List AV) (ts:List (Int×Int×Int)),σ c=none->ys.Perm xs->dI σ ys=some ts->ts.Perm rs->ts.Pairwise (λa b=>ju a b=true)->K (.ref c) (upd σ c (false,.list ys))):eI .sorted [.ref r] σ K:=eT h ⟨n,by rw[d];exact jN e ⟨f,k⟩⟩
theorem dQ{r:Addr}{xs:List AV}{v:AV}(h:σ r=some (false,.list xs))(n:xs.length<=9000)(k:K .none (upd σ r (false,.list (xs++[v])))):jj .append (.ref r) [v] σ K:=wN h ⟨bN n,k⟩
theorem EX{r:Addr}{xs:List AV}{v:AV}{i:Nat}(h:σ r=some (false,.list xs))(n:xs.length<=9000)(b:i<=xs.length)(k:K .none (upd σ r (false,.list (xs.take i++v::xs.drop i)))):jj .insert (.ref r) [.int i,v] σ K:=wN h ⟨bN n,Int.natCast_nonneg i,bF b,k⟩
theorem yB{r:Addr}{xs:List AV}{v:AV}{i:Nat}(h:σ r=some (false,.list xs))(n:xs.length<=9000)(b:xs[i]?=some v)(k:K v (upd σ r (false,.list (xs.take i++xs.drop (i+1))))):jj .pop (.ref r) [.int i] σ K:=wN h ⟨bN n,Int.natCast_nonneg i,jN b k⟩
theorem ED{r:Addr}{fz:Bool}{es:List (Int×AV)}{i:Int}{d:AV}(h:σ r=some (fz,.dict es))(n:es.length<=9000)(k:K ((bE es i).getD d) σ):jj .get (.ref r) [.int i,d] σ K:=xQ h ⟨bN n,k⟩
end
theorem aB{ext:bj}{k:Nat}{i:Nat}{d:Fd}{as l:List AV}{σ:Hp}{Q:PX}(a:bD (F.fa i)=some d)(b:as.length=d.np)(e:as++List.replicate (d.nl-d.np) .undef=l)(h:Go (cB ext k) d.body l σ (cO Q)):cB ext (k+1) (F.fa i) as σ Q:=by
 show gw F bD ext (k+1) (F.fa i) as σ Q
 unfold gw
 rw[a]
 subst e
 with_unfolding_all exact .inl ⟨b,h⟩
theorem lM{σ:Hp}{a:Addr}{x y:Bool×AO}:upd (upd σ a x) a y=upd σ a y:=by
 funext b
 unfold upd
 by_cases h:b=a<;>simp[h]
theorem qa{σ:Hp}{a:Addr}{o:AO}:Wk (upd σ a (true,o)) (upd σ a (false,o)):=λb c e=>by
 by_cases h:b=a
 ·subst h;rw[ab]at e;cases e;exact⟨_,ab,rfl,λ_=>rfl⟩
 ·rw[ac h]at e ⊢;exact⟨c,e,rfl,id⟩
theorem jX{σ:Hp}{r:Addr}{c:Bool×AO}(h:σ r=none):Wk σ (upd σ r c):=λa b e=>by
 have:a≠r:=λx=>by rw[x,h]at e;cases e
 exact⟨b,by rw[ac this];exact e,rfl,id⟩
theorem ag{σ:Hp}{r a:Addr}{c:Bool×AO}{x:Bool×AO}(h:σ r=none)(e:σ a=some x):upd σ r c a=some x:=by
 have:a≠r:=λy=>by rw[y,h]at e;cases e
 rw[ac this];exact e
theorem aq{σ:Hp}{r a:Addr}{c:Bool×AO}{x:Bool×AO}(h:a≠r)(e:σ a=some x):upd σ r c a=some x:=(ac h).trans e
theorem gP{σ:Hp}{r a:Addr}{c:Bool×AO}{x:Bool×AO}(h:r≠a)(e:σ a=some x):upd σ r c a=some x:=(ac (Ne.symm h)).trans e
theorem cP{σ:Hp}{r a:Addr}{c:Bool×AO}{x y:AO}(h:σ r=some (false,y))(e:σ a=some (true,x)):upd σ r c a=some (true,x):=by
 have:a≠r:=λy=>by rw[y,h]at e;cases e
 rw[ac this];exact e
end
section
section
variable {cal:bj} {l:aG} {σ N:Hp} {K:PX} {Q:Fl->aG->Hp->Prop} {Z:SS}
structure Pe(l:aG)(σ:Hp)(e:X)(v:AV):Prop where
 run:∀(cal:bj) (K:PX),K v σ->Gx cal e l σ K
structure Pc(l:aG)(σ:Hp)(c:C)(b:Bool):Prop where
 run:∀(cal:bj) (K:Bool->Hp->Prop),K b σ->Gc cal c l σ K
structure Ps(l:aG)(σ:Hp)(es:XS)(vs:List AV):Prop where
 run:∀(cal:bj) (K:List AV->Hp->Prop),K vs σ->tm cal es l σ K
variable {e U O:X} {v:AV} {r:Addr} {fz:Bool} {x y:Int} {bs J:List UInt8} {xs:List AV}
noncomputable def bT(l:aG)(i:Nat):Option AV:=match get l i with
 |.undef=>none
 |.none=>some .none
 |.bool b=>some (.bool b)
 |.int n=>some (.int n)
 |.bytes b=>some (.bytes b)
 |.ref r=>some (.ref r)
noncomputable def HU(o:BO)(x y:Int):Option Int:=match o with
 |.add=>some (x+y)
 |.sub=>some (x-y)
 |.band=>some (Builtin.bitAnd x y)
 |.bor=>some (Builtin.bitOr x y)
 |_=>none
noncomputable def EA(o:CO)(x y:Int):Option Bool:=match o with
 |.eq=>some (decide (x=y))
 |.ne=>some (decide (x≠y))
 |.lt=>some (decide (x<y))
 |.le=>some (decide (x<=y))
 |.gt=>some (decide (y<x))
 |.ge=>some (decide (y<=x))
 |_=>none
noncomputable def DB(o:CO)(x y:List UInt8):Option Bool:=match o with
 |.eq=>some (decide (x=y))
 |.ne=>some (decide (x≠y))
 |.lt=>some (decide (x<y))
 |.le=>some (!decide (y<x))
 |.gt=>some (decide (y<x))
 |.ge=>some (!decide (x<y))
 |_=>none
theorem BC{o:BO}{z:Int}(w:HU o x y=some z)(k:K (.int z) σ):bin o (.int x) (.int y) σ K:=by
 cases o<;>first|(cases w;done)|(cases w;exact k)
theorem Bc{o:CO}{t:Bool}{P:Bool->Prop}(w:EA o x y=some t)(k:P t):cmp o (.int x) (.int y) σ P:=by
 cases o<;>first|(cases w;done)|(cases w;exact k)
theorem AH{o:CO}{t:Bool}{P:Bool->Prop}(w:DB o bs J=some t)(k:P t):cmp o (.bytes bs) (.bytes J) σ P:=by
 cases o<;>first|(cases w;done)|(cases w;exact k)
noncomputable def on(xs:List AV)(n:Int):Option AV:=match n with
 |.ofNat i=>xs[i]?
 |.negSucc _=>none
theorem aT:Pe l σ (.k v) v:=⟨λ_ _ h=>by with_unfolding_all exact h⟩
theorem bo{i:Nat}(g:bT l i=some v):Pe l σ (.v i) v:=⟨λ_ K h=>by
 refine rC (v:=v) ?_ ?_ h
 ·unfold bT at g;cases e:get l i<;>rw[e]at g<;>first|(exact Option.some.inj g)|cases g
 ·rintro rfl;unfold bT at g;cases e:get l i<;>rw[e]at g<;>cases g⟩
theorem ud{f c:Nat}{fs:List (Nat×AV)}(h:Pe l σ e (.ref r))(g:σ r=some (fz,.inst c fs))(o:F.fo c f=true)(w:fp fs f=some v):Pe l σ (.at e f) v:=⟨λ_ _ k=>by with_unfolding_all exact h.run _ _ (OU g w o k)⟩
theorem cI{o:BO}{z:Int}(b:Pe l σ U (.int x))(a:Pe l σ O (.int y))(w:HU o x y=some z):Pe l σ (.bin o U O) (.int z):=⟨λ_ _ k=>by with_unfolding_all exact b.run _ _ (a.run _ _ (BC w k))⟩
theorem xb{o:CO}{t:Bool}(b:Pe l σ U (.int x))(a:Pe l σ O (.int y))(w:EA o x y=some t):Pe l σ (.cmp o U O) (.bool t):=⟨λ_ K k=>by with_unfolding_all exact b.run _ _ (a.run _ _ (Bc (P:=λc=>K (.bool c) σ) w k))⟩
theorem lI{o:CO}{t:Bool}(b:Pe l σ U (.bytes bs))(a:Pe l σ O (.bytes J))(w:DB o bs J=some t):Pe l σ (.cmp o U O) (.bool t):=⟨λ_ K k=>by with_unfolding_all exact b.run _ _ (a.run _ _ (AH (P:=λc=>K (.bool c) σ) w k))⟩
noncomputable abbrev NK(o:CO)(a b:AV):Option Bool:=match a with
 |.int x=>(match b with|.int y=>EA o x y|_=>none)
 |.bytes x=>(match b with|.bytes y=>DB o x y|_=>none)
 |_=>none
theorem ff{o:CO}{t:Bool}{a b:AV}(d:Pe l σ U a)(c:Pe l σ O b)(w:NK o a b=some t):Pe l σ (.cmp o U O) (.bool t):=by
 cases a with
 |int x=>cases b with
  |int y=>exact xb d c w
  |_=>cases w
 |bytes x=>cases b with
  |bytes y=>exact lI d c w
  |_=>cases w
 |_=>cases w
theorem ub{t:Bool}(a:Pe l σ U v)(w:C4 v=t):Pe l σ (.cmp .is U (.k .none)) (.bool t):=w▸⟨λ_ K k=>by with_unfolding_all exact a.run _ _ (iK (Np (P:=λc=>K (.bool c) σ) k))⟩
theorem ir{t:Bool}(a:Pe l σ U v)(w:Pa v=t):Pe l σ (.cmp .isnt U (.k .none)) (.bool t):=w▸⟨λ_ K k=>by with_unfolding_all exact a.run _ _ (iK (Ek (P:=λc=>K (.bool c) σ) k))⟩
theorem fv(b:Pe l σ U (.int x))(a:Pe l σ O (.int y))(c: -(2 ^ 62)<x/\x<2 ^ 62):Pe l σ (.bin .mul U O) (.int (x*y)):=⟨λ_ _ k=>by with_unfolding_all exact b.run _ _ (a.run _ _ ⟨c,k⟩)⟩
theorem dY(b:Pe l σ U (.int x))(a:Pe l σ O (.int y))(c:0<y/\y<2 ^ 30):Pe l σ (.bin .fdiv U O) (.int (x/y)):=⟨λ_ _ k=>by with_unfolding_all exact b.run _ _ (a.run _ _ ⟨c,k⟩)⟩
theorem cH(b:Pe l σ U (.int x))(a:Pe l σ O (.int y))(c:0<y):Pe l σ (.bin .mod U O) (.int (x%y)):=⟨λ_ _ k=>by with_unfolding_all exact b.run _ _ (a.run _ _ ⟨c,k⟩)⟩
theorem qe(b:Pe l σ U (.int x))(a:Pe l σ O (.int y))(c:0<=y/\y<=100/\x.natAbs<2 ^ 64):Pe l σ (.bin .shl U O) (.int (x*2 ^ y.toNat)):=⟨λ_ _ k=>by with_unfolding_all exact b.run _ _ (a.run _ _ ⟨c,k⟩)⟩
theorem mV(b:Pe l σ U (.int x))(a:Pe l σ O (.int y))(c:0<=y):Pe l σ (.bin .shr U O) (.int (x.fdiv (2 ^ y.toNat))):=⟨λ_ _ k=>by with_unfolding_all exact b.run _ _ (a.run _ _ ⟨c,k⟩)⟩
theorem jB{es:List (Int×AV)}(b:Pe l σ U (.int x))(a:Pe l σ O (.ref r))(g:σ r=some (fz,.dict es)):Pe l σ (.cmp .isin U O) (.bool (bE es x).isSome):=⟨λ_ _ k=>by with_unfolding_all exact b.run _ _ (a.run _ _ (DU g k))⟩
theorem rM{ns:List Int}(b:Pe l σ U (.int x))(a:Pe l σ O (.ref r))(g:σ r=some (fz,.list xs))(w:cJ xs=some ns):Pe l σ (.cmp .notin U O) (.bool (!ns.any (·==x))):=⟨λ_ _ k=>by with_unfolding_all exact b.run _ _ (a.run _ _ (Cg g w k))⟩
theorem MM(h:Pe l σ e (.ref r))(g:σ r=some (fz,.list xs))(n:xs.length<=9000):Pe l σ (.bi .len (.cons e .nil)) (.int xs.length):=⟨λ_ _ k=>by with_unfolding_all exact h.run _ _ (Ev g n k)⟩
theorem Kk(h:Pe l σ e (.bytes bs))(n:bs.length<=9000):Pe l σ (.bi .len (.cons e .nil)) (.int bs.length):=⟨λ_ _ k=>by with_unfolding_all exact h.run _ _ (A7 n k)⟩
theorem xZ(h:Pe l σ e (.bytes bs))(n:bs.length<=9000):Pe l σ (.bi .bytes (.cons e .nil)) (.bytes bs):=⟨λ_ _ k=>by with_unfolding_all exact h.run _ _ (DM n k)⟩
theorem Hc{n:Nat}(b:Pe l σ U (.bytes bs))(a:Pe l σ O (.int n))(c:bs.length<=9000)(d:n<=9000):Pe l σ (.upto U O) (.bytes (bs.take n)):=⟨λ_ _ k=>by with_unfolding_all exact b.run _ _ (a.run _ _ (DY ⟨c,Int.natCast_nonneg _,bF d⟩ k))⟩
theorem aU{x':AV}(h:Pe l σ e v)(w:v=x'):Pe l σ e x':=w▸h
theorem K1(a:Pe l σ U (.int x))(b:Pe l σ O (.int y)):Pe l σ (.bi .min2 (.cons U (.cons O .nil))) (.int (if y<x then y else x)):=⟨λ_ _ k=>by with_unfolding_all exact a.run _ _ (b.run _ _ k)⟩
theorem FD{n:Int}(b:Pe l σ U (.ref r))(a:Pe l σ O (.int n))(g:σ r=some (fz,.list xs))(c:xs.length<=9000)(w:on xs n=some v):Pe l σ (.sub U O) v:=⟨λ_ _ k=>by with_unfolding_all exact b.run _ _ (a.run _ _ (by
  cases n with
  |ofNat i=>exact wQ g c w k
  |negSucc i=>cases w))⟩
theorem GI{n:Int}(b:Pe l σ U (.ref r))(a:Pe l σ O (.int n))(g:σ r=some (fz,.tup xs))(c:Nat.ble xs.length 9000=true)(w:on xs n=some v):Pe l σ (.sub U O) v:=⟨λ_ _ k=>by with_unfolding_all exact b.run _ _ (a.run _ _ (by
  cases n with
  |ofNat i=>exact G3 g c w k
  |negSucc i=>cases w))⟩
noncomputable abbrev FH:AO->Nat
 |.list xs=>xs.length
 |.tup xs=>xs.length
 |_=>0
noncomputable abbrev LY(o:AO)(n:Int):Option AV:=match o with
 |.list xs=>on xs n
 |.tup xs=>on xs n
 |_=>none
theorem kx{n:Int}{o:AO}(b:Pe l σ U (.ref r))(a:Pe l σ O (.int n))(g:σ r=some (fz,o))(c:FH o<=9000)(w:LY o n=some v):Pe l σ (.sub U O) v:=by
 cases o with
 |list xs=>exact FD b a g c w
 |tup xs=>exact GI b a g (Nat.ble_eq_true_of_le c) w
 |_=>cases w
noncomputable def LV(bs:List UInt8)(n:Int):Option Int:=match n with
 |.ofNat i=>(match bs[i]? with|some u=>some (u.toNat:Int)|none=>none)
 |.negSucc _=>none
theorem tT{n z:Int}(b:Pe l σ U (.bytes bs))(a:Pe l σ O (.int n))(c:bs.length<=9000)(w:LV bs n=some z):Pe l σ (.sub U O) (.int z):=⟨λ_ _ k=>by with_unfolding_all exact b.run _ _ (a.run _ _ (by
  cases n with
  |ofNat i=>
   refine⟨bN c,Int.natCast_nonneg i,?_⟩
   rw[show(Int.ofNat i).toNat=i from rfl]
   dsimp only[LV]at w
   cases e:bs[i]? with
   |none=>rw[e]at w;cases w
   |some u=>rw[e]at w;cases w;exact k
  |negSucc i=>cases w))⟩
theorem kI{p q:Prop}[Decidable p][Decidable q](a:¬p)(b:¬q):(decide p||decide q)=false:=by rw[decide_eq_false a,decide_eq_false b];rfl
theorem Ec{es:List (Int×AV)}(b:Pe l σ U (.ref r))(a:Pe l σ O (.int x))(g:σ r=some (fz,.dict es))(n:es.length<=9000)(w:bE es x=some v):Pe l σ (.sub U O) v:=⟨λ_ _ k=>by with_unfolding_all exact b.run _ _ (a.run _ _ (Lx g n w k))⟩
theorem zh{es:List (Int×AV)}{v d:AV}(b:Pe l σ U (.ref r))(a:Pe l σ e (.int x))(c:Pe l σ O d)(g:σ r=some (fz,.dict es))(n:es.length<=9000)(w:(bE es x).getD d=v):Pe l σ (.bm .get U (.cons e (.cons O .nil))) v:=
 ⟨λ_ _ k=>iH (b.run _ _ (L4 g (aj (a.run _ _ (aj (c.run _ _ (aD (ED g n (by rw[w];exact k)))))))))⟩
theorem aQ:Ps l σ .nil []:=⟨λ_ _ h=>by with_unfolding_all exact h⟩
theorem ax{es:XS}{vs:List AV}(b:Pe l σ e v)(a:Ps l σ es vs):Ps l σ (.cons e es) (v::vs):=⟨λ_ _ k=>by with_unfolding_all exact b.run _ _ (a.run _ _ k)⟩
theorem bR{b:Bool}(h:Pe l σ e (.bool b)):Pc l σ (.t e) b:=⟨λ_ _ k=>by with_unfolding_all exact h.run _ _ k⟩
theorem xc(h:Pe l σ e (.ref r))(g:σ r=some (fz,.list xs))(n:xs.length<=9000):Pc l σ (.t e) (!xs.isEmpty):=⟨λ_ _ k=>by with_unfolding_all exact h.run _ _ (NO g n k)⟩
theorem wO{c:C}{b:Bool}(h:Pc l σ c b):Pc l σ (.not c) (!b):=⟨λ_ _ k=>by with_unfolding_all exact h.run _ _ k⟩
theorem xg{a b:C}{b1 b2:Bool}(d:Pc l σ a b1)(c:b1=true->Pc l σ b b2):Pc l σ (.and (.cons a (.cons b .nil))) (b1&&b2):=⟨λ_ K k=>ku (bz (d.run _ _ (by
 cases b1 with
 |true=>exact eJ (bz ((c rfl).run _ _ (by cases b2 with|true=>exact eJ (da k)|false=>exact df k)))
 |false=>exact df k)))⟩
theorem qF{a b:C}{b1 b2:Bool}(d:Pc l σ a b1)(c:b1=false->Pc l σ b b2):Pc l σ (.or (.cons a (.cons b .nil))) (b1||b2):=⟨λ_ K k=>E3 (jC (d.run _ _ (by
 cases b1 with
 |true=>exact eJ k
 |false=>exact df (jC ((c rfl).run _ _ (by cases b2 with|true=>exact eJ k|false=>exact df (sT k)))))))⟩
theorem iA{a:C}{b:CS}(c:Pc l σ a false):Pc l σ (.and (.cons a b)) false:=⟨λ_ K k=>by with_unfolding_all exact c.run _ _ (df k)⟩
theorem iy{a:C}{c:CS}{b:Bool}(f:Pc l σ a true)(d:Pc l σ (.and c) b):Pc l σ (.and (.cons a c)) b:=⟨λ_ K k=>by with_unfolding_all exact f.run _ _ (eJ (d.run _ _ k))⟩
theorem D3{a:C}{b:CS}(c:Pc l σ a true):Pc l σ (.or (.cons a b)) true:=⟨λ_ K k=>by with_unfolding_all exact c.run _ _ (eJ k)⟩
theorem Eu{a:C}{c:CS}{b:Bool}(f:Pc l σ a false)(d:Pc l σ (.or c) b):Pc l σ (.or (.cons a c)) b:=⟨λ_ K k=>by with_unfolding_all exact f.run _ _ (df (d.run _ _ k))⟩
theorem aS(h:Pe l σ e v)(k:K v σ):Gx cal e l σ K:=h.run _ _ k
theorem BS{es:XS}{vs:List AV}{P:List AV->Hp->Prop}(h:Ps l σ es vs)(k:P vs σ):tm cal es l σ P:=h.run _ _ k
theorem hF{c:C}{b:Bool}{P:Bool->Hp->Prop}(h:Pc l σ c b)(k:P b σ):Gc cal c l σ P:=h.run _ _ k
theorem bG{i:Nat}(h:Pe l σ e v)(k:Go cal Z (l.set i v) σ Q):Go cal (.cons (.asg i e) Z) l σ Q:=az (h.run _ _ k)
theorem fN(h:Pe l σ e v)(k:Q (.ret v) l σ):Go cal (.cons (.ret e) Z) l σ Q:=fe (h.run _ _ k)
theorem jd{c:C}{a b:SS}{t:Bool}(h:Pc l σ c t)(k1:t=true->Go cal a l σ (Kt cal Z Q))(k2:t=false->Go cal b l σ (Kt cal Z Q)):Go cal (.cons (.ite c a b) Z) l σ Q:=bK (h.run _ _ ⟨k1,k2⟩)
theorem dX{c:C}{a b:SS}{p:Prop}[Decidable p](h:Pc l σ c (decide p))(k1:p->Go cal a l σ (Kt cal Z Q))(k2:¬p->Go cal b l σ (Kt cal Z Q)):Go cal (.cons (.ite c a b) Z) l σ Q:=bK (h.run _ _ (br k1 k2))
theorem EO{c:C}{a b:SS}(h:Pc l σ c true)(k1:Go cal a l σ (Kt cal Z Q)):Go cal (.cons (.ite c a b) Z) l σ Q:=bK (h.run _ _ (eJ k1))
theorem Ba{c:C}{a b:SS}(h:Pc l σ c false)(k1:Go cal b l σ (Kt cal Z Q)):Go cal (.cons (.ite c a b) Z) l σ Q:=bK (h.run _ _ (df k1))
theorem gE{c:C}{a:SS}{t:Bool}(h:Pc l σ c t)(n:t=false)(k1:Go cal Z l σ Q):Go cal (.cons (.ite c a .nil) Z) l σ Q:=bK (h.run _ _ (by rw[n];exact df (ak (cq k1))))
theorem q7{c:C}{a:SS}{p:Prop}[Decidable p](h:Pc l σ c (decide p))(n:¬p)(k1:Go cal Z l σ Q):Go cal (.cons (.ite c a .nil) Z) l σ Q:=gE h (decide_eq_false n) k1
theorem iZ{o:X}{f c:Nat}{fs:List (Nat×AV)}(h:Pe l σ e v)(a:Pe l σ o (.ref r))(g:σ r=some (false,.inst c fs))(w:F.fo c f=true)(n:Nat.ble fs.length 100=true)(k:Go cal Z l (upd σ r (false,.inst c (gF f v fs))) Q):Go cal (.cons (.setA o f e) Z) l σ Q:=zF (h.run _ _ (a.run _ _ (AP g w n k)))
theorem MR{i:Nat}(g:get l i=.int x)(h:Pe l σ e (.int y))(k:Go cal Z (l.set i (.int (x+y))) σ Q):Go cal (.cons (.aug i .add e) Z) l σ Q:=yd g (h.run _ _ k)
theorem Nf{i:Nat}(g:get l i=.int x)(h:Pe l σ e (.int y))(k:Go cal Z (l.set i (.int (x-y))) σ Q):Go cal (.cons (.aug i .sub e) Z) l σ Q:=yd g (h.run _ _ k)
theorem E9{i:Nat}(g:get l i=.int x)(h:Pe l σ e (.int y))(c: -(2 ^ 62)<x/\x<2 ^ 62)(k:Go cal Z (l.set i (.int (x*y))) σ Q):Go cal (.cons (.aug i .mul e) Z) l σ Q:=yd g (h.run _ _ ⟨c,k⟩)
theorem uX{o:X}(a:Pe l σ o (.ref r))(h:Pe l σ e v)(g:σ r=some (false,.list xs))(n:xs.length<=9000)(k:Go cal Z l (upd σ r (false,.list (xs++[v]))) Q):Go cal (.cons (.ex (.bm .append o (.cons e .nil))) Z) l σ Q:=
 dL (iH (a.run _ _ (ja g rfl (aj (h.run _ _ (aD (dQ g n k)))))))
theorem Mu{o:X}(a:Pe l (upd σ r (false,.list xs)) o (.ref r))(h:Pe l (upd σ r (false,.list xs)) e v)(n:xs.length<=9000)(k:Go cal Z l (upd σ r (false,.list (xs++[v]))) Q):Go cal (.cons (.ex (.bm .append o (.cons e .nil))) Z) l (upd σ r (false,.list xs)) Q:=
 uX a h ab n (by rw[lM];exact k)
theorem Me{o:X}{f c:Nat}{fs:List (Nat×AV)}(h:Pe l (upd σ r (false,.inst c fs)) e v)(a:Pe l (upd σ r (false,.inst c fs)) o (.ref r))(w:F.fo c f=true)(n:Nat.ble fs.length 100=true)(k:Go cal Z l (upd σ r (false,.inst c (gF f v fs))) Q):Go cal (.cons (.setA o f e) Z) l (upd σ r (false,.inst c fs)) Q:=
 iZ h a ab w n (by rw[lM];exact k)
theorem EZ{o:X}{f c:Nat}{fs:List (Nat×AV)}(a:Pe l σ o (.ref r))(h:Pe l σ e (.int y))(g:σ r=some (false,.inst c fs))(w:fp fs f=some (.int x))(q:F.fo c f=true)(n:Nat.ble fs.length 100=true)(k:Go cal Z l (upd σ r (false,.inst c (gF f (.int (x+y)) fs))) Q):Go cal (.cons (.augA o f .add e) Z) l σ Q:=
 DN (a.run _ _ (OU g w q (h.run _ _ (Cs (yx (AP g q n k))))))
theorem KJ{o:X}{f c:Nat}{fs:List (Nat×AV)}(a:Pe l (upd σ r (false,.inst c fs)) o (.ref r))(h:Pe l (upd σ r (false,.inst c fs)) e (.int y))(w:fp fs f=some (.int x))(q:F.fo c f=true)(n:Nat.ble fs.length 100=true)(k:Go cal Z l (upd σ r (false,.inst c (gF f (.int (x+y)) fs))) Q):Go cal (.cons (.augA o f .add e) Z) l (upd σ r (false,.inst c fs)) Q:=
 EZ a h ab w q n (by rw[lM];exact k)
theorem aW{f:Nat}{es:XS}{vs:List AV}(h:Ps l σ es vs)(k:cal (F.fa f) vs σ K):Gx cal (.fn f es) l σ K:=At (h.run _ _ k)
theorem aV{o:X}{g c f:Nat}{es:XS}{vs:List AV}{fs:List (Nat×AV)}(b:Pe l σ o (.ref r))(h:σ r=some (fz,.inst c fs))(m:F.mt c g=some f)(a:(fs.all λp=>F.fo c p.1)=true)(hs:Ps l σ es vs)(k:cal (F.fa f) (.ref r::vs) σ K):Gx cal (.mth o g es) l σ K:=
 fO (b.run _ _ (fU h m a (hs.run _ _ k)))
theorem fR{c g:Nat}{es:XS}{vs:List AV}(hs:Ps l σ es vs)(m:F.mi c=some g)(k:∀r,σ r=none->cal (F.fa g) (.ref r::vs) (upd σ r (false,.inst c [])) (MW K r)):Gx cal (.mk c es) l σ K:=GR (hs.run _ _ (MA m k))
theorem OW{c:Nat}(m:F.mi c=none)(k:∀r,σ r=none->K (.ref r) (upd σ r (false,.inst c []))):Gx cal (.mk c .nil) l σ K:=GR (aD (L6 m k))
theorem a8{es:XS}{vs:List AV}(hs:Ps l σ es vs)(n:Nat.ble vs.length 9000=true)(k:∀r,σ r=none->K (.ref r) (upd σ r (false,.list vs))):Gx cal (.lst es) l σ K:=uB (hs.run _ _ (uF n k))
theorem fu{es:XS}{vs:List AV}(hs:Ps l σ es vs)(n:Nat.ble vs.length 9000=true)(k:∀r,σ r=none->K (.ref r) (upd σ r (true,.tup vs))):Gx cal (.tup es) l σ K:=oP (hs.run _ _ (oG n k))
theorem mY{i:Nat}{P:aG->Prop}(k:P (l.set i v)):eZ [i] v l σ P:=k
theorem ay{v:AV}{Q:PX}(h:Q v σ):cO Q (.ret v) l σ:=cU (Wk.refl σ) h
theorem pQ{v:AV}{c:Bool×AO}{Q:PX}(a:σ r=none)(h:Q v σ):cO Q (.ret v) l (upd σ r c):=cU (jX a) h
section
variable {A:Type}
theorem GY{r:Addr}{fz:Bool}{xs:List AV}{c:List Nat}{b:SS}(L:A->aG)(H:A->Hp)(P:List AV->A->Prop)(a:A)(j:L a=l)(n:H a=σ)(h:σ r=some (fz,.list xs))(len:xs.length<=9000)(g:∀d a,P d a->vF r xs (H a))(m:P xs a)
  (step:∀v r a (R:aG->Hp->Prop),P (v::r) a->(∀f,P r f->R (L f) (H f))->eZ c v (L a) (H a) λk=>Go cal b k (H a) (Kw cal R Z Q)) (done:∀a,P [] a->Go cal Z (L a) (H a) Q):sZ cal c b Z Q (.ref r) l σ:=by
 refine HQ (λd l σ=>∃a,l=L a/\σ=H a/\P d a) h (bN len) ?_ ⟨a,j.symm,n.symm,m⟩ ?_ ?_
 ·rintro d l σ ⟨a,rfl,rfl,p⟩;exact g d a p
 ·rintro v r l σ R ⟨a,rfl,rfl,p⟩ i;exact step v r a R p λf o=>i _ _ ⟨f,rfl,rfl,o⟩
 ·rintro l σ ⟨a,rfl,rfl,p⟩;exact done a p
theorem gB{B:Type}{r:Addr}{fz:Bool}{i:List Nat}{b:SS}(bs:List B)(g:B->AV)(L:A->aG)(H:A->Hp)(P:List B->A->Prop)(a:A)(o:L a=l)(t:H a=σ)(h:σ r=some (fz,.list (bs.map g)))(len:bs.length<=9000)(m:∀d a,P d a->vF r (bs.map g) (H a))(s:P [] a)
  (step:∀c f d a (R:aG->Hp->Prop),bs=c++f::d->P c a->(∀j,P (c++[f]) j->R (L j) (H j))->eZ i (g f) (L a) (H a) λq=>Go cal b q (H a) (Kw cal R Z Q)) (done:∀a,P bs a->Go cal Z (L a) (H a) Q):sZ cal i b Z Q (.ref r) l σ:=by
 refine GY L H (λk a=>∃c d,k=d.map g/\bs=c++d/\P c a) a o t h (by rw[List.length_map];exact len) ?_ ⟨[],bs,rfl,rfl,s⟩ ?_ ?_
 ·rintro d a ⟨c,k,_,_,p⟩;exact m c a p
 ·rintro v k a R ⟨c,d,U,O,p⟩ n
  cases d with
  |nil=>cases U
  |cons f d=>
   obtain⟨rfl,rfl⟩:=List.cons.inj U
   exact step c f d a R O p λj u=>n j ⟨c++[f],d,rfl,by rw[O,List.append_assoc];rfl,u⟩
 ·rintro a ⟨c,d,U,O,p⟩
  cases d with
  |nil=>rw[List.append_nil]at O;subst O;exact done a p
  |cons f d=>cases U
theorem jM{t:Nat}{lo hi:Int}{b:SS}(L:A->aG)(H:A->Hp)(P:Int->A->Prop)(a:A)(f:L a=l)(j:H a=σ)(h:0<=lo/\lo<=9000/\0<=hi/\hi<=9000)(g:P lo a)
  (step:∀i a (R:aG->Hp->Prop),lo<=i->i<hi->P i a->(∀c,P (i+1) c->R (L c) (H c))->Go cal b ((L a).set t (.int i)) (H a) (Kw cal R Z Q)) (done:∀i a,lo<=i->hi<=i->(i=lo∨i=hi)->P i a->Go cal Z (L a) (H a) Q):we cal t true b Z Q (.int lo) (.int hi) l σ:=by
 refine Gl (λi l σ=>∃a,l=L a/\σ=H a/\P i a) h ⟨a,f.symm,j.symm,g⟩ ?_ ?_
 ·rintro i l σ R g1 g2 ⟨a,rfl,rfl,p⟩ d;exact step i a R g1 g2 p λc k=>d _ _ ⟨c,rfl,rfl,k⟩
 ·rintro i l σ g1 g2 g3 ⟨a,rfl,rfl,p⟩;exact done i a g1 g2 g3 p
theorem DC{t:Nat}{hi:Int}{b:SS}(L:A->aG)(H:A->Hp)(P:Int->A->Prop)(a:A)(f:L a=l)(j:H a=σ)(h: -1<=hi/\hi<=9000)(g:P hi a)
  (step:∀i a (R:aG->Hp->Prop),0<=i->i<=hi->P i a->(∀c,P (i-1) c->R (L c) (H c))->Go cal b ((L a).set t (.int i)) (H a) (Kw cal R Z Q)) (done:∀a,P (-1) a->Go cal Z (L a) (H a) Q):we cal t false b Z Q (.int hi) (.int (-1)) l σ:=by
 refine FA (λi l σ=>∃a,l=L a/\σ=H a/\P i a) h ⟨a,f.symm,j.symm,g⟩ ?_ ?_
 ·rintro i l σ R g1 g2 ⟨a,rfl,rfl,p⟩ d;exact step i a R g1 g2 p λc k=>d _ _ ⟨c,rfl,rfl,k⟩
 ·rintro l σ ⟨a,rfl,rfl,p⟩;exact done a p
theorem mH{c:C}{b:SS}(L:A->aG)(H:A->Hp)(P:A->Prop)(m:A->Nat)(a:A)(f:L a=l)(h:H a=σ)(g:P a)
  (step:∀a (R:aG->Hp->Prop),P a->(∀d,P d->m d<m a->R (L d) (H d))->Gc cal c (L a) (H a) λt N=>(t=true->Go cal b (L a) N (Kw cal R Z Q))/\(t=false->Go cal Z (L a) N Q)):Go cal (.cons (.whl c b) Z) l σ Q:=by
 refine He (λn l σ=>∃a,l=L a/\σ=H a/\P a/\n=m a) (m a) ⟨a,f.symm,h.symm,g,rfl⟩ ?_
 rintro n l σ ⟨a,rfl,rfl,p,rfl⟩
 exact step a _ p λd i lt=>⟨m d,lt,d,rfl,rfl,i,rfl⟩
theorem eP{B:Type}{r:Addr}{fz:Bool}{k:List Nat}{b:SS}(bs:List B)(g:B->AV)(L:A->aG)(P:List B->A->Hp->Prop)(a:A)(q:L a=l)(h:σ r=some (fz,.list (bs.map g)))(len:bs.length<=9000)(n:∀d a i,P d a i->vF r (bs.map g) i)(t:P [] a σ)
  (step:∀c f d a i (R:aG->Hp->Prop),bs=c++f::d->P c a i->(∀m j,P (c++[f]) m j->R (L m) j)->eZ k (g f) (L a) i λs=>Go cal b s i (Kw cal R Z Q)) (done:∀a i,P bs a i->Go cal Z (L a) i Q):sZ cal k b Z Q (.ref r) l σ:=
 gB bs g (λa:A×Hp=>L a.1) Prod.snd (λd a=>P d a.1 a.2) (a,σ) q rfl h len (λd a=>n d a.1 a.2) t (λc f d a R e p o=>step c f d a.1 a.2 R e p λm j u=>o (m,j) u) λa=>done a.1 a.2
theorem dO{t:Nat}{lo hi:Int}{b:SS}(L:A->aG)(P:Int->A->Hp->Prop)(a:A)(h:L a=l)(k:0<=lo/\lo<=9000/\0<=hi/\hi<=9000)(j:P lo a σ)
  (step:∀i a d (R:aG->Hp->Prop),lo<=i->i<hi->P i a d->(∀f c,P (i+1) f c->R (L f) c)->Go cal b ((L a).set t (.int i)) d (Kw cal R Z Q)) (done:∀i a d,lo<=i->hi<=i->(i=lo∨i=hi)->P i a d->Go cal Z (L a) d Q):we cal t true b Z Q (.int lo) (.int hi) l σ:=
 jM (λa:A×Hp=>L a.1) Prod.snd (λi a=>P i a.1 a.2) (a,σ) h rfl k j (λi a R g1 g2 p g=>step i a.1 a.2 R g1 g2 p λf c m=>g (f,c) m) λi a=>done i a.1 a.2
theorem Cq{c:C}{b:SS}(L:A->aG)(P:A->Hp->Prop)(m:A->Nat)(a:A)(i:L a=l)(h:P a σ)
  (step:∀a τ (R:aG->Hp->Prop),P a τ->(∀f d,P f d->m f<m a->R (L f) d)->Gc cal c (L a) τ λt N=>(t=true->Go cal b (L a) N (Kw cal R Z Q))/\(t=false->Go cal Z (L a) N Q)):Go cal (.cons (.whl c b) Z) l σ Q:=
 mH (λa:A×Hp=>L a.1) Prod.snd (λa=>P a.1 a.2) (λa=>m a.1) (a,σ) i rfl h λa R p j=>step a.1 a.2 R p λf d g lt=>j (f,d) g lt
end
def Kj(R:aG->Hp->Prop)(Q:Fl->aG->Hp->Prop):Fl->aG->Hp->Prop:=λf l σ=>match f with
 |.next=>R l σ
 |f=>Q f l σ
theorem bk{R:aG->Hp->Prop}(h:R l σ):Kj R Q .next l σ:=h
theorem M6{R:aG->Hp->Prop}{v:AV}(h:Q (.ret v) l σ):Kj R Q (.ret v) l σ:=h
theorem bB{A:Type}{c:C}{a b:SS}(L:A->aG)(P:A->Hp->Prop)(h:∀R:aG->Hp->Prop,(∀a d,P a d->R (L a) d)->Gc cal c l σ λt N=>(t=true->Go cal a l N (Kj R Q))/\(t=false->Go cal b l N (Kj R Q)))(rest:∀a d,P a d->Go cal Z (L a) d Q):Go cal (.cons (.ite c a b) Z) l σ Q:=
 bK (h (λl σ=>Go cal Z l σ Q) rest)
theorem zS{r:Addr}{c:Bool×AO}(w:Wk N σ):Wk (upd N r c) (upd σ r c):=λa d e=>by
 by_cases h:a=r
 ·subst h;rw[ab]at e ⊢;exact⟨_,rfl,congrArg Prod.snd (Option.some.inj e),λh=>by rw[←Option.some.inj e];exact h⟩
 ·rw[ac h]at e ⊢;exact w a d e
end
theorem PR{l:aG}{σ:Hp}{a b:C}{b1 b2:Bool}(d:Pc l σ a b1)(c:Pc l σ b b2):Pc l σ (.and (.cons a (.cons b .nil))) (b1&&b2):=xg d λ_=>c
theorem PC{l:aG}{σ:Hp}{a b:C}{b1 b2:Bool}(d:Pc l σ a b1)(c:Pc l σ b b2):Pc l σ (.or (.cons a (.cons b .nil))) (b1||b2):=qF d λ_=>c
theorem NZ{l:aG}{σ:Hp}{U O:X}{x y:Int}(b:Pe l σ U (.int x))(a:Pe l σ O (.int y))(c:decide (0<y/\y<2 ^ 30)=true):Pe l σ (.bin .fdiv U O) (.int (x/y)):=dY b a (of_decide_eq_true c)
theorem NW{l:aG}{σ:Hp}{U O:X}{x y:Int}(b:Pe l σ U (.int x))(a:Pe l σ O (.int y))(c:decide (0<y)=true):Pe l σ (.bin .mod U O) (.int (x%y)):=cH b a (of_decide_eq_true c)
set_option compiler.extract_closed false
section
open Lean
def wr(k:Name)(a:List Syntax):Syntax:=.node .none k a.toArray
def KG(a:List Syntax):Syntax:=wr `Lean.Parser.Tactic.tacticSeq [wr `Lean.Parser.Tactic.tacticSeq1Indented [wr `null (a.intersperse .missing)]]
def O2(c:Char):Syntax:=if c=='u' then wr `Lean.Parser.Tactic.withUnfoldingAll [.missing,KG [wr `Lean.Parser.Tactic.exact [.missing,mkIdent `rfl]]] else wr (if c=='e' then `Lean.Parser.Tactic.left else if c=='l' then `Lean.Parser.Tactic.tacticInfer_instance else if c=='s' then `Lean.Parser.Tactic.tacticNofun else if c=='a' then `Lean.Parser.Tactic.assumption else `tacticKernel_rfl) []
def Ri(s:String):Syntax:=wr `group [.missing,KG ((λw=>if w.headD ""=="" then w.tail.flatMap λb=>b.toList.map O2 else wr `Lean.Parser.Tactic.apply [.missing,mkIdent (w.headD "").toName]::w.tail.flatMap λb=>b.toList.map O2) (s.splitOn " "))]
def IF(s:String):Syntax:=wr `Lean.Parser.Tactic.withReducible [.missing,KG [wr `Lean.Parser.Tactic.first [.missing,wr `null ((s.splitOn "|").map Ri)]]]
end
end
local macro_rules |`(tactic|infer_instance)=>pure (IF " a| u|Nat.le_of_ble_eq_true u")
local macro_rules |`(tactic|nofun)=>pure (IF "ab| a|ag as|aq as|gP as|cP ss")
local macro_rules |`(tactic|left)=>pure (IF "aT|bo l|ud eskl|ub el|ir el|jB ees|cI eel|ff eel|kx eesll|MM esl|Kk el|tT eell|NZ eek|NW eek|xZ el|K1 ee|aQ|ax ee|bR e|wO e|PR ee|PC ee|xc esl")
local macro_rules |`(tactic|right)=>pure (wr `Lean.Parser.Tactic.tacticRepeat_ [.missing,KG [IF "bG e|fN e|Me eekl|iZ eeskl|Mu eel|uX eesl|MR le|Nf le|KJ eelkl|EZ eeslkl|mY|eJ|df|ua|PJ|C2|ak|cq|BL|Qy|vA|AN|FS|kj_b|kj_c|M6|wu|az|dL|fe|zF|dC|th|DN|Ei|LQ|mK|g8|aW e|aV eslke|OW l|fR el|a8 el|fu el|AP skl|aS e"]])
section
variable {ext:bj}
noncomputable def bv:Nat->List UInt8
 |0=>[]
 |1=>[97]
 |2=>[97,0]
 |_=>[98]
noncomputable def kT(u s k:Nat):List UInt8:=bv u++[UInt8.ofNat k,UInt8.ofNat s,0,0,0,0,0,0]
theorem uw:∀{u:Nat},(bv u).length<=2
 |0=>Nat.le_of_ble_eq_true rfl
 |1=>Nat.le_of_ble_eq_true rfl
 |2=>Nat.le_of_ble_eq_true rfl
 |_+3=>Nat.le_of_ble_eq_true rfl
theorem nB{u:Nat}:(bv u).length<=9000:=Nat.le_trans uw (Nat.le_of_ble_eq_true rfl)
theorem pr{u s k:Nat}:(kT u s k).length=(bv u).length+8:=by unfold kT;rw[List.length_append];rfl
theorem zT{u s k:Nat}:(kT u s k).length<=9000:=by rw[pr];exact Nat.le_trans (Nat.add_le_add_right uw 8) (Nat.le_of_ble_eq_true rfl)
theorem CN{u s k:Nat}:¬(((kT u s k).length:Int)<8):=by rw[pr];exact fX (z1 [_] MB It rfl (cz _))
theorem ux{u s k:Nat}:((kT u s k).length:Int)-8=((bv u).length:Nat):=by rw[pr];exact Int.add_sub_cancel (bv u).length 8
theorem gX{u s k j:Nat}:(kT u s k)[(bv u).length+j]?=[UInt8.ofNat k,UInt8.ofNat s,0,0,0,0,0,0][j]?:=by
 unfold kT;rw[List.getElem?_append_right (Nat.le_add_right _ _),Nat.add_sub_cancel_left]
theorem bO{n u s k:Nat}{σ:Hp}{Q:PX}(h:Q (.bytes (bv u)) σ):cB ext (n+1) (F.fa 17) [.bytes (kT u s k)] σ Q:=by
 refine aB (l:=[.bytes (kT u s k)]) Lg rfl rfl ?_;show Go _ JI _ _ _;delta JI
 have a:=zT (u:=u) (s:=s) (k:=k)
 refine q7 (by left) CN ?_
 right
 exact aS (xZ (aU (Hc (by left) (aU (by left) (congrArg AV.int ux)) a nB) (congrArg AV.bytes List.take_left)) nB) (ay h)
structure Rk(u s k:Nat):Prop where
 u:u<4
 s:s<10
 k:k<2
noncomputable def cx(s k:Nat):Int:=s*256+k
theorem M3:∀k,k<2->∀s,s<10->Builtin.bitOr (Builtin.bitOr (Builtin.bitOr ((UInt8.ofNat k).toNat:Int) (((UInt8.ofNat s).toNat:Int)*2 ^ (8:Int).toNat)) (((0:UInt8).toNat:Int)*2 ^ (16:Int).toNat)) (((0:UInt8).toNat:Int)*2 ^ (24:Int).toNat)=cx s k:=by decide+kernel
theorem ME:∀k,k<2->∀s,s<10->Builtin.bitOr (cx s k) (cx 0 0*2 ^ (32:Int).toNat)=cx s k:=by decide+kernel
theorem LB(u:UInt8)(n:Int)(h:0<=n/\n<=100):0<=n/\n<=100/\((u.toNat:Int)).natAbs<2 ^ 64:=⟨h.1,h.2,by rw[Int.natAbs_natCast];exact Nat.lt_of_lt_of_le (UInt8.toNat_lt u) (Nat.le_of_ble_eq_true rfl)⟩
theorem pB{b:List UInt8}{i:Nat}{u:UInt8}(h:b[i]?=some u):LV b i=some (u.toNat:Int):=by show(match b[i]? with|some u=>some (u.toNat:Int)|none=>none)=_;rw[h]
theorem xw{b:List UInt8}{i:Nat}{u:UInt8}(h:b[i]?=some u):i<b.length:=(be h).1
theorem rU{i:Nat}:¬((i:Int)<0):=fX (Int.natCast_nonneg i)
theorem oM{n k s i:Nat}{b:List UInt8}{σ:Hp}{Q:PX}(g:k<2)(hs:s<10)(a:b.length<=9000)(e:b[i]?=some (UInt8.ofNat k))(f:b[i+1]?=some (UInt8.ofNat s))(d:b[i+2]?=some 0)(c:b[i+3]?=some 0)
  (h:Q (.int (cx s k)) σ):cB ext (n+1) (F.fa 12) [.bytes b,.int i] σ Q:=by
 refine aB (l:=[.bytes b,.int i]) MY rfl rfl ?_;show Go _ Je _ _ _;delta Je
 have f2:¬((b.length:Int)<(i:Int)+4):=fX (bF (xw c))
 refine gE (by left) (kI rU f2) ?_
 exact fN (aU (cI (cI (cI (tT (by left) (by left) a (pB e)) (qe (tT (by left) (by left) a (pB f)) aT (LB _ _ (by decide))) rfl) (qe (tT (by left) (by left) a (pB d)) aT (LB _ _ (by decide))) rfl)
  (qe (tT (by left) (by left) a (pB c)) aT (LB _ _ (by decide))) rfl) (congrArg AV.int (M3 k g s hs))) (ay h)
theorem vX{n k s i:Nat}{b:List UInt8}{σ:Hp}{Q:PX}(d:k<2)(hs:s<10)(c:b.length<=9000)(j:b[i]?=some (UInt8.ofNat k))(m:b[i+1]?=some (UInt8.ofNat s))(g:b[i+2]?=some 0)(o:b[i+3]?=some 0)
  (p:b[i+4]?=some 0) (f:b[i+5]?=some 0) (e:b[i+6]?=some 0) (a:b[i+7]?=some 0) (h:Q (.int (cx s k)) σ):cB ext (n+2) (F.fa 13) [.bytes b,.int i] σ Q:=by
 refine aB (l:=[.bytes b,.int i]) L7 rfl rfl ?_;show Go _ IB _ _ _;delta IB
 have f2:¬((b.length:Int)<(i:Int)+8):=fX (bF (xw a))
 refine gE (by left) (kI rU f2) (fe (dk (aW (by left) (oM d hs c j m g o (dk (aW (by left) (oM (i:=i+4) (s:=0) (k:=0) (by decide) (by decide) c p f e a ?_)))))))
 refine iK (Gg (by decide) (G0 ?_))
 rw[ME k d s hs];exact ay h
theorem tc{n u s k:Nat}{σ:Hp}{Q:PX}(hs:s<10)(b:k<2)(h:Q (.int (cx s k)) σ):cB ext (n+3) (F.fa 18) [.bytes (kT u s k)] σ Q:=by
 refine aB (l:=[.bytes (kT u s k)]) NL rfl rfl ?_;show Go _ KH _ _ _;delta KH
 have a:=zT (u:=u) (s:=s) (k:=k)
 refine q7 (by left) CN ?_
 refine fe (aW (by left) ?_)
 rw[ux]
 exact vX b hs a (gX (j:=0)) gX gX gX gX gX gX gX (ay h)
noncomputable def CC(u v:Nat):Int:=if u<v then -1 else if v<u then 1 else 0
theorem hG:∀u,u<4->∀v,v<4->(bv u<bv v↔u<v):=by decide+kernel
theorem pJ{n u v:Nat}{a:Addr}{σ:Hp}{Q:PX}(c:u<4)(b:v<4)(h:Q (.int (CC u v)) σ):cB ext (n+1) (F.fa 19) [.ref a,.bytes (bv u),.bytes (bv v)] σ Q:=by
 refine aB (l:=[.ref a,.bytes (bv u),.bytes (bv v)]) MT rfl rfl ?_;show Go _ Iw _ _ _;delta Iw
 unfold CC at h
 refine dX (by left) (λe=>?_) λe=>?_
 ·right;rw[if_pos ((hG u c v b).mp e)]at h;exact ay h
 ·rw[if_neg λx=>e ((hG u c v b).mpr x)]at h
  right
  refine dX (by left) (λe=>?_) λe=>?_
  ·right;rw[if_pos ((hG v b u c).mp e)]at h;exact ay h
  ·right;rw[if_neg λx=>e ((hG v b u c).mpr x)]at h;exact ay h
noncomputable def jW(u s k v t j:Nat):Int:=if u<v then -1 else if v<u then 1 else if cx t j<cx s k then -1 else if cx s k<cx t j then 1 else 0
def sj(σ:Hp)(a:Addr):Prop:=∃b,σ a=some (true,.inst 11 [(7,.ref b)])/\σ b=some (true,.inst 10 [])
theorem eU{n u s k v t j:Nat}{a:Addr}{σ:Hp}{Q:PX}(g:sj σ a)(f:Rk u s k)(d:Rk v t j)(h:Q (.int (jW u s k v t j)) σ):cB ext (n+4) (F.fa 27) [.ref a,.bytes (kT u s k),.bytes (kT v t j)] σ Q:=by
 obtain⟨m,o,i⟩:=g
 refine aB (l:=[.ref a,.bytes (kT u s k),.bytes (kT v t j),.undef,.undef,.undef]) M1 rfl rfl ?_;show Go _ CM _ _ _;delta CM
 refine az (fO (aS (by left) (fU i rfl (by kernel_rfl) (aj (aW (by left) (bO (aj (aW (by left) (bO (aD ?_))))))))))
 refine pJ f.u d.u ?_
 unfold jW at h
 refine dX (by left) (λe=>?_) λe=>?_
 ·right
  refine ay ?_
  unfold CC at e ⊢
  by_cases c:u<v
  ·rw[if_pos c]at h ⊢;exact h
  ·rw[if_neg c]at h e ⊢
   by_cases b:v<u
   ·rw[if_pos b]at h ⊢;exact h
   ·rw[if_neg b]at e;exact(e rfl).elim
 ·right
  refine tc f.s f.k ?_
  right
  refine tc d.s d.k ?_
  unfold CC at e
  by_cases c:u<v
  ·rw[if_pos c]at e;exact(e (by decide)).elim
  ·rw[if_neg c]at h e
   by_cases b:v<u
   ·rw[if_pos b]at e;exact(e (by decide)).elim
   ·rw[if_neg b]at h
    refine dX (by left) (λe=>?_) λe=>?_
    ·right;rw[if_pos e]at h;exact ay h
    ·rw[if_neg e]at h
     right
     refine dX (by left) (λe=>?_) λe=>?_
     ·right;rw[if_pos e]at h;exact ay h
     ·right;rw[if_neg e]at h;exact ay h
end
section
variable {ext:bj}
theorem FQ:∀k,k<2->∀s,s<10->EM [.int (Builtin.bitAnd (cx s k) 255),.int (Builtin.bitAnd ((cx s k).fdiv (2 ^ (8:Int).toNat)) 255),.int (Builtin.bitAnd ((cx s k).fdiv (2 ^ (16:Int).toNat)) 255),.int ((cx s k).fdiv (2 ^ (24:Int).toNat))]=some [UInt8.ofNat k,UInt8.ofNat s,0,0]:=by decide+kernel
theorem Ez:∀k,k<2->∀s,s<10->Builtin.bitAnd (cx s k) 4294967295=cx s k:=by decide+kernel
theorem E2:∀k,k<2->∀s,s<10->(cx s k).fdiv (2 ^ (32:Int).toNat)=cx 0 0:=by decide+kernel
theorem CV:∀k,k<2->∀s,s<10->¬cx s k<0/\¬4294967295<cx s k/\¬18446744073709551615<cx s k:=by decide+kernel
theorem rT{n s k:Nat}{σ:Hp}{Q:PX}(hs:s<10)(a:k<2)(h:Q (.bytes [UInt8.ofNat k,UInt8.ofNat s,0,0]) σ):cB ext (n+1) (F.fa 10) [.int (cx s k)] σ Q:=by
 refine aB (l:=[.int (cx s k)]) MO rfl rfl ?_;show Go _ Kf _ _ _;delta Kf
 obtain⟨g1,g2,_⟩:=CV k a s hs
 refine gE (by left) (kI g1 g2) (fe (mJ (aj (a8 (ax (cI (by left) aT rfl) (ax (cI (mV (by left) aT (by decide)) aT rfl) (ax (cI (mV (by left) aT (by decide)) aT rfl) (ax (mV (by left) aT (by decide)) aQ)))) rfl λr b=>aD ?_))))
 exact lQ ab (Nat.le_of_ble_eq_true rfl) (FQ k a s hs) (pQ b h)
theorem xK{n s k:Nat}{σ:Hp}{Q:PX}(hs:s<10)(a:k<2)(h:Q (.bytes [UInt8.ofNat k,UInt8.ofNat s,0,0,0,0,0,0]) σ):cB ext (n+2) (F.fa 11) [.int (cx s k)] σ Q:=by
 refine aB (l:=[.int (cx s k)]) Lk rfl rfl ?_;show Go _ Ki _ _ _;delta Ki
 obtain⟨g1,_,g2⟩:=CV k a s hs
 refine gE (by left) (kI g1 g2) (fe (dk (aW (ax (aU (cI (by left) aT rfl) (congrArg AV.int (Ez k a s hs))) aQ) (rT hs a
  (aW (ax (aU (mV (by left) aT (by decide)) (congrArg AV.int (E2 k a s hs))) aQ) (rT (s:=0) (k:=0) (by decide) (by decide) ?_))))))
 exact sP ⟨Nat.le_of_ble_eq_true rfl,Nat.le_of_ble_eq_true rfl⟩ (ay h)
theorem GO:∀k:Nat,k<2->∀s:Nat,s<10->Builtin.bitOr ((s:Int)*2 ^ (8:Int).toNat) (k:Int)=cx s k:=by decide+kernel
theorem Bo{n s:Nat}{σ:Hp}{Q:PX}(hs:s<10)(h:Q (.int (cx s 1)) σ):cB ext (n+1) (F.fa 14) [.int s,.int 1] σ Q:=by
 refine aB (l:=[.int s,.int 1]) Lh rfl rfl ?_;show Go _ Jo _ _ _;delta Jo
 have f2:¬((72057594037927935:Int)<(s:Int)):=by exact fX (Int.le_trans (bF (Nat.le_of_lt hs)) (by decide))
 refine gE (by left) (kI rU f2) (gE (by left) (by decide) (fN (aU (cI (qe (by left) aT ⟨by decide,by decide,?_⟩) (by left) rfl) (congrArg AV.int (GO 1 (by decide) s hs))) (ay h)))
 rw[Int.natAbs_natCast];exact Nat.lt_trans hs (by decide)
theorem B7{n u s:Nat}{σ:Hp}{Q:PX}(hs:s<10)(h:Q (.bytes (kT u s 1)) σ):cB ext (n+3) (F.fa 15) [.bytes (bv u),.int s,.int 1] σ Q:=by
 refine aB (l:=[.bytes (bv u),.int s,.int 1]) MJ rfl rfl ?_;show Go _ Ka _ _ _;delta Ka
 refine fe (dk (aS (xZ (by left) nB) (At (aj (aW (by left) (Bo hs (aD (xK (k:=1) hs (by decide) ?_))))))))
 exact sP ⟨nB,Nat.le_of_ble_eq_true rfl⟩ (ay h)
theorem Dv:∀k:Nat,k<2->∀s:Nat,s<10->Builtin.bitAnd (cx s k) 255=(k:Int):=by decide+kernel
theorem EL:∀k:Nat,k<2->∀s:Nat,s<10->(cx s k).fdiv (2 ^ (8:Int).toNat)=(s:Int):=by decide+kernel
theorem rL{n u s k:Nat}{σ:Hp}{Q:PX}(hs:s<10)(a:k<2)(h:∀r,σ r=none->Q (.ref r) (upd σ r (true,.tup [.bytes (bv u),.int s,.int k]))):cB ext (n+4) (F.fa 16) [.bytes (kT u s k)] σ Q:=by
 refine aB (l:=[.bytes (kT u s k),.undef,.undef,.undef]) Lc rfl rfl ?_;show Go _ Cu _ _ _;delta Cu
 refine az (aW (by left) (bO (az (aW (by left) (tc hs a (bG (aU (cI (by left) aT rfl) (congrArg AV.int (Dv k a s hs))) ?_))))))
 have f:¬((1:Int)<(k:Int)):=fX (bF (Nat.le_of_lt_succ a))
 refine q7 (by left) f (fe (fu (ax (by left) (ax (aU (mV (by left) aT (by decide)) (congrArg AV.int (EL k a s hs))) (ax (by left) aQ))) rfl λr b=>ay (h r b)))
structure Rw where
 u:Nat
 s:Nat
 k:Nat
 adr:Addr
def Rw.ok(r:Rw):Prop:=Rk r.u r.s r.k
noncomputable def Rw.b(r:Rw):List UInt8:=kT r.u r.s r.k
noncomputable def dD(a b:Rw):Int:=jW a.u a.s a.k b.u b.s b.k
structure FM where
 adr:Addr
 num:Nat
 size:Int
 lo:Rw
 hi:Rw
 rows:List Rw
noncomputable abbrev FM.v(f:FM):AV:=.ref f.adr
def FM.ok(f:FM):Prop:=f.lo.ok/\f.hi.ok
def Fz(σ b:Hp):Prop:=∀a o,σ a=some (true,o)->b a=some (true,o)
theorem Fz.refl(σ:Hp):Fz σ σ:=λ_ _ h=>h
theorem Fz.trans{σ b c:Hp}(h:Fz σ b)(k:Fz b c):Fz σ c:=λa o e=>k a o (h a o e)
theorem Fz.new{σ:Hp}{r:Addr}{c:Bool×AO}(h:σ r=none):Fz σ (upd σ r c):=λ_ _ e=>ag h e
theorem Fz.mut{σ:Hp}{r:Addr}{y:AO}{c:Bool×AO}(h:σ r=some (false,y)):Fz σ (upd σ r c):=λ_ _ e=>cP h e
def aK(σ b:Hp):Prop:=∀a c,σ a=some c->b a=some c
theorem aK.refl(σ:Hp):aK σ σ:=λ_ _ h=>h
theorem aK.trans{σ b c:Hp}(h:aK σ b)(k:aK b c):aK σ c:=λa o e=>k a o (h a o e)
theorem aK.new{σ:Hp}{r:Addr}{c:Bool×AO}(h:σ r=none):aK σ (upd σ r c):=λ_ _ e=>ag h e
theorem aK.fz{σ b:Hp}(h:aK σ b):Fz σ b:=λa o e=>h a _ e
theorem aK.nn{σ b:Hp}(h:aK σ b){a:Addr}(e:b a=none):σ a=none:=by
 cases g:σ a with
 |none=>rfl
 |some c=>rw[h a c g]at e;cases e
theorem aK.wk{σ b:Hp}(h:aK σ b):Wk σ b:=λa c e=>⟨c,h a c e,rfl,id⟩
def nL(σ:Hp)(f:FM):Prop:=σ f.adr=some (true,.inst 14 [(2,.int f.num),(34,.int f.size),(30,.bytes f.lo.b),(35,.bytes f.hi.b)])
def cM(σ:Hp)(fs:List FM):Prop:=∀f∈fs,nL σ f
theorem sj.fz{σ b:Hp}{a:Addr}(h:sj σ a)(k:Fz σ b):sj b a:=by obtain⟨u,d,c⟩:=h;exact⟨u,k _ _ d,k _ _ c⟩
theorem cM.fz{σ a:Hp}{fs:List FM}(h:cM σ fs)(k:Fz σ a):cM a fs:=λf b=>k _ _ (h f b)
def pZ(fs:List FM):Prop:=∀f∈fs,f.ok
theorem BY{n:Nat}{a:Addr}{b c:Int}{lo hi:List UInt8}{σ:Hp}{Q:PX}(h:Q .none (upd σ a (true,.inst 14 [(2,.int b),(34,.int c),(30,.bytes lo),(35,.bytes hi)]))):
  cB ext (n+1) (F.fa 38) [.ref a,.int b,.int c,.bytes lo,.bytes hi] (upd σ a (false,.inst 14 [])) Q:=by
 refine aB (l:=[.ref a,.int b,.int c,.bytes lo,.bytes hi]) LK rfl rfl ?_;show Go _ Jp _ _ _;delta Jp
 right
 exact gn qa h
noncomputable def gQ:List FM->Int
 |[]=>0
 |f::r=>f.size+gQ r
theorem jL{f:FM}:∀{fs:List FM},gQ (fs++[f])=gQ fs+f.size
 |[]=>Int.add_comm _ _
 |g::r=>by show g.size+gQ (r++[f])=g.size+gQ r+f.size;rw[jL,Int.add_assoc]
theorem aP{B:Type}{bs a b:List B}{f:B}(e:bs=a++f::b):f∈bs:=e▸List.mem_append_right _ (.head _)
theorem lU{n:Nat}{b:Addr}{fz:Bool}{fs:List FM}{σ:Hp}{Q:PX}(g:σ b=some (fz,.list (fs.map FM.v)))(k:cM σ fs)(m:fs.length<=9000)(h:Q (.int (gQ fs)) σ):cB ext (n+1) (F.fa 60) [.ref b] σ Q:=by
 refine aB (l:=[.ref b,.undef,.undef]) LL rfl rfl ?_;show Go _ Jq _ _ _;delta Jq
 right
 refine gB fs FM.v (λa:Int×AV=>[.ref b,.int a.1,a.2]) (λ_=>σ) (λd a=>a.1=gQ d) (0,.undef) rfl rfl g m (λ_ _ _=>⟨_,g⟩) rfl ?_ ?_
 ·intro j f d a R e c i
  have o:σ f.adr=_:=k f (aP e)
  right
  exact aR (i (a.1+f.size,_) (by rw[jL,←c]))
 ·intro a c
  right
  rw[c]
  exact ay h
end
section
variable {ext:bj}
theorem pT{a b:Rw}(h:dD a b<0):a.u<=b.u:=by
 unfold dD jW at h
 by_cases e:a.u<b.u
 ·exact Nat.le_of_lt e
 ·rw[if_neg e]at h
  by_cases c:b.u<a.u
  ·rw[if_pos c]at h;exact absurd h (by decide)
  ·exact Nat.le_of_not_lt c
theorem pS{a b:Rw}(h:¬dD a b<0):b.u<=a.u:=by
 unfold dD jW at h
 by_cases e:a.u<b.u
 ·rw[if_pos e]at h;exact absurd (by decide) h
 ·exact Nat.le_of_not_lt e
theorem uj{a b:Rw}(h:0<dD a b):b.u<=a.u:=pS λx=>absurd (Int.lt_trans h x) (by decide)
theorem ug{a b:Rw}(h:¬0<dD a b):a.u<=b.u:=by
 unfold dD jW at h
 by_cases e:a.u<b.u
 ·exact Nat.le_of_lt e
 ·rw[if_neg e]at h
  by_cases c:b.u<a.u
  ·rw[if_pos c]at h;exact absurd (by decide) h
  ·exact Nat.le_of_not_lt c
theorem ry{n:Nat}{q o:Addr}{fz:Bool}{fs:List FM}{σ:Hp}{Q:PX}(Z:σ q=some (fz,.list (fs.map FM.v)))(B:cM σ fs)(I:fs≠[])(ok:pZ fs)(V:sj σ o)(G:fs.length<=9000)
  (h:∀(lo hi:Rw) (r:Addr),lo.ok->hi.ok->(∀f∈fs,lo.u<=f.lo.u/\f.hi.u<=hi.u)->σ r=none->Q (.ref r) (upd σ r (true,.tup [.bytes lo.b,.bytes hi.b]))):cB ext (n+5) (F.fa 61) [.ref q,.ref o] σ Q:=by
 have N:(fs.map FM.v).length<=9000:=by rw[List.length_map];exact G
 cases fs with
 |nil=>exact(I rfl).elim
 |cons m fs=>
 have h5:σ m.adr=_:=B m (.head _)
 refine aB (l:=[.ref q,.ref o,.undef,.undef,.undef]) Lf rfl rfl ?_;show Go _ Iu _ _ _;delta Iu
 right
 refine GF (aS (by left) (aS (by left) (HL Z ⟨N,by decide,by decide⟩ λt s=>?_)))
 have z:=Fz.new (c:=(false,.list (fs.map FM.v))) s
 have k:=V.fz z
 obtain⟨uo,o1,o2⟩:=id k
 refine gB fs FM.v (λa:Rw×Rw×AV=>[.ref q,.ref o,.bytes a.1.b,.bytes a.2.1.b,a.2.2]) (λ_=>upd σ t (false,.list (fs.map FM.v))) (λw a=>a.1.ok/\a.2.1.ok/\(∀f,f=m∨f∈w->a.1.u<=f.lo.u/\f.hi.u<=a.2.1.u)) (m.lo,m.hi,.undef) rfl rfl ab (Nat.le_of_succ_le G) (λ_ _ _=>⟨_,ab⟩)
  ⟨(ok m (.head _)).1,(ok m (.head _)).2,λf d=>d.elim (λe=>e▸⟨Nat.le_refl _,Nat.le_refl _⟩) nM⟩ ?_ ?_
 ·intro Y g w a R e ⟨k1,k2,k3⟩ W
  have D:=List.mem_cons_of_mem m (aP e)
  have h6:=z _ _ (B g D)
  have p:=ok g D
  have fin:∀j i:Rw,j.ok->i.ok->j.u<=a.1.u->j.u<=g.lo.u->a.2.1.u<=i.u->g.hi.u<=i.u->R _ _:=λj i w1 O E K A U=>W (j,i,.ref g.adr) ⟨w1,O,λf d=>by
   rcases d with d|d
   ·exact⟨Nat.le_trans E (k3 f (.inl d)).1,Nat.le_trans (k3 f (.inl d)).2 A⟩
   ·rcases aE d with d|d
    ·exact⟨Nat.le_trans E (k3 f (.inr d)).1,Nat.le_trans (k3 f (.inr d)).2 A⟩
    ·rw[aw d];exact⟨K,U⟩⟩
  right
  refine bK (kX (cG ?_))
  right
  refine eU k p.1 k1 (iK (HT (dK (br (λx=>?_) λx=>?_))))
  ·right
   refine bK (kX (cG ?_))
   right
   refine eU k p.2 k2 (iK (zu (dK (br (λy=>?_) λy=>?_))))
   ·right;exact aR (fin g.lo g.hi p.1 p.2 (pT x) (Nat.le_refl _) (uj y) (Nat.le_refl _))
   ·right;exact aR (fin g.lo a.2.1 p.1 k2 (pT x) (Nat.le_refl _) (Nat.le_refl _) (ug y))
  ·right
   refine bK (kX (cG ?_))
   right
   refine eU k p.2 k2 (iK (zu (dK (br (λy=>?_) λy=>?_))))
   ·right;exact aR (fin a.1 g.hi k1 p.2 (Nat.le_refl _) (pS x) (uj y) (Nat.le_refl _))
   ·right;exact aR (fin a.1 a.2.1 k1 k2 (Nat.le_refl _) (pS x) (Nat.le_refl _) (ug y))
 ·intro a ⟨k1,k2,k3⟩
  right
  intro r J
  exact cU (zS (jX s)) (h a.1 a.2.1 r k1 k2 (λf d=>k3 f (au d)) (aK.nn (aK.new s) J))
def yf(σ:Hp)(p op o:Addr):Prop:=σ p=some (true,.inst 19 [(51,.ref op),(44,.ref o)])
theorem hU{n:Nat}{p op a o:Addr}{fz:Bool}{fs:List FM}{σ:Hp}{Q:PX}(g:yf σ p op o)(j:σ a=some (fz,.list (fs.map FM.v)))(i:cM σ fs)(c:fs≠[])(ok:pZ fs)(e:sj σ o)(k:fs.length<=9000)
  (h:∀(lo hi:Nat) (r:Addr),lo<4->hi<4->(∀f∈fs,lo<=f.lo.u/\f.hi.u<=hi)->σ r=none->Q (.ref r) (upd σ r (true,.tup [.bytes (bv lo),.bytes (bv hi)]))):cB ext (n+6) (F.fa 72) [.ref p,.ref a] σ Q:=by
 unfold yf at g
 refine aB (l:=[.ref p,.ref a,.undef]) Lo rfl rfl ?_;show Go _ JD _ _ _;delta JD
 right
 refine ry j i c ok e k λlo hi t k1 k2 k3 b=>?_
 refine fe (oP (aj ?_))
 right
 refine bO (aj ?_)
 right
 refine bO (aD (oG rfl λr d=>?_))
 exact cU (zS (jX b)) (h lo.u hi.u r k1.u k2.u k3 (aK.nn (aK.new b) d))
end
section
variable {ext:bj}
structure bM where
 adr:Addr
 fs:List FM
noncomputable abbrev bM.v(L:bM):AV:=.ref L.adr
structure bp where
 adr:Addr
 fl:Addr
 o:Addr
 sc:Addr
 lv:List bM
 top:Int
 bot:Int
 bl:Int
structure dN(b:Bool)(σ:Hp)(V:bp):Prop where
 v:σ V.adr=some (b,.inst 16 [(21,.int V.lv.length),(44,.ref V.o),(45,.ref V.fl),(46,.int 0),(0,.ref V.sc),(1,.int V.bl)])
 o:sj σ V.o
 fl:σ V.fl=some (b,.list (V.lv.map bM.v))
 lv:∀L∈V.lv,σ L.adr=some (b,.list (L.fs.map FM.v))
 fs:∀L∈V.lv,cM σ L.fs
 sc:σ V.sc=some (true,.tup [.int V.top,.int V.bot])
theorem dN.fz{σ b:Hp}{V:bp}(h:dN true σ V)(k:Fz σ b):dN true b V:=⟨k _ _ h.v,h.o.fz k,k _ _ h.fl,λL a=>k _ _ (h.lv L a),λL a=>(h.fs L a).fz k,k _ _ h.sc⟩
theorem dN.up{b:Bool}{σ c:Hp}{V:bp}(h:dN b σ V)(k:aK σ c):dN b c V:=⟨k _ _ h.v,h.o.fz k.fz,k _ _ h.fl,λL a=>k _ _ (h.lv L a),λL a=>(h.fs L a).fz k.fz,k _ _ h.sc⟩
structure qj(V:bp):Prop where
 n:V.lv.length<=7
 f:(V.lv.flatMap bM.fs).length<=60
theorem qj.len{V:bp}(h:qj V){L:bM}(a:L∈V.lv):L.fs.length<=60:=by
 refine Nat.le_trans ?_ h.f
 obtain⟨s,t,e⟩:=List.append_of_mem a
 rw[e,List.flatMap_append,List.flatMap_cons,List.length_append,List.length_append]
 exact Nat.le_trans (Nat.le_add_right _ _) (Nat.le_add_left _ _)
theorem bh{a b:Nat}(h:a<=b)(k:Nat.ble b 9000=true):a<=9000:=Nat.le_trans h (Nat.le_of_ble_eq_true k)
theorem bQ{B:Type}{bs:List B}{g:B->AV}{i:Nat}{f:B}(h:bs[i]?=some f):on (bs.map g) i=some (g f):=by
 show(bs.map g)[i]?=_
 rw[List.getElem?_map,h];rfl
theorem aO{B:Type}{bs:List B}{g:B->AV}(h:bs.length<=9000):(bs.map g).length<=9000:=by rw[List.length_map];exact h
structure Gs where
 n1:Nat:=0
 n2:Nat:=0
 z1:Int:=0
 z2:Int:=0
 a1:Addr:=0
 a2:Addr:=0
 v1:AV:=.undef
 v2:AV:=.undef
 v3:AV:=.undef
 v4:AV:=.undef
 o1:Option Nat:=none
 o2:Option Nat:=none
 h:Hp:=λ_=>none
noncomputable def ov:Option Nat->AV
 |none=>.none
 |some n=>.bytes (bv n)
theorem zZ{o:Option Nat}:ov o≠.undef:=by
 cases o with
 |none=>exact uN
 |some n=>exact uY
theorem e7{l:aG}{i:Nat}{v:AV}(g:get l i=v)(n:v≠.undef):bT l i=some v:=by
 unfold bT;rw[g];cases v<;>first|rfl|exact(n rfl).elim
theorem jG{l:aG}{σ:Hp}{c:C}{b:Bool}(h:Pc l σ c b):Pc l σ (.and (.cons c .nil)) b:=⟨λ_ K k=>ku (bz (h.run _ _ (by cases b with|true=>exact eJ (da k)|false=>exact df k)))⟩
theorem CT{l:aG}{σ:Hp}{i j x:Nat}{lo:Option Nat}(g:get l i=ov lo)(a:bT l j=some (.bytes (bv x)))(c:x<4)(b:∀n,lo=some n->n<4):Pc l σ (.and (.cons (.t (.cmp .isnt (.v i) (.k .none))) (.cons (.t (.cmp .lt (.v j) (.v i))) .nil))) (decide (x<lo.getD 0)):=by
 cases lo with
 |none=>rw[show decide (x<Option.getD none 0)=false from decide_eq_false (Nat.not_lt_zero x)];exact iA (bR (ir (bo (e7 g uN)) rfl))
 |some n=>
  have e:=bo (σ:=σ) (e7 g uY)
  rw[show decide (x<(some n).getD 0)=decide (bv x<bv n)from decide_eq_decide.mpr (hG x c n (b n rfl)).symm]
  exact iy (bR (ir e rfl)) (jG (bR (lI (bo a) e rfl)))
theorem CQ{l:aG}{σ:Hp}{i j x:Nat}{hi:Option Nat}(g:get l i=ov hi)(b:bT l j=some (.bytes (bv x)))(a:x<4)(c:∀n,hi=some n->n<4):Pc l σ (.and (.cons (.t (.cmp .isnt (.v i) (.k .none))) (.cons (.t (.cmp .gt (.v j) (.v i))) .nil))) (decide (hi.getD 3<x)):=by
 cases hi with
 |none=>rw[show decide (Option.getD none 3<x)=false from decide_eq_false (iJ (Nat.le_of_lt_succ a))];exact iA (bR (ir (bo (e7 g uN)) rfl))
 |some n=>
  have e:=bo (σ:=σ) (e7 g uY)
  rw[show decide ((some n).getD 3<x)=decide (bv n<bv x)from decide_eq_decide.mpr (hG n (c n rfl) x a).symm]
  exact iy (bR (ir e rfl)) (jG (bR (lI (bo b) e rfl)))
noncomputable def cK(lo hi:Nat)(f:FM):Bool:=decide (lo<=f.hi.u)&&decide (f.lo.u<=hi)
theorem sE{B:Type}{bs:List B}{i:Nat}{f:B}(h:bs[i]?=some f):bs.take (i+1)=bs.take i++[f]:=by rw[List.take_succ,h];rfl
theorem Gy{B:Type}{bs:List B}{i:Nat}{f:B}{p:B->Bool}(h:bs[i]?=some f)(y:p f=true):(bs.take (i+1)).filter p=(bs.take i).filter p++[f]:=by
 rw[sE h,List.filter_append,List.filter_cons,if_pos y];rfl
theorem uP{B:Type}{bs:List B}{i:Nat}{f:B}{p:B->Bool}(h:bs[i]?=some f)(y:p f=false):(bs.take (i+1)).filter p=(bs.take i).filter p:=by
 rw[sE h,List.filter_append,List.filter_cons,if_neg (by rw[y];exact fT)];exact List.append_nil _
theorem aK.upd{σ b:Hp}{r:Addr}{c:Bool×AO}(h:aK σ b)(n:σ r=none):aK σ (upd b r c):=λa d e=>by
 have:a≠r:=λx=>by rw[x,n]at e;cases e
 rw[ac this];exact h a d e
theorem sJ{σ b:Hp}{r:Addr}{fz:Bool}{o:AO}(h:aK σ b)(e:b r=some (fz,o)):Wk (upd σ r (true,o)) b:=λa c g=>by
 by_cases x:a=r
 ·subst x;rw[ab]at g;cases g;exact⟨_,e,rfl,λ_=>rfl⟩
 ·rw[ac x]at g;exact⟨c,h a c g,rfl,id⟩
theorem yP{lo hi:Nat}{f:FM}(h:f.hi.u<lo):cK lo hi f=false:=by unfold cK;rw[decide_eq_false (eK h)];rfl
theorem yZ{lo hi:Nat}{f:FM}(h:hi<f.lo.u):cK lo hi f=false:=by unfold cK;rw[decide_eq_false (eK h)];exact Bool.and_false _
theorem Du{lo hi:Nat}{f:FM}(h:¬f.hi.u<lo)(k:¬hi<f.lo.u):cK lo hi f=true:=by unfold cK;rw[decide_eq_true (Nat.not_lt.mp h),decide_eq_true (Nat.not_lt.mp k)];rfl
theorem GT{d b n i m j:Nat}(h:d<b)(c:j<=n):d*(n+1)+(n-j)<b*(n+1)+(m-i):=by
 have:(d+1)*(n+1)<=b*(n+1):=Nat.mul_le_mul_right _ h
 rw[Nat.succ_mul]at this
 exact n2 [_,_,_,_,_] (.le (.a (.a (.v 0) (.v 1)) (.n 1)) (.a (.v 2) (.v 3))) (.le (.a (.v 0) (.a (.v 4) (.n 1))) (.v 2)) (.le (.v 1) (.v 4)) rfl this (Nat.sub_le (n) (j))
theorem NI{B:Type}{bs:List B}{i:Nat}{p:B->Bool}{g:B->AV}(h:bs.length<=9000):(((bs.take i).filter p).map g).length<=9000:=by
 rw[List.length_map]
 exact Nat.le_trans (List.length_filter_le _ _) (Nat.le_trans (List.length_take_le' _ _) h)
theorem iw{n k:Nat}{b:Bool}{lo hi:Option Nat}{V:bp}{L:bM}{σ:Hp}{Q:PX}(hV:dN b σ V)(sm:qj V)(hk:V.lv[k]?=some L)(ok:pZ L.fs)(β:∀n,lo=some n->n<4)(γ:∀n,hi=some n->n<4)
  (h:∀o j:Nat,o<=lo.getD 0->hi.getD 3<=j->(k≠0->o=lo.getD 0/\j=hi.getD 3)->(k=0->∀f∈L.fs.filter (cK o j),o<=f.lo.u/\f.hi.u<=j)->∀r,σ r=none->Q (.ref r) (upd σ r (true,.list ((L.fs.filter (cK o j)).map FM.v)))):
  cB ext (n+2) (F.fa 45) [.ref V.adr,.int k,ov lo,ov hi] σ Q:=by
 have hL:L∈V.lv:=List.mem_of_getElem? hk
 have ll:=bh (sm.len hL) rfl
 have lm:=aO (g:=FM.v) ll
 have e1:=aO (g:=bM.v) (bh sm.n rfl)
 have e2:=bQ (g:=bM.v) hk
 refine aB (l:=[.ref V.adr,.int k,ov lo,ov hi,.undef,.undef,.undef,.undef,.undef,.undef,.undef]) MF rfl rfl ?_;show Go _ Jb _ _ _;delta Jb
 refine az (rC rfl zZ (az (rC rfl zZ ?_)))
 right
 intro f0 G
 right
 refine mH (λa:Gs=>[.ref V.adr,.int k,ov lo,ov hi,ov a.o1,ov a.o2,.ref a.a1,.int a.n1,a.v1,a.v2,a.v3]) Gs.h
  (λa=>aK σ a.h/\σ a.a1=none/\a.h a.a1=some (false,.list (((L.fs.take a.n1).filter (cK (a.o1.getD 0) (a.o2.getD 3))).map FM.v))/\a.n1<=L.fs.length/\(∀n,a.o1=some n->n<4)/\(∀n,a.o2=some n->n<4)/\
   a.o1.getD 0<=lo.getD 0/\hi.getD 3<=a.o2.getD 3/\(k≠0->a.o1=lo/\a.o2=hi)/\(k=0->∀f∈(L.fs.take a.n1).filter (cK (a.o1.getD 0) (a.o2.getD 3)),a.o1.getD 0<=f.lo.u/\f.hi.u<=a.o2.getD 3))
  (λa=>(a.o1.getD 0+(3-a.o2.getD 3))*(L.fs.length+1)+(L.fs.length-a.n1)) {o1:=lo,o2:=hi,a1:=f0,h:=_} rfl rfl
  ⟨aK.new G,G,ab,Nat.zero_le _,β,γ,Nat.le_refl _,Nat.le_refl _,λ_=>⟨rfl,rfl⟩,λ_ f c=>nM c⟩ ?_
 intro a R ⟨J,B,U,p4,y,z,E,A,K,q⟩ I
 have O:=hV.up J
 have v1:=O.v
 have v2:=O.fl
 have v3:=O.lv L hL
 refine hF (by left) (br (λx=>?_) λx=>?_)
 ·obtain⟨f,c⟩:∃f,L.fs[a.n1]?=some f:=⟨_,List.getElem?_eq_getElem (by rw[List.length_map]at x;exact cu x)⟩
  have fm:=List.mem_of_getElem? c
  have e3:=bQ (g:=FM.v) c
  have hm:=O.fs L hL f fm
  have w:=ok f fm
  unfold nL at hm
  right
  refine bO ?_
  right
  refine bO ?_
  right
  have ww:a.n1<L.fs.length:=(be c).1
  refine dX (CT rfl rfl w.2.u y) (λY=>?_) λY=>?_
  ·right
   exact yq (I {a with n1:=a.n1+1,v1:=_,v2:=_,v3:=_} ⟨J,B,by rw[uP c (yP Y)];exact U,ww,y,z,E,A,K,by rw[uP c (yP Y)];exact q⟩ (Nat.add_lt_add_left (by show _-(a.n1+1)<_-a.n1;exact n2 [_,_,_,_] J2 zQ Ab rfl (Nat.sub_add_cancel (n:=L.fs.length) (m:=a.n1+1) (n1 [_,_] (.le (.a (.v 0) (.n 1)) (.v 1)) (.le (.a (.v 0) (.n 1)) (.v 1)) rfl ww)) (sb (L.fs.length) (a.n1))) _))
  right
  refine dX (CQ rfl rfl w.1.u z) (λW=>?_) λW=>?_
  ·right
   exact yq (I {a with n1:=a.n1+1,v1:=_,v2:=_,v3:=_} ⟨J,B,by rw[uP c (yZ W)];exact U,ww,y,z,E,A,K,by rw[uP c (yZ W)];exact q⟩ (Nat.add_lt_add_left (by show _-(a.n1+1)<_-a.n1;exact n2 [_,_,_,_] J2 zQ Ab rfl (Nat.sub_add_cancel (n:=L.fs.length) (m:=a.n1+1) (n1 [_,_] (.le (.a (.v 0) (.n 1)) (.v 1)) (.le (.a (.v 0) (.n 1)) (.v 1)) rfl ww)) (sb (L.fs.length) (a.n1))) _))
  have pl:=NI (i:=a.n1) (p:=cK (a.o1.getD 0) (a.o2.getD 3)) (g:=FM.v) ll
  have fy:=Gy (p:=cK (a.o1.getD 0) (a.o2.getD 3)) c (Du Y W)
  right
  have t:aK σ (upd a.h a.a1 (false,.list (((L.fs.take a.n1).filter (cK (a.o1.getD 0) (a.o2.getD 3))).map FM.v++[f.v]))):=J.upd B
  have s:(k=0->a.o1.getD 0<=f.lo.u/\f.hi.u<=a.o2.getD 3)->R [.ref V.adr,.int k,ov lo,ov hi,ov a.o1,ov a.o2,.ref a.a1,.int (a.n1+1:Nat),f.v,.bytes (bv f.lo.u),.bytes (bv f.hi.u)] (upd a.h a.a1 (false,.list (((L.fs.take a.n1).filter (cK (a.o1.getD 0) (a.o2.getD 3))).map FM.v++[f.v]))):=λhc=>
   I {a with n1:=a.n1+1,v1:=_,v2:=_,v3:=_,h:=_} ⟨t,B,by rw[fy,List.map_append];exact ab,ww,y,z,E,A,K,λe g d=>by
    rw[fy]at d
    rcases aE d with d|d
    ·exact q e g d
    ·rw[aw d];exact hc e⟩ (Nat.add_lt_add_left (by show _-(a.n1+1)<_-a.n1;exact n2 [_,_,_,_] J2 zQ Ab rfl (Nat.sub_add_cancel (n:=L.fs.length) (m:=a.n1+1) (n1 [_,_] (.le (.a (.v 0) (.n 1)) (.v 1)) (.le (.a (.v 0) (.n 1)) (.v 1)) rfl ww)) (sb (L.fs.length) (a.n1))) _)
  refine dX (by left) (λD=>?_) λD=>?_
  ·have D:k=0:=cW D
   refine dX (CT rfl rfl w.1.u y) (λZ=>?_) λZ=>?_
   ·right
    intro g d
    right
    exact aR (I {a with o1:=some f.lo.u,a1:=g,n1:=0,v1:=_,v2:=_,v3:=_,h:=_} ⟨t.upd (t.nn d),t.nn d,ab,Nat.zero_le _,λn e=>Option.some.inj e▸w.1.u,z,Nat.le_trans (Nat.le_of_lt Z) E,A,λn=>(n D).elim,λ_ f c=>nM c⟩ (GT (Nat.add_lt_add_right Z _) (Nat.zero_le _)))
   ·refine dX (CQ rfl rfl w.2.u z) (λN=>?_) λN=>?_
    ·right
     intro g d
     right
     exact aR (I {a with o2:=some f.hi.u,a1:=g,n1:=0,v1:=_,v2:=_,v3:=_,h:=_} ⟨t.upd (t.nn d),t.nn d,ab,Nat.zero_le _,y,λn e=>Option.some.inj e▸w.2.u,E,Nat.le_trans A (Nat.le_of_lt N),λn=>(n D).elim,λ_ f c=>nM c⟩ (GT (Nat.add_lt_add_left (by have:=w.2.u;show 3-f.hi.u<_;exact n3 [_,_,_,_] J2 DI (.eq (.a (.v 0) (.v 3)) (.n 3)) (.le (.n 3) (.a (.v 1) (.v 2))) rfl N (Nat.sub_add_cancel (n:=3) (m:=f.hi.u) (n1 [_] (.le (.v 0) (.n 3)) (.le (.a (.v 0) (.n 1)) (.n 4)) rfl this)) (sb (3) (a.o2.getD 3))) _) (Nat.zero_le _)))
    ·right
     exact aR (s λ_=>⟨Nat.not_lt.mp Z,Nat.not_lt.mp N⟩)
  ·right
   exact aR (s λe=>(D (e▸rfl)).elim)
 ·have e:L.fs.length<=a.n1:=by rw[List.length_map]at x;exact Int.ofNat_le.mp (Int.not_lt.mp x)
  rw[List.take_of_length_le e]at U q
  right
  have hn:=B
  exact cU (sJ J U) (h _ _ E A (λkn=>by rw[(K kn).1,(K kn).2];exact⟨rfl,rfl⟩) q _ B)
end
section
variable {ext:bj}
theorem A3{n k:Nat}{b:Bool}{V:bp}{L:bM}{σ:Hp}{Q:PX}(c:dN b σ V)(o:qj V)(p:V.lv[k]?=some L)(h:Q (.int (gQ L.fs)) σ):cB ext (n+1) (F.fa 50) [.ref V.adr,.int k] σ Q:=by
 have i:L∈V.lv:=List.mem_of_getElem? p
 have q:=bh (o.len i) rfl
 have y:=aO (g:=bM.v) (bh o.n rfl)
 have t:=bQ (g:=bM.v) p
 have x:=c.v
 have u:=c.fl
 have m:=c.lv L i
 refine aB (l:=[.ref V.adr,.int k,.undef,.undef]) M2 rfl rfl ?_;show Go _ KU _ _ _;delta KU
 right
 refine gB L.fs FM.v (λa:Int×AV=>[.ref V.adr,.int k,.int a.1,a.2]) (λ_=>σ) (λj a=>a.1=gQ j) (0,.undef) rfl rfl m q (λ_ _ _=>⟨_,m⟩) rfl ?_ ?_
 ·intro s f j a R e d r
  have w:σ f.adr=_:=c.fs L i f (aP e)
  right
  exact aR (r (a.1+f.size,_) (by rw[jL,←d]))
 ·intro a d
  right
  rw[d]
  exact ay h
theorem bS:∀{ns:List Int},cJ (ns.map .int)=some ns
 |[]=>rfl
 |n::r=>by show(cJ (r.map .int)).map (n::·)=_;rw[bS];rfl
noncomputable def vJ(L:bM):List Int:=L.fs.map λf=>(f.num:Int)
noncomputable def nums(V:bp):List Int:=V.lv.flatMap vJ
theorem eH{V:bp}:(nums V).length=(V.lv.flatMap bM.fs).length:=by
 unfold nums
 generalize V.lv=a
 induction a with
 |nil=>rfl
 |cons L r b=>rw[List.flatMap_cons,List.flatMap_cons,List.length_append,List.length_append,b];unfold vJ;rw[List.length_map]
theorem iF{B C:Type}{f:B->List C}{a:List B}{x:B}:(a++[x]).flatMap f=a.flatMap f++f x:=by rw[List.flatMap_append,List.flatMap_cons,List.flatMap_nil,List.append_nil]
theorem D7{B C:Type}{f:B->List C}{bs b g:List B}{x:B}{q r:List C}{c:C}(e:bs=b++x::g)(d:f x=q++c::r):(b.flatMap f++q).length<=(bs.flatMap f).length:=by
 rw[e,List.flatMap_append,List.flatMap_cons,d,List.length_append,List.length_append,List.length_append,List.length_append]
 exact n0 [_,_,_,_] (.le (.a (.v 0) (.v 1)) (.a (.v 0) (.a (.a (.v 1) (.v 2)) (.v 3)))) rfl
theorem ip{n:Nat}{b:Bool}{V:bp}{σ:Hp}{Q:PX}(j:dN b σ V)(k:qj V)(h:∀(ns:List Int) (r:Addr),ns.Perm (nums V)->ns.Pairwise (·<=·)->σ r=none->Q (.ref r) (upd σ r (true,.list (ns.map .int)))):cB ext (n+1) (F.fa 51) [.ref V.adr] σ Q:=by
 have J:=j.v
 have z:=j.fl
 have nl:(nums V).length<=60:=eH (V:=V)▸k.f
 refine aB (l:=[.ref V.adr,.undef,.undef,.undef]) Mr rfl rfl ?_;show Go _ Jh _ _ _;delta Jh
 right
 intro t d
 right
 refine gB V.lv bM.v (λa:List Int×AV×AV=>[.ref V.adr,.ref t,a.2.1,a.2.2]) (λa=>upd σ t (false,.list (a.1.map .int))) (λw a=>a.1=w.flatMap vJ) ([],.undef,.undef) rfl rfl (ag d z) (bh k.n rfl) (λ_ _ _=>⟨_,ag d z⟩) rfl ?_ ?_
 ·intro o L w a R e m A
  have p:=aP e
  have x:=j.lv L p
  right
  refine gB L.fs FM.v (λa:List Int×AV×AV=>[.ref V.adr,.ref t,L.v,a.2.2]) (λa=>upd σ t (false,.list (a.1.map .int))) (λD b=>b.1=o.flatMap vJ++D.map λf=>(f.num:Int)) (a.1,.undef,a.2.2) rfl rfl (ag d x) (bh (k.len p) rfl) (λ_ _ _=>⟨_,ag d x⟩) (m.trans (List.append_nil _).symm) ?_ ?_
  ·intro g f s b K y i q
   have G:σ f.adr=_:=j.fs L p f (aP y)
   have I:(b.1.map AV.int).length<=9000:=by
    rw[List.length_map,i]
    exact Nat.le_trans (D7 e (show vJ L=g.map (λf=>(f.num:Int))++(f.num:Int)::s.map (λf=>(f.num:Int))by unfold vJ;rw[y,List.map_append];rfl)) (bh nl rfl)
   right
   refine aR ?_
   have:=q (b.1++[(f.num:Int)],.undef,f.v) (by rw[i,List.map_append,List.append_assoc];rfl)
   rw[List.map_append]at this;exact this
  ·intro b i
   right
   exact aR (A (b.1,_,_) (by rw[iF];exact i))
 ·intro a m
  have e:a.1=nums V:=m
  refine fe (mJ (aj (aS (by left) (aD (yo ab (by rw[List.length_map,e];exact nl) bS λc ns u E B=>?_)))))
  exact cU (sJ ((aK.new d).upd ((aK.new d).nn u)) ab) (h ns c (e▸E) B ((aK.new d).nn u))
end
section
variable {ext:bj}
theorem B5{n:Nat}{w o:Addr}{fz:Bool}{fs:List FM}{ik:Rw}{σ:Hp}{Q:PX}(Y:σ w=some (fz,.list (fs.map FM.v)))(J:cM σ fs)(ok:pZ fs)(E:sj σ o)(O:ik.ok)(N:fs.length<=9000)
  (t:∀(i j:Nat) (f g:FM),i<j->fs[i]?=some f->fs[j]?=some g->dD g.hi ik<0->dD f.hi ik<0)
  (h:∀r:Nat,r<=fs.length->(∀(j:Nat) (f:FM),fs[j]?=some f->(j<r↔dD f.hi ik<0))->Q (.int r) σ):cB ext (n+5) (F.fa 43) [.ref w,.bytes ik.b,.ref o] σ Q:=by
 have lm:=aO (g:=FM.v) N
 obtain⟨U,V,W⟩:=id E
 refine aB (l:=[.ref w,.bytes ik.b,.ref o,.undef,.undef,.undef]) LD rfl rfl ?_;show Go _ JE _ _ _;delta JE
 right
 refine mH (λa:Nat×Nat×AV=>[.ref w,.bytes ik.b,.ref o,.int a.1,.int a.2.1,a.2.2]) (λ_=>σ) (λa=>a.1<=a.2.1/\a.2.1<=fs.length/\(∀(j:Nat) (f:FM),fs[j]?=some f->j<a.1->dD f.hi ik<0)/\(∀(j:Nat) (f:FM),fs[j]?=some f->a.2.1<=j->¬dD f.hi ik<0))
  (λa=>a.2.1-a.1) (0,fs.length,.undef) (by rw[List.length_map];rfl) rfl ⟨Nat.zero_le _,Nat.le_refl _,λj f _ p=>absurd p (Nat.not_lt_zero _),λj f p y=>absurd (be p).1 (iJ y)⟩ ?_
 rintro⟨lo,hi,m⟩ R ⟨g1,g2,g3,A⟩ G
 dsimp only at g1 g2 g3 A
 refine hF (by left) (br (λx=>?_) λx=>?_)
 ·have z:lo<hi:=cu x
  refine bG (aU (by left) (show AV.int (((lo:Int)+hi)/2)=AV.int ((lo+hi)/2:Nat)from congrArg AV.int (by exact rfl))) ?_
  have q:(lo+hi)/2<hi:=by exact m2 [_,_,_] J2 1 1 1 Fc La rfl z (Nat.mul_div_le (lo+hi) 2)
  have s:lo<=(lo+hi)/2:=by exact m2 [_,_,_] J0 1 1 1 J4 Nd rfl g1 (Nat.lt_mul_div_succ (lo+hi) (show 0<2 by decide))
  generalize (lo+hi)/2=d at q s
  obtain⟨f,u⟩:∃f,fs[d]?=some f:=⟨_,List.getElem?_eq_getElem (Nat.lt_of_lt_of_le q g2)⟩
  have Z:=bQ (g:=FM.v) u
  have D:=List.mem_of_getElem? u
  have K:=J f D
  unfold nL at K
  refine bK (kX (cG ?_))
  right
  refine eU E (ok f D).2 O (iK (HT (dK (br (λc=>?_) λc=>?_))))
  ·right
   exact aR (G (d+1,hi,.int d) ⟨q,g2,λj g p k=>by
    by_cases e:j=d
    ·subst e;rw[u]at p;cases p;exact c
    ·exact t j d g f (Nat.lt_of_le_of_ne (Nat.le_of_lt_succ k) e) p u c,A⟩ (by show hi-(d+1)<hi-lo;exact n3 [_,_,_,_,_] J2 (.le (.v 2) (.v 3)) (.eq (.a (.v 0) (.a (.v 3) (.n 1))) (.v 4)) (.le (.v 4) (.a (.v 1) (.v 2))) rfl s (Nat.sub_add_cancel (n:=hi) (m:=d+1) (n1 [_,_] (.le (.a (.v 0) (.n 1)) (.v 1)) (.le (.a (.v 0) (.n 1)) (.v 1)) rfl q)) (sb (hi) (lo))))
  ·right
   exact aR (G (lo,d,.int d) ⟨s,Nat.le_trans (Nat.le_of_lt q) g2,g3,λj g p B k=>by
    by_cases e:j=d
    ·subst e;rw[u]at p;cases p;exact c k
    ·exact c (t d j f g (Nat.lt_of_le_of_ne B (Ne.symm e)) u p k)⟩ (by show d-lo<hi-lo;exact n3 [_,_,_,_,_] J2 DI (.eq (.a (.v 0) (.v 4)) (.v 2)) (.le (.v 3) (.a (.v 1) (.v 4))) rfl q (Nat.sub_add_cancel (n:=d) (m:=lo) (n1 [_,_] (.le (.v 0) (.v 1)) (.le (.v 0) (.v 1)) rfl s)) (sb (hi) (lo))))
 ·obtain rfl:lo=hi:=Nat.le_antisymm g1 (Int.ofNat_le.mp (Int.not_lt.mp x))
  right
  exact ay (h lo g2 λj f p=>⟨g3 j f p,λI=>Nat.lt_of_not_le λy=>A j f p y I⟩)
noncomputable def ut(u:Nat)(f:FM):Bool:=decide (f.lo.u<=u)&&decide (u<=f.hi.u)
noncomputable def de(u s:Nat)(fs:List FM):List FM:=match fs.find? (λf=>decide (¬dD f.hi ⟨u,s,1,0⟩<0))with
 |some f=>if f.lo.u<=u then[f] else[]
 |none=>[]
noncomputable def fF(u s:Nat):List bM->List FM
 |[]=>[]
 |L::r=>L.fs.reverse.filter (ut u)++r.flatMap λL=>de u s L.fs
theorem u7{B:Type}{p:B->Bool}:∀{bs:List B} {r:Nat},(∀(j:Nat) (f:B),bs[j]?=some f->(j<r↔p f=false))->bs.find? p=bs[r]?
 |[],r,_=>by rw[List.find?_nil,List.getElem?_nil]
 |f::bs,0,h=>by
  have:p f≠false:=λe=>absurd ((h 0 f rfl).mpr e) (Nat.lt_irrefl 0)
  rw[List.find?_cons,Bool.not_eq_false _ |>.mp this];rfl
 |f::bs,r+1,h=>by
  rw[List.find?_cons,(h 0 f rfl).mp (Nat.succ_pos r)]
  exact u7 λj g a=>⟨λx=>(h (j+1) g a).mp (Nat.succ_lt_succ x),λx=>Nat.lt_of_succ_lt_succ ((h (j+1) g a).mpr x)⟩
def xY(fs:List FM):Prop:=fs.Pairwise λf g=>f.hi.u<g.lo.u
theorem sB{fs:List FM}{ik:Rw}(h:xY fs)(ord:∀f∈fs,f.lo.u<=f.hi.u)(i j:Nat)(f g:FM)(lt:i<j)(hi:fs[i]?=some f)(b:fs[j]?=some g)(c:dD g.hi ik<0):dD f.hi ik<0:=by
 obtain⟨d,rfl⟩:=be hi
 obtain⟨a,rfl⟩:=be b
 have:=List.pairwise_iff_getElem.mp h i j d a lt
 have e:fs[i].hi.u<ik.u:=Nat.lt_of_lt_of_le (Nat.lt_of_lt_of_le this (ord _ (List.getElem_mem a))) (pT c)
 unfold dD jW;rw[if_pos e];decide
end
section
variable {ext:bj}
structure Ah(V:bp):Prop where
 sm:qj V
 ok:∀L∈V.lv,pZ L.fs
 ord:∀L∈V.lv,∀f∈L.fs,f.lo.u<=f.hi.u
 ap:∀k L,0<k->V.lv[k]?=some L->xY L.fs
 ne:0<V.lv.length
def A1(a:Hp)(b:List (Addr×FM)):Prop:=∀p∈b,∃k:Int,a p.1=some (true,.tup [.int k,p.2.v])
noncomputable abbrev fG(p:Addr×FM):AV:=.ref p.1
theorem A1.fz{σ b:Hp}{a:List (Addr×FM)}(h:A1 σ a)(k:Fz σ b):A1 b a:=λp c=>by obtain⟨i,e⟩:=h p c;exact⟨i,k _ _ e⟩
structure Cd(σ τ:Hp)(t:Addr)(ps:List (Addr×FM)):Prop where
 e:aK σ τ
 n:σ t=none
 t:τ t=some (false,.list (ps.map fG))
 k:A1 τ ps
theorem Cd.more{σ a:Hp}{t c:Addr}{b:List (Addr×FM)}{k:Int}{f:FM}(h:Cd σ a t b)(g:a c=none):Cd σ (upd (upd a c (true,.tup [.int k,f.v])) t (false,.list (b.map fG++[.ref c]))) t (b++[(c,f)]):=by
 have i:upd a c (true,.tup [.int k,f.v]) t=some (false,.list (b.map fG)):=ag g h.t
 have z:Fz a (upd (upd a c (true,.tup [.int k,f.v])) t (false,.list (b.map fG++[.ref c]))):=(Fz.new g).trans (Fz.mut i)
 refine⟨(h.e.upd (h.e.nn g)).upd h.n,h.n,by rw[List.map_append];exact ab,λp d=>?_⟩
 rcases aE d with d|d
 ·exact h.k.fz z p d
 ·rw[aw d];exact⟨k,cP i ab⟩
theorem pR{u v:Nat}(b:u<4)(a:v<4):(!decide (bv v<bv u))=decide (u<=v):=by
 rw[show decide (bv v<bv u)=decide (v<u)from decide_eq_decide.mpr (hG v a u b)]
 by_cases e:v<u
 ·rw[decide_eq_true e,decide_eq_false (eK e)];rfl
 ·rw[decide_eq_false e,decide_eq_true (Nat.not_lt.mp e)];rfl
theorem A8{B:Type}{bs:List B}{i:Nat}{f:B}(h:bs[i]?=some f):bs.drop i=f::bs.drop (i+1):=by
 obtain⟨l,e⟩:=be h
 rw[←e];exact List.drop_eq_getElem_cons l
theorem Nk{u:Nat}{fs:List FM}{i:Nat}{a:List (Addr×FM)}(e:a.map (·.2)=(fs.drop i).reverse.filter (ut u)):a.length<=fs.length:=by
 have:=congrArg List.length e
 rw[List.length_map]at this
 rw[this]
 exact Nat.le_trans (List.length_filter_le _ _) (by rw[List.length_reverse,List.length_drop];exact Nat.sub_le _ _)
theorem yj{u s:Nat}{fs:List FM}:(de u s fs).length<=1:=by
 unfold de
 cases fs.find? _ with
 |none=>exact Nat.zero_le _
 |some f=>show(if _ then _ else _:List FM).length<=1;by_cases e:f.lo.u<=u<;>simp only[e,if_true,if_false]<;>first|exact Nat.le_refl _|exact Nat.zero_le _
theorem pv{u s:Nat}:∀{ls:List bM},(ls.flatMap λL=>de u s L.fs).length<=ls.length
 |[]=>Nat.le_refl _
 |L::r=>by rw[List.flatMap_cons,List.length_append,Nat.add_comm];exact Nat.add_le_add pv yj
theorem yO{n u s:Nat}{V:bp}{σ:Hp}{Q:PX}(J:dN true σ V)(p:Ah V)(N:u<4)(hs:s<10)
  (h:∀(t:Addr) (z:List (Addr×FM)) (D:Hp),Cd σ D t z->z.map (·.2)=fF u s V.lv->Q (.ref t) D):cB ext (n+6) (F.fa 46) [.ref V.adr,.bytes (kT u s 1)] σ Q:=by
 obtain⟨k,E⟩:∃L,V.lv[0]?=some L:=⟨_,List.getElem?_eq_getElem p.ne⟩
 have w:k∈V.lv:=List.mem_of_getElem? E
 have l7:=bh p.sm.n rfl
 have e1:=aO (g:=bM.v) l7
 have e2:on (V.lv.map bM.v) 0=some k.v:=bQ E
 have v1:=J.v
 have v2:=J.fl
 have v3:=J.lv k w
 have ll:=aO (g:=FM.v) (bh (p.sm.len w) rfl)
 refine aB (l:=[.ref V.adr,.bytes (kT u s 1),.undef,.undef,.undef,.undef,.undef,.undef,.undef]) MX rfl rfl ?_;show Go _ JC _ _ _;delta JC
 right
 refine bO ?_
 right
 intro t ht
 right
 refine DC (λa:(AV×AV)×List (Addr×FM)×Hp=>[.ref V.adr,.bytes (kT u s 1),.bytes (bv u),.ref t,k.v,a.1.1,a.1.2,.undef,.undef]) (λa=>a.2.2)
  (λi a=>Cd σ a.2.2 t a.2.1/\a.2.1.map (·.2)=(k.fs.drop (i+1).toNat).reverse.filter (ut u)) ((.undef,.undef),[],_) rfl rfl ?_ ⟨⟨aK.new ht,ht,ab,λ_=>nM⟩,?_⟩ ?_ ?_
 ·have:=p.sm.len w;rw[List.length_map];exact⟨z1 [_] (.le (.g (.n 1)) (.a (.v 0) (.g (.n 1)))) It rfl (cz _),z1 [_] EH lZ rfl (cl this)⟩
 ·rw[List.length_map,show((k.fs.length:Int)-1+1).toNat=k.fs.length by exact te (Int.sub_add_cancel _ _),List.drop_length];rfl
 ·rintro i ⟨⟨m1,m2⟩,z,D⟩ R g1 g2 ⟨d,m⟩ I
  dsimp only at d m
  obtain⟨j,rfl⟩:∃j:Nat,i=j:=⟨i.toNat,(Int.toNat_of_nonneg g1).symm⟩
  have b:=J.fz d.e.fz
  have w3:=b.lv k w
  obtain⟨f,q⟩:∃f,k.fs[j]?=some f:=⟨_,List.getElem?_eq_getElem (by rw[List.length_map]at g2;exact cu (Int.lt_of_le_sub_one g2))⟩
  have e3:=bQ (g:=FM.v) q
  have K:=List.mem_of_getElem? q
  have W:=b.fs k w f K
  have O:=p.ok k w f K
  unfold nL at W
  have dr:(k.fs.drop ((j:Int)-1+1).toNat).reverse.filter (ut u)=z.map (·.2)++[f].filter (ut u):=by
   rw[show((j:Int)-1+1).toNat=j by exact te (Int.sub_add_cancel _ _),A8 q,List.reverse_cons,List.filter_append];rw[m];rfl
  have Y:=aO (g:=fG) (bh (Nat.le_trans (Nk m) (p.sm.len w)) rfl)
  have no:ut u f=false->R [.ref V.adr,.bytes (kT u s 1),.bytes (bv u),.ref t,k.v,.int j,f.v,.undef,.undef] D:=λx=>I ((.int j,f.v),z,D) ⟨d,by rw[dr,List.filter_cons,if_neg (by rw[x];exact fT)];exact(List.append_nil _).symm⟩
  right
  refine bK (ku (bz (kX (cG (aW (by left) (bO (aS (by left) (zL (dK ?_)))))))))
  rw[pR O.1.u N]
  refine br (λx=>bz (kX (cG (aS (by left) (aW (by left) (bO (zL (dK ?_)))))))) (λx=>df ?_)
  ·rw[pR N O.2.u]
   refine br (λy=>da (eJ ?_)) (λy=>df ?_)
   ·refine dL (iH (aS (by left) (ja d.t rfl (aj (fu (by left) rfl λc B=>aD (dQ (ag B d.t) Y ?_))))))
    right
    exact aR (I ((.int j,f.v),z++[(c,f)],_) ⟨d.more B,by rw[dr,List.map_append,List.filter_cons,if_pos (by unfold ut;rw[decide_eq_true x,decide_eq_true y];rfl)];rfl⟩)
   ·right
    exact aR (no (by unfold ut;rw[decide_eq_false y];exact Bool.and_false _))
  ·right
   exact aR (no (by unfold ut;rw[decide_eq_false x];rfl))
 ·rintro⟨⟨m1,m2⟩,z,D⟩ ⟨d,m⟩
  dsimp only at d m
  have b:=J.fz d.e.fz
  have w1:=b.v
  right
  refine jM (λa:(AV×AV×AV)×List (Addr×FM)×Hp=>[.ref V.adr,.bytes (kT u s 1),.bytes (bv u),.ref t,k.v,a.1.1,m2,a.1.2.1,a.1.2.2]) (λa=>a.2.2)
   (λi a=>Cd σ a.2.2 t a.2.1/\a.2.1.map (·.2)=k.fs.reverse.filter (ut u)++((V.lv.drop 1).take (i-1).toNat).flatMap λL=>de u s L.fs) ((m1,.undef,.undef),z,D) rfl rfl
   ⟨by decide,by decide,Int.natCast_nonneg _,bF l7⟩ ⟨d,by rw[m];exact(List.append_nil _).symm⟩ ?_ ?_
  ·rintro i ⟨⟨m5,m7,m8⟩,G,υ⟩ R g1 g2 ⟨d,m⟩ I
   dsimp only at d m
   obtain⟨j,rfl⟩:∃j:Nat,i=(j:Int)+1:=⟨(i-1).toNat,by exact O6 g1⟩
   have b:=J.fz d.e.fz
   have w1:=b.v
   have w2:=b.fl
   obtain⟨L,U⟩:∃L,V.lv[j+1]?=some L:=⟨_,List.getElem?_eq_getElem (by exact cu g2)⟩
   have e3:on (V.lv.map bM.v) ((j:Int)+1)=some L.v:=bQ U
   have A:=List.mem_of_getElem? U
   have w3:=b.lv L A
   have lm:=aO (g:=FM.v) (bh (p.sm.len A) rfl)
   have Z:((V.lv.drop 1).take ((j:Int)+1+1-1).toNat).flatMap (λL=>de u s L.fs)=((V.lv.drop 1).take ((j:Int)+1-1).toNat).flatMap (λL=>de u s L.fs)++de u s L.fs:=by
    rw[show((j:Int)+1+1-1).toNat=j+1 by exact te (Int.add_sub_cancel _ _),show((j:Int)+1-1).toNat=j by exact te (Int.add_sub_cancel _ _),sE (f:=L) (by rw[List.getElem?_drop,Nat.add_comm];exact U),iF]
   have Y:=aO (g:=fG) (bs:=G) (by
    have:=congrArg List.length m
    rw[List.length_map,List.length_append]at this
    have h1:=Nat.le_trans (List.length_filter_le (ut u) _) (Nat.le_of_eq (List.length_reverse (as:=k.fs)))
    have h2:=pv (u:=u) (s:=s) (ls:=(V.lv.drop 1).take ((j:Int)+1-1).toNat)
    have h3:=p.sm.len w
    have h4:=List.length_take_le' ((j:Int)+1-1).toNat (V.lv.drop 1)
    rw[List.length_drop]at h4
    rw[this];exact Nat.le_trans (Nat.add_le_add (Nat.le_trans h1 h3) (Nat.le_trans h2 (Nat.le_trans h4 (Nat.le_trans (Nat.sub_le _ _) p.sm.n)))) (Nat.le_of_ble_eq_true rfl))
   right
   refine B5 (ik:=⟨u,s,1,0⟩) w3 (b.fs L A) (p.ok L A) b.o ⟨N,hs,Nat.lt_succ_self 1⟩ (bh (p.sm.len A) rfl) (sB (p.ap _ L (Nat.succ_pos j) U) (p.ord L A)) λr hr B=>?_
   have fd:L.fs.find? (λf=>decide (¬dD f.hi ⟨u,s,1,0⟩<0))=L.fs[r]?:=u7 λj f hj=>by rw[B j f hj,decide_eq_false_iff_not,Decidable.not_not]
   refine bK (ku (bz (hF (by left) (br (λx=>?_) λx=>df ?_))))
   ·obtain⟨f,q⟩:∃f,L.fs[r]?=some f:=⟨_,List.getElem?_eq_getElem (by rw[List.length_map]at x;exact cu x)⟩
    have e4:=bQ (g:=FM.v) q
    have K:=List.mem_of_getElem? q
    have W:=b.fs L A f K
    have O:=p.ok L A f K
    unfold nL at W
    refine bz (kX (cG (aW (by left) (bO (aS (by left) (zL (dK ?_)))))))
    rw[pR O.1.u N]
    refine br (λy=>da (eJ ?_)) (λy=>df ?_)
    ·refine dL (iH (aS (by left) (ja d.t rfl (aj (fu (by left) rfl λc B=>aD (dQ (ag B d.t) Y ?_))))))
     right
     refine aR (I ((.int r,.int ((j:Int)+1),L.v),G++[(c,f)],_) ⟨d.more B,?_⟩)
     rw[Z,List.map_append,←List.append_assoc,←m]
     unfold de;rw[fd,q];dsimp only;rw[if_pos y];rfl
    ·right
     refine aR (I ((.int r,.int ((j:Int)+1),L.v),G,_) ⟨d,?_⟩)
     rw[Z,←List.append_assoc,←m]
     unfold de;rw[fd,q];dsimp only;rw[if_neg y];exact(List.append_nil _).symm
   ·right
    refine aR (I ((.int r,.int ((j:Int)+1),L.v),G,_) ⟨d,?_⟩)
    rw[Z,←List.append_assoc,←m]
    unfold de;rw[fd,List.getElem?_eq_none (by rw[List.length_map]at x;exact Int.ofNat_le.mp (il x))];exact(List.append_nil _).symm
  ·rintro i ⟨⟨m5,m7,m8⟩,G,υ⟩ g1 g2 g3 ⟨d,m⟩
   dsimp only at d m
   right
   refine ay (h t G υ d ?_)
   rw[m,List.take_of_length_le (by rw[List.length_drop];exact Nat.le_trans (Nat.le_of_eq (Int.toNat_sub _ 1).symm) (Int.toNat_le_toNat (Int.sub_le_sub_right g2 1)))]
   cases hl:V.lv with
   |nil=>rw[hl]at E;cases E
   |cons L r=>rw[hl]at E;cases E;rfl
end
section
variable {ext:bj}
noncomputable def ah(u s:Nat)(f:FM):Option Rw:=f.rows.find? λr=>decide (u<r.u∨(u=r.u/\r.s<=s))
noncomputable def Am(u s:Nat)(f:FM):Option Rw:=match ah u s f with
 |some r=>if r.u=u then some r else none
 |none=>none
noncomputable def look(u s:Nat)(fs:List FM):Option Rw:=fs.findSome? (Am u s)
structure HE(τ:Hp)(es:List (Int×AV))(V:bp)(u s:Nat):Prop where
 no:∀L∈V.lv,∀f∈L.fs,ah u s f=none->bE es f.num=some .none
 yes:∀L∈V.lv,∀f∈L.fs,∀r,ah u s f=some r->r.ok/\∃e,bE es f.num=some (.ref e)/\τ e=some (true,.tup [.bytes r.b,.bytes [UInt8.ofNat r.s]])
noncomputable def ES:Option Rw->List AV
 |some r=>if r.k=0 then[.bool true,.int 0,.bytes []] else[.bool true,.int 1,.bytes [UInt8.ofNat r.s]]
 |none=>[.bool false,.int 0,.bytes []]
theorem y6{u s:Nat}{ls:List bM}{f:FM}(h:f∈fF u s ls):∃L∈ls,f∈L.fs:=by
 cases ls with
 |nil=>cases h
 |cons L r=>
  rcases aE h with h|h
  ·exact⟨L,.head _,List.mem_reverse.mp (fH h).1⟩
  ·obtain⟨M,a,h⟩:=iW h
   refine⟨M,.tail _ a,?_⟩
   unfold de at h
   cases e:M.fs.find? (λf=>decide (¬dD f.hi ⟨u,s,1,0⟩<0))with
   |none=>rw[e]at h;cases h
   |some g=>
    rw[e]at h;dsimp only at h
    by_cases x:g.lo.u<=u
    ·rw[if_pos x]at h;rw[aw h];exact List.mem_of_find?_eq_some e
    ·rw[if_neg x]at h;cases h
theorem kG{u s:Nat}{a:List FM}{f:FM}(h:look u s a=none)(k:Am u s f=none):look u s (a++[f])=none:=by
 unfold look at h ⊢;rw[List.findSome?_append,h,List.findSome?_cons,k];rfl
theorem xn{u s:Nat}{a b:List FM}{f:FM}{r:Rw}(h:look u s a=none)(k:Am u s f=some r):look u s (a++f::b)=some r:=by
 unfold look at h ⊢;rw[List.findSome?_append,h,List.findSome?_cons,k];rfl
theorem tP:∀u,u<4->∀v,v<4->(bv u=bv v↔u=v):=by decide+kernel
theorem EE{n u s:Nat}{V:bp}{σ:Hp}{d:Addr}{fz:Bool}{es:List (Int×AV)}{Q:PX}(U:dN true σ V)(Y:Ah V)(hu:u<4)(hs:s<10)(hd:σ d=some (fz,.dict es))(el:es.length<=9000)(ca:HE σ es V u s)
  (h:∀(t:Addr) (i:Hp),aK σ i->i t=some (true,.tup (ES (look u s (fF u s V.lv))))->Q (.ref t) i):cB ext (n+7) (F.fa 47) [.ref V.adr,.ref d,.bytes (bv u),.int s] σ Q:=by
 have v1:=U.v
 refine aB (l:=[.ref V.adr,.ref d,.bytes (bv u),.int s,.undef,.undef,.undef,.undef,.undef,.undef,.undef]) L9 rfl rfl ?_;show Go _ IN _ _ _;delta IN
 right
 refine B7 hs ?_
 right
 refine yO U Y hu hs λt B i g D=>?_
 have pl:B.length<=9000:=by
  have:=congrArg List.length D
  rw[List.length_map]at this
  cases E:V.lv with
  |nil=>rw[E]at this;rw[this];exact Nat.zero_le _
  |cons L r=>
   rw[E]at this
   have O:=Y.sm.n
   rw[E]at O
   have h2:=Y.sm.len (L:=L) (E▸.head _)
   have h3:=pv (u:=u) (s:=s) (ls:=r)
   have h4:=Nat.le_trans (List.length_filter_le (ut u) _) (Nat.le_of_eq (List.length_reverse (as:=L.fs)))
   have I:B.length=_:=this.trans List.length_append
   rw[List.length_cons]at O
   exact m5 [_,_,_,_,_] jJ 0 1 1 1 1 1 (.le (.a (.v 1) (.n 1)) (.n 7)) FX NA (.le (.v 4) (.v 2)) (.eq (.v 0) (.a (.v 4) (.v 3))) rfl O h2 h3 h4 I
 refine gB B fG (λa:(AV×AV×AV)×(AV×AV×AV)×Hp=>[.ref V.adr,.ref d,.bytes (bv u),.int s,.bytes (kT u s 1),a.1.1,a.1.2.1,a.1.2.2,a.2.1.1,a.2.1.2.1,a.2.1.2.2]) (λa=>a.2.2) (λZ a=>aK i a.2.2/\look u s (Z.map (·.2))=none) ((.undef,.undef,.undef),(.undef,.undef,.undef),i) rfl rfl g.t pl (λ_ a p=>⟨_,p.1 _ _ g.t⟩) ⟨aK.refl _,rfl⟩ ?_ ?_
 ·intro β p Z a R e ⟨b,j⟩ ih
  have hp:=aP e
  obtain⟨k,hk⟩:=g.k p hp
  obtain⟨L,K,G⟩:=y6 (D▸List.mem_map_of_mem (f:=(·.2)) hp:p.2∈fF u s V.lv)
  have J:=U.fz (g.e.trans b).fz
  have I:=J.fs L K p.2 G
  unfold nL at I
  have o:=b _ _ (g.e _ _ hd)
  refine vR (b _ _ hk) ?_
  cases q:ah u s p.2 with
  |none=>
   refine bG (zh (v:=.none) (by left) (by left) (by left) o el (by rw[ca.no L K _ G q];rfl)) ?_
   refine EO (bR (by left)) ?_
   right
   exact yq (ih ((.int k,p.2.v,.none),a.2.1,a.2.2) ⟨b,by rw[List.map_append];exact kG j (by unfold Am;rw[q])⟩)
  |some r=>
   obtain⟨N,e,e1,e2⟩:=ca.yes L K _ G r q
   have W:=b _ _ (g.e _ _ e2)
   refine bG (zh (v:=.ref e) (by left) (by left) (by left) o el (by rw[e1];rfl)) ?_
   refine Ba (bR (by left)) ?_
   right
   refine rL N.s N.k λc A=>Bw ab ?_
   have e3:upd a.2.2 c (true,.tup [.bytes (bv r.u),.int r.s,.int r.k]) e=_:=ag A W
   refine dX (by left) (λx=>?_) λx=>?_
   ·have hh:Am u s p.2=some r:=by unfold Am;rw[q];dsimp only;rw[if_pos ((tP _ N.u _ hu).mp x)]
    have lk:look u s (fF u s V.lv)=some r:=by rw[←D,‹B=_›,List.map_append];exact xn j hh
    refine dX (by left) (λy=>?_) λy=>?_
    ·right
     intro w m
     refine vA (vA (FS (cU (Wk.refl _) (h w _ (((g.e.trans b).trans (aK.new A)).trans (aK.new m)) ?_))))
     rw[lk];show _=some (true,AO.tup (if r.k=0 then _ else _));rw[if_pos (cW y)];exact ab
    ·right
     intro w m
     refine vA (FS (cU (Wk.refl _) (h w _ (((g.e.trans b).trans (aK.new A)).trans (aK.new m)) ?_)))
     rw[lk];show _=some (true,AO.tup (if r.k=0 then _ else _));rw[if_neg λz=>y (congrArg Int.ofNat z)];exact ab
   ·right
    exact aR (ih ((.int k,p.2.v,.ref e),(.bytes (bv r.u),.int r.s,.int r.k),_) ⟨b.trans (aK.new A),by rw[List.map_append];exact kG j (by unfold Am;rw[q];dsimp only;rw[if_neg λz=>x (by rw[z])])⟩)
 ·intro a ⟨b,j⟩
  right
  intro w m
  refine cU (Wk.refl _) (h w _ ((g.e.trans b).trans (aK.new m)) ?_)
  rw[←D,j];exact ab
end
section
variable {ext:bj}
structure Op where
 adr:Addr
 fs:List (Nat×AV)
 mfs:Int
 nl:Nat
 l0:Int
 bb:Int
 lf:Int
 gf:Int
 ef:Int
structure iS(o:Op):Prop where
 f20:fp o.fs 20=some (.int o.mfs)
 f21:fp o.fs 21=some (.int o.nl)
 f22:fp o.fs 22=some (.int o.l0)
 f24:fp o.fs 24=some (.int o.bb)
 f25:fp o.fs 25=some (.int o.lf)
 f27:fp o.fs 27=some (.int o.gf)
 f28:fp o.fs 28=some (.int o.ef)
 mfs:0<o.mfs/\o.mfs<2 ^ 24
 nl:2<=o.nl/\o.nl<=7
 l0:0<o.l0/\o.l0<100
 bb:0<o.bb/\o.bb<=2 ^ 24
 lf:0<o.lf/\o.lf<=16
 gf:0<o.gf/\o.gf<=100
 ef:0<o.ef/\o.ef<=100
def ft(σ:Hp)(o:Op):Prop:=σ o.adr=some (true,.inst 12 o.fs)
theorem BE{n k:Nat}{o:Op}{σ:Hp}{Q:PX}(g:ft σ o)(ok:iS o)(u:k<=6)(h:∀r:Int,0<r->r<2 ^ 62->Q (.int r) σ):cB ext (n+1) (F.fa 68) [.ref o.adr,.int k] σ Q:=by
 have m:=ok.f24
 have p:=ok.f25
 unfold ft at g
 refine aB (l:=[.ref o.adr,.int k,.undef]) NQ rfl rfl ?_;show Go _ I7 _ _ _;delta I7
 right
 have c:∀j:Nat,j<=6->(16:Int) ^ j<=2 ^ 24:=λj q=>by
  have:(16:Nat) ^ j<=16 ^ 6:=Nat.pow_le_pow_right (by decide) q
  have e:=bF this
  rw[Int.natCast_pow]at e
  exact e
 refine mH (λa:Nat×Int=>[.ref o.adr,.int ((k:Int)-a.1),.int a.2]) (λ_=>σ) (λa=>a.1<=k/\0<a.2/\a.2<=16777216*16 ^ a.1) (λa=>k-a.1) (0,o.bb) (by rw[show((k:Int)-(0:Nat))=k from Int.sub_zero _];rfl) rfl ⟨Nat.zero_le _,ok.bb.1,by rw[Int.pow_zero,Int.mul_one];exact ok.bb.2⟩ ?_
 intro a R ⟨s,b,f⟩ i
 have t:=c a.1 (Nat.le_trans s u)
 have d:a.2<=16777216*2 ^ 24:=Int.le_trans f (Int.mul_le_mul_of_nonneg_left t (by decide))
 refine hF (by left) (br (λx=>?_) λx=>?_)
 ·refine E9 rfl (by left) ⟨by exact Int.lt_trans (by decide) b,by exact Int.lt_of_le_of_lt d (by decide)⟩ ?_
  right
  refine aR ?_
  have:=i (a.1+1,a.2*o.lf) ⟨by exact Nat.le_of_lt (cu (Int.add_lt_of_lt_sub_left x)),Int.mul_pos b ok.lf.1,by
   show a.2*o.lf<=16777216*16 ^ (a.1+1)
   rw[Int.pow_succ,←Int.mul_assoc]
   exact Int.mul_le_mul f ok.lf.2 (Int.le_of_lt ok.lf.1) (Int.mul_nonneg (by decide) (Int.pow_nonneg (by decide)))⟩ (by show k-(a.1+1)<k-a.1;exact Nat.sub_lt_sub_left (Nat.lt_of_succ_lt (cu (Int.add_lt_of_lt_sub_left x))) (Nat.lt_succ_self _))
  rw[show((k:Int)-((a.1,a.2).1+1:Nat))=(k:Int)-a.1-1 by show(k:Int)-((a.1+1:Nat):Int)=_;exact Int.le_antisymm (z0 [_,_] Oa rfl) (z0 [_,_] PN rfl)]at this
  exact this
 ·right
  exact ay (h a.2 b (by exact Int.lt_of_le_of_lt d (by decide)))
def Fk(fs:List FM):Prop:=∀f∈fs,0<=f.size/\f.size<2 ^ 40
theorem y9:∀{fs:List FM},Fk fs->0<=gQ fs/\gQ fs<=fs.length*2 ^ 40
 |[],_=>⟨Int.le_refl _,by decide⟩
 |f::r,h=>by
  have b:=h f (.head _)
  have a:=y9 (fs:=r) λg c=>h g (.tail _ c)
  have e:((f::r).length:Int)=r.length+1:=rfl
  rw[e];unfold gQ
  exact⟨Int.add_nonneg b.1 a.1,by rw[Int.add_mul,Int.one_mul,Int.add_comm f.size];exact Int.add_le_add a.2 (Int.le_of_lt b.2)⟩
noncomputable def LM(V:bp)(top bot bl:Int)(sc:Addr):bp:={V with top:=top,bot:=bot,bl:=bl,sc:=sc}
def yh(V:bp):Prop:=V.bot<=V.top->∃(k:Nat) (L:bM),V.bl=k/\k+1<V.lv.length/\V.lv[k]?=some L/\L.fs≠[]
structure Bx(V:bp):Prop where
 a:V.adr≠V.fl
 b:∀L∈V.lv,L.adr≠V.adr/\L.adr≠V.fl
 c:(V.lv.map bM.adr).Nodup
theorem xC{n:Nat}{V:bp}{o:Op}{σ:Hp}{Q:PX}(p:dN false σ V)(nd:Bx V)(m:qj V)(Z:∀L∈V.lv,Fk L.fs)(I:ft σ o)(ok:iS o)(nl:o.nl=V.lv.length)
  (h:∀(top bot K:Int) (f:Addr),σ f=none->yh (LM V top bot K f)->Q (.ref f) (upd (upd σ f (true,.tup [.int top,.int bot])) V.adr (false,.inst 16 [(21,.int V.lv.length),(44,.ref V.o),(45,.ref V.fl),(46,.int 0),(0,.ref f),(1,.int K)]))):cB ext (n+2) (F.fa 69) [.ref V.adr,.ref o.adr] σ Q:=by
 have W:=ok.f21
 have U:=ok.f22
 have v1:=p.v
 have v2:=p.fl
 have Y:=bh m.n rfl
 have e1:=aO (g:=bM.v) Y
 have ne:0<V.lv.length:=by have:=ok.nl;exact n2 [_,_] CU EP Ml rfl nl this.1
 obtain⟨d,w⟩:∃L,V.lv[0]?=some L:=⟨_,List.getElem?_eq_getElem ne⟩
 have z:d∈V.lv:=List.mem_of_getElem? w
 have e2:on (V.lv.map bM.v) 0=some d.v:=bQ w
 have v3:=p.lv d z
 have ll:=aO (g:=FM.v) (bh (m.len z) rfl)
 unfold ft at I
 refine aB (l:=[.ref V.adr,.ref o.adr,.undef,.undef,.undef,.undef,.undef,.undef]) MI rfl rfl ?_;show Go _ KO _ _ _;delta KO
 refine q7 (by left) (by rw[List.length_map];exact Int.ne_of_gt (z1 [_] CU CU rfl (cl ne))) ?_
 right
 refine jM (λa:(Int×Int×Int)×(AV×AV×AV)=>[.ref V.adr,.ref o.adr,.int a.1.1,.int a.1.2.1,.int a.1.2.2,a.2.1,a.2.2.1,a.2.2.2]) (λ_=>σ)
  (λ_ a=>0<=a.1.1/\a.1.1<2 ^ 50/\0<a.1.2.1/\∃(k:Nat) (L:bM),a.1.2.2=k/\k+1<V.lv.length/\V.lv[k]?=some L/\(0<a.1.1->L.fs≠[])) (((d.fs.map FM.v).length,o.l0,0),(.undef,.undef,.undef)) rfl rfl
  ⟨by decide,by decide,by have:=ok.nl;exact z1 [_] Gm (.le (.n 2) (.v 0)) rfl (cl this.1),by have:=ok.nl;exact z1 [_] EH yt rfl (cl this.2)⟩ ?_ ?_ ?_
 ·refine⟨Int.natCast_nonneg _,?_,ok.l0.1,0,d,rfl,by have:=ok.nl;exact n2 [_,_] (.le (.a (.a (.n 0) (.n 1)) (.n 1)) (.v 0)) EP Ml rfl nl this.1,w,λx e=>?_⟩
  ·have:=m.len z;rw[List.length_map];show(d.fs.length:Int)<_;exact Int.lt_of_le_of_lt (bF this) (by decide)
  ·rw[e]at x;exact absurd x (Int.lt_irrefl 0)
 ·intro i a R g1 g2 ⟨q,y,u,k,L,E,t,s,A⟩ J
  obtain⟨j,rfl⟩:∃j:Nat,i=j:=⟨i.toNat,(Int.toNat_of_nonneg (by exact Int.le_of_lt g1)).symm⟩
  obtain⟨b,B⟩:∃L,V.lv[j]?=some L:=⟨_,List.getElem?_eq_getElem (by exact Nat.lt_of_lt_of_eq (Nat.lt_of_succ_lt (ww g2)) nl)⟩
  have N:=List.mem_of_getElem? B
  have sb:=y9 (Z b N)
  have G:=m.len N
  right
  refine A3 p m B ?_
  right
  refine BE I ok (by have:=ok.nl;exact Nat.le_of_lt_succ (Nat.lt_of_lt_of_le (Nat.lt_of_succ_lt (ww g2)) this.2)) λr D r2=>?_
  refine dX (bR (ff (fv (by left) (by left) ⟨by exact z3 [_,_,_] (.le (.a (.g (.v 0)) (.n 1)) (.v 1)) Mn (.le (.a (.n 0) (.n 1)) (.v 2)) (.le (.a (.v 2) (.n 1)) (.v 0)) rfl sb.1 D r2,by exact Int.lt_trans (GE sb.2 G) (by decide)⟩) (fv (by left) (by left) ⟨by exact Int.lt_of_lt_of_le (by decide) q,by exact Int.lt_trans y (by decide)⟩) rfl)) (λx=>?_) λx=>?_
  ·right
   refine aR (J ((gQ b.fs,r,j),(.int j,.int (gQ b.fs),.int r)) ⟨sb.1,by show gQ b.fs<_;exact GE sb.2 G,D,j,b,rfl,by exact Nat.lt_of_lt_of_eq (ww g2) nl,B,λ_ e=>?_⟩)
   rw[e]at x
   exact absurd x (fX (by rw[show gQ []*a.1.2.1=0 from Int.zero_mul _];exact Int.mul_nonneg q (Int.le_of_lt D)))
  ·right
   exact aR (J ((a.1.1,a.1.2.1,a.1.2.2),(.int j,.int (gQ b.fs),.int r)) ⟨q,y,u,k,L,E,t,s,A⟩)
 ·intro i a _ _ _ ⟨q,y,u,k,L,E,t,s,A⟩
  right
  intro c O
  right
  exact cU (Wk.refl _) (h a.1.1 a.1.2.1 a.1.2.2 c O λx=>⟨k,L,E,t,s,A (Int.lt_of_lt_of_le u x)⟩)
end
section
variable {ext:bj}
noncomputable abbrev rf(a:Addr):AV:=.ref a
theorem af{σ:Hp}{a r:Addr}{c:Bool×AO}(h:σ a=some c)(n:σ r=none):a≠r:=λe=>by rw[e,n]at h;cases h
theorem NE{K:PX}{l:aG}{σ:Hp}(h:∃a,Wk a σ/\K .none a):cO K .next l σ:=h
theorem qG{n m:Nat}{v o:Addr}{σ:Hp}{Q:PX}(I:σ v=none)(ho:sj σ o)(Z:m<=7)
  (h:∀(V:bp) (j:Hp),V.adr=v->V.o=o->V.lv.length=m->(∀L∈V.lv,L.fs=[])->V.top=0->V.bot=1->V.bl= -1->aK σ j->dN false j V->Bx V->σ V.fl=none->(∀L∈V.lv,σ L.adr=none)->∃G,Wk G j/\Q .none G):
  cB ext (n+1) (F.fa 44) [.ref v,.int m,.ref o] (upd σ v (false,.inst 16 [])) Q:=by
 refine aB (l:=[.ref v,.int m,.ref o,.undef]) Nj rfl rfl ?_;show Go _ Km _ _ _;delta Km
 right
 intro g p
 have n1:v≠g:=af ab p
 have n2:σ g=none:=by rw[ac (Ne.symm n1)]at p;exact p
 have v1:=ag (c:=(false,.list [])) p (ab (σ:=σ) (a:=v) (c:=(false,.inst 16 (gF 44 (.ref o) (gF 21 (.int m) [])))))
 right
 refine dO (λa:List Addr×AV=>[.ref v,.int m,.ref o,a.2])
  (λi a j=>(a.1.length:Int)=i/\aK σ j/\j v=some (false,.inst 16 [(21,.int m),(44,.ref o),(45,.ref g)])/\j g=some (false,.list (a.1.map rf))/\(∀x∈a.1,j x=some (false,.list [])/\σ x=none/\x≠v/\x≠g)/\a.1.Nodup) ([],.undef) rfl ⟨by decide,by decide,Int.natCast_nonneg _,by exact z1 [_] jJ yt rfl (cl Z)⟩ ⟨rfl,?_,ab,?_,λ_=>nM,.nil⟩ ?_ ?_
 ·exact(((aK.refl σ).upd I).upd n2).upd I
 ·rw[ac (Ne.symm n1)];exact ab
 ·intro i a j R g1 g2 ⟨K,A,J,D,w,N⟩ ih
  have al:(a.1.map rf).length<=9000:=by rw[List.length_map];exact l9 K g2 Z
  refine dL (iH (aS (by left) (ja D rfl (aj (a8 aQ rfl λr t=>aD (dQ (ag t D) al ?_))))))
  have Y:v≠r:=af J t
  have W:g≠r:=af D t
  right
  refine aR (ih (a.1++[r],.int i) _ ⟨?_,(A.upd (A.nn t)).upd n2,?_,?_,λx b=>?_,?_⟩)
  ·show((a.1++[r]).length:Int)=i+1
   rw[List.length_append,←K];rfl
  ·show upd (upd _ _ _) _ _ v=_
   rw[ac n1,ac Y];exact J
  ·show upd (upd _ _ _) _ _ g=some (false,.list ((a.1++[r]).map rf))
   rw[List.map_append];exact ab
  ·rcases aE b with b|b
   ·obtain⟨B,O,z,E⟩:=w x b
    exact⟨by show upd (upd _ _ _) _ _ x=_;rw[ac E,ac (af B t)];exact B,O,z,E⟩
   ·obtain rfl:=aw b
    exact⟨by show upd (upd _ _ _) _ _ x=_;rw[ac (Ne.symm W)];exact ab,A.nn t,Ne.symm Y,Ne.symm W⟩
  ·exact List.nodup_append.mpr ⟨N,List.Pairwise.cons (λ_ h=>nM h) .nil,λx b y hy=>by rw[aw hy];exact af (w x b).1 t⟩
 ·intro i a j g1 g2 g3 ⟨K,A,J,D,w,N⟩
  have s:a.1.length=m:=by exact lE K g2 g3
  right
  intro u q
  right
  have d:j u=none:=by
   have:u≠v:=λe=>by rw[e,ab]at q;cases q
   rw[ac this]at q;exact q
  have s1:v≠u:=af J d
  have s2:g≠u:=af D d
  have U:aK σ _:=(((A.upd I (c:=(false,.inst 16 (gF 46 (.int 0) [(21,.int m),(44,.ref o),(45,.ref g)])))).upd (A.nn d) (c:=(true,.tup [.int 0,.int 1]))).upd I (c:=(false,.inst 16 (gF 1 (.int (-1)) (gF 0 (.ref u) (gF 46 (.int 0) [(21,.int m),(44,.ref o),(45,.ref g)]))))))
  refine NE (h ⟨v,g,o,u,a.1.map λx=>⟨x,[]⟩,0,1, -1⟩ _ rfl rfl (by rw[List.length_map];exact s) (λL k=>by obtain⟨x,_,rfl⟩:=bw k;rfl) rfl rfl rfl U ⟨?_,ho.fz U.fz,?_,λL k=>?_,λL k f hf=>?_,?_⟩ ⟨n1,λL k=>?_,?_⟩ n2 λL k=>?_)
  ·rw[ab,List.length_map,s];rfl
  ·show upd (upd (upd _ _ _) _ _) _ _ g=_
   rw[ac (Ne.symm n1),ac s2,ac (Ne.symm n1),List.map_map];exact D
  ·obtain⟨x,b,rfl⟩:=bw k
   obtain⟨B,O,z,E⟩:=w x b
   show upd (upd (upd _ _ _) _ _) _ _ x=_
   rw[ac z,ac (af B d),ac z];exact B
  ·obtain⟨x,b,rfl⟩:=bw k;cases hf
  ·show upd (upd (upd _ _ _) _ _) _ _ u=_
   rw[ac (Ne.symm s1)];exact ab
  ·obtain⟨x,b,rfl⟩:=bw k
   obtain⟨B,O,z,E⟩:=w x b
   exact⟨z,E⟩
  ·show((a.1.map λx=>(⟨x,[]⟩:bM)).map bM.adr).Nodup
   rw[List.map_map];exact(List.map_id' a.1).symm▸N
  ·obtain⟨x,b,rfl⟩:=bw k
   exact(w x b).2.1
end
section
variable {ext:bj}
structure Mk(σ Z:Hp)(m b D A:Addr)(U as:List Addr)(O N:Nat->List (Int×AV)):Prop where
 ex:aK σ Z
 cm:Z m=some (false,.inst 17 [(47,.ref b),(48,.bool false),(41,.ref D),(42,.ref A)])
 cD:Z D=some (false,.list (U.map rf))
 cA:Z A=some (false,.list (as.map rf))
 cd:∀i x,U[i]?=some x->Z x=some (false,.dict (O i))
 ca:∀i x,as[i]?=some x->Z x=some (false,.dict (N i))
 n1:U.Nodup
 n2:as.Nodup
 n3:∀x∈U,∀y∈as,x≠y
 nd:∀x∈U,x≠m/\x≠D/\x≠A
 na:∀x∈as,x≠m/\x≠D/\x≠A
 mD:m≠D
 mA:m≠A
 DA:D≠A
 fm:σ m=none
 fD:σ D=none
 fA:σ A=none
 fd:∀x∈U,σ x=none
 fa:∀x∈as,σ x=none
variable {σ Z:Hp} {m b D A:Addr} {U as:List Addr} {O N:Nat->List (Int×AV)}
theorem Mk.dm(h:Mk σ Z m b D A U as O N){x:Addr}(c:x∈U):∃o,Z x=some (false,o):=by
 obtain⟨i,a⟩:=List.getElem?_of_mem c;exact⟨_,h.cd i x a⟩
theorem Mk.am(h:Mk σ Z m b D A U as O N){x:Addr}(c:x∈as):∃o,Z x=some (false,o):=by
 obtain⟨i,a⟩:=List.getElem?_of_mem c;exact⟨_,h.ca i x a⟩
theorem iu{l:List Addr}{r:Addr}(h:l.Nodup)(k:∀x∈l,x≠r):(l++[r]).Nodup:=List.nodup_append.mpr ⟨h,List.Pairwise.cons (λ_ h=>nM h) .nil,λx c y a=>by rw[aw a];exact k x c⟩
theorem qI{B:Type}{l:List B}{r x:B}{i:Nat}(h:(l++[r])[i]?=some x):l[i]?=some x∨(i=l.length/\x=r):=by
 by_cases e:i<l.length
 ·rw[List.getElem?_append_left e]at h;exact .inl h
 ·rw[List.getElem?_append_right (Nat.not_lt.mp e)]at h
  cases c:i-l.length with
  |zero=>rw[c]at h;exact .inr ⟨by exact Nat.le_antisymm (n2 [_,_,_] J0 (.eq (.v 2) (.n 0)) (.le (.v 0) (.a (.v 2) (.v 1))) rfl c (sb (i) (l.length))) (n1 [_,_] J0 J0 rfl (nl e)),(Option.some.inj h).symm⟩
  |succ k=>rw[c]at h;cases h
theorem Mk.pushD(h:Mk σ Z m b D A U as O N){r:Addr}(c:Z r=none)(p:O U.length=[]):Mk σ (upd (upd Z r (false,.dict [])) D (false,.list (U.map rf++[rf r]))) m b D A (U++[r]) as O N:=by
 have g:=af h.cm c
 have j:=af h.cD c
 have d:=af h.cA c
 have f:∀x∈U,x≠r:=λx a=>by obtain⟨o,e⟩:=h.dm a;exact af e c
 have l:∀x∈as,x≠r:=λx a=>by obtain⟨o,e⟩:=h.am a;exact af e c
 have k:=h.ex.nn c
 refine⟨(h.ex.upd k).upd h.fD,?_,?_,?_,λi x a=>?_,λi x a=>?_,iu h.n1 f,h.n2,λx a y n=>?_,λx a=>?_,h.na,h.mD,h.mA,h.DA,h.fm,h.fD,h.fA,λx a=>?_,h.fa⟩
 ·rw[ac h.mD,ac g];exact h.cm
 ·rw[List.map_append];exact ab
 ·rw[ac (Ne.symm h.DA),ac d];exact h.cA
 ·rcases qI a with a|⟨rfl,rfl⟩
  ·have:=List.mem_of_getElem? a
   rw[ac (h.nd x this).2.1,ac (f x this)];exact h.cd i x a
  ·rw[ac (Ne.symm j),p];exact ab
 ·have:=List.mem_of_getElem? a
  rw[ac (h.na x this).2.1,ac (l x this)];exact h.ca i x a
 ·rcases aE a with a|a
  ·exact h.n3 x a y n
  ·rw[aw a];exact Ne.symm (l y n)
 ·rcases aE a with a|a
  ·exact h.nd x a
  ·rw[aw a];exact⟨Ne.symm g,Ne.symm j,Ne.symm d⟩
 ·rcases aE a with a|a
  ·exact h.fd x a
  ·rw[aw a];exact k
theorem Mk.pushA(h:Mk σ Z m b D A U as O N){r:Addr}(c:Z r=none)(p:N as.length=[]):Mk σ (upd (upd Z r (false,.dict [])) A (false,.list (as.map rf++[rf r]))) m b D A U (as++[r]) O N:=by
 have j:=af h.cm c
 have k:=af h.cD c
 have f:=af h.cA c
 have g:∀x∈U,x≠r:=λx a=>by obtain⟨o,e⟩:=h.dm a;exact af e c
 have n:∀x∈as,x≠r:=λx a=>by obtain⟨o,e⟩:=h.am a;exact af e c
 have l:=h.ex.nn c
 refine⟨(h.ex.upd l).upd h.fA,?_,?_,?_,λi x a=>?_,λi x a=>?_,h.n1,iu h.n2 n,λx a y d=>?_,h.nd,λx a=>?_,h.mD,h.mA,h.DA,h.fm,h.fD,h.fA,h.fd,λx a=>?_⟩
 ·rw[ac h.mA,ac j];exact h.cm
 ·rw[ac h.DA,ac k];exact h.cD
 ·rw[List.map_append];exact ab
 ·have:=List.mem_of_getElem? a
  rw[ac (h.nd x this).2.2,ac (g x this)];exact h.cd i x a
 ·rcases qI a with a|⟨rfl,rfl⟩
  ·have:=List.mem_of_getElem? a
   rw[ac (h.na x this).2.2,ac (n x this)];exact h.ca i x a
  ·rw[ac (Ne.symm f),p];exact ab
 ·rcases aE d with d|d
  ·exact h.n3 x a y d
  ·rw[aw d];exact g x a
 ·rcases aE a with a|a
  ·exact h.na x a
  ·rw[aw a];exact⟨Ne.symm j,Ne.symm k,Ne.symm f⟩
 ·rcases aE a with a|a
  ·exact h.fa x a
  ·rw[aw a];exact l
theorem gV{l:List Addr}(h:l.Nodup){i j:Nat}{x y:Addr}(hi:l[i]?=some x)(a:l[j]?=some y)(n:j≠i):y≠x:=by
 obtain⟨d,rfl⟩:=be hi
 obtain⟨c,rfl⟩:=be a
 exact λe=>n ((List.getElem_inj h).mp e)
noncomputable def aI{B:Type}(f:Nat->B)(i:Nat)(v:B):Nat->B:=λj=>if j=i then v else f j
theorem lT{B:Type}{f:Nat->B}{i:Nat}{v:B}:aI f i v i=v:=if_pos rfl
theorem nU{B:Type}{f:Nat->B}{i j:Nat}{v:B}(h:j≠i):aI f i v j=f j:=if_neg h
theorem Mk.setD(h:Mk σ Z m b D A U as O N){i:Nat}{x:Addr}(d:U[i]?=some x)(es:List (Int×AV)):Mk σ (upd Z x (false,.dict es)) m b D A U as (aI O i es) N:=by
 have c:=List.mem_of_getElem? d
 obtain⟨f,g,k⟩:=h.nd x c
 refine⟨h.ex.upd (h.fd x c),?_,?_,?_,λj y a=>?_,λj y a=>?_,h.n1,h.n2,h.n3,h.nd,h.na,h.mD,h.mA,h.DA,h.fm,h.fD,h.fA,h.fd,h.fa⟩
 ·rw[ac (Ne.symm f)];exact h.cm
 ·rw[ac (Ne.symm g)];exact h.cD
 ·rw[ac (Ne.symm k)];exact h.cA
 ·by_cases e:j=i
  ·subst e;rw[d]at a;cases a;rw[lT];exact ab
  ·rw[nU e,ac (gV h.n1 d a e)];exact h.cd j y a
 ·rw[ac (Ne.symm (h.n3 x c y (List.mem_of_getElem? a)))];exact h.ca j y a
theorem Mk.setA(h:Mk σ Z m b D A U as O N){i:Nat}{x:Addr}(d:as[i]?=some x)(es:List (Int×AV)):Mk σ (upd Z x (false,.dict es)) m b D A U as O (aI N i es):=by
 have c:=List.mem_of_getElem? d
 obtain⟨f,g,k⟩:=h.na x c
 refine⟨h.ex.upd (h.fa x c),?_,?_,?_,λj y a=>?_,λj y a=>?_,h.n1,h.n2,h.n3,h.nd,h.na,h.mD,h.mA,h.DA,h.fm,h.fD,h.fA,h.fd,h.fa⟩
 ·rw[ac (Ne.symm f)];exact h.cm
 ·rw[ac (Ne.symm g)];exact h.cD
 ·rw[ac (Ne.symm k)];exact h.cA
 ·rw[ac (h.n3 y (List.mem_of_getElem? a) x c)];exact h.cd j y a
 ·by_cases e:j=i
  ·subst e;rw[d]at a;cases a;rw[lT];exact ab
  ·rw[nU e,ac (gV h.n2 d a e)];exact h.ca j y a
theorem zm{n:Nat}{V:bp}{Q:PX}(e:σ m=none)(G:dN true σ V)(y:qj V)
  (h:∀(D A:Addr) (U as:List Addr) (Z:Hp),U.length=V.lv.length->as.length=V.lv.length->Mk σ Z m V.adr D A U as (λ_=>[]) (λ_=>[])->Q .none Z):
  cB ext (n+1) (F.fa 54) [.ref m,.ref V.adr] (upd σ m (false,.inst 17 [])) Q:=by
 have E:=G.v
 refine aB (l:=[.ref m,.ref V.adr,.undef]) NG rfl rfl ?_;show Go _ ID _ _ _;delta ID
 right
 intro D s
 have f:m≠D:=af ab s
 have x:σ D=none:=by rw[ac (Ne.symm f)]at s;exact s
 have I:∀c,upd σ m c V.adr=_:=λc=>ag e E
 right
 intro A hA
 have j:m≠A:=af ab hA
 have t:D≠A:=af (by rw[ac (Ne.symm f)];exact ab) hA
 have w:σ A=none:=by rw[ac (Ne.symm j),ac (Ne.symm t),ac (Ne.symm j)]at hA;exact hA
 right
 have q:=y.n
 refine dO (λa:List Addr×List Addr×AV=>[.ref m,.ref V.adr,a.2.2]) (λi a Z=>Mk σ Z m V.adr D A a.1 a.2.1 (λ_=>[]) (λ_=>[])/\(a.1.length:Int)=i/\(a.2.1.length:Int)=i) ([],[],.undef) rfl ⟨by decide,by decide,Int.natCast_nonneg _,by exact z1 [_] jJ yt rfl (cl q)⟩ ⟨?_,rfl,rfl⟩ ?_ ?_
 ·exact⟨((((aK.new e).upd x).upd e).upd w).upd e,ab,by rw[ac (Ne.symm f),ac t,ac (Ne.symm f)];exact ab,by rw[ac (Ne.symm j)];exact ab,λ_ _ h=>oQ h,λ_ _ h=>oQ h,.nil,.nil,λ_=>nM,λ_=>nM,λ_=>nM,f,j,t,e,x,w,λ_=>nM,λ_=>nM⟩
 ·intro i a Z R g1 g2 ⟨k,p,o⟩ z
  have K:=k.cm
  have b1:(a.1.map rf).length<=9000:=by rw[List.length_map];exact l9 p g2 q
  have b2:(a.2.1.map rf).length<=9000:=by rw[List.length_map];exact l9 o g2 q
  refine dL (iH (aS (by left) (ja k.cD rfl (aj (yg λr u=>aD (dQ (ag u k.cD) b1 ?_))))))
  have g:=k.pushD u rfl
  have J:=g.cm
  refine dL (iH (aS (by left) (ja g.cA rfl (aj (yg λB d=>aD (dQ (ag d g.cA) b2 ?_))))))
  have k2:=g.pushA d rfl
  right
  exact aR (z (a.1++[r],a.2.1++[B],.int i) _ ⟨k2,by rw[List.length_append,←p];rfl,by rw[List.length_append,←o];rfl⟩)
 ·intro i a Z g1 g2 g3 ⟨k,p,o⟩
  right
  exact gn (Wk.refl _) (h D A a.1 a.2.1 Z (by exact lE p g2 g3) (by exact lE o g2 g3) k)
theorem o7{n i:Nat}{V:bp}{Q:PX}(d:Z m=some (false,.inst 17 [(47,.ref V.adr),(48,.bool false),(41,.ref D),(42,.ref A)]))(a:dN true Z V)(hi:i<V.lv.length)(h:Q .none Z):cB ext (n+1) (F.fa 55) [.ref m,.int i] Z Q:=by
 have c:=a.v
 refine aB (l:=[.ref m,.int i]) Mp rfl rfl ?_;show Go _ I3 _ _ _;delta I3
 refine gE (by left) (kI (fX (Int.natCast_nonneg _)) (Int.not_le.mpr (dF hi))) ?_
 right
 exact gn (Wk.refl _) h
def bA(k:Nat)(a b:FM):Prop:=if k=0 then a.num<b.num else a.hi.u<b.lo.u
theorem vH{n k:Nat}{V:bp}{f g:FM}{Q:PX}(E:Z m=some (false,.inst 17 [(47,.ref V.adr),(48,.bool false),(41,.ref D),(42,.ref A)]))(h:dN true Z V)(j:nL Z f)(p:nL Z g)(r:f.ok)(go:g.ok)(lf:f.lo.u<=f.hi.u)(q:g.lo.u<=g.hi.u)
  (d:bA k f g->Q (.bool true) Z) (c:bA k g f->Q (.bool false) Z) (sep:bA k f g∨bA k g f):cB ext (n+5) (F.fa 57) [.ref m,.int k,f.v,g.v] Z Q:=by
 have B:=h.v
 obtain⟨t,w,z⟩:=id h.o
 unfold nL at j p
 unfold bA at d c sep
 refine aB (l:=[.ref m,.int k,f.v,g.v,.undef]) Lu rfl rfl ?_;show Go _ Jv _ _ _;delta Jv
 refine dX (by left) (λx=>?_) λx=>?_
 ·have a:k≠0:=λe=>by rw[e]at x;exact absurd x (by decide)
  rw[if_neg a]at d c sep
  right
  refine eU h.o r.1 go.1 ?_
  rcases sep with s|s
  ·have e:jW f.lo.u f.lo.s f.lo.k g.lo.u g.lo.s g.lo.k= -1:=if_pos (Nat.lt_of_le_of_lt lf s)
   rw[e]
   refine dX (by left) (λ_=>?_) λy=>absurd (by decide) y
   right
   exact(ay (d s))
  ·rw[if_neg a]at s
   have i:=Nat.lt_of_le_of_lt q s
   have e:jW f.lo.u f.lo.s f.lo.k g.lo.u g.lo.s g.lo.k=1:=by unfold jW;rw[if_neg (iJ (Nat.le_of_lt i)),if_pos i]
   rw[e]
   refine dX (by left) (λ_=>?_) λy=>absurd (by decide) y
   right
   exact(ay (c s))
 ·have a:k=0:=by exact OH x
  rw[if_pos a]at d c sep
  right
  rcases sep with s|s
  ·rw[decide_eq_true (dF s)];exact ay (d s)
  ·rw[if_pos a]at s
   rw[decide_eq_false (fX (bF (Nat.le_of_lt s)))];exact ay (c s)
end
section
variable {ext:bj} {Z:Hp} {m D A:Addr}
theorem Ar{k:Nat}{a b c:FM}(h:bA k a b)(g:bA k b c)(d:b.lo.u<=b.hi.u):bA k a c:=by
 unfold bA at h g ⊢
 by_cases e:k=0
 ·rw[if_pos e]at h g ⊢;exact Nat.lt_trans h g
 ·rw[if_neg e]at h g ⊢;exact Nat.lt_trans (Nat.lt_of_lt_of_le h d) g
theorem Bz{k:Nat}{a b:FM}(h:bA k a b)(c:a.lo.u<=a.hi.u)(d:b.lo.u<=b.hi.u):¬bA k b a:=by
 unfold bA at h ⊢
 by_cases e:k=0
 ·rw[if_pos e]at h ⊢;exact iJ (Nat.le_of_lt h)
 ·rw[if_neg e]at h ⊢;exact iJ (n3 [_,_,_,_] J0 DI J4 NA rfl h c d)
theorem wW{n k:Nat}{V:bp}{G:Addr}{cur:List FM}{f:FM}{Q:PX}(hm:Z m=some (false,.inst 17 [(47,.ref V.adr),(48,.bool false),(41,.ref D),(42,.ref A)]))(hV:dN true Z V)(t:Z G=some (false,.list (cur.map FM.v)))(Y:cM Z cur)(hf:nL Z f)
  (ok:pZ cur) (fo:f.ok) (N:∀g∈cur,g.lo.u<=g.hi.u) (lf:f.lo.u<=f.hi.u) (len:cur.length<=900) (O:cur.Pairwise (bA k)) (sep:∀g∈cur,bA k g f∨bA k f g)
  (h:∀i:Nat,(cur.take i++f::cur.drop i).Pairwise (bA k)->Q .none (upd Z G (false,.list ((cur.take i++f::cur.drop i).map FM.v)))):cB ext (n+6) (F.fa 58) [.ref m,.int k,.ref G,f.v] Z Q:=by
 have lm:=aO (g:=FM.v) (bh len rfl)
 have s:∀(i j:Nat) (a b:FM),i<j->cur[i]?=some a->cur[j]?=some b->bA k b f->bA k a f:=λi j a b lt hi d c=>by
  have E:=List.mem_of_getElem? d
  obtain⟨li,rfl⟩:=be hi
  obtain⟨lj,rfl⟩:=be d
  exact Ar (List.pairwise_iff_getElem.mp O i j li lj lt) c (N _ E)
 refine aB (l:=[.ref m,.int k,.ref G,f.v,.undef,.undef,.undef]) LW rfl rfl ?_;show Go _ IX _ _ _;delta IX
 right
 refine mH (λa:Nat×Nat×AV=>[.ref m,.int k,.ref G,f.v,.int a.1,.int a.2.1,a.2.2]) (λ_=>Z) (λa=>a.1<=a.2.1/\a.2.1<=cur.length/\(∀(j:Nat) (g:FM),cur[j]?=some g->j<a.1->bA k g f)/\(∀(j:Nat) (g:FM),cur[j]?=some g->a.2.1<=j->bA k f g))
  (λa=>a.2.1-a.1) (0,cur.length,.undef) (by rw[List.length_map];rfl) rfl ⟨Nat.zero_le _,Nat.le_refl _,λj f _ d=>absurd d (Nat.not_lt_zero _),λj f d hh=>absurd (be d).1 (iJ hh)⟩ ?_
 rintro⟨lo,hi,mm⟩ R ⟨g1,g2,g3,I⟩ W
 dsimp only at g1 g2 g3 I
 refine hF (by left) (br (λx=>?_) λx=>?_)
 ·have w:lo<hi:=cu x
  refine bG (aU (by left) (show AV.int (((lo:Int)+hi)/2)=AV.int ((lo+hi)/2:Nat)from congrArg AV.int (by exact rfl))) ?_
  have p:(lo+hi)/2<hi:=by exact m2 [_,_,_] J2 1 1 1 Fc La rfl w (Nat.mul_div_le (lo+hi) 2)
  have r:lo<=(lo+hi)/2:=by exact m2 [_,_,_] J0 1 1 1 J4 Nd rfl g1 (Nat.lt_mul_div_succ (lo+hi) (show 0<2 by decide))
  generalize (lo+hi)/2=o at p r
  obtain⟨g,q⟩:∃f,cur[o]?=some f:=⟨_,List.getElem?_eq_getElem (Nat.lt_of_lt_of_le p g2)⟩
  have e3:=bQ (g:=FM.v) q
  have y:=List.mem_of_getElem? q
  have J:=Nat.sub_lt_sub_left w (Nat.lt_succ_of_le r)
  refine bK (kX (aV (by left) (by nofun) rfl (by kernel_rfl) (by left) (vH hm hV (Y g y) hf (ok g y) fo (N g y) lf (λc=>?_) (λc=>?_) (sep g y))))
  ·refine dK ?_
   right
   exact aR (W (o+1,hi,.int o) ⟨p,g2,λj a d B=>by
    by_cases e:j=o
    ·subst e;rw[q]at d;cases d;exact c
    ·exact s j o a g (Nat.lt_of_le_of_ne (Nat.le_of_lt_succ B) e) d q c,I⟩ J)
  ·refine dK ?_
   right
   exact aR (W (lo,o,.int o) ⟨r,Nat.le_trans (Nat.le_of_lt p) g2,g3,λj a d K=>by
    by_cases e:j=o
    ·subst e;rw[q]at d;cases d;exact c
    ·have am:=List.mem_of_getElem? d
     exact(sep a am).resolve_left λc'=>Bz c lf (N g y) (s o j g a (Nat.lt_of_le_of_ne K (Ne.symm e)) q d c')⟩ (Nat.sub_lt_sub_right r p))
 ·obtain rfl:lo=hi:=Nat.le_antisymm g1 (Int.ofNat_le.mp (Int.not_lt.mp x))
  have pw:(cur.take lo++f::cur.drop lo).Pairwise (bA k):=by
   have z:=O
   rw[←List.take_append_drop lo cur]at z
   obtain⟨s1,s2,s3⟩:=List.pairwise_append.mp z
   have t1:∀g∈cur.take lo,bA k g f:=λg q=>by
    obtain⟨j,d⟩:=List.getElem?_of_mem q
    have t:=(be d).1
    rw[List.length_take]at t
    rw[List.getElem?_take_of_lt (by exact Nat.lt_of_lt_of_le t (Nat.min_le_left _ _))]at d
    exact g3 j g d (by exact Nat.lt_of_lt_of_le t (Nat.min_le_left _ _))
   have t2:∀g∈cur.drop lo,bA k f g:=λg q=>by
    obtain⟨j,d⟩:=List.getElem?_of_mem q
    rw[List.getElem?_drop]at d
    exact I _ g d (Nat.le_add_right _ _)
   refine List.pairwise_append.mpr ⟨s1,List.pairwise_cons.mpr ⟨t2,s2⟩,λa U b E=>?_⟩
   rcases au E with rfl|E
   ·exact t1 a U
   ·exact s3 a U b E
  refine dL (iH (aS (by left) (ja t rfl (BS (by left) (EX t lm (by rw[List.length_map];exact g2) ?_)))))
  right
  refine gn (Wk.refl _) ?_
  have:=h lo pw
  rw[List.map_append,List.map_cons,List.map_take,List.map_drop]at this
  exact this
end
section
variable {ext:bj}
structure K6(V:bp):Prop where
 sm:qj V
 nd:(nums V).Nodup
 ok:∀L∈V.lv,pZ L.fs
 le:∀L∈V.lv,∀f∈L.fs,¬0<dD f.lo f.hi
 so:∀(k:Nat) (L:bM),V.lv[k]?=some L->L.fs.Pairwise (bA k)
theorem BJ{u v:Nat}(b:u<4)(a:v<4):(!decide (bv u<bv v))=decide (v<=u):=by
 rw[show decide (bv u<bv v)=decide (u<v)from decide_eq_decide.mpr (hG u b v a)]
 by_cases e:u<v
 ·rw[decide_eq_true e,decide_eq_false (eK e)];rfl
 ·rw[decide_eq_false e,decide_eq_true (Nat.not_lt.mp e)];rfl
theorem ye{n:Nat}{b:Bool}{V:bp}{σ:Hp}{Q:PX}(N:dN b σ V)(q:K6 V)(h:Q .none σ):cB ext (n+5) (F.fa 53) [.ref V.adr] σ Q:=by
 have v1:=N.v
 have nl:(nums V).length<=60:=eH (V:=V)▸q.sm.f
 refine aB (l:=[.ref V.adr,.undef,.undef,.undef,.undef,.undef,.undef]) NH rfl rfl ?_;show Go _ Kb _ _ _;delta Kb
 right
 refine ip N q.sm λs r Y U O=>?_
 have hE:=aK.new (c:=(true,.list (s.map .int))) O
 have m:=N.up hE
 have w1:=m.v
 have w2:=m.fl
 obtain⟨uo,o1,o2⟩:=id m.o
 have e1:=aO (g:=bM.v) (bh q.sm.n rfl)
 have G:s.length<=60:=Y.length_eq▸nl
 have nd:=Y.nodup_iff.mpr q.nd
 have le:=aO (g:=AV.int) (bh G rfl)
 right
 refine jM (λa:AV=>[.ref V.adr,.ref r,a,.undef,.undef,.undef,.undef]) (λ_=>upd σ r (true,.list (s.map .int))) (λ_ _=>True) .undef rfl rfl ⟨by decide,by decide,Int.natCast_nonneg _,bF le⟩ trivial ?_ ?_
 ·intro i a R g1 g2 _ E
  obtain⟨j,rfl⟩:∃j:Nat,i=(j:Int)+1:=⟨(i-1).toNat,by exact O6 g1⟩
  have A:j+1<s.length:=by rw[List.length_map]at g2;exact cu g2
  have x1:=bQ (g:=AV.int) (List.getElem?_eq_getElem (Nat.lt_of_succ_lt A))
  have x2:on (s.map .int) ((j:Int)+1)=some (.int s[j+1]):=bQ (List.getElem?_eq_getElem A)
  have x3:on (s.map .int) ((j:Int)+1-1)=some (.int (s[j]'(Nat.lt_of_succ_lt A))):=by rw[Int.add_sub_cancel];exact x1
  refine q7 (by left) (λe=>absurd ((List.getElem_inj nd).mp e) (Nat.ne_of_lt (Nat.lt_succ_self j))) ?_
  right
  exact aR (E (.int ((j:Int)+1)) trivial)
 ·intro i a _ _ _ _
  right
  refine jM (λa:(AV×AV)×AV×AV×AV=>[.ref V.adr,.ref r,a.1.1,a.1.2,a.2.1,a.2.2.1,a.2.2.2]) (λ_=>upd σ r (true,.list (s.map .int))) (λ_ _=>True) ((a,.undef),.undef,.undef,.undef) rfl rfl ⟨by decide,by decide,Int.natCast_nonneg _,bF (bh q.sm.n rfl)⟩ trivial ?_ ?_
  ·intro i c R g1 g2 _ E
   obtain⟨k,rfl⟩:∃k:Nat,i=k:=⟨i.toNat,(Int.toNat_of_nonneg g1).symm⟩
   obtain⟨L,I⟩:∃L,V.lv[k]?=some L:=⟨_,List.getElem?_eq_getElem (cu g2)⟩
   have e2:=bQ (g:=bM.v) I
   have w:=List.mem_of_getElem? I
   have w3:=m.lv L w
   have ll:=aO (g:=FM.v) (bh (q.sm.len w) rfl)
   right
   refine jM (λa:AV×AV×AV=>[.ref V.adr,.ref r,a.1,.int k,L.v,a.2.1,a.2.2]) (λ_=>upd σ r (true,.list (s.map .int))) (λ_ _=>True) (c.1.1,c.2.2.1,c.2.2.2) rfl rfl ⟨by decide,by decide,Int.natCast_nonneg _,bF ll⟩ trivial ?_ ?_
   ·intro i d R' g1 g2 _ t
    obtain⟨j,rfl⟩:∃j:Nat,i=j:=⟨i.toNat,(Int.toNat_of_nonneg g1).symm⟩
    have A:j<L.fs.length:=by rw[List.length_map]at g2;exact cu g2
    obtain⟨f,D⟩:∃f,L.fs[j]?=some f:=⟨_,List.getElem?_eq_getElem A⟩
    have e3:=bQ (g:=FM.v) D
    have B:=List.mem_of_getElem? D
    have h5:=m.fs L w f B
    unfold nL at h5
    have K:=q.ok L w f B
    right
    refine bK (kX (cG (aV (by left) (by nofun) rfl (by kernel_rfl) (by left) (eU m.o K.1 K.2 (iK (zu (dK (GN (q.le L w f B) (ak (cq ?_))))))))))
    refine dX (by left) (λx=>?_) λx=>?_
    ·right
     exact yq (t (.int j,f.v,d.2.2) trivial)
    ·obtain⟨p,rfl⟩:∃p,j=p+1:=⟨j-1,by exact(Nat.succ_pred_eq_of_ne_zero λe=>x (ce e)).symm⟩
     obtain⟨g,J⟩:∃f,L.fs[p]?=some f:=⟨_,List.getElem?_eq_getElem (Nat.lt_of_succ_lt A)⟩
     have e4:on (L.fs.map FM.v) (((p+1:Nat):Int)-1)=some g.v:=by rw[show((p+1:Nat):Int)-1=p by exact Int.le_antisymm (z0 [_] (.le (.a (.a (.v 0) (.n 1)) (.g (.n 1))) (.v 0)) rfl) (z0 [_] (.le (.v 0) (.a (.a (.v 0) (.n 1)) (.g (.n 1)))) rfl)];exact bQ J
     have W:=List.mem_of_getElem? J
     have Z:=m.fs L w g W
     unfold nL at Z
     have gk:=q.ok L w g W
     have U:=q.so k L I
     have lo:bA k g f:=by
      obtain⟨lp,rfl⟩:=be J
      obtain⟨lq,rfl⟩:=be D
      exact List.pairwise_iff_getElem.mp U p (p+1) lp lq (Nat.lt_succ_self p)
     unfold bA at lo
     right
     refine dX (by left) (λy=>?_) λy=>?_
     ·rw[if_pos (cW y)]at lo
      refine q7 (by left) (Int.not_le.mpr (dF lo)) ?_
      right
      exact aR (t (.int (p+1:Nat),f.v,g.v) trivial)
     ·rw[if_neg λz=>y (congrArg Int.ofNat z)]at lo
      refine bK (kX (cG (aW (by left) (bO (aW (by left) (bO (Il (dK ?_))))))))
      rw[BJ gk.2.u K.1.u]
      refine GN (eK lo) ?_
      right
      exact aR (t (.int (p+1:Nat),f.v,g.v) trivial)
   ·intro i d _ _ _ _
    right
    exact aR (E ((d.1,.int k),L.v,d.2.1,d.2.2) trivial)
  ·intro i c _ _ _ _
   right
   exact gn (jX O) h
end
section
variable {ext:bj} {σ Z:Hp} {m D A:Addr} {U as:List Addr}
structure Ed where
 adr:Addr
 cp:Addr
 dlA:Addr
 alA:Addr
 dl:List (Addr×Nat×Nat)
 al:List (Addr×Nat×FM)
structure j8(σ:Hp)(E:Ed):Prop where
 e:σ E.adr=some (true,.inst 15 [(36,.none),(37,.none),(38,.none),(39,.none),(40,.ref E.cp),(41,.ref E.dlA),(42,.ref E.alA),(43,.bool false)])
 d:σ E.dlA=some (false,.list (E.dl.map λp=>rf p.1))
 a:σ E.alA=some (false,.list (E.al.map λp=>rf p.1))
 c:∃xs,σ E.cp=some (false,.list xs)
 dt:∀p∈E.dl,σ p.1=some (true,.tup [.int p.2.1,.int p.2.2])
 at':∀p∈E.al,σ p.1=some (true,.tup [.int p.2.1,p.2.2.v])/\nL σ p.2.2
structure HG(n:Nat)(E:Ed):Prop where
 dn:∀p∈E.dl,p.2.1<n
 an:∀p∈E.al,p.2.1<n
 nd:(E.al.map λp=>p.2.2.num).Nodup
 dj:∀p∈E.dl,∀q∈E.al,p.2.1=q.2.1->p.2.2≠q.2.2.num
 ld:E.dl.length<=60
 la:E.al.length<=60
theorem yV{x y:Int}{v:AV}{es:List (Int×AV)}:(bE (d6 x v es) y).isSome=true↔((bE es y).isSome=true∨y=x):=by
 have c:∀(es:List (Int×AV)) (y:Int),(bE es y).isSome=true↔∃e∈es,e.1=y:=λes y=>by
  unfold bE
  rw[Option.isSome_map,List.find?_isSome]
  exact⟨λ⟨e,b,d⟩=>⟨e,b,of_decide_eq_true d⟩,λ⟨e,b,d⟩=>⟨e,b,decide_eq_true d⟩⟩
 rw[c,c]
 unfold d6
 by_cases h:es.any (λe=>decide (e.1=x))=true
 ·rw[if_pos h]
  obtain⟨f,i,b⟩:=List.any_eq_true.mp h
  constructor
  ·rintro⟨e,a,rfl⟩
   obtain⟨g,j,rfl⟩:=bw a
   refine .inl ⟨g,j,?_⟩
   by_cases z:g.1=x
   ·rw[if_pos z]
   ·rw[if_neg z]
  ·rintro(⟨e,a,rfl⟩|rfl)
   ·refine⟨_,dg ⟨e,a,rfl⟩,?_⟩
    by_cases z:e.1=x
    ·rw[if_pos z]
    ·rw[if_neg z]
   ·refine⟨_,dg ⟨f,i,rfl⟩,?_⟩
    rw[if_pos (of_decide_eq_true b)];exact of_decide_eq_true b
 ·rw[if_neg h]
  constructor
  ·rintro⟨e,a,rfl⟩
   rcases aE a with a|a
   ·exact .inl ⟨e,a,rfl⟩
   ·rw[aw a];exact .inr rfl
  ·rintro(⟨e,a,rfl⟩|rfl)
   ·exact⟨e,List.mem_append_left _ a,rfl⟩
   ·exact⟨(y,v),List.mem_append_right _ (.head _),rfl⟩
theorem nR{x:Int}{v:AV}{es:List (Int×AV)}:(d6 x v es).length<=es.length+1:=by
 unfold d6
 by_cases h:es.any (λe=>decide (e.1=x))=true
 ·rw[if_pos h,List.length_map];exact Nat.le_succ _
 ·rw[if_neg h,List.length_append];exact Nat.le_refl _
theorem yb{x:Int}{v:AV}{es:List (Int×AV)}(h:∀e∈es,e.1≠x):d6 x v es=es++[(x,v)]:=by
 unfold d6
 rw[if_neg]
 intro k
 obtain⟨e,b,a⟩:=List.any_eq_true.mp k
 exact h e b (of_decide_eq_true a)
noncomputable def cQ(al:List (Addr×Nat×FM))(k:Nat):List FM:=(al.filter λp=>decide (p.2.1=k)).map (·.2.2)
noncomputable def gT(al:List (Addr×Nat×FM))(k:Nat):List (Int×AV):=(cQ al k).map λf=>((f.num:Int),f.v)
theorem E0{a:List (Addr×Nat×FM)}{q:Addr×Nat×FM}:cQ (a++[q]) q.2.1=cQ a q.2.1++[q.2.2]:=by
 unfold cQ
 rw[List.filter_append,List.filter_cons,if_pos (decide_eq_true rfl),List.map_append];rfl
theorem DK{a:List (Addr×Nat×FM)}{q:Addr×Nat×FM}{k:Nat}(h:q.2.1≠k):cQ (a++[q]) k=cQ a k:=by
 unfold cQ
 rw[List.filter_append,List.filter_cons,if_neg (by rw[decide_eq_false h];exact fT)];exact congrArg _ (List.append_nil _)
theorem zx{n:Nat}{V:bp}{E:Ed}{Q:PX}(G:Mk σ Z m V.adr D A U as (λ_=>[]) (λ_=>[]))(hV:dN true σ V)(Y:qj V)(ld:U.length=V.lv.length)(la:as.length=V.lv.length)(t:j8 σ E)(s:HG V.lv.length E)
  (h:∀(dd:Nat->List (Int×AV)) (W:Hp),Mk σ W m V.adr D A U as dd (gT E.al)->(∀k x,(bE (dd k) x).isSome=true↔∃p∈E.dl,p.2.1=k/\(p.2.2:Int)=x)->Q .none W):
  cB ext (n+2) (F.fa 56) [.ref m,.ref E.adr] Z Q:=by
 have cm:=G.cm
 have ee:=G.ex _ _ t.e
 have ed:=G.ex _ _ t.d
 have ea:=G.ex _ _ t.a
 have O:=hV.up G.ex
 refine aB (l:=[.ref m,.ref E.adr,.undef,.undef,.undef]) LJ rfl rfl ?_;show Go _ Kq _ _ _;delta Kq
 right
 refine gB E.dl (λp=>rf p.1) (λa:AV×AV=>[.ref m,.ref E.adr,a.1,a.2,.undef]) (λ_=>Z) (λ_ _=>True) (.undef,.undef) rfl rfl ed (bh s.ld rfl) (λ_ _ _=>⟨_,ed⟩) trivial ?_ ?_
 ·intro i p us a R e _ I
  have r:=aP e
  refine vR (G.ex _ _ (t.dt p r)) (dL (aV (by left) (by nofun) rfl (by kernel_rfl) (by left) (o7 G.cm O (s.dn p r) ?_)))
  right
  exact aR (I (.int p.2.1,.int p.2.2) trivial)
 intro a _
 right
 refine gB E.al (λp=>rf p.1) (λb:AV×AV=>[.ref m,.ref E.adr,b.1,a.2,b.2]) (λ_=>Z) (λ_ _=>True) (a.1,.undef) rfl rfl ea (bh s.la rfl) (λ_ _ _=>⟨_,ea⟩) trivial ?_ ?_
 ·intro i p us b R e _ I
  have r:=aP e
  refine vR (G.ex _ _ (t.at' p r).1) (dL (aV (by left) (by nofun) rfl (by kernel_rfl) (by left) (o7 G.cm O (s.an p r) ?_)))
  right
  exact aR (I (.int p.2.1,p.2.2.v) trivial)
 intro b _
 refine gE (by left) rfl ?_
 right
 refine eP E.dl (λp=>rf p.1) (λc:(Nat->List (Int×AV))×AV×AV=>[.ref m,.ref E.adr,c.2.1,c.2.2,b.2]) (λi c Z=>Mk σ Z m V.adr D A U as c.1 (λ_=>[])/\(∀k,(c.1 k).length<=i.length)/\∀k x,(bE (c.1 k) x).isSome=true↔∃p∈i,p.2.1=k/\(p.2.2:Int)=x)
  (λ_=>[],b.1,a.2) rfl ed (bh s.ld rfl) (λ_ _ Z p=>⟨_,p.1.ex _ _ t.d⟩) ⟨G,λ_=>Nat.le_refl _,λk x=>⟨fT,λ⟨_,h,_⟩=>nM h⟩⟩ ?_ ?_
 ·intro i p us c Z R e ⟨k1,k2,k3⟩ I
  have r:=aP e
  obtain⟨x,K⟩:∃x,U[p.2.1]?=some x:=⟨_,List.getElem?_eq_getElem (ld▸s.dn p r)⟩
  obtain⟨y,N⟩:∃y,as[p.2.1]?=some y:=⟨_,List.getElem?_eq_getElem (la▸s.dn p r)⟩
  have ex:=bQ (g:=rf) K
  have ey:=bQ (g:=rf) N
  have lD:=aO (g:=rf) (bs:=U) (by rw[ld];exact bh Y.n rfl)
  have lA:=aO (g:=rf) (bs:=as) (by rw[la];exact bh Y.n rfl)
  have c1:=k1.cm
  have c2:=k1.cD
  have pl:i.length<=60:=Nat.le_trans (by rw[e,List.length_append];exact Nat.le_add_right _ _) s.ld
  refine vR (k1.ex _ _ (t.dt p r)) (dC (aS aT (aS (by left) (aS (by left) (Bp (k1.cd _ _ K) (bh (Nat.le_trans (k2 _) pl) rfl) ?_)))))
  have u:=k1.setD K (d6 p.2.2 (.bool true) (c.1 p.2.1))
  have c3:=u.cm
  have c4:=u.cA
  have c5:=u.ca _ _ N
  refine gE (bR (jB (by left) (by left) c5)) rfl ?_
  right
  refine aR (I (aI c.1 p.2.1 (d6 p.2.2 (.bool true) (c.1 p.2.1)),.int p.2.1,.int p.2.2) _ ⟨u,λk=>?_,λk z=>?_⟩)
  ·rw[List.length_append]
   by_cases q:k=p.2.1
   ·subst q;show List.length (aI _ _ _ _)<=_;rw[lT];exact Nat.le_trans nR (Nat.add_le_add_right (k2 _) 1)
   ·show List.length (aI _ _ _ _)<=_;rw[nU q];exact Nat.le_trans (k2 _) (Nat.le_add_right _ _)
  ·show(bE (aI _ _ _ _) _).isSome=true↔_
   by_cases q:k=p.2.1
   ·subst q;rw[lT,yV,k3]
    constructor
    ·rintro(⟨w,o,B⟩|rfl)
     ·exact⟨w,List.mem_append_left _ o,B⟩
     ·exact⟨p,List.mem_append_right _ (.head _),rfl,rfl⟩
    ·rintro⟨w,o,B,J⟩
     rcases aE o with o|o
     ·exact .inl ⟨w,o,B,J⟩
     ·rw[aw o]at J;exact .inr J.symm
   ·rw[nU q,k3]
    constructor
    ·rintro⟨w,o,B⟩;exact⟨w,List.mem_append_left _ o,B⟩
    ·rintro⟨w,o,B,J⟩
     rcases aE o with o|o
     ·exact⟨w,o,B,J⟩
     ·rw[aw o]at B;exact absurd B.symm q
 intro c Z ⟨k1,k2,k3⟩
 have c1:=k1.cm
 have γ:=k1.ex _ _ t.e
 have β:=k1.ex _ _ t.a
 right
 refine eP E.al (λp=>rf p.1) (λd:AV×AV=>[.ref m,.ref E.adr,d.1,c.2.2,d.2]) (λi d Z=>Mk σ Z m V.adr D A U as c.1 (gT i)) (c.2.1,b.2) rfl β (bh s.la rfl) (λ_ _ Z p=>⟨_,p.ex _ _ t.a⟩) k1 ?_ ?_
 ·intro i p us d Z R e k1 I
  have r:=aP e
  obtain⟨x,K⟩:∃x,U[p.2.1]?=some x:=⟨_,List.getElem?_eq_getElem (ld▸s.an p r)⟩
  obtain⟨y,N⟩:∃y,as[p.2.1]?=some y:=⟨_,List.getElem?_eq_getElem (la▸s.an p r)⟩
  have ex:=bQ (g:=rf) K
  have ey:=bQ (g:=rf) N
  have lD:=aO (g:=rf) (bs:=U) (by rw[ld];exact bh Y.n rfl)
  have lA:=aO (g:=rf) (bs:=as) (by rw[la];exact bh Y.n rfl)
  have c1:=k1.cm
  have c2:=k1.cA
  have pl:i.length<=60:=Nat.le_trans (by rw[e,List.length_append];exact Nat.le_add_right _ _) s.la
  have pf:=k1.ex.fz _ _ (t.at' p r).2
  have al:(gT i p.2.1).length<=9000:=by
   unfold gT cQ;rw[List.length_map,List.length_map]
   exact Nat.le_trans (List.length_filter_le _ _) (bh pl rfl)
  refine vR (k1.ex _ _ (t.at' p r).1) (dC (aS (by left) (aS (by left) (aS (by left) (Bp (k1.ca _ _ N) al ?_)))))
  have nw:d6 p.2.2.num p.2.2.v (gT i p.2.1)=gT i p.2.1++[((p.2.2.num:Int),p.2.2.v)]:=yb λg hg z=>by
   unfold gT cQ at hg
   rw[List.map_map]at hg
   obtain⟨q,hq,rfl⟩:=bw hg
   have nd:=s.nd
   rw[e,List.map_append,List.map_cons]at nd
   exact(List.nodup_append.mp nd).2.2 _ (List.mem_map_of_mem (f:=λp:Addr×Nat×FM=>p.2.2.num) (fH hq).1) _ (.head _) (cW z)
  have u:=k1.setA N (d6 p.2.2.num p.2.2.v (gT i p.2.1))
  have c3:=u.cm
  have c4:=u.cD
  have c5:=u.cd _ _ K
  have δ:=u.ex.fz _ _ (t.at' p r).2
  have no:(bE (c.1 p.2.1) p.2.2.num).isSome=false:=by
   cases z:(bE (c.1 p.2.1) p.2.2.num).isSome with
   |false=>rfl
   |true=>
    obtain⟨w,o,B,J⟩:=(k3 _ _).mp z
    exact(s.dj w o p r B (cW J)).elim
  refine gE (bR (jB (by left) (by left) c5)) no ?_
  right
  refine aR (I (.int p.2.1,p.2.2.v) _ ?_)
  rw[nw]at u
  have ef:aI (gT i) p.2.1 (gT i p.2.1++[((p.2.2.num:Int),p.2.2.v)])=gT (i++[p]):=funext λj=>by
   by_cases q:j=p.2.1
   ·subst q;rw[lT];unfold gT;rw[E0,List.map_append];rfl
   ·rw[nU q];unfold gT;rw[DK (Ne.symm q)]
  rw[ef]at u
  rw[nw]
  exact u
 ·intro d Z k1
  right
  exact gn (Wk.refl _) (h c.1 Z k1 k3)
end
section
variable {ext:bj} {σ Z:Hp} {m D A:Addr} {U as:List Addr}
theorem oZ{B C:Type}{f:B->C}:∀{xs:List B} {ys:List C},ys.Perm (xs.map f)->∃zs:List B,zs.Perm xs/\zs.map f=ys:=by
 intro xs ys h
 generalize e:xs.map f=j at h
 induction h generalizing xs with
 |nil=>
  cases xs with
  |nil=>exact⟨[],.nil,rfl⟩
  |cons a l=>cases e
 |cons a h o=>
  cases xs with
  |nil=>cases e
  |cons x l=>
   obtain⟨rfl,rfl⟩:=List.cons.inj e
   obtain⟨zs,i,g⟩:=o rfl
   exact⟨x::zs,i.cons x,by rw[List.map_cons,g]⟩
 |swap a b l=>
  cases xs with
  |nil=>cases e
  |cons x l=>
   cases l with
   |nil=>cases(List.cons.inj e).2
   |cons y l=>
    obtain⟨rfl,n⟩:=List.cons.inj e
    obtain⟨rfl,rfl⟩:=List.cons.inj n
    exact⟨y::x::l,.swap _ _ _,rfl⟩
 |trans i g c d=>
  obtain⟨zs,g1,g2⟩:=d e
  obtain⟨j,g3,k⟩:=c g2
  exact⟨j,g3.trans g1,k⟩
noncomputable def kS(dl:List (Addr×Nat×Nat))(k:Nat)(f:FM):Bool:=dl.any λp=>decide (p.2.1=k/\p.2.2=f.num)
noncomputable def cS(E:Ed)(k:Nat)(fs:List FM):List FM:=fs.filter λf=>!kS E.dl k f
structure iI(V:bp)(E:Ed)(V':bp):Prop where
 n:V'.lv.length=V.lv.length
 l:∀(k:Nat) (L:bM),V.lv[k]?=some L->∃L',V'.lv[k]?=some L'/\L'.fs.Perm (cS E k L.fs++cQ E.al k)/\L'.fs.Pairwise (bA k)
structure Lp(V:bp)(E:Ed):Prop where
 gd:∀(k:Nat) (L:bM),V.lv[k]?=some L->∀f∈cS E k L.fs++cQ E.al k,f.ok/\f.lo.u<=f.hi.u
 sep:∀(k:Nat) (L:bM),V.lv[k]?=some L->(cS E k L.fs++cQ E.al k).Pairwise λa b=>bA k a b∨bA k b a
 so:∀(k:Nat) (L:bM),V.lv[k]?=some L->L.fs.Pairwise (bA k)
 nw:∀(k:Nat) (L:bM),V.lv[k]?=some L->∀f∈cS E k L.fs,∀g∈cQ E.al k,f.num≠g.num
 ck:∀V',iI V E V'->K6 V'
noncomputable def setL(W:bp)(k:Nat)(a:Addr)(fs:List FM):bp:={W with lv:=W.lv.set k ⟨a,fs⟩}
theorem pE{W:List bM}{k:Nat}{L:bM}{fs:List FM}(h:W[k]?=some L){B:Type}{g:bM->B}(a:∀L:bM,g L=g ⟨L.adr,[]⟩):(W.set k ⟨L.adr,fs⟩).map g=W.map g:=by
 rw[List.map_set,a ⟨L.adr,fs⟩,←a L]
 refine List.ext_getElem? λi=>?_
 rw[List.getElem?_set]
 by_cases e:k=i
 ·subst e
  have:=(be h).1
  rw[if_pos rfl,List.length_map,if_pos this,List.getElem?_map,h];rfl
 ·rw[if_neg e]
theorem lu{W:bp}{k:Nat}{L:bM}{fs:List FM}(h:W.lv[k]?=some L):(setL W k L.adr fs).lv[k]?=some ⟨L.adr,fs⟩:=by
 show(W.lv.set k _)[k]?=_
 rw[List.getElem?_set,if_pos rfl,if_pos (be h).1]
theorem pU{W:bp}{k j:Nat}{a:Addr}{fs:List FM}(h:k≠j):(setL W k a fs).lv[j]?=W.lv[j]?:=by
 show(W.lv.set k _)[j]?=_
 rw[List.getElem?_set,if_neg h]
theorem dN.setF{W:bp}{k:Nat}{L:bM}{fs:List FM}(h:dN false Z W)(p:Bx W)(g:W.lv[k]?=some L)(r:cM Z fs):dN false (upd Z L.adr (false,.list (fs.map FM.v))) (setL W k L.adr fs):=by
 have n:=List.mem_of_getElem? g
 obtain⟨s,t⟩:=p.b L n
 have q:=h.lv L n
 have z:=Fz.mut (c:=(false,.list (fs.map FM.v))) q
 have f:∀M∈(setL W k L.adr fs).lv,M=⟨L.adr,fs⟩∨(M∈W.lv/\M.adr≠L.adr):=λM a=>by
  obtain⟨j,d⟩:=List.getElem?_of_mem a
  by_cases e:k=j
  ·subst e;rw[lu g]at d;exact .inl (Option.some.inj d).symm
  ·rw[pU e]at d
   refine .inr ⟨List.mem_of_getElem? d,gV p.c (by rw[List.getElem?_map,g];rfl) (by rw[List.getElem?_map,d];rfl) (Ne.symm e)⟩
 refine⟨?_,h.o.fz z,?_,λM a=>?_,λM a=>?_,z _ _ h.sc⟩
 ·show upd _ _ _ W.adr=_
  rw[ac (Ne.symm s),show(setL W k L.adr fs).lv.length=W.lv.length from List.length_set];exact h.v
 ·show upd _ _ _ W.fl=_
  rw[ac (Ne.symm t),show(setL W k L.adr fs).lv.map bM.v=W.lv.map bM.v from pE g λ_=>rfl];exact h.fl
 ·rcases f M a with rfl|⟨i,l⟩
  ·exact ab
  ·rw[ac l];exact h.lv M i
 ·rcases f M a with rfl|⟨i,l⟩
  ·exact r.fz z
  ·exact(h.fs M i).fz z
theorem Bx.setL{W:bp}{k:Nat}{L:bM}{fs:List FM}(d:Bx W)(l:W.lv[k]?=some L):Bx (setL W k L.adr fs):=by
 have e:(Mine.setL W k L.adr fs).lv.map bM.adr=W.lv.map bM.adr:=pE l λ_=>rfl
 refine⟨d.a,λM h=>?_,by rw[e];exact d.c⟩
 have:=List.mem_map_of_mem (f:=bM.adr) h
 rw[e]at this
 obtain⟨i,j,g⟩:=bw this
 rw[←g];exact d.b i j
theorem DQ{W:bp}{k:Nat}{a:Addr}{X Y:List FM}:setL (setL W k a X) k a Y=setL W k a Y:=by
 unfold setL;dsimp only;rw[List.set_set]
theorem dN.at2{W:bp}{k:Nat}{L:bM}{X:List FM}(h:dN false Z (setL W k L.adr X))(a:W.lv[k]?=some L):Z L.adr=some (false,.list (X.map FM.v)):=h.lv _ (List.mem_of_getElem? (lu a))
theorem dN.setF2{W:bp}{k:Nat}{L:bM}{X Y:List FM}(h:dN false Z (setL W k L.adr X))(b:Bx W)(a:W.lv[k]?=some L)(c:cM Z Y):dN false (upd Z L.adr (false,.list (Y.map FM.v))) (setL W k L.adr Y):=by
 have:=dN.setF (fs:=Y) h (b.setL a) (lu a) c
 rw[DQ]at this;exact this
theorem Aa{fs:List FM}{f:FM}(a:(fs.map FM.num).Nodup)(b:f∈fs):bE (fs.map λf=>((f.num:Int),f.v)) f.num=some f.v:=by
 induction fs with
 |nil=>cases b
 |cons g r c=>
  rw[List.map_cons,List.nodup_cons]at a
  unfold bE
  rw[List.map_cons,List.find?_cons]
  by_cases e:g.num=f.num
  ·rw[show decide ((((g.num:Int),g.v):Int×AV).1=(f.num:Int))=true from decide_eq_true (congrArg Int.ofNat e)]
   rcases au b with rfl|h
   ·rfl
   ·exact absurd (e▸List.mem_map_of_mem (f:=FM.num) h) a.1
  ·rw[show decide ((((g.num:Int),g.v):Int×AV).1=(f.num:Int))=false from decide_eq_false (λz=>e (cW z))]
   rcases au b with rfl|h
   ·exact absurd rfl e
   ·exact c a.2 h
theorem AE{fs:List FM}{x:Nat}(h:∀g∈fs,x≠g.num):(bE (fs.map λf=>((f.num:Int),f.v)) x).isSome=false:=by
 unfold bE
 rw[Option.isSome_map]
 cases e:(fs.map λf=>((f.num:Int),f.v)).find? _ with
 |none=>rfl
 |some p=>
  have a:=List.find?_some e
  obtain⟨g,b,rfl⟩:=bw (List.mem_of_find?_eq_some e)
  exact absurd (cW (of_decide_eq_true a)).symm (h g b)
theorem vp{n:Nat}{V:bp}{E:Ed}{dd:Nat->List (Int×AV)}{Q:PX}(hk:Mk σ Z m V.adr D A U as dd (gT E.al))(hV:dN true σ V)(K:qj V)(ld:U.length=V.lv.length)(la:as.length=V.lv.length)(hE:j8 σ E)(eo:HG V.lv.length E)(ok:Lp V E)
  (hd:∀k x,(bE (dd k) x).isSome=true↔∃p∈E.dl,p.2.1=k/\(p.2.2:Int)=x)
  (h:∀(V':bp) (γ:Hp),iI V E V'->V'.o=V.o->aK Z γ->dN false γ V'->Bx V'->Z V'.adr=none->Z V'.fl=none->(∀L∈V'.lv,Z L.adr=none)->Q (.ref V'.adr) γ):
  cB ext (n+7) (F.fa 59) [.ref m] Z Q:=by
 have cm:=hk.cm
 have s:=hV.up hk.ex
 have v1:=s.v
 have dB:∀k f,(bE (dd k) (f:FM).num).isSome=kS E.dl k f:=λk f=>by
  cases e:kS E.dl k f with
  |true=>
   obtain⟨p,h1,I⟩:=List.any_eq_true.mp e
   obtain⟨I,h3⟩:=of_decide_eq_true I
   exact(hd k f.num).mpr ⟨p,h1,I,congrArg Int.ofNat h3⟩
  |false=>
   cases z:(bE (dd k) f.num).isSome with
   |false=>rfl
   |true=>
    obtain⟨p,h1,I,h3⟩:=(hd k f.num).mp z
    have:=(List.any_eq_true (p:=λp:Addr×Nat×Nat=>decide (p.2.1=k/\p.2.2=f.num))).mpr ⟨p,h1,decide_eq_true ⟨I,cW h3⟩⟩
    exact absurd (e.symm.trans this) fT
 refine aB (l:=[.ref m,.undef,.undef,.undef,.undef,.undef]) Nz rfl rfl ?_;show Go _ JG _ _ _;delta JG
 refine az (fR (by left) rfl λv hv=>?_)
 refine qG hv (s.o) K.n λW μ w1 w2 w3 w4 w5 w6 w7 w8 w9 ξ φ ε=>⟨μ,Wk.refl _,?_⟩
 subst w1
 right
 have c1:=w8 _ _ cm
 have v2:=w8 _ _ v1
 right
 refine dO (λa:bp×AV×AV×AV×AV=>[.ref m,.ref W.adr,a.2.1,a.2.2.1,a.2.2.2.1,a.2.2.2.2]) (λi a υ=>aK Z υ/\dN false υ a.1/\Bx a.1/\a.1.adr=W.adr/\a.1.o=V.o/\a.1.fl=W.fl/\a.1.lv.map bM.adr=W.lv.map bM.adr/\(∀(j:Nat) (L:bM),(j:Int)<i->V.lv[j]?=some L->∃L',a.1.lv[j]?=some L'/\L'.fs.Perm (cS E j L.fs++cQ E.al j)/\L'.fs.Pairwise (bA j))/\(∀(j:Nat) (L:bM),i<=(j:Int)->a.1.lv[j]?=some L->L.fs=[]))
  (W,.undef,.undef,.undef,.undef) rfl ⟨by decide,by decide,Int.natCast_nonneg _,bF (bh K.n rfl)⟩ ⟨w8,w9,ξ,rfl,w2,rfl,rfl,λj L hj=>absurd hj (fX (Int.natCast_nonneg _)),λj L _ hj=>w4 L (List.mem_of_getElem? hj)⟩ ?_ ?_
 ·intro i a υ R g1 g2 ⟨p1,p2,p3,p4,p5,p6,p7,p8,p9⟩ ih
  obtain⟨k,rfl⟩:∃k:Nat,i=k:=⟨i.toNat,(Int.toNat_of_nonneg g1).symm⟩
  have kl:k<V.lv.length:=cu g2
  have al:a.1.lv.length=V.lv.length:=by have:=congrArg List.length p7;rw[List.length_map,List.length_map]at this;rw[this,w3]
  obtain⟨L,G⟩:∃L,V.lv[k]?=some L:=⟨_,List.getElem?_eq_getElem kl⟩
  obtain⟨M,B⟩:∃L,a.1.lv[k]?=some L:=⟨_,List.getElem?_eq_getElem (al▸kl)⟩
  have M0:=p9 k M (Int.le_refl _) B
  have w:=List.mem_of_getElem? G
  obtain⟨x,hx⟩:∃x,U[k]?=some x:=⟨_,List.getElem?_eq_getElem (ld▸kl)⟩
  obtain⟨y,hy⟩:∃y,as[k]?=some y:=⟨_,List.getElem?_eq_getElem (la▸kl)⟩
  have ex:=bQ (g:=rf) hx
  have ey:=bQ (g:=rf) hy
  have lD:=aO (g:=rf) (bs:=U) (by rw[ld];exact bh K.n rfl)
  have lA:=aO (g:=rf) (bs:=as) (by rw[la];exact bh K.n rfl)
  have lV:=aO (g:=bM.v) (bh K.n rfl)
  have lW:=aO (g:=bM.v) (bs:=a.1.lv) (by rw[al];exact bh K.n rfl)
  have eV:=bQ (g:=bM.v) G
  have eW:=bQ (g:=bM.v) B
  have c1:=p1 _ _ cm
  have v2:=(s.up p1).v
  have v3:=(s.up p1).fl
  have v4:=(s.up p1).lv L w
  have u1:υ W.adr=_:=p4▸p2.v
  have u2:=p2.fl
  have s0:setL a.1 k M.adr []=a.1:=by
   have:(⟨M.adr,[]⟩:bM)=M:=by rw[←M0]
   unfold setL;rw[this]
   have π:=(be B)
   rw[←π.2,List.set_getElem_self]
  have sA:∀b,aK Z b->b V.adr=_/\b V.fl=_/\b L.adr=_/\b m=_/\b D=_/\b A=_/\b x=_/\b y=_:=λb e=>⟨(s.up e).v,(s.up e).fl,(s.up e).lv L w,e _ _ cm,e _ _ hk.cD,e _ _ hk.cA,e _ _ (hk.cd _ _ hx),e _ _ (hk.ca _ _ hy)⟩
  have fM:Z M.adr=none:=by
   obtain⟨M',h1,I⟩:=bw (p7▸List.mem_map_of_mem (f:=bM.adr) (List.mem_of_getElem? B))
   exact I▸ε M' h1
  right
  refine jd (by left) (λ_=>?_) (λh=>absurd h (by decide))
  right
  refine eP L.fs FM.v (λc:AV=>[.ref m,.ref W.adr,.int k,M.v,c,a.2.2.2.2]) (λu _ b=>aK Z b/\dN false b (setL a.1 k M.adr (cS E k u))) a.2.2.2.1 rfl v4 (bh (K.len w) rfl) (λ_ _ b p=>⟨_,(sA b p.1).2.2.1⟩) ⟨p1,s0.symm▸p2⟩ ?_ ?_
  ·intro u f us c b R' e ⟨q1,q2⟩ O
   have fm:=aP e
   obtain⟨z1,z2,z3,z4,z5,z6,z7,z8⟩:=sA b q1
   have h5:=(s.up q1).fs L w f fm
   have χ:=h5
   unfold nL at h5
   have q3:=q2.at2 B
   have θ:=dB k f
   refine mY ?_
   cases db:kS E.dl k f with
   |true=>
    refine EO (bR (aU (jB (by left) (by left) z7) (congrArg AV.bool (θ.trans db)))) ?_
    right
    exact yq (O f.v b ⟨q1,by unfold cS;rw[List.filter_append,List.filter_cons,db];exact(List.append_nil (cS E k u)).symm▸q2⟩)
   |false=>
    have st:f∈cS E k L.fs:=List.mem_filter.mpr ⟨fm,by rw[db];rfl⟩
    refine gE (bR (jB (by left) (by left) z7)) (θ.trans db) ?_
    refine gE (bR (jB (by left) (by left) z8)) (AE (ok.nw k L G f st)) ?_
    have ql:=aO (g:=FM.v) (bs:=cS E k u) (Nat.le_trans (List.length_filter_le _ _) (Nat.le_trans (by rw[e,List.length_append];exact Nat.le_add_right _ _) (bh (K.len w) rfl)))
    right
    have es:cS E k (u++[f])=cS E k u++[f]:=by unfold cS;rw[List.filter_append,List.filter_cons,db];rfl
    have:=q2.setF2 (Y:=cS E k u++[f]) p3 B λg r=>(s.up q1).fs L w g (by
     rcases aE r with r|r
     ·rw[e];exact List.mem_append_left _ (fH r).1
     ·rw[aw r];exact fm)
    rw[List.map_append]at this
    exact aR (O f.v _ ⟨q1.upd fM,es▸this⟩)
  ·intro c b ⟨q1,q2⟩
   obtain⟨z1,z2,z3,z4,z5,z6,z7,z8⟩:=sA b q1
   have β:(cQ E.al k).length<=60:=by unfold cQ;rw[List.length_map];exact Nat.le_trans (List.length_filter_le _ _) eo.la
   have κ:((cQ E.al k).map FM.num).Nodup:=by
    unfold cQ;rw[List.map_map]
    exact List.Sublist.nodup (List.filter_sublist.map _) eo.nd
   have ζ:(gT E.al k).length<=60:=by unfold gT;rw[List.length_map];exact β
   right
   refine mJ (aj (aS (by left) (aD (y5 z8 ζ λsc ns δ pm _=>?_))))
   have ν:ns.Perm ((cQ E.al k).map λf=>(f.num:Int)):=by unfold gT at pm;rw[List.map_map]at pm;exact pm
   obtain⟨gs,gp,rfl⟩:=oZ ν
   have gl:gs.length<=60:=gp.length_eq▸β
   have eM:=q2.at2 B
   have ρ:sc≠M.adr:=Ne.symm (af eM δ)
   rw[List.map_map]
   have η:=((gp.symm.append_left (cS E k L.fs)).pairwise_iff λh=>h.symm).mp (ok.sep k L G)
   refine eP gs (λf=>.int f.num) (λd:AV=>[.ref m,.ref W.adr,.int k,M.v,c,d]) (λu _ ω=>aK Z ω/\ω sc=some (false,.list (gs.map λf=>.int f.num))/\∃t,dN false ω (setL a.1 k M.adr t)/\t.Perm (cS E k L.fs++u)/\t.Pairwise (bA k)) a.2.2.2.2 rfl ab (bh gl rfl) (λ_ _ ω p=>⟨_,p.2.1⟩)
    ⟨q1.trans (aK.new δ),ab,cS E k L.fs,q2.up (aK.new δ),by rw[List.append_nil],(ok.so k L G).filter _⟩ ?_ ?_
   ·intro u f us d ω R' e ⟨r1,r2,t,r3,r4,r5⟩ O
    have fg:=aP e
    have fa:f∈cQ E.al k:=gp.mem_iff.mp fg
    obtain⟨z1,z2,z3,z4,z5,z6,z7,z8⟩:=sA ω r1
    have J:∀g∈cS E k L.fs++cQ E.al k,nL ω g:=λg r=>by
     rcases aE r with r|r
     ·exact(s.up r1).fs L w g (fH r).1
     ·unfold cQ at r
      obtain⟨p,hp,rfl⟩:=bw r
      exact(hk.ex.trans r1).fz _ _ (hE.at' p (fH hp).1).2
    have mc:∀g∈t,g∈cS E k L.fs++cQ E.al k:=λg r=>by
     rcases aE (r4.mem_iff.mp r)with r|r
     ·exact List.mem_append_left _ r
     ·exact List.mem_append_right _ (gp.mem_iff.mp (e▸List.mem_append_left _ r))
    have mf:=List.mem_append_right (cS E k L.fs) fa
    have gd:=ok.gd k L G
    have cl:t.length<=900:=by
     rw[r4.length_eq,List.length_append]
     have h1:=List.length_filter_le (λf=>!kS E.dl k f) L.fs
     have I:=K.len w
     have h3:u.length<=gs.length:=by rw[e,List.length_append];exact Nat.le_add_right _ _
     unfold cS;exact m4 [_,_,_,_] (.le (.a (.v 0) (.v 1)) (.n 900)) 0 1 1 1 1 FX (.le (.v 0) (.v 3)) (.le (.v 3) (.n 60)) Pz rfl gl h1 I h3
    have sp:∀g∈t,bA k g f∨bA k f g:=λg r=>by
     have:=η
     rw[e,←List.append_assoc]at this
     exact(List.pairwise_append.mp this).2.2 g (r4.mem_iff.mp r) f (.head _)
    have r6:=r3.at2 B
    have hd:=Aa κ fa
    refine mY (dL (aV (by left) (by nofun) rfl (by kernel_rfl) (ax (by left) (ax (by left) (ax (Ec (by left) (by left) z8 (bh ζ rfl) hd) aQ))) ?_))
    refine wW z4 (s.up r1) r6 (λg r=>J g (mc g r)) (J f mf) (λg r=>(gd g (mc g r)).1) (gd f mf).1 (λg r=>(gd g (mc g r)).2) (gd f mf).2 cl r5 sp λi pw=>?_
    right
    refine aR (O (.int f.num) _ ⟨r1.upd fM,by rw[ac ρ];exact r2,t.take i++f::t.drop i,r3.setF2 p3 B λg r=>?_,?_,pw⟩)
    ·rcases aE r with r|r
     ·exact J g (mc g (List.mem_of_mem_take r))
     ·rcases au r with rfl|r
      ·exact J g mf
      ·exact J g (mc g (List.mem_of_mem_drop r))
    ·refine List.perm_middle.trans ?_
     rw[List.take_append_drop,←List.append_assoc]
     exact(r4.cons f).trans (List.perm_append_comm (l₁:=[f]))
   ·intro d ω ⟨r1,r2,t,r3,r4,r5⟩
    right
    refine aR (ih (setL a.1 k M.adr t,.int k,M.v,c,d) ω ⟨r1,r3,p3.setL B,p4,p5,p6,(pE B λ_=>rfl).trans p7,λj N hj hN=>?_,λj N hj hN=>?_⟩)
    ·by_cases q:k=j
     ·subst q
      rw[G]at hN;cases hN
      exact⟨_,lu B,r4.trans (gp.append_left _),r5⟩
     ·obtain⟨N',n1,n2⟩:=p8 j N (by exact dF (ln (cu hj) λe=>q e.symm)) hN
      exact⟨N',(pU q).trans n1,n2⟩
    ·exact p9 j N (by exact Int.le_of_lt hj) ((pU (by exact Nat.ne_of_lt (cu hj))).symm.trans hN)
 ·intro i a υ g1 g2 g3 ⟨p1,p2,p3,p4,p5,p6,p7,p8,p9⟩
  have al:a.1.lv.length=V.lv.length:=by have:=congrArg List.length p7;rw[List.length_map,List.length_map]at this;rw[this,w3]
  have md:iI V E a.1:=⟨al,λk L G=>p8 k L (Int.lt_of_lt_of_le (dF (be G).1) g2) G⟩
  have u1:υ W.adr=_:=p4▸p2.v
  refine dL (aV (by left) (by nofun) rfl (by kernel_rfl) (by left) ?_)
  rw[←p4]
  refine ye p2 (ok.ck _ md) ?_
  right
  rw[←p4]at hv
  refine cU (Wk.refl _) (h a.1 υ md p5 p1 p2 p3 hv (p6▸φ) λL G=>?_)
  obtain⟨M',h1,I⟩:=bw (p7▸List.mem_map_of_mem (f:=bM.adr) G)
  exact I▸ε M' h1
end
section
variable {ext:bj} {σ Z:Hp}
noncomputable def frz(σ Z:Hp):Hp:=λa=>match σ a with
 |some c=>some c
 |none=>(Z a).map λc=>(true,c.2)
theorem xP{a:Addr}{c:Bool×AO}(h:σ a=some c):frz σ Z a=some c:=by unfold frz;rw[h]
theorem mZ{a:Addr}{fz:Bool}{o:AO}(h:Z a=some (fz,o))(n:σ a=none):frz σ Z a=some (true,o):=by unfold frz;rw[n,h];rfl
theorem tO(_:aK σ Z):aK σ (frz σ Z):=λ_ _ e=>xP e
theorem zk(b:aK σ Z):Fz Z (frz σ Z):=λa o e=>by
 cases h:σ a with
 |none=>exact mZ e h
 |some c=>have:=b _ _ h;rw[e]at this;rw[xP h];exact this.symm
theorem wy(b:aK σ Z):Wk (frz σ Z) Z:=λa c e=>by
 cases h:σ a with
 |some d=>rw[xP h]at e;cases e;exact⟨_,b _ _ h,rfl,id⟩
 |none=>
  cases g:Z a with
  |none=>unfold frz at e;rw[h,g]at e;cases e
  |some d=>rw[mZ (o:=d.2) (fz:=d.1) g h]at e;cases e;exact⟨_,rfl,rfl,λ_=>rfl⟩
theorem dN.frz{V:bp}(h:dN false Z V)(e:aK σ Z)(a:σ V.adr=none)(b:σ V.fl=none)(c:∀L∈V.lv,σ L.adr=none):dN true (frz σ Z) V:=
 ⟨mZ h.v a,h.o.fz (zk e),mZ h.fl b,λL d=>mZ (h.lv L d) (c L d),λL d=>(h.fs L d).fz (zk e),zk e _ _ h.sc⟩
theorem tI{n:Nat}{V:bp}{E:Ed}{o:Op}{Q:PX}(t:dN true σ V)(r:qj V)(w:j8 σ E)(u:HG V.lv.length E)(ok:Lp V E)(R:ft σ o)(G:iS o)(nl:o.nl=V.lv.length)(sz:∀d,iI V E d->∀L∈d.lv,Fk L.fs)
  (h:∀(d:bp) (Z:Hp),iI V E d->d.o=V.o->yh d->aK σ Z->dN true Z d->Q (.ref d.adr) Z):cB ext (n+8) (F.fa 79) [.ref V.adr,.ref E.adr,.ref o.adr] σ Q:=by
 refine aB (l:=[.ref V.adr,.ref E.adr,.ref o.adr,.undef,.undef]) Ln rfl rfl ?_;show Go _ Ji _ _ _;delta Ji
 refine az (fR (by left) rfl λm hm=>?_)
 refine zm hm t r λD A ds as Z ld x k1=>?_
 have K:=k1.cm
 right
 refine zx k1 t r ld x w u λdd O k2 hd=>?_
 have K:=k2.cm
 right
 refine vp k2 t r ld x w u ok hd λd j md W I i q U J N=>?_
 have s:=k2.ex.trans I
 have Y:=ok.ck d md
 right
 refine xC i q Y.sm (sz d md) (s.fz _ _ R) G (nl.trans md.n.symm) λtop bot p f e B=>?_
 have y:=k2.ex.nn U
 have g:=(s.upd (s.nn e) (c:=(true,.tup [.int top,.int bot]))).upd y (c:=(false,.inst 16 [(21,.int d.lv.length),(44,.ref d.o),(45,.ref d.fl),(46,.int 0),(0,.ref f),(1,.int p)]))
 have n1:d.adr≠f:=af i.v e
 have v1:dN false (upd (upd j f (true,.tup [.int top,.int bot])) d.adr (false,.inst 16 [(21,.int d.lv.length),(44,.ref d.o),(45,.ref d.fl),(46,.int 0),(0,.ref f),(1,.int p)])) (LM d top bot p f):=by
  have z:Fz j (upd (upd j f (true,.tup [.int top,.int bot])) d.adr (false,.inst 16 [(21,.int d.lv.length),(44,.ref d.o),(45,.ref d.fl),(46,.int 0),(0,.ref f),(1,.int p)])):=(Fz.new e).trans (Fz.mut (ag e i.v))
  refine⟨ab,i.o.fz z,?_,λL k=>?_,λL k=>(i.fs L k).fz z,?_⟩
  ·show upd _ _ _ d.fl=_;rw[ac (Ne.symm q.a)];exact ag e i.fl
  ·rw[ac (q.b L k).1];exact ag e (i.lv L k)
  ·show upd _ _ _ f=_;rw[ac (Ne.symm n1)];exact ab
 right
 exact cU (wy g) (h (LM d top bot p f) _ ⟨md.n,md.l⟩ W B (tO g) (v1.frz g y (k2.ex.nn J) λL k=>k2.ex.nn (N L k)))
end
section
variable {ext:bj} {σ Z:Hp}
theorem rx{n:Nat}{v:Addr}{Q:PX}(a:σ v=none)(h:∀Z,aK σ Z->sj Z v->Q .none Z):cB ext (n+1) (F.fa 26) [.ref v] (upd σ v (false,.inst 11 [])) Q:=by
 refine aB (l:=[.ref v]) Nu rfl rfl ?_;show Go _ JT _ _ _;delta JT
 right
 intro u b
 have n1:v≠u:=af ab b
 have n2:σ u=none:=by rw[ac (Ne.symm n1)]at b;exact b
 right
 have d:=((aK.new (c:=(false,.inst 11 [])) a).upd n2 (c:=(false,.inst 10 []))).upd a (c:=(false,.inst 11 (gF 7 (.ref u) [])))
 exact gn (wy d) (h _ (tO d) ⟨u,mZ ab a,mZ (by rw[ac (Ne.symm n1)];exact ab) n2⟩)
theorem rB{n:Nat}{e:Addr}{Q:PX}(f:σ e=none)(h:∀(E:Ed) (Z:Hp),E.adr=e->E.dl=[]->E.al=[]->aK σ Z->j8 Z E->σ E.cp=none->σ E.dlA=none->σ E.alA=none->E.cp≠E.dlA->E.cp≠E.alA->E.dlA≠E.alA->Z E.cp=some (false,.list [])->Q .none Z):
  cB ext (n+1) (F.fa 40) [.ref e] (upd σ e (false,.inst 15 [])) Q:=by
 refine aB (l:=[.ref e]) Nx rfl rfl ?_;show Go _ II _ _ _;delta II
 right
 intro d c
 have n1:e≠d:=af ab c
 have m1:σ d=none:=by rw[ac (Ne.symm n1)]at c;exact c
 right
 intro dl b
 have n2:e≠dl:=af ab b
 have n3:d≠dl:=af (by nofun) b
 have m2:σ dl=none:=by rw[ac (Ne.symm n2),ac (Ne.symm n3),ac (Ne.symm n2)]at b;exact b
 right
 intro al a
 have g:e≠al:=af ab a
 have j:d≠al:=af (by nofun) a
 have i:dl≠al:=af (by nofun) a
 have m3:σ al=none:=by rw[ac (Ne.symm g),ac (Ne.symm i),ac (Ne.symm g),ac (Ne.symm j),ac (Ne.symm g)]at a;exact a
 right
 refine gn qa (h ⟨e,d,dl,al,[],[]⟩ _ rfl rfl rfl ?_ ⟨ab,(show upd _ _ _ dl=some (false,.list [])from(by nofun)),(show upd _ _ _ al=some (false,.list [])from(by nofun)),⟨[],(show upd _ _ _ d=some (false,.list [])from(by nofun))⟩,λ_=>nM,λ_=>nM⟩ m1 m2 m3 n3 j i (show upd _ _ _ d=some (false,.list [])from(by nofun)))
 exact((((((aK.new f).upd m1).upd f).upd m2).upd f).upd m3).upd f
theorem zj{n:Nat}{p op o:Addr}{Q:PX}(h:Q .none (upd σ p (true,.inst 19 [(51,.ref op),(44,.ref o)]))):cB ext (n+1) (F.fa 70) [.ref p,.ref op,.ref o] (upd σ p (false,.inst 19 [])) Q:=by
 refine aB (l:=[.ref p,.ref op,.ref o]) NF rfl rfl ?_;show Go _ IY _ _ _;delta IY
 right
 exact gn qa h
structure Nw(σ Z:Hp)(xs:List Addr):Prop where
 ex:aK σ Z
 nd:xs.Nodup
 lv:∀x∈xs,∃c,Z x=some c
 fr:∀x∈xs,σ x=none
theorem Nw.new{xs:List Addr}{r:Addr}{d:Bool×AO}(h:Nw σ Z xs)(b:Z r=none):Nw σ (upd Z r d) (r::xs):=by
 have ne:∀x∈xs,x≠r:=λx a=>by obtain⟨c,e⟩:=h.lv x a;exact af e b
 refine⟨h.ex.upd (h.ex.nn b),List.nodup_cons.mpr ⟨λf=>ne r f rfl,h.nd⟩,λx a=>?_,λx a=>?_⟩
 ·rcases au a with rfl|a
  ·exact⟨_,ab⟩
  ·obtain⟨c,e⟩:=h.lv x a;exact⟨c,ag b e⟩
 ·rcases au a with rfl|a
  ·exact h.ex.nn b
  ·exact h.fr x a
theorem Nw.mut{xs:List Addr}{r:Addr}{d:Bool×AO}(h:Nw σ Z xs)(a:r∈xs):Nw σ (upd Z r d) xs:=
 ⟨h.ex.upd (h.fr r a),h.nd,λx b=>by
  by_cases e:x=r
  ·subst e;exact⟨_,ab⟩
  ·obtain⟨c,g⟩:=h.lv x b;exact⟨c,aq e g⟩,h.fr⟩
theorem Nw.up{xs:List Addr}{a:Hp}(h:Nw σ Z xs)(e:aK Z a):Nw σ a xs:=⟨h.ex.trans e,h.nd,λx b=>by obtain⟨c,g⟩:=h.lv x b;exact⟨c,e _ _ g⟩,h.fr⟩
theorem Nw.one{r:Addr}{d:Bool×AO}(h:σ r=none):Nw σ (upd σ r d) [r]:=⟨aK.new h,List.Pairwise.cons (λ_ h=>nM h) .nil,λx a=>by rw[aw a];exact⟨_,ab⟩,λx a=>by rw[aw a];exact h⟩
theorem Nw.push{xs rs:List Addr}{f:Hp}(h:Nw σ Z xs)(e:aK Z f)(k:rs.Nodup)(i:∀r∈rs,Z r=none)(l:∀r∈rs,∃c,f r=some c):Nw σ f (rs++xs):=by
 refine⟨h.ex.trans e,List.nodup_append.mpr ⟨k,h.nd,λa j b m=>?_⟩,λx d=>?_,λx d=>?_⟩
 ·obtain⟨c,g⟩:=h.lv b m;exact Ne.symm (af g (i a j))
 ·rcases aE d with d|d
  ·exact l x d
  ·obtain⟨c,g⟩:=h.lv x d;exact⟨c,e _ _ g⟩
 ·rcases aE d with d|d
  ·exact h.ex.nn (i x d)
  ·exact h.fr x d
theorem Nw.sub{xs ys:List Addr}(h:Nw σ Z xs)(s:ys.Sublist xs):Nw σ Z ys:=⟨h.ex,s.nodup h.nd,λx a=>h.lv x (s.subset a),λx a=>h.fr x (s.subset a)⟩
theorem pF{a:Addr}{fz:Bool}{o:AO}(h:Z a=some (fz,o)):Wk (upd Z a (true,o)) Z:=sJ (aK.refl Z) h
structure C0(σ Z:Hp)(c:Addr)(k:Nat)(V:bp)(o:Op)(ord us inp i0 i1 gp pl:Addr)(E:Ed):Prop where
 h_c:Z c=some (false,.inst 18 [(49,.int k),(50,.ref V.adr),(51,.ref o.adr),(44,.ref ord),(52,.ref us),(53,.ref inp),(54,.ref gp),(55,.ref E.adr),(56,.bool false),(57,.int 0),(58,.int 0),(59,.bool false),(60,.ref pl)])
 h_ord:sj Z ord
 h_us:Z us=some (true,.inst 10 [])
 h_inp:Z inp=some (false,.list [.ref i0,.ref i1])
 h_i0:Z i0=some (false,.list [])
 h_i1:Z i1=some (false,.list [])
 h_gp:Z gp=some (false,.list [])
 h_pl:Z pl=some (false,.list (List.replicate o.nl (.int 0)))
 h_E:j8 Z E
 h_cp:Z E.cp=some (false,.list [])
 ed:E.dl=[]
 ea:E.al=[]
 fl:Nw σ Z [pl,E.alA,E.dlA,E.cp,gp,inp,i1,i0,c]
theorem qS{n k:Nat}{c:Addr}{V:bp}{o:Op}{Q:PX}(hc:σ c=none)(ho:ft σ o)(ok:iS o)
  (h:∀(ord g b s q v m:Addr) (E:Ed) (Z:Hp),C0 σ Z c k V o ord g b s q v m E->Q .none Z):cB ext (n+2) (F.fa 62) [.ref c,.int k,.ref V.adr,.ref o.adr] (upd σ c (false,.inst 18 [])) Q:=by
 have ε:=ho
 have γ:=ok.f21
 unfold ft at ho
 refine aB (l:=[.ref c,.int k,.ref V.adr,.ref o.adr]) Nm rfl rfl ?_;show Go _ IS _ _ _;delta IS
 right
 intro r1 h1
 refine rx h1 λβ x1 o1=>?_
 have f1:Nw σ β [c]:=(Nw.one hc).up x1
 have c1:=x1 _ _ (ab (σ:=σ) (a:=c))
 right
 intro g N
 have n2:c≠g:=af ab N
 right
 refine uB (aj (a8 aQ rfl λs W=>aj (a8 aQ rfl λq h4=>aD (uF rfl λb h5=>?_))))
 have n3:c≠s:=af ab W
 have n4:c≠q:=af (by nofun) h4
 have n5:c≠b:=af (by nofun) h5
 refine aS (by left) (AP (by nofun) (by kernel_rfl) rfl ?_)
 right
 intro v h6
 have n6:c≠v:=af ab h6
 right
 intro e h7
 refine rB h7 λE f e1 e2 e3 B O g1 g2 g3 g4 g5 g6 D=>?_
 subst e1
 have f2:Nw σ f ([E.alA,E.dlA,E.cp]++[v,b,q,s,g,c]):=by
  refine Nw.push ?_ B ?_ ?_ ?_
  ·refine Nw.mut (Nw.new ?_ h6) (.tail _ (.tail _ (.tail _ (.tail _ (.tail _ (.head _))))))
   refine Nw.mut (Nw.new (Nw.new (Nw.new ?_ W) h4) h5) (.tail _ (.tail _ (.tail _ (.tail _ (.head _)))))
   refine Nw.mut (Nw.new ?_ N) (.tail _ (.head _))
   exact Nw.mut f1 (.head _)
  ·exact List.nodup_cons.mpr ⟨λhm=>by
    rcases au hm with e|hm
    ·exact g6 e.symm
    ·exact g5 (aw hm).symm,iu (l:=[E.dlA]) (List.Pairwise.cons (λ_ h=>nM h) .nil) λx Y=>by rw[aw Y];exact Ne.symm g4⟩
  ·intro r w
   rcases au w with rfl|w
   ·exact g3
   ·rcases au w with rfl|w
    ·exact g2
    ·rw[aw w];exact g1
  ·intro r w
   rcases au w with rfl|w
   ·exact⟨_,O.a⟩
   ·rcases au w with rfl|w
    ·exact⟨_,O.d⟩
    ·rw[aw w];exact⟨_,D⟩
 have c2:=B _ _ ab
 have U:=B g (false,.inst 10 []) (by nofun)
 have q2:=B b (false,.list [.ref s,.ref q]) (by nofun)
 have q3:=B s (false,.list []) (by nofun)
 have q4:=B q (false,.list []) (by nofun)
 have q5:=B v (false,.list []) (by nofun)
 have o2:sj f r1:=(o1.fz (by
  refine Fz.trans ?_ B.fz
  refine Fz.trans ?_ (Fz.mut (y:=_) (ag h6 ab))
  refine Fz.trans ?_ (Fz.new h6)
  refine Fz.trans ?_ (Fz.mut (y:=_) (by nofun))
  refine Fz.trans ?_ (Fz.new h5)
  refine Fz.trans ?_ (Fz.new h4)
  refine Fz.trans ?_ (Fz.new W)
  refine Fz.trans ?_ (Fz.mut (y:=_) (by nofun))
  refine Fz.trans ?_ (Fz.new N)
  exact Fz.mut c1))
 have δ:=f2.ex _ _ ho
 have nl:=ok.nl
 have nd:=f2.nd
 have G:g≠c:=Ne.symm n2
 have j:∀x∈[E.alA,E.dlA,E.cp,v,b,q,s],x≠g/\x≠c:=λx Y=>by
  have:=(List.nodup_append (l₁:=[E.alA,E.dlA,E.cp,v,b,q,s]) (l₂:=[g,c])).mp nd
  exact⟨this.2.2 x Y g (.head _),this.2.2 x Y c (.tail _ (.head _))⟩
 right
 refine dk (a8 (by left) rfl λt J=>aS (by left) (xM ab ⟨Int.natCast_nonneg _,by exact z1 [_] M7 yt rfl (cl nl.2)⟩ λm i=>?_))
 have m1:c≠t:=af ab J
 have m2:c≠m:=af (by nofun) i
 right
 have R:∀x,upd (upd (upd f c x) t (false,.list [.int 0])) m (false,.list (List.replicate (o.nl:Int).toNat (.int 0))) g=some (false,.inst 10 []):=λx=>by
  have a1:g≠t:=af (aq G U) J
  have a2:g≠m:=af (aq a1 (aq G U)) i
  exact aq a2 (aq a1 (aq G U))
 have I:∀x,(upd f c (false,x)) t=none:=λx=>by rw[ac (Ne.symm m1)]at J ⊢;exact J
 have u:∀x,(upd (upd f c (false,x)) t (false,.list [.int 0])) m=none:=λx=>by
  have a:m≠t:=λe=>by rw[e,ab]at i;cases i
  rw[ac a,ac (Ne.symm m2)]at i ⊢;exact i
 have zz:∀x y z,Fz f (upd (upd (upd (upd (upd f c (false,x)) t (false,.list [.int 0])) m (false,.list (List.replicate (o.nl:Int).toNat (.int 0)))) c y) g z):=λx y z=>
  ((((Fz.mut c2).trans (Fz.new (I x))).trans (Fz.new (u x))).trans (Fz.mut (aq m2 (aq m1 ab)))).trans (Fz.mut (aq G (R _)))
 have A:∀x y z a d,a≠c->a≠g->f a=some d->upd (upd (upd (upd (upd f c (false,x)) t (false,.list [.int 0])) m (false,.list (List.replicate (o.nl:Int).toNat (.int 0)))) c y) g z a=some d:=λx y z a d h1 N W=>by
  have b1:=aq (c:=(false,x)) h1 W
  have b2:=ag (c:=(false,.list [.int 0])) (I x) b1
  exact aq N (aq h1 (ag (u x) b2))
 have p1:m≠g:=λe=>by rw[e]at i;exact absurd ((aq (λe'=>by rw[←e',aq G U]at J;cases J) (aq G U)).symm.trans i) sN
 refine gn (pF (aq G (R _))) (h r1 g b s q v m E _ ⟨aq n2 ab,o2.fz (zz _ _ _),ab,A _ _ _ _ _ (j b (by simp)).2 (j b (by simp)).1 q2,A _ _ _ _ _ (j s (by simp)).2 (j s (by simp)).1 q3,A _ _ _ _ _ (j q (by simp)).2 (j q (by simp)).1 q4,A _ _ _ _ _ (j v (by simp)).2 (j v (by simp)).1 q5,aq p1 (aq (Ne.symm m2) ab),
  ⟨zz _ _ _ _ _ O.e,A _ _ _ _ _ (j E.dlA (by simp)).2 (j E.dlA (by simp)).1 O.d,A _ _ _ _ _ (j E.alA (by simp)).2 (j E.alA (by simp)).1 O.a,⟨[],A _ _ _ _ _ (j E.cp (by simp)).2 (j E.cp (by simp)).1 D⟩,(λp K=>by rw[e2]at K;cases K),(λp K=>by rw[e3]at K;cases K)⟩,A _ _ _ _ _ (j E.cp (by simp)).2 (j E.cp (by simp)).1 D,e2,e3,?_⟩)
 refine Nw.sub (xs:=[m,t]++([E.alA,E.dlA,E.cp]++[v,b,q,s,g,c])) ?_ ?_
 ·refine Nw.mut (Nw.mut (Nw.new (Nw.new (Nw.mut f2 ?_) (I _)) (u _)) ?_) ?_<;>simp
 ·exact .cons_cons _ (.cons _ (.cons_cons _ (.cons_cons _ (.cons_cons _ (.cons_cons _ (.cons_cons _ (.cons_cons _ (.cons_cons _ (.cons _ (.cons_cons _ .slnil))))))))))
end
section
variable {ext:bj} {σ Z:Hp}
structure Cm where
 adr:Addr
 k:Nat
 V:bp
 o:Op
 ord:Addr
 us:Addr
 inp:Addr
 i0:Addr
 i1:Addr
 gp:Addr
 pl:Addr
 E:Ed
 man:Bool
 in0:List FM
 in1:List FM
 gs:List FM
noncomputable abbrev fB(c:Cm)(ga:Nat)(go:Int)(sk:Bool):AO:=.inst 18 [(49,.int c.k),(50,.ref c.V.adr),(51,.ref c.o.adr),(44,.ref c.ord),(52,.ref c.us),(53,.ref c.inp),(54,.ref c.gp),(55,.ref c.E.adr),(56,.bool c.man),(57,.int ga),(58,.int go),(59,.bool sk),(60,.ref c.pl)]
noncomputable abbrev tY(n:Nat):AV:=.int n
structure wx(σ:Hp)(c:Cm):Prop where
 h_ord:sj σ c.ord
 h_us:σ c.us=some (true,.inst 10 [])
 h_inp:σ c.inp=some (true,.list [.ref c.i0,.ref c.i1])
 h_i0:σ c.i0=some (true,.list (c.in0.map FM.v))
 h_i1:σ c.i1=some (true,.list (c.in1.map FM.v))
 h_gp:σ c.gp=some (true,.list (c.gs.map FM.v))
 h_f0:cM σ c.in0
 h_f1:cM σ c.in1
 h_fg:cM σ c.gs
 h_V:dN true σ c.V
 h_o:ft σ c.o
theorem wx.fz{c:Cm}(h:wx σ c)(k:Fz σ Z):wx Z c:=⟨h.h_ord.fz k,k _ _ h.h_us,k _ _ h.h_inp,k _ _ h.h_i0,k _ _ h.h_i1,k _ _ h.h_gp,h.h_f0.fz k,h.h_f1.fz k,h.h_fg.fz k,h.h_V.fz k,k _ _ h.h_o⟩
structure D2(c:Cm):Prop where
 oo:iS c.o
 vr:Ah c.V
 nl:c.o.nl=c.V.lv.length
 l0:c.in0.length<=60
 l1:c.in1.length<=60
 lg:c.gs.length<=60
 og:pZ c.gs
 kn:c.k+1<c.V.lv.length
theorem rP{a:Addr}{x:Bool×AO}(h:σ a=some x):upd σ a x=σ:=funext λb=>by
 by_cases e:b=a
 ·subst e;rw[ab,h]
 ·rw[ac e]
theorem uz{n ga:Nat}{go:Int}{sk:Bool}{c:Cm}{Q:PX}(i:σ c.adr=some (false,fB c ga go sk))(b:ft σ c.o)(a:iS c.o)(h:∀g:Int,Q (.int g) σ):cB ext (n+1) (F.fa 63) [.ref c.adr] σ Q:=by
 have d:=a.f27
 have f:=a.f20
 have e:=a.gf
 unfold ft at b
 refine aB (l:=[.ref c.adr]) Nh rfl rfl ?_;show Go _ K5 _ _ _;delta K5
 exact fN (fv (by left) (by left) (O5 e)) (ay (h _))
theorem sS{n ga:Nat}{go:Int}{sk:Bool}{c:Cm}{Q:PX}(d:σ c.adr=some (false,fB c ga go sk))(a:wx σ c)(ok:D2 c)(h:∀b:Bool,(b=true->c.in0.length=1/\c.in1=[])->Q (.bool b) σ):cB ext (n+2) (F.fa 64) [.ref c.adr] σ Q:=by
 have o:=a.h_inp
 have m:=a.h_i0
 have p:=a.h_i1
 have k:=aO (g:=FM.v) (bh ok.l0 rfl)
 have q:=aO (g:=FM.v) (bh ok.l1 rfl)
 refine aB (l:=[.ref c.adr]) LR rfl rfl ?_;show Go _ Iq _ _ _;delta Iq
 refine jd (by left) (λx=>?_) λx=>?_
 ·right
  exact ay (h false fT)
 ·have e:c.in0.length=1/\c.in1=[]:=by
   rw[List.length_map,List.length_map]at x
   obtain⟨i,j⟩:=Bool.or_eq_false_iff.mp x
   have f:=Decidable.not_not.mp (of_decide_eq_false i)
   have y2:=Decidable.not_not.mp (of_decide_eq_false j)
   exact⟨cW f,List.length_eq_zero_iff.mp (cW y2)⟩
  right
  refine cG (aW (by left) (lU a.h_gp a.h_fg (bh ok.lg rfl) (aV (by left) (by nofun) rfl (by kernel_rfl) (by left) (uz d a.h_o ok.oo λg=>De ?_))))
  exact ay (h _ λ_=>e)
theorem BW{n ga:Nat}{go:Int}{sk:Bool}{c:Cm}{r:Rw}{Q:PX}(e:σ c.adr=some (false,fB c ga go sk))(q:wx σ c)(ok:D2 c)(s:r.ok)(h:∀(b:Bool) (ga:Nat) (go:Int) (sk:Bool),Q (.bool b) (upd σ c.adr (false,fB c ga go sk))):cB ext (n+5) (F.fa 65) [.ref c.adr,.bytes r.b] σ Q:=by
 have D:=aO (g:=FM.v) (bh ok.lg rfl)
 refine aB (l:=[.ref c.adr,.bytes r.b,.undef]) Na rfl rfl ?_;show Go _ Ky _ _ _;delta Ky
 refine Cq (λa:Nat×AV=>[.ref c.adr,.bytes r.b,a.2]) (λa Z=>∃go sk,Z=upd σ c.adr (false,fB c a.1 go sk)) (λa=>c.gs.length-a.1) (ga,.undef) rfl ⟨go,sk,(rP e).symm⟩ ?_
 rintro a Z R ⟨go,sk,rfl⟩ p
 have d:=q.fz (Fz.mut (c:=(false,fB c a.1 go sk)) e)
 have A:=d.h_gp
 obtain⟨w,y,z⟩:=id d.h_ord
 have fin:∀ga go sk v,Go (cB ext (n+4)) (.cons (.setA (.v 0) 59 (.k (.bool true))) (.cons (.ite (.t (.cmp .gt (.at (.v 0) 58) (.mth (.v 0) 31 .nil))) (.cons (.setA (.v 0) 58 (.k (.int 0))) (.cons (.ret (.k (.bool true))) .nil)) .nil) (.cons (.ret (.k (.bool false))) .nil))) [.ref c.adr,.bytes r.b,v] (upd σ c.adr (false,fB c ga go sk)) (cO Q):=λga go sk v=>by
  right
  refine bK (kX (cG ?_))
  have j:=q.fz (Fz.mut (c:=(false,fB c ga go true)) e)
  refine aS (by left) (aV (by left) (by nofun) rfl (by kernel_rfl) (by left) (uz (c:=c) (ga:=ga) (go:=go) (sk:=true) ab j.h_o ok.oo λg=>zu (dK (br (λ_=>?_) λ_=>?_))))
  ·right;exact ay (h true ga 0 true)
  ·right;exact ay (h false ga go true)
 refine hF (by left) (br (λx=>?_) λx=>?_)
 ·obtain⟨f,i⟩:∃f,c.gs[a.1]?=some f:=⟨_,List.getElem?_eq_getElem (by rw[List.length_map]at x;exact cu x)⟩
  have B:=bQ (g:=FM.v) i
  have o:=List.mem_of_getElem? i
  have u:=d.h_fg f o
  unfold nL at u
  right
  refine bK (kX (cG (aV (by left) (by nofun) rfl (by kernel_rfl) (by left) (eU d.h_ord s (ok.og f o).2 (iK (De (dK (br (λ_=>?_) λ_=>?_))))))))
  ·exact ua (BL (AN (fin a.1 go sk f.v)))
  ·right
   have lt:c.gs.length-(a.1+1)<c.gs.length-a.1:=by have:=(be i).1;exact n2 [_,_,_,_] J2 zQ Ab rfl (Nat.sub_add_cancel (n:=c.gs.length) (m:=a.fst+1) (n1 [_,_] (.le (.a (.v 0) (.n 1)) (.v 1)) (.le (.a (.v 0) (.n 1)) (.v 1)) rfl this)) (sb (c.gs.length) (a.fst))
   refine jd (by left) (λ_=>?_) λ_=>?_
   ·right;exact aR (p (a.1+1,f.v) _ ⟨_,_,rfl⟩ lt)
   ·right;exact aR (p (a.1+1,f.v) _ ⟨_,_,rfl⟩ lt)
 ·exact fin a.1 go sk a.2
end
section
variable {ext:bj} {σ Z:Hp}
theorem yc{u v:Nat}:CC u v<=0↔u<=v:=by
 unfold CC
 by_cases h:u<v
 ·rw[if_pos h];exact⟨λ_=>Nat.le_of_lt h,λ_=>by decide⟩
 ·rw[if_neg h]
  by_cases g:v<u
  ·rw[if_pos g];exact⟨λx=>absurd x (by decide),λx=>absurd x (eK g)⟩
  ·rw[if_neg g];exact⟨λ_=>Nat.le_of_not_lt g,λ_=>Int.le_refl _⟩
theorem B0{u v:Nat}(_:¬u<v):(0:Int)<=if v<u then 1 else 0:=by
 by_cases g:v<u
 ·rw[if_pos g];decide
 ·rw[if_neg g];decide
theorem D0{u v:Nat}:0<=CC u v↔v<=u:=by
 unfold CC
 by_cases h:u<v
 ·rw[if_pos h];exact⟨λx=>absurd x (by decide),λx=>absurd x (eK h)⟩
 ·rw[if_neg h];exact⟨λ_=>Nat.le_of_not_lt h,λ_=>B0 h⟩
structure j3(V:bp)(k u:Nat)(ps:List Nat):Prop where
 n:ps.length=V.lv.length
 h:∀(j:Nat) (L:bM),k+2<=j->V.lv[j]?=some L->∀(i:Nat) (f:FM),L.fs[i]?=some f->i<ps.getD j 0->f.hi.u<u
theorem j3.mono{V:bp}{k u v:Nat}{a:List Nat}(h:j3 V k u a)(l:u<=v):j3 V k v a:=⟨h.n,λj L c b i f e d=>Nat.lt_of_lt_of_le (h.h j L c b i f e d) l⟩
def oY(V:bp)(k u:Nat):Prop:=∀(j:Nat) (L:bM),k+2<=j->V.lv[j]?=some L->∀f∈L.fs,¬(f.lo.u<=u/\u<=f.hi.u)
theorem AG{n u ga:Nat}{go:Int}{sk:Bool}{E:List Nat}{c:Cm}{Q:PX}(hc:σ c.adr=some (false,fB c ga go sk))(hC:wx σ c)(ok:D2 c)(hp:σ c.pl=some (false,.list (E.map tY)))(ne:c.adr≠c.pl)(po:j3 c.V c.k u E)(hu:u<4)
  (h:∀(b:Bool) (E:List Nat),(b=true->oY c.V c.k u)->j3 c.V c.k u E->Q (.bool b) (upd σ c.pl (false,.list (E.map tY)))):cB ext (n+2) (F.fa 66) [.ref c.adr,.bytes (bv u)] σ Q:=by
 have ζ:=ok.oo.f21
 have ε:=hC.h_o
 unfold ft at ε
 have K:=ok.vr.sm.n
 have kn:=ok.kn
 refine aB (l:=[.ref c.adr,.bytes (bv u),.undef,.undef,.undef]) Lr rfl rfl ?_;show Go _ JZ _ _ _;delta JZ
 refine g8 (aS (by left) (aS (by left) ?_))
 rw[ok.nl]
 refine dO (λa:List Nat×AV×AV×AV=>[.ref c.adr,.bytes (bv u),a.2.1,a.2.2.1,a.2.2.2]) (λi a Z=>Z=upd σ c.pl (false,.list (a.1.map tY))/\j3 c.V c.k u a.1/\∀(j:Nat) (L:bM),c.k+2<=j->(j:Int)<i->c.V.lv[j]?=some L->∀f∈L.fs,¬(f.lo.u<=u/\u<=f.hi.u)) (E,.undef,.undef,.undef) rfl ⟨by exact Int.natCast_nonneg (c.k+2),by exact z2 [_,_] (.le (.a (.v 0) (.n 2)) (.n 9000)) (.le (.v 1) (.n 7)) LH rfl (cl K) (cl kn),by exact Int.natCast_nonneg _,by exact Int.le_trans (cl K) (by decide)⟩ ⟨(rP hp).symm,po,λj L A q=>by exact(eK (cu q) A).elim⟩ ?_ ?_
 ·rintro i a Z R g1 g2 ⟨rfl,p1,p2⟩ ih
  obtain⟨j,rfl⟩:∃j:Nat,i=j:=⟨i.toNat,(Int.toNat_of_nonneg (by exact Int.le_trans (Int.natCast_nonneg (c.k+2)) g1)).symm⟩
  have N:j<c.V.lv.length:=cu g2
  have O:c.k+2<=j:=Int.ofNat_le.mp g1
  obtain⟨L,s⟩:∃L,c.V.lv[j]?=some L:=⟨_,List.getElem?_eq_getElem N⟩
  have U:=List.mem_of_getElem? s
  have eL:=bQ (g:=bM.v) s
  have lV:=aO (g:=bM.v) (bh K rfl)
  have lL:=aO (g:=FM.v) (bh (ok.vr.sm.len U) rfl)
  have d:∀r:List Nat,wx (upd σ c.pl (false,.list (r.map tY))) c:=λr=>hC.fz (Fz.mut hp)
  have hA:∀r:List Nat,upd σ c.pl (false,.list (r.map tY)) c.adr=_:=λr=>aq ne hc
  have β:=ok.vr.ap j L (by exact Nat.lt_of_lt_of_le (Nat.succ_pos _) O) s
  have J:∀r Y,j3 c.V c.k u r->(∀f∈L.fs,¬(f.lo.u<=u/\u<=f.hi.u))->R [.ref c.adr,.bytes (bv u),.int j,L.v,Y] (upd σ c.pl (false,.list (r.map tY))):=λr Y m q2=>ih (r,.int j,L.v,Y) _ ⟨rfl,m,λD L' A q h3=>by
   by_cases e:D=j
   ·subst e;rw[s]at h3;cases h3;exact q2
   ·exact p2 D L' A (by exact dF (ln (cu q) e)) h3⟩
  have γ:=hA a.1
  have w1:=(d a.1).h_V.v
  have w2:=(d a.1).h_V.fl
  right
  refine Cq (λb:List Nat×AV=>[.ref c.adr,.bytes (bv u),.int j,L.v,b.2]) (λb Z=>Z=upd σ c.pl (false,.list (b.1.map tY))/\j3 c.V c.k u b.1) (λb=>L.fs.length-b.1.getD j 0) (a.1,a.2.2.2) rfl ⟨rfl,p1⟩ ?_
  rintro b Z R' ⟨rfl,m⟩ δ
  have γ:=hA b.1
  have w3:=(d b.1).h_V.lv L U
  have w4:=(d b.1).h_us
  have lp:=aO (g:=tY) (bs:=b.1) (by rw[m.n];exact bh K rfl)
  obtain⟨p,B⟩:∃p,b.1[j]?=some p:=⟨_,List.getElem?_eq_getElem (by rw[m.n];exact N)⟩
  have ep:=bQ (g:=tY) B
  have W:b.1.getD j 0=p:=by rw[List.getD_eq_getElem?_getD,B];rfl
  refine hF (by left) (br (λx=>?_) λx=>?_)
  ·have pl:p<L.fs.length:=by rw[List.length_map]at x;exact cu x
   obtain⟨f,G⟩:∃f,L.fs[p]?=some f:=⟨_,List.getElem?_eq_getElem pl⟩
   have e3:=bQ (g:=FM.v) G
   have fm:=List.mem_of_getElem? G
   have h5:=(d b.1).h_V.fs L U f fm
   unfold nL at h5
   have fk:=ok.vr.ok L U f fm
   right
   refine bK (kX (cG (fO (aS (by left) (fU (by nofun) rfl (by kernel_rfl) ?_)))))
   refine aj (aS (by left) (aj (aW (by left) (bO (aD (pJ hu fk.2.u ?_))))))
   refine iK (De (dK (br (λy=>?_) λy=>?_)))
   ·have uh:=yc.mp y
    refine bK (kX (cG (fO (aS (by left) (fU (by nofun) rfl (by kernel_rfl) ?_)))))
    refine aj (aS (by left) (aj (aW (by left) (bO (aD (pJ hu fk.1.u ?_))))))
    refine iK (G4 (dK (br (λz=>?_) λz=>?_)))
    ·right
     exact ay (h false b.1 fT m)
    ·have ul:u<f.lo.u:=Nat.lt_of_not_le λw=>z (D0.mpr w)
     refine ak (cq (ua (BL (AN (ak (aR (J b.1 f.v m λg t I=>?_)))))))
     obtain⟨i,o⟩:=List.getElem?_of_mem t
     rcases Nat.lt_trichotomy i p with lt|rfl|gt
     ·exact absurd I.2 (eK (m.h j L O s i g o (by rw[W];exact lt)))
     ·rw[G]at o;cases o;exact absurd I.1 (eK ul)
     ·obtain⟨li,rfl⟩:=be o
      obtain⟨lp,rfl⟩:=be G
      exact absurd I.1 (eK (Nat.lt_of_le_of_lt uh (List.pairwise_iff_getElem.mp β p i lp li gt)))
   ·have uh:f.hi.u<u:=Nat.lt_of_not_le λw=>y (yc.mpr w)
    refine ak (cq (Ei (aS (by left) (aS (by left) (wQ ab lp (by rw[List.getElem?_map,B];rfl) (aS aT (Cs (yx (s8 ab lp (by rw[List.length_map,m.n];exact N) ?_)))))))))
    rw[lM,show(AV.int ((p:Int)+1))=tY (p+1)from rfl,←List.map_set]
    have gd:∀i,(b.1.set j (p+1)).getD i 0=if i=j then p+1 else b.1.getD i 0:=λi=>by
     rw[List.getD_eq_getElem?_getD,List.getElem?_set]
     by_cases e:j=i
     ·subst e;rw[if_pos rfl,if_pos (by rw[m.n];exact N),if_pos rfl];rfl
     ·rw[if_neg e,if_neg (Ne.symm e),List.getD_eq_getElem?_getD]
    refine ak (aR (δ (b.1.set j (p+1),f.v) _ ⟨rfl,⟨by rw[List.length_set];exact m.n,λD L' A q i g t o=>?_⟩⟩ ?_))
    ·rw[gd]at o
     by_cases e:D=j
     ·subst e;rw[s]at q;cases q
      rw[if_pos rfl]at o
      by_cases e:i=p
      ·subst e;rw[G]at t;cases t;exact uh
      ·exact m.h D L O s i g t (by rw[W];exact ln o e)
     ·rw[if_neg e]at o;exact m.h D L' A q i g t o
    ·show L.fs.length-(b.1.set j (p+1)).getD j 0<L.fs.length-b.1.getD j 0
     rw[gd,if_pos rfl,W];exact Nat.sub_lt_sub_left pl (Nat.lt_succ_self _)
  ·refine ak (aR (J b.1 b.2 m λg t I=>?_))
   obtain⟨i,o⟩:=List.getElem?_of_mem t
   have:=(be o).1
   exact absurd I.2 (eK (m.h j L O s i g o (by rw[W];rw[List.length_map]at x;exact Nat.lt_of_lt_of_le this (Int.ofNat_le.mp (il x)))))
 ·rintro i a Z g1 g2 g3 ⟨rfl,p1,p2⟩
  right
  exact ay (h true a.1 (λ_ j L A q=>p2 j L A (Int.lt_of_lt_of_le (dF (be q).1) g2) q) p1)
end
section
variable {ext:bj} {σ Z:Hp}
def Mo(S:List Addr)(σ Z:Hp):Prop:=∀a d,a∉S->σ a=some d->Z a=some d
theorem Mo.refl(S:List Addr)(σ:Hp):Mo S σ σ:=λ_ _ _ h=>h
theorem Mo.trans{S:List Addr}{b:Hp}(h:Mo S σ Z)(k:Mo S Z b):Mo S σ b:=λa d n e=>k a d n (h a d n e)
theorem Mo.new{S:List Addr}{r:Addr}{d:Bool×AO}(h:Mo S σ Z)(b:Z r=none):Mo S σ (upd Z r d):=λa c n e=>ag b (h a c n e)
theorem Mo.mut{S:List Addr}{r:Addr}{d:Bool×AO}(h:Mo S σ Z)(b:r∈S):Mo S σ (upd Z r d):=λa c n e=>aq (λx=>n (x▸b)) (h a c n e)
theorem Mo.fz{S:List Addr}(h:Mo S σ Z)(k:∀x∈S,∃o,σ x=some (false,o)):Fz σ Z:=λa o e=>h a _ (λc=>by obtain⟨d,b⟩:=k a c;rw[e]at b;cases b) e
theorem Mo.sub{S b:List Addr}(h:Mo S σ Z)(k:∀x∈S,x∈b):Mo b σ Z:=λa d n e=>h a d (λx=>n (k a x)) e
theorem aK.mo{S:List Addr}(h:aK σ Z):Mo S σ Z:=λa d _ e=>h a d e
noncomputable def sY(c:Cm)(i:Int):List (Nat×Nat):=if i<=0 then[] else if i<=1 then c.in0.map (λf=>(c.k,f.num)) else c.in0.map (λf=>(c.k,f.num))++c.in1.map (λf=>(c.k+1,f.num))
theorem vK{n ga:Nat}{go:Int}{sk:Bool}{c:Cm}{Q:PX}(G:σ c.adr=some (false,fB c ga go sk))(A:wx σ c)(ok:D2 c)(K:j8 σ c.E)(J:c.E.dl=[])(n1:c.E.alA≠c.E.dlA)(n2:c.E.cp≠c.E.dlA)
  (h:∀(dl:List (Addr×Nat×Nat)) (Z:Hp),dl.map (·.2)=sY c 2->Mo [c.E.dlA] σ Z->j8 Z {c.E with dl:=dl}->Q .none Z):cB ext (n+1) (F.fa 67) [.ref c.adr] σ Q:=by
 have I:∀x∈[c.E.dlA],∃o,σ x=some (false,o):=λx hx=>by rw[aw hx];exact⟨_,K.d⟩
 have W:c.adr∉[c.E.dlA]:=λhm=>by have e:=aw hm;have:=K.d;rw[←e,G]at this;cases this
 refine aB (l:=[.ref c.adr,.undef,.undef]) Mb rfl rfl ?_;show Go _ I4 _ _ _;delta I4
 right
 refine dO (λa:List (Addr×Nat×Nat)×AV×AV=>[.ref c.adr,a.2.1,a.2.2]) (λi a Z=>Mo [c.E.dlA] σ Z/\j8 Z {c.E with dl:=a.1}/\a.1.map (·.2)=sY c i) ([],.undef,.undef) rfl ⟨by decide,by decide,by decide,by decide⟩ ⟨Mo.refl _ _,by rw[←J];exact K,rfl⟩ ?_ ?_
 ·intro i a Z R g1 g2 ⟨m1,U,y⟩ ih
  obtain⟨s,O,g,rfl,hx,V,hf,len,pn⟩:∃(s:Nat) (O:Addr) (g:List FM),i=s/\on [.ref c.i0,.ref c.i1] i=some (.ref O)/\σ O=some (true,.list (g.map FM.v))/\cM σ g/\g.length<=60/\sY c (i+1)=sY c i++g.map (λf=>(c.k+s,f.num)):=by
   have:i=0∨i=1:=by exact NT g1 g2
   rcases this with rfl|rfl
   ·exact⟨0,c.i0,c.in0,rfl,rfl,A.h_i0,A.h_f0,ok.l0,rfl⟩
   ·exact⟨1,c.i1,c.in1,rfl,rfl,A.h_i1,A.h_f1,ok.l1,rfl⟩
  have z:=m1.fz I
  have c1:=m1 _ _ W G
  have c2:=z _ _ A.h_inp
  have c3:=z _ _ V
  have al:a.1.length<=120:=by
   have:=congrArg List.length y
   rw[List.length_map]at this
   rw[this]
   unfold sY
   have Y:=ok.l0
   have l1:=ok.l1
   split
   ·exact Nat.zero_le _
   ·split
    ·rw[List.length_map];exact Mine.n1 [_] (.le (.v 0) (.n 120)) lZ rfl Y
    ·rw[List.length_append,List.length_map,List.length_map];exact Mine.n2 [_,_] Gn lZ yD rfl Y l1
  right
  refine eP g FM.v (λb:List (Addr×Nat×Nat)×AV=>[.ref c.adr,.int s,b.2]) (λr b u=>Mo [c.E.dlA] σ u/\j8 u {c.E with dl:=b.1}/\b.1.map (·.2)=sY c s++r.map (λf=>(c.k+s,f.num))) (a.1,a.2.2) rfl c3 (bh len rfl) (λ_ _ u p=>⟨_,p.1.fz I _ _ V⟩) ⟨m1,U,by rw[y];exact(List.append_nil _).symm⟩ ?_ ?_
  ·intro r f us b u R' e ⟨w,j,B⟩ N
   have fm:=aP e
   have z':=w.fz I
   have d1:=w _ _ W G
   have h5:=z' _ _ (hf f fm)
   have h6:=j.e
   have bl:(b.1.map λp=>rf p.1).length<=9000:=by
    have:=congrArg List.length B
    rw[List.length_map,List.length_append,List.length_map]at this
    have D:=congrArg List.length y
    rw[List.length_map]at D
    have h2:r.length<=g.length:=by rw[e,List.length_append];exact Nat.le_add_right _ _
    rw[List.length_map];exact m5 [_,_,_,_,_] jJ 0 1 1 1 (-1) 1 yD Hu (.eq (.v 0) (.a (.v 3) (.v 4))) (.eq (.v 2) (.v 3)) (.le (.v 4) (.v 1)) rfl len al this D h2
   refine mY (dL (iH (aS (by left) (ja j.d rfl (aj (fu (by left) rfl λt q=>aD (dQ (ag q j.d) bl ?_)))))))
   have z2:Fz u (upd (upd u t (true,.tup [.int ((c.k:Int)+s),.int f.num])) c.E.dlA (false,.list (b.1.map (λp=>rf p.1)++[.ref t]))):=(Fz.new q).trans (Fz.mut (ag q j.d))
   refine ak (aR (N (b.1++[(t,c.k+s,f.num)],f.v) _ ⟨(w.new q).mut (.head _),⟨z2 _ _ j.e,by show _=some (false,AO.list ((b.1++[(t,c.k+s,f.num)]).map _));rw[List.map_append];exact ab,aq n1 (ag q j.a),?_,λp m=>?_,λp m=>⟨z2 _ _ (j.at' p m).1,z2 _ _ (j.at' p m).2⟩⟩,?_⟩))
   ·obtain⟨xs,D⟩:=j.c;exact⟨xs,aq n2 (ag q D)⟩
   ·rcases aE m with m|m
    ·exact z2 _ _ (j.dt p m)
    ·rw[aw m];exact cP (ag q j.d) ab
   ·rw[List.map_append,List.map_append,B,List.append_assoc];rfl
  ·intro b u ⟨w,j,B⟩
   exact ak (aR (ih (b.1,.int s,b.2) _ ⟨w,j,by rw[pn];exact B⟩))
 ·intro i a Z g1 g2 g3 ⟨m1,U,y⟩
  have:i=2:=by exact i2 g2 g3
  subst this
  right
  exact gn (Wk.refl _) (h a.1 Z y m1 U)
end
section
variable {ext:bj} {σ Z:Hp}
noncomputable abbrev qK:Int:=72057594037927935+1
noncomputable abbrev vT(c:Addr)(b:Int)(cur:Option Nat)(a:Int)(st:Bool):AO:=.inst 13 [(29,.ref c),(30,.int b),(31,ov cur),(32,.int a),(33,.bool st)]
theorem xN{n:Nat}{v c:Addr}{a:Int}{Q:PX}(h:Q .none (upd σ v (false,vT c a none qK false))):cB ext (n+1) (F.fa 36) [.ref v,.ref c,.int a] (upd σ v (false,.inst 13 [])) Q:=by
 refine aB (l:=[.ref v,.ref c,.int a]) NP rfl rfl ?_;show Go _ IC _ _ _;delta IC
 right
 exact gn (Wk.refl _) h
structure Sv(σ Z:Hp)(c:Cm)(sv:Addr)(sm:Int)(cur:Option Nat)(nw:Int)(st:Bool)(ps:List Nat):Prop where
 mo:Mo [c.adr,c.pl,sv] σ Z
 cc:∃ga go sk,Z c.adr=some (false,fB c ga go sk)
 cp:Z c.pl=some (false,.list (ps.map tY))
 cs:Z sv=some (false,vT c.adr sm cur nw st)
 n1:c.adr≠c.pl
 n2:c.adr≠sv
 n3:c.pl≠sv
theorem Sv.setS{c:Cm}{b:Addr}{a:Int}{cur cur':Option Nat}{f nw':Int}{st st':Bool}{d:List Nat}(h:Sv σ Z c b a cur f st d):Sv σ (upd Z b (false,vT c.adr a cur' nw' st')) c b a cur' nw' st' d:=
 ⟨h.mo.mut (.tail _ (.tail _ (.head _))),by obtain⟨g,go,i,e⟩:=h.cc;exact⟨g,go,i,aq h.n2 e⟩,aq h.n3 h.cp,ab,h.n1,h.n2,h.n3⟩
theorem Sv.setC{c:Cm}{e:Addr}{d:Int}{cur:Option Nat}{b:Int}{st:Bool}{a:List Nat}{ga:Nat}{go:Int}{sk:Bool}(h:Sv σ Z c e d cur b st a):Sv σ (upd Z c.adr (false,fB c ga go sk)) c e d cur b st a:=
 ⟨h.mo.mut (.head _),⟨ga,go,sk,ab⟩,gP h.n1 h.cp,gP h.n2 h.cs,h.n1,h.n2,h.n3⟩
theorem Sv.setP{c:Cm}{f:Addr}{d:Int}{cur:Option Nat}{b:Int}{st:Bool}{g a:List Nat}(h:Sv σ Z c f d cur b st g):Sv σ (upd Z c.pl (false,.list (a.map tY))) c f d cur b st a:=
 ⟨h.mo.mut (.tail _ (.head _)),by obtain⟨i,go,j,e⟩:=h.cc;exact⟨i,go,j,aq h.n1 e⟩,ab,gP h.n3 h.cs,h.n1,h.n2,h.n3⟩
theorem Sv.new{c:Cm}{i r:Addr}{g:Int}{cur:Option Nat}{f:Int}{st:Bool}{b:List Nat}{d:Bool×AO}(h:Sv σ Z c i g cur f st b)(a:Z r=none):Sv σ (upd Z r d) c i g cur f st b:=
 ⟨h.mo.new a,by obtain⟨j,go,k,e⟩:=h.cc;exact⟨j,go,k,ag a e⟩,ag a h.cp,ag a h.cs,h.n1,h.n2,h.n3⟩
theorem Sv.z{c:Cm}{j:Addr}{i:Int}{cur b:Option Nat}{m d:Int}{st f:Bool}{l g:List Nat}(h:Sv σ Z c j i cur m st l)(k:Sv σ σ c j i b d f g):Fz σ Z:=h.mo.fz λx a=>by
 rcases au a with rfl|a
 ·obtain⟨_,_,_,e⟩:=k.cc;exact⟨_,e⟩
 ·rcases au a with rfl|a
  ·exact⟨_,k.cp⟩
  ·rw[aw a];exact⟨_,k.cs⟩
noncomputable def j7(cur:Option Nat)(a:Int)(u:Nat):Int:=if cur=some u then a else qK
theorem Fa{l:aG}{c:C}{b:Bool}(h:Pc l σ c b):Pc l σ (.or (.cons c .nil)) b:=⟨λ_ K k=>E3 (jC (h.run _ _ (by cases b with|true=>exact eJ k|false=>exact df (sT k))))⟩
theorem EI{l:aG}{cur:Option Nat}{u:Nat}{e:X}(g:Pe l σ e (ov cur))(g3:Pe l σ (.v 3) (.bytes (bv u)))(b:u<4)(a:∀n,cur=some n->n<4):∃t,Pc l σ (.or (.cons (.t (.cmp .is e (.k .none))) (.cons (.t (.cmp .ne (.v 3) e)) .nil))) t/\(t=true↔cur≠some u):=by
 cases cur with
 |none=>exact⟨true,D3 (bR (ub g rfl)),λ_=>oQ,λ_=>rfl⟩
 |some v=>
  refine⟨_,Eu (bR (ub g rfl)) (Fa (bR (lI g3 g rfl))),?_⟩
  rw[decide_eq_true_iff,ne_eq,ne_eq,tP u b v (a v rfl),Option.some.injEq]
  exact⟨λh e=>h e.symm,λh e=>h e.symm⟩
theorem BX{n:Nat}{c:Cm}{g:Addr}{j i a:Int}{cur:Option Nat}{st:Bool}{o:List Nat}{r:Rw}{Q:PX}(hs:Sv σ σ c g j cur i st o)(I:wx σ c)(ok:D2 c)(A:r.ok)(po:j3 c.V c.k r.u o)(D:∀n,cur=some n->n<4)
  (h:∀(cut drop:Bool) (st':Bool) (f:List Nat) (t:Addr) (Z:Hp),(cut=true->cur≠some r.u/\0<=a)->(drop=true->j7 cur i r.u<=j∨(r.k=0/\(r.s:Int)<=j/\oY c.V c.k r.u))->(drop=false->¬j7 cur i r.u<=j)->j3 c.V c.k r.u f->
   Sv σ Z c g j (some r.u) r.s st' f->Z t=some (true,.tup [.bool cut,.bool drop])->Q (.ref t) Z):cB ext (n+6) (F.fa 37) [.ref g,.bytes r.b,.int a] σ Q:=by
 refine aB (l:=[.ref g,.bytes r.b,.int a,.undef,.undef,.undef,.undef,.undef]) Md rfl rfl ?_;show Go _ Ir _ _ _;delta Ir
 refine th (aW (by left) (rL A.s A.k λt ht=>Bw ab ?_))
 have s1:=hs.new (d:=(true,.tup [.bytes (bv r.u),.int r.s,.int r.k])) ht
 have g1:=s1.cs
 obtain⟨E,go,B,O⟩:=s1.cc
 have z1:=s1.z hs
 refine bB (λ_:Unit=>[.ref g,.bytes r.b,.int a,.bytes (bv r.u),.int r.s,.int r.k,.undef,.undef]) (λ_ Z=>∃st,Sv σ Z c g j cur i st o) (λR m=>kX (fO (aS (by left) (fU O rfl (by kernel_rfl) (BS (by left) (BW O (I.fz z1) ok A λb E go B=>dK (jv (λ_=>?_) λ_=>?_))))))) ?_
 ·have s2:=s1.setC (ga:=E) (go:=go) (sk:=B)
  have g2:=s2.cs
  right
  exact bk (m () _ ⟨true,s2.setS⟩)
 ·right
  exact bk (m () _ ⟨st,s1.setC⟩)
 rintro⟨⟩ Z ⟨st,s2⟩
 have g2:=s2.cs
 refine bG aT ?_
 refine bB (λcut:Bool=>[.ref g,.bytes r.b,.int a,.bytes (bv r.u),.int r.s,.int r.k,.bool cut,.undef]) (λcut Z=>(cut=true->cur≠some r.u/\0<=a)/\∃st,Sv σ Z c g j (some r.u) (j7 cur i r.u) st o) (λR m=>?_) ?_
 ·obtain⟨t,h1,U⟩:=EI (σ:=Z) (cur:=cur) (e:=.at (.v 0) 31) (l:=List.set [.ref g,.bytes r.b,.int a,.bytes (bv r.u),.int r.s,.int r.k,.undef,.undef] 6 (.bool false)) (by left) (by left) A.u D
  refine hF h1 ⟨λx=>?_,λx=>?_⟩
  ·have K:=U.mp x
   have e1:j7 cur i r.u=qK:=if_neg K
   refine bB (λcut:Bool=>[.ref g,.bytes r.b,.int a,.bytes (bv r.u),.int r.s,.int r.k,.bool cut,.undef]) (λcut Z=>(cut=true->0<=a)/\Sv σ Z c g j cur i st o) (λR' p=>hF (by left) (br (λy=>?_) λy=>?_)) ?_
   ·obtain⟨E,go,B,c2⟩:=s2.cc
    have z2:=s2.z hs
    have β:=ok.oo.f20
    have ho:=z2 _ _ I.h_o
    refine az (MD (aS (by left) (Mq (λ_=>?_) λ_=>aS (by left) ?_)))
    ·exact ak (bk (p true Z ⟨λ_=>y,s2⟩))
    ·exact ak (bk (p _ Z ⟨λ_=>y,s2⟩))
   ·exact ak (bk (p false Z ⟨fT,s2⟩))
   ·rintro cut Z ⟨k1,q⟩
    have g3:=q.cs
    have s4:=q.setS (cur':=some r.u) (nw':=i) (st':=st)
    have Y:=s4.cs
    refine iZ (by left) (by left) g3 (by kernel_rfl) rfl ?_
    refine iZ (by left) (by left) s4.cs (by kernel_rfl) rfl ?_
    refine ak (bk (m cut _ ⟨λx=>⟨K,k1 x⟩,st,?_⟩))
    rw[e1];exact s4.setS
  ·have N:cur=some r.u:=Decidable.not_not.mp λy=>by rw[U.mpr y]at x;cases x
   refine ak (bk (m false Z ⟨fT,st,?_⟩))
   rw[show j7 cur i r.u=i from if_pos N,←N];exact s2
 rintro cut Z ⟨k1,st,q⟩
 have g3:=q.cs
 refine bB (λ_:Unit=>[.ref g,.bytes r.b,.int a,.bytes (bv r.u),.int r.s,.int r.k,.bool cut,.undef]) (λ_ Z=>∃st,Sv σ Z c g j (some r.u) (j7 cur i r.u) st o) (λR m=>hF (by left) ⟨λ_=>?_,λ_=>?_⟩) ?_
 ·refine iZ (by left) (by left) q.cs (by kernel_rfl) rfl ?_
  exact ak (bk (m () _ ⟨false,q.setS⟩))
 ·exact ak (bk (m () _ ⟨st,q⟩))
 rintro⟨⟩ Z ⟨st,s4⟩
 have Y:=s4.cs
 refine bG aT ?_
 refine bB (λdrop:Bool=>[.ref g,.bytes r.b,.int a,.bytes (bv r.u),.int r.s,.int r.k,.bool cut,.bool drop]) (λdrop Z=>∃f,Sv σ Z c g j (some r.u) (j7 cur i r.u) st f/\j3 c.V c.k r.u f/\(drop=true->j7 cur i r.u<=j∨(r.k=0/\(r.s:Int)<=j/\oY c.V c.k r.u))/\(drop=false->¬j7 cur i r.u<=j)) (λR m=>hF (by left) (br (λx=>?_) λx=>?_)) ?_
 ·exact bG aT (ak (bk (m true _ ⟨o,s4,po,λ_=>.inl x,tF⟩)))
 ·refine jd (by left) (λy=>?_) λy=>?_
  ·obtain⟨y1,y2⟩:=(Bool.and_eq_true _ _).mp y
   obtain⟨E,go,B,J⟩:=s4.cc
   have W:=s4.z hs
   refine az (aV (by left) J rfl (by kernel_rfl) (by left) (AG J (I.fz W) ok s4.cp s4.n1 po A.u λb f w1 w2=>?_))
   exact ak (cq (ak (bk (m b _ ⟨f,s4.setP,w2,λe=>.inr ⟨cW (of_decide_eq_true y1),of_decide_eq_true y2,w1 e⟩,λ_=>x⟩))))
  ·exact ak (cq (ak (bk (m false _ ⟨o,s4,po,fT,λ_=>x⟩))))
 rintro drop Z ⟨f,s5,G,k2,k3⟩
 have g5:=s5.cs
 refine iZ (by left) (by left) s5.cs (by kernel_rfl) rfl ?_
 have s6:=s5.setS (cur':=some r.u) (nw':=r.s) (st':=st)
 right
 intro w hw
 exact cU (Wk.refl _) (h cut drop st f w _ k1 k2 k3 G (s6.new hw) ab)
end
section
variable {ext:bj} {σ Z:Hp}
theorem zp{n:Nat}{p:Addr}{V:bp}{Q:PX}(a:dN true σ V)(h:Q (.bool (decide (V.bot<=V.top))) σ):cB ext (n+1) (F.fa 71) [.ref p,.ref V.adr] σ Q:=by
 have b:=a.v
 have c:=a.sc
 refine aB (l:=[.ref p,.ref V.adr]) Lq rfl rfl ?_;show Go _ IE _ _ _;delta IE
 right
 exact ay h
noncomputable def Ra:Option Rw->List UInt8
 |none=>[]
 |some r=>r.b
noncomputable abbrev nX(o:Option Rw):AV:=.bytes (Ra o)
def AI(a:List (Option Rw)):Prop:=∀r,some r∈a->r.ok
structure KP(σ Z:Hp)(c:Cm)(pA:Addr)(pts:List (Option Rw)):Prop where
 mo:Mo [c.adr,c.inp,pA,c.E.cp] σ Z
 kc:Z c.adr=some (false,fB c 0 0 false)
 inp:Z c.inp=some (false,.list [.ref c.i0,.ref c.i1])
 hp:Z pA=some (false,.list (pts.map nX))
 cp:∃xs,Z c.E.cp=some (false,.list xs)/\xs.length<=5
 i0:∃f,Z c.i0=some (f,.list (c.in0.map FM.v))
 i1:∃f,Z c.i1=some (f,.list (c.in1.map FM.v))
 gp:∃f,Z c.gp=some (f,.list (c.gs.map FM.v))
 f0:cM Z c.in0
 f1:cM Z c.in1
 fg:cM Z c.gs
 m:[c.adr,c.inp,pA,c.E.cp].Nodup
 n0:c.i0∉[c.adr,c.inp,pA,c.E.cp]
 n1:c.i1∉[c.adr,c.inp,pA,c.E.cp]
 ng:c.gp∉[c.adr,c.inp,pA,c.E.cp]
theorem KP.lv{c:Cm}{d:Addr}{b:List (Option Rw)}(h:KP σ Z c d b):∀x∈[c.adr,c.inp,d,c.E.cp],∃o,Z x=some (false,o):=λx a=>by
 rcases au a with rfl|a
 ·exact⟨_,h.kc⟩
 ·rcases au a with rfl|a
  ·exact⟨_,h.inp⟩
  ·rcases au a with rfl|a
   ·exact⟨_,h.hp⟩
   ·rw[aw a];obtain⟨f,e,_⟩:=h.cp;exact⟨_,e⟩
theorem KP.new{c:Cm}{g:Addr}{b:List (Option Rw)}{r:Addr}{d:Bool×AO}(h:KP σ Z c g b)(a:Z r=none):KP σ (upd Z r d) c g b:=
 ⟨h.mo.new a,ag a h.kc,ag a h.inp,ag a h.hp,by obtain⟨i,e,l⟩:=h.cp;exact⟨i,ag a e,l⟩,by obtain⟨f,e⟩:=h.i0;exact⟨f,ag a e⟩,by obtain⟨f,e⟩:=h.i1;exact⟨f,ag a e⟩,by obtain⟨f,e⟩:=h.gp;exact⟨f,ag a e⟩,
  h.f0.fz (Fz.new a),h.f1.fz (Fz.new a),h.fg.fz (Fz.new a),h.m,h.n0,h.n1,h.ng⟩
theorem KP.nin{c:Cm}{b:Addr}{a:List (Option Rw)}{r:Addr}(h:KP σ Z c b a)(d:Z r=none):r∉[c.adr,c.inp,b,c.E.cp]:=λf=>by
 obtain⟨o,e⟩:=h.lv r f;rw[d]at e;cases e
theorem KP.setI{c:Cm}{a:Addr}{b:List (Option Rw)}{a0 a1:Addr}{ys zs:List FM}(h:KP σ Z c a b)(j:∃f,Z a0=some (f,.list (ys.map FM.v)))(k:∃f,Z a1=some (f,.list (zs.map FM.v)))(g:cM Z ys)(g1:cM Z zs)(d:a0∉[c.adr,c.inp,a,c.E.cp])(m1:a1∉[c.adr,c.inp,a,c.E.cp]):
  KP σ (upd Z c.inp (false,.list [.ref a0,.ref a1])) {c with i0:=a0,i1:=a1,in0:=ys,in1:=zs} a b:=by
 have ne:∀x,x∉[c.adr,c.inp,a,c.E.cp]->x≠c.inp:=λx i e=>i (e▸.tail _ (.head _))
 have m:=h.m
 rw[List.nodup_cons,List.nodup_cons]at m
 have z:=Fz.mut (c:=(false,.list [.ref a0,.ref a1])) h.inp
 refine⟨h.mo.mut (.tail _ (.head _)),aq (λe=>m.1 (e▸.head _)) h.kc,ab,aq (λe=>m.2.1 (e▸.head _)) h.hp,?_,?_,?_,?_,g.fz z,g1.fz z,h.fg.fz z,h.m,d,m1,h.ng⟩
 ·obtain⟨n,e,l⟩:=h.cp;exact⟨n,aq (λe=>m.2.1 (e▸.tail _ (.head _))) e,l⟩
 ·obtain⟨f,e⟩:=j;exact⟨f,aq (ne _ d) e⟩
 ·obtain⟨f,e⟩:=k;exact⟨f,aq (ne _ m1) e⟩
 ·obtain⟨f,e⟩:=h.gp;exact⟨f,aq (ne _ h.ng) e⟩
theorem KP.setG{c:Cm}{b:Addr}{a:List (Option Rw)}{g:Addr}{ys:List FM}(h:KP σ Z c b a)(j:∃f,Z g=some (f,.list (ys.map FM.v)))(i:cM Z ys)(d:g∉[c.adr,c.inp,b,c.E.cp]):
  KP σ (upd Z c.adr (false,fB {c with gp:=g} 0 0 false)) {c with gp:=g,gs:=ys} b a:=by
 have ne:∀x,x∉[c.adr,c.inp,b,c.E.cp]->x≠c.adr:=λx n e=>n (e▸.head _)
 have m:=h.m
 rw[List.nodup_cons]at m
 have z:=Fz.mut (c:=(false,fB {c with gp:=g} 0 0 false)) h.kc
 refine⟨h.mo.mut (.head _),ab,aq (λe=>m.1 (e▸.head _)) h.inp,aq (λe=>m.1 (e▸.tail _ (.head _))) h.hp,?_,?_,?_,?_,h.f0.fz z,h.f1.fz z,i.fz z,h.m,h.n0,h.n1,d⟩
 ·obtain⟨k,e,l⟩:=h.cp;exact⟨k,aq (λe=>m.1 (e▸.tail _ (.tail _ (.head _)))) e,l⟩
 ·obtain⟨f,e⟩:=h.i0;exact⟨f,aq (ne _ h.n0) e⟩
 ·obtain⟨f,e⟩:=h.i1;exact⟨f,aq (ne _ h.n1) e⟩
 ·obtain⟨f,e⟩:=j;exact⟨f,aq (ne _ d) e⟩
structure tU(V:bp)(k:Nat)(in0 in1:List FM):Prop where
 s:∃L0 L1,V.lv[k]?=some L0/\V.lv[k+1]?=some L1/\in0.Sublist L0.fs/\in0≠[]/\(k=0->∀g∈L0.fs,g∉in0->∀f∈in0,g.hi.u<f.lo.u∨f.hi.u<g.lo.u)/\
  ∃lo hi,(∀f∈in0,lo<=f.lo.u/\f.hi.u<=hi)/\in1=L1.fs.filter (cK lo hi)
theorem pL{fs:List FM}{lo hi:Nat}(h:∀f∈fs.filter (cK lo hi),lo<=f.lo.u/\f.hi.u<=hi):∀g∈fs,g∉fs.filter (cK lo hi)->∀f∈fs.filter (cK lo hi),g.hi.u<f.lo.u∨f.hi.u<g.lo.u:=λg e n f i=>by
 obtain⟨d,c⟩:=h f i
 have:¬(lo<=g.hi.u/\g.lo.u<=hi):=λ⟨a,b⟩=>n (List.mem_filter.mpr ⟨e,by unfold cK;rw[decide_eq_true a,decide_eq_true b];rfl⟩)
 exact(Nat.lt_or_ge g.hi.u lo).elim (λq=>.inl (Nat.lt_of_lt_of_le q d)) λq=>.inr (Nat.lt_of_le_of_lt c (ng λz=>this ⟨q,z⟩))
end
section
variable {ext:bj} {σ Z:Hp}
structure GH where
 i0:Addr
 i1:Addr
 t6:Addr
 ys:List FM
 zs:List FM
 lo:Nat
 hi:Nat
 v5:AV
 v7:AV
 v8:AV
 v9:AV
 v10:AV
noncomputable abbrev GH.c(a:GH)(c:Cm):Cm:={c with i0:=a.i0,i1:=a.i1,in0:=a.ys,in1:=a.zs}
theorem tU.len0{V:bp}{k:Nat}{ys zs:List FM}(h:tU V k ys zs)(b:qj V):ys.length<=60:=by
 obtain⟨e,c,a,d,s,_⟩:=h.s
 exact Nat.le_trans s.length_le (b.len (List.mem_of_getElem? a))
theorem tU.len1{V:bp}{k:Nat}{ys zs:List FM}(h:tU V k ys zs)(b:qj V):zs.length<=60:=by
 obtain⟨f,c,d,a,s,_,_,lo,g,_,e⟩:=h.s
 rw[e]
 exact Nat.le_trans (List.length_filter_le _ _) (b.len (List.mem_of_getElem? a))
theorem tU.ok{V:bp}{k:Nat}{ys zs:List FM}(h:tU V k ys zs)(b:Ah V):pZ ys/\pZ zs/\ys≠[]:=by
 obtain⟨i,c,d,g,s,n,_,lo,j,_,e⟩:=h.s
 exact⟨λf a=>b.ok i (List.mem_of_getElem? d) f (s.subset a),λf a=>b.ok c (List.mem_of_getElem? g) f (fH (e▸a)).1,n⟩
theorem cM.app{xs ys:List FM}(h:cM σ xs)(k:cM σ ys):cM σ (xs++ys):=λf a=>(aE a).elim (h f) (k f)
theorem pZ.app{xs ys:List FM}(h:pZ xs)(k:pZ ys):pZ (xs++ys):=λf a=>(aE a).elim (h f) (k f)
theorem AQ{P:Hp->Prop}{r:Addr}{x y v:AV}(h:σ r=some (false,.list [x,y]))(k:P (upd σ r (false,.list [v,y]))):setItem (.ref r) (.int 0) v σ P:=s8 (i:=0) h (Nat.le_of_ble_eq_true rfl) (Nat.succ_pos 1) k
theorem Hk{P:Hp->Prop}{r:Addr}{x y v:AV}(h:σ r=some (false,.list [x,y]))(k:P (upd σ r (false,.list [x,v]))):setItem (.ref r) (.int 1) v σ P:=s8 (i:=1) h (Nat.le_of_ble_eq_true rfl) (Nat.lt_succ_self 1) k
theorem uT{n:Nat}{p y op o:Addr}{c:Cm}{b:List (Option Rw)}{l:aG}{K:PX}(h:KP σ Z c y b)(g:yf Z p op o)(u:sj Z o)(sel:tU c.V c.k c.in0 c.in1)(d:Ah c.V)(t:get l 0=.ref p)(g1:get l 1=.ref c.adr)
  (k:∀(lo hi:Nat) (r q:Addr),lo<4->hi<4->Z r=none->(upd Z r (false,.list ((c.in0++c.in1).map FM.v))) q=none->K (.ref q) (upd (upd Z r (false,.list ((c.in0++c.in1).map FM.v))) q (true,.tup [.bytes (bv lo),.bytes (bv hi)]))):
  Gx (cB ext (n+6)) (.mth (.v 0) 37 (.cons (.bin .add (.sub (.at (.v 1) 53) (.k (.int 0))) (.sub (.at (.v 1) 53) (.k (.int 1)))) .nil)) l Z K:=by
 have s:=e7 t uR
 have B:=e7 g1 uR
 have k1:=h.kc
 have k2:=h.inp
 obtain⟨D,k3⟩:=h.i0
 obtain⟨f1,k4⟩:=h.i1
 obtain⟨w,x,j⟩:=sel.ok d
 have f:=sel.len0 d.sm
 have i:=sel.len1 d.sm
 refine fO (aS (bo s) (fU g rfl (by kernel_rfl) (aj (dk (aS (by left) (aS (by left) (iY k3 k4 ⟨aO (bh f rfl),aO (bh i rfl)⟩ λr a=>aD ?_)))))))
 rw[←List.map_append]
 refine hU (ag a g) ab ((h.f0.app h.f1).fz (Fz.new a)) (λe=>j (List.append_eq_nil_iff.mp e).1) (w.app x) (u.fz (Fz.new a)) (by rw[List.length_append];exact n2 [_,_] FT lZ yD rfl f i) λlo hi q A z _ m=>k lo hi r q A z a m
theorem KP.setPt{c:Cm}{a:Addr}{b pts':List (Option Rw)}(h:KP σ Z c a b):KP σ (upd Z a (false,.list (pts'.map nX))) c a pts':=by
 have ne:∀x,x∉[c.adr,c.inp,a,c.E.cp]->x≠a:=λx g e=>g (e▸.tail _ (.tail _ (.head _)))
 have m:=h.m
 rw[List.nodup_cons,List.nodup_cons,List.nodup_cons]at m
 have z:=Fz.mut (c:=(false,.list (pts'.map nX))) h.hp
 refine⟨h.mo.mut (.tail _ (.tail _ (.head _))),aq (λe=>m.1 (e▸.tail _ (.head _))) h.kc,aq (λe=>m.2.1 (e▸.head _)) h.inp,ab,?_,?_,?_,?_,h.f0.fz z,h.f1.fz z,h.fg.fz z,h.m,h.n0,h.n1,h.ng⟩
 ·obtain⟨d,e,l⟩:=h.cp;exact⟨d,aq (λe=>m.2.2.1 (e▸.head _)) e,l⟩
 ·obtain⟨f,e⟩:=h.i0;exact⟨f,aq (ne _ h.n0) e⟩
 ·obtain⟨f,e⟩:=h.i1;exact⟨f,aq (ne _ h.n1) e⟩
 ·obtain⟨f,e⟩:=h.gp;exact⟨f,aq (ne _ h.ng) e⟩
structure KQ(σ Z:Hp)(c:Cm)(pA:Addr)(pts:List (Option Rw)):Prop where
 mo:Mo [c.adr,c.inp,pA,c.E.cp] σ Z
 kc:Z c.adr=some (false,fB c 0 0 false)
 inp:Z c.inp=some (false,.list [.ref c.i0,.ref c.i1])
 hp:Z pA=some (false,.list (pts.map nX))
 cp:∃xs,Z c.E.cp=some (false,.list xs)
 i0:∃f,Z c.i0=some (f,.list (c.in0.map FM.v))
 i1:∃f,Z c.i1=some (f,.list (c.in1.map FM.v))
 gp:∃f,Z c.gp=some (f,.list (c.gs.map FM.v))
 f0:cM Z c.in0
 f1:cM Z c.in1
 fg:cM Z c.gs
theorem KP.setCp{c:Cm}{b:Addr}{a:List (Option Rw)}{xs:List AV}(h:KP σ Z c b a):KQ σ (upd Z c.E.cp (false,.list xs)) c b a:=by
 have ne:∀x,x∉[c.adr,c.inp,b,c.E.cp]->x≠c.E.cp:=λx g e=>g (e▸.tail _ (.tail _ (.tail _ (.head _))))
 have m:=h.m
 rw[List.nodup_cons,List.nodup_cons,List.nodup_cons]at m
 obtain⟨i,d,_⟩:=h.cp
 have z:=Fz.mut (c:=(false,.list xs)) d
 refine⟨h.mo.mut (.tail _ (.tail _ (.tail _ (.head _)))),aq (λe=>m.1 (e▸.tail _ (.tail _ (.head _)))) h.kc,aq (λe=>m.2.1 (e▸.tail _ (.head _))) h.inp,aq (λe=>m.2.2.1 (e▸.head _)) h.hp,⟨xs,ab⟩,?_,?_,?_,h.f0.fz z,h.f1.fz z,h.fg.fz z⟩
 ·obtain⟨f,e⟩:=h.i0;exact⟨f,aq (ne _ h.n0) e⟩
 ·obtain⟨f,e⟩:=h.i1;exact⟨f,aq (ne _ h.n1) e⟩
 ·obtain⟨f,e⟩:=h.gp;exact⟨f,aq (ne _ h.ng) e⟩
inductive SJ(σ Z:Hp)(c:Cm)(pA:Addr)(pts:List (Option Rw))(a:GH):Prop
 |mk:KP σ Z (a.c c) pA pts->tU c.V c.k a.ys a.zs->Z a.t6=some (true,.tup [.bytes (bv a.lo),.bytes (bv a.hi)])->a.lo<4->a.hi<4->(a.i0=c.i0∨∃o,Z a.i0=some (true,o))->(∃o,Z a.i1=some (true,o))->SJ σ Z c pA pts a
inductive SG(σ Z:Hp)(c:Cm)(pA:Addr)(pts:List (Option Rw))(a:GH):Prop
 |mk (gp:Addr) (gs:List FM):KP σ Z {c with i0:=a.i0,i1:=a.i1,in0:=a.ys,in1:=a.zs,gp:=gp,gs:=gs} pA pts->gs.length<=60->pZ gs->(a.i0=c.i0∨∃o,Z a.i0=some (true,o))->(∃o,Z a.i1=some (true,o))->(gp=c.gp∨∃o,Z gp=some (true,o))->SG σ Z c pA pts a
theorem rW{n:Nat}{p pA o:Addr}{c:Cm}{j:List (Option Rw)}{Q:PX}(h:KP σ σ c pA j)(hp:yf σ p c.o.adr o)(ho:sj σ o)(hV:dN true σ c.V)(m:Ah c.V)(hO:ft σ c.o)(oo:iS c.o)(nl:c.o.nl=c.V.lv.length)(kn:c.k+1<c.V.lv.length)(hE:σ c.E.adr=some (true,.inst 15 [(36,.none),(37,.none),(38,.none),(39,.none),(40,.ref c.E.cp),(41,.ref c.E.dlA),(42,.ref c.E.alA),(43,.bool false)]))
  (g0:c.gs=[]) (pl:j.length=c.V.lv.length) (po:AI j) (sz:∀L∈c.V.lv,Fk L.fs)
  (s0:∃A,c.V.lv[c.k]?=some A/\c.in0.Sublist A.fs/\c.in0≠[]/\(c.k=0->∀g∈A.fs,g∉c.in0->∀f∈c.in0,g.hi.u<f.lo.u∨f.hi.u<g.lo.u))
  (q:∀(i0 i1 gp:Addr) (ys zs gs:List FM) (pts':List (Option Rw)) (Z:Hp),KQ σ Z {c with i0:=i0,i1:=i1,gp:=gp,in0:=ys,in1:=zs,gs:=gs} pA pts'->pts'.length=c.V.lv.length->AI pts'->tU c.V c.k ys zs->gs.length<=60->pZ gs->(i0=c.i0∨∃o,Z i0=some (true,o))->(∃o,Z i1=some (true,o))->(gp=c.gp∨∃o,Z gp=some (true,o))->Q .none Z):
  cB ext (n+7) (F.fa 75) [.ref p,.ref c.adr,.ref pA] σ Q:=by
 obtain⟨A,ζ,sub,ρ,clo⟩:=s0
 obtain⟨z,β⟩:∃L,c.V.lv[c.k+1]?=some L:=⟨_,List.getElem?_eq_getElem kn⟩
 have k1:=h.kc
 have k2:=h.inp
 obtain⟨f0,k3⟩:=h.i0
 have m0:=List.mem_of_getElem? ζ
 have m1:=List.mem_of_getElem? β
 have l0:c.in0.length<=60:=Nat.le_trans sub.length_le (m.sm.len m0)
 have v1:=hV.v
 refine aB (l:=[.ref p,.ref c.adr,.ref pA,.undef,.undef,.undef,.undef,.undef,.undef,.undef,.undef,.undef]) MZ rfl rfl ?_;show Go _ Ke _ _ _;delta Ke
 refine bG (by left) (bG (by left) (az (fO (aS (by left) (fU hp rfl (by kernel_rfl) (BS (by left) ?_))))))
 refine hU hp k3 h.f0 ρ (λf U=>m.ok A m0 f (sub.subset U)) ho (bh l0 rfl) λlo hi t1 b1 b2 b3 ψ=>?_
 have h1:=h.new (d:=(true,.tup [.bytes (bv lo),.bytes (bv hi)])) ψ
 have κ:=hV.fz (Fz.new (c:=(true,.tup [.bytes (bv lo),.bytes (bv hi)])) ψ)
 have v1:=κ.v
 have k1:=h1.kc
 refine dC (aV (by left) v1 rfl (by kernel_rfl) (by left) (iw (k:=c.k+1) (lo:=some lo) (hi:=some hi) κ m.sm β (m.ok z m1) (λn e=>Option.some.inj e▸b1) (λn e=>Option.some.inj e▸b2) λt s x1 x2 x3 _ r hr=>?_))
 obtain⟨rfl,rfl⟩:=x3 (Nat.succ_ne_zero _)
 have h2:=h1.new (d:=(true,.list ((z.fs.filter (cK t s)).map FM.v))) hr
 have k1:=h2.kc
 refine aS (by left) (aS aT (Hk h2.inp ?_))
 have h3:=h2.setI (a0:=c.i0) (a1:=r) (ys:=c.in0) (zs:=z.fs.filter (cK t s)) h2.i0 ⟨_,ab⟩ h2.f0 (λf U=>ag hr ((κ.fs z m1) f (fH U).1)) h.n0 (h1.nin hr)
 have sel:tU c.V c.k c.in0 (z.fs.filter (cK t s)):=⟨A,z,ζ,β,sub,ρ,clo,t,s,b3,rfl⟩
 have z3:=h3.mo.fz h.lv
 have k1:=h3.kc
 refine az (uT h3 (z3 _ _ hp) (ho.fz z3) sel m rfl rfl λD G q6 t6 y1 y2 hq6 ht6=>?_)
 have h4:=(h3.new (d:=(false,.list ((c.in0++z.fs.filter (cK t s)).map FM.v))) hq6).new (d:=(true,.tup [.bytes (bv D),.bytes (bv G)])) ht6
 have k1:=h4.kc
 have χ:=((Fz.mut (c:=(false,.list [.ref c.i0,.ref r])) h2.inp).trans (Fz.new (c:=(false,.list ((c.in0++z.fs.filter (cK t s)).map FM.v))) hq6)).trans (Fz.new (c:=(true,.tup [.bytes (bv D),.bytes (bv G)])) ht6)
 have r4:=χ _ _ (ab (σ:=upd σ t1 (true,.tup [.bytes (bv t),.bytes (bv s)])) (a:=r))
 clear χ
 generalize e4:upd _ t6 _=σ4 at h4 r4 ⊢
 have t4:σ4 t6=some (true,.tup [.bytes (bv D),.bytes (bv G)]):=e4▸ab
 refine bB (λa:GH=>[.ref p,.ref c.adr,.ref pA,.int c.k,.ref c.V.adr,a.v5,.ref a.t6,a.v7,a.v8,a.v9,a.v10,.undef]) (λa Z=>SJ σ Z c pA j a) (λR ih=>?_) ?_
 ·have z4:=h4.mo.fz h.lv
  have μ:=hV.fz z4
  have hp4:=z4 _ _ hp
  have hO4:=z4 _ _ hO
  have v4:=μ.v
  have k4:=h4.kc
  have i4:=h4.inp
  obtain⟨f0,e0⟩:=h4.i0
  obtain⟨f1,e1⟩:=h4.i1
  have ly:=aO (g:=FM.v) (bh l0 rfl)
  have lz:=aO (g:=FM.v) (bh (sel.len1 m.sm) rfl)
  refine hF (by left) (br (λx=>?_) λx=>ak (bk (ih ⟨c.i0,r,t6,c.in0,_,D,G,.ref t1,.undef,.undef,.undef,.undef⟩ _ ⟨h4,sel,t4,y1,y2,.inl rfl,_,r4⟩)))
  refine az (aV (by left) v4 rfl (by kernel_rfl) (by left) (iw (k:=c.k) (lo:=some D) (hi:=some G) μ m.sm ζ (m.ok A m0) (λn e=>Option.some.inj e▸y1) (λn e=>Option.some.inj e▸y2) λla ha _ _ _ cl7 g7 J=>?_))
  have K:=h4.new (d:=(true,.list ((A.fs.filter (cK la ha)).map FM.v))) J
  have l7:(A.fs.filter (cK la ha)).length<=60:=Nat.le_trans (List.length_filter_le _ _) (m.sm.len m0)
  have f7:cM (upd _ g7 (true,.list ((A.fs.filter (cK la ha)).map FM.v))) (A.fs.filter (cK la ha)):=λf U=>ag J (μ.fs A m0 f (fH U).1)
  have lg:=aO (g:=FM.v) (bh l7 rfl)
  have z5:=K.mo.fz h.lv
  have θ:=z5 _ _ hp
  have hO5:=z5 _ _ hO
  have γ:=hV.fz z5
  have v5:=γ.v
  have k5:=K.kc
  have i5:=K.inp
  obtain⟨f0',e0'⟩:=K.i0
  obtain⟨f1',e1'⟩:=K.i1
  have f28:=oo.f28
  have f20:=oo.f20
  have ef:=oo.ef
  refine bG (fv (by left) (by left) (O5 ef)) ?_
  refine az (dk (aW (by left) (lU e1' K.f1 (bh (sel.len1 m.sm) rfl) (aW (by left) (lU ab f7 (bh l7 rfl) (yx ?_))))))
  refine jd (by left) (λy=>?_) λy=>ak (cq (ak (bk (ih ⟨c.i0,r,t6,c.in0,_,D,G,.ref t1,.ref g7,_,_,.undef⟩ _ ⟨K,sel,ag J t4,y1,y2,.inl rfl,_,ag J r4⟩))))
  have ξ:=of_decide_eq_true ((Bool.and_eq_true _ _).mp y).1
  rw[List.length_map,List.length_map]at ξ
  have υ:A.fs.filter (cK la ha)≠[]:=λe=>by rw[e]at ξ;exact absurd ξ (fX (Int.natCast_nonneg _))
  have ok7:pZ (A.fs.filter (cK la ha)):=λf U=>m.ok A m0 f (fH U).1
  refine az (fO (aS (by left) (fU θ rfl (by kernel_rfl) (BS (by left) ?_))))
  refine hU θ ab f7 υ ok7 (ho.fz z5) (bh l7 rfl) λω hi8 t8 b1' b2' b3' Y=>?_
  have N:=K.new (d:=(true,.tup [.bytes (bv ω),.bytes (bv hi8)])) Y
  have z6:=N.mo.fz h.lv
  have ν:=hV.fz z6
  have v6:=ν.v
  refine az (aV (by left) v6 rfl (by kernel_rfl) (by left) (iw (k:=c.k+1) (lo:=some ω) (hi:=some hi8) ν m.sm β (m.ok z m1) (λn e=>Option.some.inj e▸b1') (λn e=>Option.some.inj e▸b2') λO W _ _ x3 _ g9 I=>?_))
  obtain⟨rfl,rfl⟩:=x3 (Nat.succ_ne_zero _)
  have B:=N.new (d:=(true,.list ((z.fs.filter (cK O W)).map FM.v))) I
  have l9:(z.fs.filter (cK O W)).length<=60:=Nat.le_trans (List.length_filter_le _ _) (m.sm.len m1)
  have lg9:=aO (g:=FM.v) (bh l9 rfl)
  have k7:=B.kc
  have i7:=B.inp
  obtain⟨f1'',e1''⟩:=B.i1
  have t6':=ag (c:=(true,.list ((z.fs.filter (cK O W)).map FM.v))) I (ag (c:=(true,.tup [.bytes (bv O),.bytes (bv W)])) Y (ag (c:=(true,.list ((A.fs.filter (cK la ha)).map FM.v))) J t4))
  refine dX (by left) (λw=>?_) λw=>ak (cq (ak (cq (ak (bk (ih ⟨c.i0,r,t6,c.in0,_,D,G,.ref t8,.ref g7,_,_,.ref g9⟩ _ ⟨B,sel,t6',y1,y2,.inl rfl,_,ag I (ag Y (ag J r4))⟩))))))
  have c7:=ag (c:=(true,.list ((z.fs.filter (cK O W)).map FM.v))) I (ag (c:=(true,.tup [.bytes (bv O),.bytes (bv W)])) Y (ab (σ:=σ4) (a:=g7)))
  have f7':=f7.fz ((Fz.new (c:=(true,.tup [.bytes (bv O),.bytes (bv W)])) Y).trans (Fz.new (c:=(true,.list ((z.fs.filter (cK O W)).map FM.v))) I))
  have f9:cM _ (z.fs.filter (cK O W)):=λf U=>ag (c:=(true,.list ((z.fs.filter (cK O W)).map FM.v))) I (ν.fs z m1 f (fH U).1)
  have m7:=h4.nin J
  have m9:=N.nin I
  have h8:=B.setI ⟨_,c7⟩ B.i1 f7' B.f1 m7 B.n1
  have z8:=Fz.mut (c:=(false,.list [.ref g7,.ref r])) B.inp
  have h9:=h8.setI h8.i0 ⟨_,z8 _ _ ab⟩ h8.f0 (f9.fz z8) m7 m9
  have k8:=h8.kc
  refine dC (aS (by left) (aS (by left) (aS aT (AQ B.inp ?_))))
  refine dC (aS (by left) (aS (by left) (aS aT (Hk h8.inp ?_))))
  have η:tU c.V c.k (A.fs.filter (cK la ha)) (z.fs.filter (cK O W)):=⟨A,z,ζ,β,List.filter_sublist,υ,λk0=>pL (cl7 k0),O,W,b3',rfl⟩
  have z9:=h9.mo.fz h.lv
  refine az (uT h9 (z9 _ _ hp) (ho.fz z9) η m rfl rfl λlo9 π q9 t9 y1' y2' hq9 φ=>?_)
  have ze:=((z8.trans (Fz.mut (c:=(false,.list [.ref g7,.ref g9])) h8.inp)).trans (Fz.new (c:=(false,.list ((A.fs.filter (cK la ha)++z.fs.filter (cK O W)).map FM.v))) hq9)).trans (Fz.new (c:=(true,.tup [.bytes (bv lo9),.bytes (bv π)])) φ)
  exact ak (cq (ak (cq (ak (bk (ih ⟨g7,g9,t9,_,_,lo9,π,.ref t8,.ref g7,_,_,.ref g9⟩ _ ⟨(h9.new hq9).new φ,η,ab,y1',y2',.inr ⟨_,ze _ _ c7⟩,_,ze _ _ ab⟩))))))
 rintro a Z ⟨K,ε,ht,y3,y4,w0,w1⟩
 have z5:=K.mo.fz h.lv
 have θ:=z5 _ _ hp
 have hO5:=z5 _ _ hO
 have γ:=hV.fz z5
 have f21:=oo.f21
 have v5:=γ.v
 have k5:=K.kc
 refine bB (λ_:Unit=>[.ref p,.ref c.adr,.ref pA,.int c.k,.ref c.V.adr,a.v5,.ref a.t6,a.v7,a.v8,a.v9,a.v10,.undef]) (λ_ Z=>SG σ Z c pA j a) (λR ih=>hF (by left) (br (λx=>?_) λx=>?_)) ?_
 ·obtain⟨L2,hL2⟩:∃L,c.V.lv[c.k+2]?=some L:=⟨_,List.getElem?_eq_getElem (by rw[nl]at x;exact cu x)⟩
  have m2:=List.mem_of_getElem? hL2
  refine zF (aV (by left) v5 rfl (by kernel_rfl) (by left) (iw (k:=c.k+2) (lo:=some a.lo) (hi:=some a.hi) γ m.sm hL2 (m.ok L2 m2) (λn e=>Option.some.inj e▸y3) (λn e=>Option.some.inj e▸y4) λt s _ _ _ _ g hg=>aS (by left) (AP (ag hg k5) (by kernel_rfl) rfl ?_)))
  have N:=K.new (d:=(true,.list ((L2.fs.filter (cK t s)).map FM.v))) hg
  have B:=N.setG ⟨_,ab⟩ (λf U=>ag hg (γ.fs L2 m2 f (fH U).1)) (K.nin hg)
  have zg:=(Fz.new (c:=(true,.list ((L2.fs.filter (cK t s)).map FM.v))) hg).trans (Fz.mut (c:=(false,fB {a.c c with gp:=g} 0 0 false)) N.kc)
  exact ak (bk (ih () _ ⟨g,_,B,Nat.le_trans (List.length_filter_le _ _) (m.sm.len m2),λf U=>m.ok L2 m2 f (fH U).1,w0.imp id λh=>h.imp λ_ e=>zg _ _ e,w1.imp λ_ e=>zg _ _ e,.inr ⟨_,cP N.kc ab⟩⟩))
 ·exact ak (bk (ih () _ ⟨c.gp,c.gs,K,by rw[g0];exact Nat.zero_le _,by rw[g0];exact λ_=>nM,w0,w1,.inl rfl⟩))
 rintro⟨⟩ Z ⟨gp,gs,N,gl,gok,w0,w1,w2⟩
 have z6:=N.mo.fz h.lv
 have hp6:=z6 _ _ hp
 have k6:=N.kc
 have i6:=N.inp
 obtain⟨f0,e6⟩:=N.i0
 obtain⟨o1,o2,o3⟩:=ε.ok m
 have lp:=aO (g:=nX) (bs:=j) (by rw[pl];exact bh m.sm.n rfl)
 refine az (qx (aW (by left) (ry e6 N.f0 o3 o1 (ho.fz z6) (bh (ε.len0 m.sm) rfl) λlo hi r _ hk _ hr=>aS aT (G3 (i:=1) ab rfl rfl ?_))))
 have B:=N.new (d:=(true,.tup [.bytes lo.b,.bytes hi.b])) hr
 refine dC (aS (by left) (aS (by left) (aS (by left) (s8 B.hp lp (by rw[List.length_map,pl];exact Nat.lt_of_succ_lt kn) ?_))))
 rw[show(j.map nX).set c.k (AV.bytes hi.b)=(j.set c.k (some hi)).map nX from(List.map_set (f:=nX) (l:=j) (i:=c.k) (a:=some hi)).symm]
 have h8:=B.setPt (pts':=j.set c.k (some hi))
 have k8:=h8.kc
 have e8:=(h8.mo.fz h.lv) _ _ hE
 obtain⟨xs,c8,xl⟩:=h8.cp
 have c8:=(show(_:Hp) c.E.cp=some (false,AO.list xs)from c8)
 refine dL (iH (aS (by left) (ja c8 rfl (aj (fu (by left) rfl λw hw=>aD (dQ (ag hw c8) (Nat.le_trans xl (Nat.le_of_ble_eq_true rfl)) ?_))))))
 have ze:=(((Fz.new (c:=(true,.tup [.bytes lo.b,.bytes hi.b])) hr).trans (Fz.mut (c:=(false,.list ((j.set c.k (some hi)).map nX))) B.hp)).trans (Fz.new (c:=(true,.tup [.int c.k,.bytes hi.b])) hw)).trans (Fz.mut (c:=(false,.list (xs++[.ref w]))) (ag hw c8))
 refine ak (gn (Wk.refl _) (q a.i0 a.i1 gp a.ys a.zs gs (j.set c.k (some hi)) _ (h8.new hw).setCp (by rw[List.length_set];exact pl) (λr' δ=>?_) ε gl gok (w0.imp id λh=>h.imp λ_ e=>ze _ _ e) (w1.imp λ_ e=>ze _ _ e) (w2.imp id λh=>h.imp λ_ e=>ze _ _ e)))
 rcases List.mem_or_eq_of_mem_set δ with δ|δ
 ·exact po r' δ
 ·rw[Option.some.inj δ];exact hk
end
section
variable {ext:bj} {σ Z:Hp}
noncomputable def qX(S:List Addr)(Z:Hp):Hp:=λa=>if a∈S then(Z a).map λc=>(true,c.2) else Z a
theorem jZ{S:List Addr}{a:Addr}(h:a∉S):qX S Z a=Z a:=if_neg h
theorem nG{S:List Addr}{a:Addr}{f:Bool}{o:AO}(e:Z a=some (f,o))(h:a∈S):qX S Z a=some (true,o):=by unfold qX;rw[if_pos h,e];rfl
theorem mE{S:List Addr}:Fz Z (qX S Z):=λa o e=>by
 by_cases h:a∈S
 ·exact nG e h
 ·rw[jZ h];exact e
theorem zG{S:List Addr}:Wk (qX S Z) Z:=λa c e=>by
 by_cases h:a∈S
 ·cases g:Z a with
  |none=>unfold qX at e;rw[if_pos h,g]at e;cases e
  |some d=>rw[nG (o:=d.2) (f:=d.1) g h]at e;cases e;exact⟨_,rfl,rfl,λ_=>rfl⟩
 ·rw[jZ h]at e;exact⟨c,e,rfl,id⟩
theorem tt{S:List Addr}{a:Addr}{f:Bool}{o:AO}(h:Z a=some (f,o))(k:∃o',Z a=some (true,o')):qX S Z a=some (true,o):=by
 obtain⟨o',e⟩:=k
 rw[h]at e
 exact mE _ _ (by rw[h,(Prod.mk.inj (Option.some.inj e)).1])
structure AJ(σ Z:Hp)(c:Cm)(pA:Addr)(pts:List (Option Rw)):Prop where
 mo:Mo [pA] σ Z
 hC:wx Z c
 kc:Z c.adr=some (false,fB c 0 0 false)
 kpl:Z c.pl=some (false,.list ((List.replicate c.V.lv.length 0).map tY))
 kE:j8 Z c.E
 ed:c.E.dl=[]
 ea:c.E.al=[]
 hp:Z pA=some (false,.list (pts.map nX))
 nd:[c.adr,c.pl,c.E.cp,c.E.dlA,c.E.alA].Nodup
 fr:∀x∈[c.adr,c.pl,c.E.cp,c.E.dlA,c.E.alA],σ x=none
 sel:tU c.V c.k c.in0 c.in1
 lg:c.gs.length<=60
 og:pZ c.gs
theorem Gu{a b c d e f g i j y:Addr}(h:y∈[a,b,c,d,j]):y∈[a,b,c,d,e,f,g,i,j]:=(au h).elim (λe=>e▸Hj) λh=>(au h).elim (λe=>e▸GV) λh=>(au h).elim (λe=>e▸Gp) λh=>(au h).elim (λe=>e▸D4) λh=>aw h▸CA
theorem C3{f:Hp}{a n b g m p l ord r x:Addr}{k:Nat}{V:bp}{o:Op}{E:Ed}{d:Bool×AO}(h:C0 σ f a k V o ord r b g m p l E)(i:σ n=some d)(s:f x=none):x∉[a,b,n,E.cp]/\∀y∈[l,E.alA,E.dlA,E.cp,a],y≠x:=by
 have ne:∀y c,f y=some c->y≠x:=λy c e=>af e s
 have lv:=h.fl.lv
 have q:∀y∈[l,E.alA,E.dlA,E.cp,p,b,m,g,a],y≠x:=λy j=>by obtain⟨c,e⟩:=lv y j;exact ne y c e
 refine⟨λt=>?_,λy j=>q y ?_⟩
 ·exact a7 (Ne.symm (ne _ _ h.h_c)) (a7 (Ne.symm (ne _ _ h.h_inp)) (a7 (Ne.symm (ne _ _ (h.fl.ex _ _ i))) (di (Ne.symm (ne _ _ h.h_cp))))) t
 ·exact Gu j
theorem Le{a b c d e f g i j y:Addr}(h:y∈[j,a,d,c,b]):y∈[a,b,c,d,e,f,g,i,j]:=(au h).elim (λe=>e▸CA) λh=>(au h).elim (λe=>e▸Hj) λh=>(au h).elim (λe=>e▸D4) λh=>(au h).elim (λe=>e▸Gp) λh=>aw h▸GV
theorem yC{B h u:Hp}{c:Cm}{l m i r:Addr}{ys zs gs:List FM}{D:Addr}{U pts':List (Option Rw)}{dA:AO}
  (f:C0 σ h c.adr c.k c.V c.o c.ord c.us c.inp D c.i1 c.gp c.pl c.E) (m0:Mo [c.adr,c.inp] h u) (j:aK B σ) (A:B r=some (false,dA)) (ni:B c.i0=none) (v:∀y∈[c.pl,c.E.alA,c.E.dlA,c.E.cp,c.adr],y≠c.i0) (nl:c.o.nl=c.V.lv.length) (hV:dN true σ c.V) (hO:ft σ c.o)
  (q:KQ u Z {c with i0:=l,i1:=m,gp:=i,in0:=ys,in1:=zs,gs:=gs} r pts') (hl:KP u u c r U) (sel:tU c.V c.k ys zs) (lg:gs.length<=60) (og:pZ gs) (w0:l=c.i0∨∃o,Z l=some (true,o)) (w1:∃o,Z m=some (true,o)) (w2:i=c.gp∨∃o,Z i=some (true,o)):
  AJ B (qX [c.inp,c.i0,c.gp] Z) {c with i0:=l,i1:=m,gp:=i,in0:=ys,in1:=zs,gs:=gs} r pts':=by
 have b:=f.fl.nd
 have W:=f.fl.fr
 have K:∀x d,σ x=some d->∀y∈[c.pl,c.E.alA,c.E.dlA,c.E.cp,c.gp,c.inp,c.i1,D,c.adr],x≠y:=λx d e y hy z=>by rw[z,W y hy]at e;cases e
 have I:∀x d,B x=some d->x≠c.i0:=λx d e z=>by rw[z,ni]at e;cases e
 have g:=K _ _ (j _ _ A)
 have tr:∀x d,x≠c.adr->x≠c.inp->x≠r->x≠c.E.cp->h x=some d->Z x=some d:=λx d t s w Q e=>q.mo x d (a7 t (a7 s (a7 w (di Q)))) (m0 x d (a7 t (di s)) e)
 have O:∀x,x≠c.inp->x≠c.gp->x≠c.i0->x∉[c.inp,c.i0,c.gp]:=λx t s w=>a7 t (a7 w (di s))
 have z0:Fz h u:=m0.fz λx J=>(au J).elim (λe=>e▸⟨_,f.h_c⟩) λJ=>aw J▸⟨_,f.h_inp⟩
 have z1:Fz u Z:=q.mo.fz hl.lv
 have z2:=(z0.trans z1).trans (mE (S:=[c.inp,c.i0,c.gp]))
 have zw:=f.fl.ex.fz.trans z2
 obtain⟨xs,R⟩:=q.cp
 obtain⟨f0,q0⟩:=q.i0
 obtain⟨f1,q1⟩:=q.i1
 obtain⟨f2,Y⟩:=q.gp
 have ii:c.i0∈[c.inp,c.i0,c.gp]:=.tail _ (.head _)
 have ig:c.gp∈[c.inp,c.i0,c.gp]:=.tail _ (.tail _ (.head _))
 have N:=λx d (t:x≠c.adr) (s:x≠c.inp) (w:x≠r) (Q:x≠c.E.cp) (x5:x≠c.gp) (x6:x≠c.i0) (e:h x=some d)=>(jZ (O x s x5 x6)).trans (tr x d t s w Q e)
 refine⟨λa d n e=>?_,⟨f.h_ord.fz z2,z2 _ _ f.h_us,nG q.inp (.head _),?_,?_,?_,q.f0.fz mE,q.f1.fz mE,q.fg.fz mE,hV.fz zw,zw _ _ hO⟩,?_,?_,⟨z2 _ _ f.h_E.e,N _ _ (nz b 2 8 rfl rfl rfl) (nz b 2 5 rfl rfl rfl) (Ne.symm (g _ Gp)) (nz b 2 3 rfl rfl rfl) (nz b 2 4 rfl rfl rfl) (v _ Gp) f.h_E.d,N _ _ (nz b 1 8 rfl rfl rfl) (nz b 1 5 rfl rfl rfl) (Ne.symm (g _ GV)) (nz b 1 3 rfl rfl rfl) (nz b 1 4 rfl rfl rfl) (v _ GV) f.h_E.a,⟨xs,?_⟩,(λp G=>by rw[show c.E.dl=[]from f.ed]at G;cases G),(λp G=>by rw[show c.E.al=[]from f.ea]at G;cases G)⟩,f.ed,f.ea,?_,?_,?_,sel,lg,og⟩
 ·have x:=K a d (j _ _ e)
  have x8:a≠r:=λz=>n (z▸.head _)
  exact N a d (x _ CA) (x _ Db) x8 (x _ D4) (x _ HV) (I a d e) (f.fl.ex _ _ (j _ _ e))
 ·rcases w0 with rfl|k
  ·exact nG q0 ii
  ·exact tt q0 k
 ·exact tt q1 w1
 ·rcases w2 with rfl|k
  ·exact nG Y ig
  ·exact tt Y k
 ·have:c.adr∉[c.inp,c.i0,c.gp]:=O _ (Ne.symm (nz b 5 8 rfl rfl rfl)) (Ne.symm (nz b 4 8 rfl rfl rfl)) (v _ HV)
  exact(jZ this).trans q.kc
 ·refine(N _ _ (nz b 0 8 rfl rfl rfl) (nz b 0 5 rfl rfl rfl) (Ne.symm (g _ Hj)) (nz b 0 3 rfl rfl rfl) (nz b 0 4 rfl rfl rfl) (v _ Hj) f.h_pl).trans ?_
  rw[nl,List.map_replicate];rfl
 ·exact(jZ (O _ (nz b 3 5 rfl rfl rfl) (nz b 3 4 rfl rfl rfl) (v _ D4))).trans R
 ·exact(jZ (O _ (g _ Db) (g _ HV) (I _ _ A))).trans q.hp
 ·exact List.nodup_cons.mpr ⟨a7 (Ne.symm (nz b 0 8 rfl rfl rfl)) (a7 (Ne.symm (nz b 3 8 rfl rfl rfl)) (a7 (Ne.symm (nz b 2 8 rfl rfl rfl)) (di (Ne.symm (nz b 1 8 rfl rfl rfl))))),List.nodup_cons.mpr ⟨a7 (nz b 0 3 rfl rfl rfl) (a7 (nz b 0 2 rfl rfl rfl) (di (nz b 0 1 rfl rfl rfl))),List.nodup_cons.mpr ⟨a7 (Ne.symm (nz b 2 3 rfl rfl rfl)) (di (Ne.symm (nz b 1 3 rfl rfl rfl))),List.nodup_cons.mpr ⟨di (Ne.symm (nz b 1 2 rfl rfl rfl)),List.nodup_cons.mpr ⟨List.not_mem_nil,.nil⟩⟩⟩⟩⟩
 ·exact λx J=>j.nn (W x (Le J))
end
section
variable {ext:bj} {σ Z:Hp}
theorem CK{i b:Hp}{c:Cm}{n j:Addr}{q:List (Option Rw)}
  (l:C0 σ i c.adr c.k c.V c.o c.ord c.us c.inp n c.i1 c.gp c.pl c.E) (G:Mo [c.adr,c.inp] i b) (h:σ j=some (false,.list (q.map nX))) (D:c.i0∉[c.adr,c.inp,j,c.E.cp]) (O:b c.adr=some (false,fB c 0 0 false)) (p:b c.inp=some (false,.list [.ref c.i0,.ref c.i1]))
  (B:∃f,b c.i0=some (f,.list (c.in0.map FM.v))) (K:cM b c.in0) (w:c.in1=[]) (u:c.gs=[]):KP b b c j q:=by
 have a:=l.fl.nd
 have J:=l.fl.fr
 have g:∀y∈[c.pl,c.E.alA,c.E.dlA,c.E.cp,c.gp,c.inp,c.i1,n,c.adr],j≠y:=λy I z=>by rw[z,J y I]at h;cases h
 have m:∀x,x≠c.adr->x≠c.inp->x≠j->x≠c.E.cp->x∉[c.adr,c.inp,j,c.E.cp]:=λx s y2 N A=>a7 s (a7 y2 (a7 N (di A)))
 have r:∀x d,x≠c.adr->x≠c.inp->i x=some d->b x=some d:=λx d s y2 e=>G x d (a7 s (di y2)) e
 have t:=l.fl.ex _ _ h
 refine⟨Mo.refl _ _,O,p,r _ _ (g _ CA) (g _ Db) t,⟨[],r _ _ (nz a 3 8 rfl rfl rfl) (nz a 3 5 rfl rfl rfl) l.h_cp,Nat.zero_le _⟩,B,⟨_,by rw[w];exact r _ _ (nz a 6 8 rfl rfl rfl) (Ne.symm (nz a 5 6 rfl rfl rfl)) l.h_i1⟩,⟨_,by rw[u];exact r _ _ (nz a 4 8 rfl rfl rfl) (nz a 4 5 rfl rfl rfl) l.h_gp⟩,K,by rw[w];exact λ_=>nM,by rw[u];exact λ_=>nM,List.nodup_cons.mpr ⟨a7 (Ne.symm (nz a 5 8 rfl rfl rfl)) (a7 (Ne.symm (g _ CA)) (di (Ne.symm (nz a 3 8 rfl rfl rfl)))),List.nodup_cons.mpr ⟨a7 (Ne.symm (g _ Db)) (di (Ne.symm (nz a 3 5 rfl rfl rfl))),List.nodup_cons.mpr ⟨di (g _ D4),List.nodup_cons.mpr ⟨List.not_mem_nil,.nil⟩⟩⟩⟩,D,m _ (nz a 6 8 rfl rfl rfl) (Ne.symm (nz a 5 6 rfl rfl rfl)) (Ne.symm (g _ OJ)) (Ne.symm (nz a 3 6 rfl rfl rfl)),m _ (nz a 4 8 rfl rfl rfl) (nz a 4 5 rfl rfl rfl) (Ne.symm (g _ HV)) (Ne.symm (nz a 3 4 rfl rfl rfl))⟩
structure DE(σ:Hp)(p o pA:Addr)(V:bp)(op:Op)(pts:List (Option Rw)):Prop where
 hP:yf σ p op.adr o
 hO:sj σ o
 v:dN true σ V
 vr:Ah V
 so:yh V
 hop:ft σ op
 oo:iS op
 nl:op.nl=V.lv.length
 hp:σ pA=some (false,.list (pts.map nX))
 pl:pts.length=V.lv.length
 po:AI pts
 sz:∀L∈V.lv,Fk L.fs
theorem BI{n:Nat}{p o I:Addr}{V:bp}{op:Op}{D:List (Option Rw)}{Q:PX}(hi:DE σ p o I V op D)(q0:Q .none σ)
  (q1:∀(c:Cm) (pts':List (Option Rw)) (Z:Hp),c.V=V->c.o=op->AJ σ Z c I pts'->pts'.length=V.lv.length->AI pts'->c.k+1<V.lv.length->Q (.ref c.adr) Z):cB ext (n+8) (F.fa 73) [.ref p,.ref V.adr,.ref I] σ Q:=by
 have hp:=hi.hP
 unfold yf at hp
 have v1:=hi.v.v
 refine aB (l:=[.ref p,.ref V.adr,.ref I,.undef,.undef,.undef,.undef,.undef,.undef,.undef]) MH rfl rfl ?_;show Go _ Iy _ _ _;delta Iy
 refine bK (C1 (kX (aV (by left) hp rfl (by kernel_rfl) (by left) (zp hi.v (dK (GQ (λ_=>?_) λx=>?_))))))
 ·right;exact ay q0
 obtain⟨k,L,e1,e2,e3,e4⟩:=hi.so x
 refine ak (cq (bG (aU (by left) (congrArg AV.int e1)) (az (fR (by left) rfl λA θ=>qS (k:=k) (V:=V) (o:=op) θ hi.hop hi.oo λord us h i0 J gp pl E i K=>wu ?_))))
 have j:=K.fl.ex
 have B:=hi.v.up j
 have v2:=B.v
 have v3:=B.fl
 have hm:=List.mem_of_getElem? e3
 have v4:=B.lv L hm
 have lV:=aO (g:=bM.v) (bh hi.vr.sm.n rfl)
 have lL:=aO (g:=FM.v) (bh (hi.vr.sm.len hm) rfl)
 have lP:=aO (g:=nX) (bs:=D) (by rw[hi.pl];exact bh hi.vr.sm.n rfl)
 have eL:=bQ (g:=bM.v) e3
 obtain⟨Y,ζ⟩:∃Y,D[k]?=some Y:=⟨_,List.getElem?_eq_getElem (by rw[hi.pl];exact Nat.le_of_lt e2)⟩
 have ρ:=bQ (g:=nX) ζ
 have hp0:=j _ _ hi.hp
 obtain⟨f0,ε⟩:∃f,L.fs[0]?=some f:=by
  cases hl:L.fs with
  |nil=>exact(e4 hl).elim
  |cons f r=>exact⟨f,rfl⟩
 have ef0:on (L.fs.map FM.v) 0=some f0.v:=bQ ε
 have hpp:=j _ _ hp
 have k0:=K.h_c
 have m:=K.h_inp
 have O:=B.fs L hm
 have vF:=hi.vr.ok L hm
 have ξ:=List.mem_of_getElem? ε
 have s:=hi.hO.fz j.fz
 right
 have fin:∀a:FM×AV,a.1∈L.fs->Go (cB ext (n+7)) (.cons (.setI (.at (.v 4) 53) (.k (.int 0)) (.lst (.cons (.v 7) .nil))) (.cons (.ite (.t (.cmp .eq (.v 3) (.k (.int 0)))) (.cons (.asg 9 (.mth (.v 0) 37 (.cons (.sub (.at (.v 4) 53) (.k (.int 0))) .nil)))
   (.cons (.setI (.at (.v 4) 53) (.k (.int 0)) (.mth (.v 1) 18 (.cons (.k (.int 0)) (.cons (.sub (.v 9) (.k (.int 0))) (.cons (.sub (.v 9) (.k (.int 1))) .nil))))) .nil)) .nil) (.cons (.ex (.mth (.v 0) 40 (.cons (.v 4) (.cons (.v 2) .nil)))) (.cons (.ret (.v 4)) .nil))))
   [.ref p,.ref V.adr,.ref I,.int k,.ref A,L.v,nX Y,a.1.v,a.2,.undef] i (cO Q):=λa G=>by
  refine dC (a8 (by left) rfl λr hr=>aS (by left) (aS aT (AQ (ag hr m) ?_)))
  have m1:Mo [A,h] i (upd (upd i r (false,.list [a.1.v])) h (false,.list [.ref r,.ref J])):=((Mo.refl _ _).new hr).mut (.tail _ (.head _))
  have cn:A≠h:=λe=>by rw[e]at k0;rw[k0]at m;cases m
  have rn:=af m hr
  have k1:=aq (c:=(false,.list [.ref r,.ref J])) cn (ag (c:=(false,.list [a.1.v])) hr k0)
  have z1:=m1.fz λx j=>(au j).elim (λe=>e▸⟨_,k0⟩) λj=>aw j▸⟨_,m⟩
  have zz:=j.fz.trans z1
  have γ:=hi.v.fz zz
  have v1:=γ.v
  have η:upd (upd i r (false,.list [a.1.v])) h (false,.list [.ref r,.ref J]) r=some (false,.list [a.1.v]):=gP rn ab
  refine bB (λb:Addr×List FM×AV=>[.ref p,.ref V.adr,.ref I,.int k,.ref A,L.v,nX Y,a.1.v,a.2,b.2.2]) (λb U=>Mo [A,h] i U/\U A=some (false,.inst 18 [(49,.int k),(50,.ref V.adr),(51,.ref op.adr),(44,.ref ord),(52,.ref us),(53,.ref h),(54,.ref gp),(55,.ref E.adr),(56,.bool false),(57,.int 0),(58,.int 0),(59,.bool false),(60,.ref pl)])/\U h=some (false,.list [.ref b.1,.ref J])/\
   (∃f,U b.1=some (f,.list (b.2.1.map FM.v)))/\i b.1=none/\b.2.1.Sublist L.fs/\b.2.1≠[]/\(k=0->∀g∈L.fs,g∉b.2.1->∀f∈b.2.1,g.hi.u<f.lo.u∨f.hi.u<g.lo.u)) (λR ih=>hF (by left) (br (λx=>?_) λx=>?_)) ?_
  ·have kz:k=0:=cW x
   subst kz
   have μ:=zz _ _ hp
   refine az (aV (by left) μ rfl (by kernel_rfl) (by left) ?_)
   refine hU (fs:=[a.1]) (zz _ _ hi.hP) η (λf hf=>by rw[aw hf];exact z1 _ _ (O a.1 G)) (List.cons_ne_nil _ _) (λf hf=>by rw[aw hf];exact vF a.1 G) (hi.hO.fz zz) (Nat.le_of_ble_eq_true rfl) λlo q t b1 b2 b3 W=>?_
   have β:=γ.fz (Fz.new (c:=(true,.tup [.bytes (bv lo),.bytes (bv q)])) W)
   have v1:=β.v
   refine dC (aV (by left) v1 rfl (by kernel_rfl) (ax aT (by left)) (iw (k:=0) (lo:=some lo) (hi:=some q) β hi.vr.sm e3 vF (λn e=>Option.some.inj e▸b1) (λn e=>Option.some.inj e▸b2) λla lb y1 y2 _ y4 g N=>?_))
   have k2:=ag (c:=(true,.list ((L.fs.filter (cK la lb)).map FM.v))) N (ag (c:=(true,.tup [.bytes (bv lo),.bytes (bv q)])) W k1)
   have i2:=ag (c:=(true,.list ((L.fs.filter (cK la lb)).map FM.v))) N (ag (c:=(true,.tup [.bytes (bv lo),.bytes (bv q)])) W (ab (σ:=upd i r (false,.list [a.1.v])) (a:=h) (c:=(false,.list [.ref r,.ref J]))))
   refine aS (by left) (aS aT (AQ i2 ?_))
   have m2:=((m1.new W (d:=(true,.tup [.bytes (bv lo),.bytes (bv q)]))).new N (d:=(true,.list ((L.fs.filter (cK la lb)).map FM.v)))).mut (d:=(false,.list [.ref g,.ref J])) (.tail _ (.head _))
   have gi:h≠g:=af (ag W ab) N
   have κ:i g=none:=by
    cases z:i g with
    |none=>rfl
    |some d=>
     have:g∉[A,h]:=a7 (λe=>by rw[e,ag W k1]at N;cases N) (di (Ne.symm gi))
     rw[ag W (m1 g d this z)]at N;cases N
   obtain⟨w1,w2⟩:=b3 a.1 (.head _)
   have wo:=hi.vr.ord L hm a.1 G
   exact ak (bk (ih (g,L.fs.filter (cK la lb),.ref t) _ ⟨m2,aq cn k2,ab,⟨_,gP gi ab⟩,κ,List.filter_sublist,List.ne_nil_of_mem (List.mem_filter.mpr ⟨G,by unfold cK;rw[decide_eq_true (Nat.le_trans y1 (Nat.le_trans w1 wo)),decide_eq_true (Nat.le_trans wo (Nat.le_trans w2 y2))];rfl⟩),λ_=>pL (y4 rfl)⟩))
  ·exact ak (bk (ih (r,[a.1],.undef) _ ⟨m1,k1,ab,⟨_,η⟩,hr,List.singleton_sublist.mpr G,List.cons_ne_nil _ _,λe=>(x (e▸rfl)).elim⟩))
  rintro⟨b0,ys,v9⟩ U ⟨m2,k2,i2,j2,n2,sub,ne,δ⟩
  dsimp only at k2 i2 j2 n2 sub ne δ
  have z2:=m2.fz λx j=>(au j).elim (λe=>e▸⟨_,k0⟩) λj=>aw j▸⟨_,m⟩
  have w:=j.fz.trans z2
  have ν:=w _ _ hp
  have kp:KP U U ⟨A,k,V,op,ord,us,h,b0,J,gp,pl,E,false,ys,[],[]⟩ I D:=CK K m2 hi.hp (C3 K hi.hp n2).1 k2 i2 j2 (λf hf=>z2 _ _ (O f (sub.subset hf))) rfl rfl
  refine dL (aV (by left) ν rfl (by kernel_rfl) (by left) ?_)
  refine rW kp (w _ _ hi.hP) (hi.hO.fz w) (hi.v.fz w) hi.vr (w _ _ hi.hop) hi.oo hi.nl e2 (z2 _ _ K.h_E.e) rfl hi.pl hi.po hi.sz ⟨L,e3,sub,ne,δ⟩ λψ π gp' φ zs' gs' pts' ω kq w1 w2 w3 w4 w5 w6 w7 w8=>?_
  obtain⟨f,j2⟩:=j2
  have pk:=yC (c:=⟨A,k,V,op,ord,us,h,b0,J,gp,pl,E,false,ys,[],[]⟩) K m2 (aK.refl _) hi.hp (j.nn n2) (C3 K hi.hp n2).2 hi.nl hi.v hi.hop kq kp w3 w4 w5 w6 w7 w8
  right
  exact cU zG (q1 _ pts' _ rfl rfl pk w1 w2 e2)
 refine gB L.fs FM.v (λa:FM×AV=>[.ref p,.ref V.adr,.ref I,.int k,.ref A,L.v,nX Y,a.1.v,a.2,.undef]) (λ_=>i) (λ_ a=>a.1∈L.fs) (f0,.undef) rfl rfl v4 (bh (hi.vr.sm.len hm) rfl) (λ_ _ _=>⟨_,v4⟩) ξ ?_ λa G=>fin a G
 intro χ f us a R e G ih
 have fm:=aP e
 have h5:=O f fm
 unfold nL at h5
 refine mY (bK (E3 (jC (hF (by left) (br (λx=>?_) λx=>jC (kX (cG ?_)))))))
 ·refine eJ (bG (by left) ?_)
  exact ua (BL (AN (fin (f,f.v) fm)))
 ·obtain⟨uo,o1,o2⟩:=id s
  cases Y with
  |none=>exact(x rfl).elim
  |some r=>
   have rk:=hi.po r (List.mem_of_getElem? ζ)
   refine aV (by left) (by nofun) rfl (by kernel_rfl) (by left) ?_
   refine eU s (vF f fm).2 rk ?_
   refine iK (zu (dK (br (λy=>?_) λy=>sT ?_)))
   ·refine eJ (bG (by left) ?_)
    exact ua (BL (AN (fin (f,f.v) fm)))
   ·exact df (ak (cq (ak (aR (ih (a.1,f.v) G)))))
end
section
variable {ext:bj} {σ Z:Hp}
theorem wi{n k:Nat}{p o w:Addr}{V:bp}{op:Op}{L:bM}{lo hi:Option Nat}{N:List (Option Rw)}{Q:PX}(h:DE σ p o w V op N)(kn:k+1<V.lv.length)(hL:V.lv[k]?=some L)(δ:∀n,lo=some n->n<4)(κ:∀n,hi=some n->n<4)(q0:Q .none σ)
  (q1:∀(c:Cm) (pts':List (Option Rw)) (Z:Hp),c.V=V->c.o=op->AJ σ Z c w pts'->pts'.length=V.lv.length->AI pts'->c.k+1<V.lv.length->Q (.ref c.adr) Z):cB ext (n+8) (F.fa 74) [.ref p,.ref V.adr,.ref w,.int k,ov lo,ov hi] σ Q:=by
 have hp:=h.hP
 unfold yf at hp
 have v1:=h.v.v
 have ho:=h.hop
 unfold ft at ho
 have ξ:=h.oo.f21
 have ν:=h.oo.f20
 have hm:=List.mem_of_getElem? hL
 have vF:=h.vr.ok L hm
 refine aB (l:=[.ref p,.ref V.adr,.ref w,.int k,ov lo,ov hi,.undef,.undef,.undef,.undef]) LG rfl rfl ?_;show Go _ Iz _ _ _;delta Iz
 refine gE (by left) (kI (fX (Int.natCast_nonneg _)) (by rw[h.nl];exact Int.not_le.mpr (Int.lt_sub_right_of_add_lt (dF kn)))) ?_
 have ε:∀l B i,get l i=ov lo->Pe l B (.v i) (ov lo):=λl B i g=>bo (e7 g zZ)
 have ζ:∀l B i,get l i=ov hi->Pe l B (.v i) (ov hi):=λl B i g=>bo (e7 g zZ)
 refine az (aV (by left) v1 rfl (by kernel_rfl) (ax (by left) (ax (ε _ _ 4 rfl) (ax (ζ _ _ 5 rfl) aQ))) (iw h.v h.vr.sm hL vF δ κ λr s _ _ _ cl g hg=>?_))
 have l6:(L.fs.filter (cK r s)).length<=60:=Nat.le_trans (List.length_filter_le _ _) (h.vr.sm.len hm)
 have lg:=aO (g:=FM.v) (bh l6 rfl)
 have t:=aK.new (c:=(true,.list ((L.fs.filter (cK r s)).map FM.v))) hg
 refine dX (by left) (λ_=>?_) λx=>?_
 ·right;exact cU (jX hg) q0
 have G:L.fs.filter (cK r s)≠[]:=λe=>x (by rw[e];rfl)
 refine ak (cq ?_)
 refine bB (λb:Addr×List FM×AV×AV=>[.ref p,.ref V.adr,.ref w,.int k,ov lo,ov hi,.ref b.1,b.2.2.1,b.2.2.2,.undef]) (λb B=>aK σ B/\(∃f,B b.1=some (f,.list (b.2.1.map FM.v)))/\σ b.1=none/\b.2.1.Sublist L.fs/\b.2.1≠[]/\(k=0->∀g∈L.fs,g∉b.2.1->∀f∈b.2.1,g.hi.u<f.lo.u∨f.hi.u<g.lo.u)) (λR ih=>hF (by left) (br (λx=>?_) λx=>?_)) ?_
 ·have kz:k≠0:=λe=>by rw[e]at x;exact absurd x (by decide)
  right
  have W:=t _ _ hp
  have ho1:=t _ _ ho
  have η:=(h.v.up t).fs L hm
  refine mH (λa:Nat×Int=>[.ref p,.ref V.adr,.ref w,.int k,ov lo,ov hi,.ref g,.int a.2,.int a.1,.undef]) (λ_=>upd σ g (true,.list ((L.fs.filter (cK r s)).map FM.v))) (λa=>a.1<=(L.fs.filter (cK r s)).length/\(a.1=0->a.2=0)) (λa=>(L.fs.filter (cK r s)).length-a.1) (0,0) rfl rfl ⟨Nat.zero_le _,λ_=>rfl⟩ ?_
  rintro a R' ⟨p1,p2⟩ γ
  have g6:upd σ g (true,.list ((L.fs.filter (cK r s)).map FM.v)) g=_:=ab
  refine hF (by left) ⟨λy=>?_,λy=>?_⟩
  ·obtain⟨y1,y2⟩:=(Bool.and_eq_true _ _).mp y
   have y1:=of_decide_eq_true y1
   rw[List.length_map]at y1
   obtain⟨f,Y⟩:∃f,(L.fs.filter (cK r s))[a.1]?=some f:=⟨_,List.getElem?_eq_getElem (cu y1)⟩
   have e3:=bQ (g:=FM.v) Y
   have h5:=η f (fH (List.mem_of_getElem? Y)).1
   unfold nL at h5
   have lt:=(be Y).1
   right
   exact aR (γ (a.1+1,a.2+f.size) ⟨lt,λe=>(Nat.succ_ne_zero _ e).elim⟩ (by show _-(a.1+1)<_-a.1;exact n2 [_,_,_,_] J2 zQ Ab rfl (Nat.sub_add_cancel (n:=(List.filter (cK r s) L.fs).length) (m:=a.fst+1) (n1 [_,_] (.le (.a (.v 0) (.n 1)) (.v 1)) (.le (.a (.v 0) (.n 1)) (.v 1)) rfl lt)) (sb ((List.filter (cK r s) L.fs).length) (a.fst))))
  ·have a0:a.1≠0:=λe=>by
    have e2:=p2 e
    rw[e,e2,decide_eq_true h.oo.mfs.1,Bool.and_true]at y
    have:=of_decide_eq_false y
    rw[List.length_map]at this
    exact G (List.length_eq_zero_iff.mp (by exact OH this))
   refine az (yQ (aS (by left) (aS (by left) (zA g6 ⟨lg,Int.natCast_nonneg _,by exact Int.le_trans (bF (Nat.le_trans p1 l6)) (by decide)⟩ λc hc=>?_))))
   rw[Int.toNat_natCast,←List.map_take]
   refine ak (bk (ih (c,(L.fs.filter (cK r s)).take a.1,.int a.2,.int a.1) _ ⟨t.trans (aK.new hc),⟨_,ab⟩,t.nn hc,(List.take_sublist _ _).trans List.filter_sublist,λe=>?_,λe=>(kz e).elim⟩))
   rcases List.take_eq_nil_iff.mp e with e|e
   ·exact a0 e
   ·exact G e
 ·exact ak (bk (ih (g,L.fs.filter (cK r s),.undef,.undef) _ ⟨t,⟨_,ab⟩,hg,List.filter_sublist,G,λe=>pL (cl e)⟩))
 rintro⟨J,ys,v7,v8⟩ χ ⟨q,⟨fb,jb⟩,nb,sub,ne,O⟩
 dsimp only at jb nb sub ne O
 have hp0:=q _ _ hp
 refine az (fR (by left) rfl λA β=>qS (k:=k) (V:=V) (o:=op) β (q _ _ h.hop) h.oo λord us j i0 i1 gp pl E U D=>wu ?_)
 have k0:=D.h_c
 have z:=D.h_inp
 have cn:A≠j:=λe=>by rw[e]at k0;rw[k0]at z;cases z
 have θ:=D.fl.ex _ _ jb
 have fr:=D.fl.fr
 have K:∀y∈[pl,E.alA,E.dlA,E.cp,gp,j,i1,i0,A],y≠J:=λy hy e=>by have:=fr y hy;rw[e,jb]at this;cases this
 have pb:J≠w:=λe=>by have:=h.hp;rw[←e,nb]at this;cases this
 have ni:J∉[A,j,w,E.cp]:=a7 (Ne.symm (K A CA)) (a7 (Ne.symm (K j Db)) (a7 pb (di (Ne.symm (K E.cp D4)))))
 refine iZ (by left) (by left) k0 (by kernel_rfl) rfl ?_
 refine dC (aS (by left) (aS (by left) (aS aT (AQ (gP cn z) ?_))))
 have m1:Mo [A,j] U _:=((Mo.refl [A,j] U).mut (.head _) (d:=(false,.inst 18 (gF 56 (.bool true) [(49,.int k),(50,.ref V.adr),(51,.ref op.adr),(44,.ref ord),(52,.ref us),(53,.ref j),(54,.ref gp),(55,.ref E.adr),(56,.bool false),(57,.int 0),(58,.int 0),(59,.bool false),(60,.ref pl)])))).mut (.tail _ (.head _)) (d:=(false,.list [.ref J,.ref i1]))
 have z1:=m1.fz λx t=>(au t).elim (λe=>e▸⟨_,k0⟩) λt=>aw t▸⟨_,z⟩
 have x1:=q.trans D.fl.ex
 have I:=x1.fz.trans z1
 have W:=I _ _ hp
 have kp:KP _ _ ⟨A,k,V,op,ord,us,j,J,i1,gp,pl,E,true,ys,[],[]⟩ w N:=CK D m1 (q _ _ h.hp) ni (aq cn ab) ab ⟨fb,aq (Ne.symm (K j Db)) (aq (Ne.symm (K A CA)) θ)⟩ (λf Y=>I _ _ (h.v.fs L hm f (sub.subset Y))) rfl rfl
 refine dL (aV (by left) W rfl (by kernel_rfl) (by left) ?_)
 refine rW kp (I _ _ h.hP) (h.hO.fz I) (h.v.fz I) h.vr (I _ _ h.hop) h.oo h.nl kn (z1 _ _ D.h_E.e) rfl h.pl h.po h.sz ⟨L,hL,sub,ne,O⟩ λρ μ ψ π φ gs' pts' ω kq w1 w2 w3 w4 w5 w6 w7 w8=>?_
 have pk:=yC (c:=⟨A,k,V,op,ord,us,j,J,i1,gp,pl,E,true,ys,[],[]⟩) D m1 q h.hp nb (λy hy=>K y (Gu hy)) h.nl (h.v.up q) (q _ _ h.hop) kq kp w3 w4 w5 w6 w7 w8
 right
 exact cU zG (q1 _ pts' _ rfl rfl pk w1 w2 kn)
end
section
variable {ext:bj} {σ τ:Hp}
theorem pW{n i:Nat}{a:Addr}{fz:Bool}{ns:List Int}{Q:PX}(h:σ a=some (fz,.list (ns.map .int)))(b:0<ns.length)(d:ns.length<=9000)(q:∀x:Int,Q (.int x) σ):cB ext (n+1) (F.fa 76) [.ref a,.int i] σ Q:=by
 have ln:=aO (g:=AV.int) d
 have c:0<(((ns.map AV.int).length:Nat):Int):=by rw[List.length_map];exact bF b
 have k:0<(((ns.map AV.int).length:Nat):Int)/\(((ns.map AV.int).length:Nat):Int)<2 ^ 30:=⟨c,by rw[List.length_map];exact Pv d⟩
 obtain⟨j,m,e⟩:∃j:Nat,(i:Int)%(((ns.map AV.int).length:Nat):Int)=j/\j<ns.length:=by
  refine⟨i%ns.length,by rw[List.length_map];rfl,Nat.mod_lt _ b⟩
 have f:=bQ (g:=AV.int) (List.getElem?_eq_getElem e)
 refine aB (l:=[.ref a,.int i]) Mz rfl rfl ?_;show Go _ Jk _ _ _;delta Jk
 exact fN (cI (kx (by left) (aU (cH (by left) (by left) c) (congrArg AV.int m)) h ln f) (fv aT (dY (by left) (by left) k) (by decide)) rfl) (ay (q _))
theorem jH{n u:Nat}{Q:PX}(b:u<4)(q:Q (.bytes (bv u)) σ):cB ext (n+1) (F.fa 77) [.int u] σ Q:=by
 refine aB (l:=[.int u]) Lz rfl rfl ?_;show Go _ JO _ _ _;delta JO
 refine fe (qx (a8 (by left) rfl λr a=>aS (by left) ?_))
 have:([.bytes [],.bytes [97],.bytes [97,0],.bytes [98]]:List AV)[u]?=some (.bytes (bv u)):=by
  have:u=0∨u=1∨u=2∨u=3:=u4 b
  rcases this with rfl|rfl|rfl|rfl<;>rfl
 exact wQ ab (Nat.le_of_ble_eq_true rfl) this (pQ a q)
def EK(σ:Hp)(r:Rw):Prop:=σ r.adr=some (true,.tup [.int r.u,.int (-(r.s:Int)),.int r.k])
theorem Dz:∀k:Nat,k<2->∀s:Nat,s<10->EM [.int k,.int (0- -(s:Int)),.int 0,.int 0,.int 0,.int 0,.int 0,.int 0]=some [UInt8.ofNat k,UInt8.ofNat s,0,0,0,0,0,0]:=by decide+kernel
theorem lN{n:Nat}{r:Rw}{Q:PX}(a:EK σ r)(ok:r.ok)(q:Q (.bytes r.b) σ):cB ext (n+2) (F.fa 78) [.ref r.adr] σ Q:=by
 unfold EK at a
 refine aB (l:=[.ref r.adr]) Nt rfl rfl ?_;show Go _ Io _ _ _;delta Io
 refine fe (dk (aW (by left) (jH ok.u (mJ (aj (a8 (by left) rfl λt c=>aD (lQ ab (Nat.le_of_ble_eq_true rfl) (Dz r.k ok.k r.s ok.s) (sP ⟨nB,Nat.le_of_ble_eq_true rfl⟩ ?_))))))))
 exact pQ c q
end
section
variable {ext:bj} {σ Z:Hp}
structure fc where
 adr:Addr
 num:Nat
 seq:Nat
noncomputable abbrev fc.v(m:fc):AV:=.ref m.adr
def n9(σ:Hp)(m:fc):Prop:=σ m.adr=some (false,.inst 7 [(2,.int m.num),(3,.int m.seq),(4,.bool true)])
theorem wq{n:Nat}{a:Addr}{x y:Int}{Q:PX}(h:Q .none (upd σ a (false,.inst 7 [(2,.int x),(3,.int y),(4,.bool true)]))):cB ext (n+1) (F.fa 1) [.ref a,.int x,.int y] (upd σ a (false,.inst 7 [])) Q:=by
 refine aB (l:=[.ref a,.int x,.int y]) Q8 rfl rfl ?_;show Go _ b1 _ _ _;delta b1
 right
 exact gn (Wk.refl _) h
theorem wp{n:Nat}{a:Addr}{Q:PX}(i:σ a=none)(h:∀l,σ l=none->a≠l->Q .none (upd (upd σ l (false,.list [])) a (false,.inst 8 [(5,.ref l),(6,.int 0)]))):cB ext (n+1) (F.fa 2) [.ref a] (upd σ a (false,.inst 8 [])) Q:=by
 refine aB (l:=[.ref a]) RT rfl rfl ?_;show Go _ b2 _ _ _;delta b2
 right
 intro l f
 have n1:a≠l:=af ab f
 have n2:σ l=none:=by rw[ac (Ne.symm n1)]at f;exact f
 right
 refine gn (λb c e=>?_) (h l n2 n1)
 by_cases d:b=a
 ·subst d;rw[ab]at e ⊢;cases e;exact⟨_,rfl,rfl,id⟩
 ·rw[ac d]at e ⊢
  by_cases g:b=l
  ·subst g;rw[ab]at e ⊢;cases e;exact⟨_,rfl,rfl,id⟩
  ·rw[ac g]at e ⊢;rw[ac d];exact⟨c,e,rfl,id⟩
structure oa(σ:Hp)(ml la:Addr)(made:Nat)(ms:List fc):Prop where
 m:σ ml=some (false,.inst 8 [(5,.ref la),(6,.int made)])
 l:σ la=some (false,.list (ms.map fc.v))
 k:∀m∈ms,n9 σ m
structure mT(made:Nat)(ms:List fc):Prop where
 n:(ms.map fc.num).Pairwise (·<·)
 b:∀m∈ms,m.num<=made
 s:(ms.map fc.seq).Pairwise (·<=·)
 a:(ms.map fc.adr).Nodup
 l:ms.length<=100
theorem yA{n made:Nat}{ml b:Addr}{a:fc}{ms:List fc}{Q:PX}(h:oa σ ml b made (a::ms))(ok:mT made (a::ms))(q:Q (.int a.seq) σ):cB ext (n+1) (F.fa 9) [.ref ml] σ Q:=by
 have i:=h.m
 have c:=h.l
 have e:=h.k a (.head _)
 unfold n9 at e
 have d:=aO (g:=fc.v) (bh ok.l rfl)
 have f:on ((a::ms).map fc.v) 0=some a.v:=rfl
 refine aB (l:=[.ref ml]) RD rfl rfl ?_;show Go _ b9 _ _ _;delta b9
 refine gE (wO (xc (by left) c d)) rfl ?_
 right
 exact ay q
theorem Ca{l:aG}{e:X}{r:Addr}{fz:Bool}{xs:List AV}{v:AV}(h:Pe l σ e (.ref r))(g:σ r=some (fz,.list xs))(n:xs.length<=9000)(w:xs.getLast?=some v):Pe l σ (.sub e (.k (.int (-1)))) v:=⟨λ_ _ k=>qx (h.run _ _ (iK (L8 g n w k)))⟩
theorem EY{n made:Nat}{ml i:Addr}{ms:List fc}{s:Nat}{Q:PX}(h:oa σ ml i made ms)(ok:mT made ms)(hs:∀m∈ms,m.seq<=s)(ne:ml≠i)
  (q:∀(r:Addr) (Z:Hp),σ r=none->Mo [ml,i] σ Z->oa Z ml i (made+1) (ms++[⟨r,made+1,s⟩])->Q (.ref r) Z):cB ext (n+2) (F.fa 4) [.ref ml,.int s] σ Q:=by
 have z:=h.m
 have j:=h.l
 have o:=aO (g:=fc.v) (bh ok.l rfl)
 have B:∀m∈ms,m.adr≠ml/\m.adr≠i:=λm d=>by
  have e:=h.k m d
  unfold n9 at e
  exact⟨(λx=>by rw[x,z]at e;cases e),(λx=>by rw[x,j]at e;cases e)⟩
 refine aB (l:=[.ref ml,.int s,.undef]) Rv rfl rfl ?_;show Go _ b4 _ _ _;delta b4
 have cond:Pc [.ref ml,.int s,.undef] σ (.and (.cons (.t (.at (.v 0) 5)) (.cons (.t (.cmp .gt (.at (.sub (.at (.v 0) 5) (.k (.int (-1)))) 3) (.v 1))) .nil))) false:=by
  cases e:ms.getLast? with
  |none=>
   have e:=List.getLast?_eq_none_iff.mp e
   subst e
   exact iA (xc (by left) j o)
  |some m=>
   have d:=List.mem_of_getLast? e
   have p:=h.k m d
   unfold n9 at p
   have A:(ms.map fc.v).getLast?=some m.v:=by rw[List.getLast?_map,e];rfl
   have ne:(!(ms.map fc.v).isEmpty)=true:=by cases ms with|nil=>cases d|cons a b=>rfl
   have t1:Pc [.ref ml,.int s,.undef] σ (.t (.at (.v 0) 5)) true:=by have:=xc (l:=[.ref ml,.int s,.undef]) (e:=.at (.v 0) 5) (by left) j o;rw[ne]at this;exact this
   have t2:Pe [.ref ml,.int s,.undef] σ (.cmp .gt (.at (.sub (.at (.v 0) 5) (.k (.int (-1)))) 3) (.v 1)) (.bool (decide ((s:Int)<m.seq))):=xb (ud (Ca (by left) j o A) p (by kernel_rfl) rfl) (by left) rfl
   rw[decide_eq_false (fX (bF (hs m d)))]at t2
   exact iy t1 (jG (bR t2))
 refine gE cond rfl ?_
 right
 intro r f
 refine wq (wu ?_)
 have w:ml≠r:=af ab f
 have E:i≠r:=af (gP ne j) f
 have y:σ r=none:=by rw[ac (Ne.symm w)]at f;exact f
 have G:=ag (c:=(false,.inst 7 [(2,.int ((made:Int)+1)),(3,.int s),(4,.bool true)])) f (gP (c:=(false,.inst 8 (gF 6 (.int ((made:Int)+1)) [(5,.ref i),(6,.int made)]))) ne j)
 right
 refine cU (Wk.refl _) (q r _ y ((((Mo.refl _ _).mut (.head _)).new f).mut (.tail _ (.head _))) ⟨?_,?_,λm d=>?_⟩)
 ·rw[ac ne,ac w];exact ab
 ·rw[List.map_append];exact ab
 ·rcases aE d with d|d
  ·obtain⟨u,D⟩:=B m d
   have e:=h.k m d
   unfold n9 at e ⊢
   rw[ac D,ac (af (aq u e) f),ac u];exact e
  ·rw[aw d]
   unfold n9
   rw[ac (Ne.symm E)];exact ab
end
section
variable {ext:bj} {σ Z:Hp}
theorem zr{made:Nat}{ms:List fc}(ok:mT made ms){i j:Nat}{a b:fc}(h:i<j)(hi:ms[i]?=some a)(c:ms[j]?=some b):a.num<b.num:=by
 have:=ok.n
 rw[List.pairwise_map]at this
 obtain⟨d,rfl⟩:=be hi
 obtain⟨e,rfl⟩:=be c
 exact List.pairwise_iff_getElem.mp this i j d e h
theorem vV{n made i:Nat}{ml u:Addr}{ms:List fc}{m:fc}{Q:PX}(h:oa σ ml u made ms)(ok:mT made ms)(hi:ms[i]?=some m)(q:Q (.int i) σ):cB ext (n+1) (F.fa 5) [.ref ml,.ref m.adr] σ Q:=by
 have G:=h.m
 have E:=h.l
 have B:=aO (g:=fc.v) (bh ok.l rfl)
 have w:=h.k m (List.mem_of_getElem? hi)
 unfold n9 at w
 have il:=(be hi).1
 refine aB (l:=[.ref ml,.ref m.adr,.undef,.undef,.undef,.undef]) Qc rfl rfl ?_;show Go _ b5 _ _ _;delta b5
 right
 refine mH (λa:Nat×Nat×AV=>[.ref ml,.ref m.adr,.int a.1,.int a.2.1,a.2.2,.undef]) (λ_=>σ) (λa=>a.1<=i/\i<=a.2.1/\a.2.1<=ms.length) (λa=>a.2.1-a.1) (0,ms.length,.undef) (by rw[List.length_map];rfl) rfl ⟨Nat.zero_le _,Nat.le_of_lt il,Nat.le_refl _⟩ ?_
 rintro⟨lo,b,D⟩ R ⟨g1,g2,g3⟩ t
 dsimp only at g1 g2 g3
 refine hF (by left) (br (λx=>?_) λx=>?_)
 ·have o:lo<b:=cu x
  refine bG (aU (by left) (show AV.int (((lo:Int)+b)/2)=AV.int ((lo+b)/2:Nat)from congrArg AV.int (by exact rfl))) ?_
  have j:(lo+b)/2<b:=by exact m2 [_,_,_] J2 1 1 1 Fc La rfl o (Nat.mul_div_le (lo+b) 2)
  have r:lo<=(lo+b)/2:=by exact m2 [_,_,_] J0 1 1 1 Fq Nd rfl o (Nat.lt_mul_div_succ (lo+b) (show 0<2 by decide))
  generalize (lo+b)/2=d at j r
  obtain⟨f,s⟩:∃f,ms[d]?=some f:=⟨_,List.getElem?_eq_getElem (Nat.lt_of_lt_of_le j g3)⟩
  have y:=bQ (g:=fc.v) s
  have A:=h.k f (List.mem_of_getElem? s)
  unfold n9 at A
  refine dX (by left) (λc=>?_) λc=>?_
  ·have c:=cu c
   have:d<i:=Nat.lt_of_not_le λz=>by
    rcases Nat.lt_or_eq_of_le z with z|z
    ·exact absurd (zr ok z hi s) (iJ (Nat.le_of_lt c))
    ·subst z;rw[hi]at s;cases s;exact Nat.lt_irrefl _ c
   right
   exact aR (t (d+1,b,.int d) ⟨this,g2,g3⟩ (Nat.sub_lt_sub_left o (Nat.lt_succ_of_le r)))
  ·have:i<=d:=Nat.le_of_not_lt λz=>c (dF (zr ok z s hi))
   right
   exact aR (t (lo,d,.int d) ⟨g1,this,Nat.le_trans (Nat.le_of_lt j) g3⟩ (Nat.sub_lt_sub_right r j))
 ·have e:lo=i:=Nat.le_antisymm g1 (Nat.le_trans g2 (Int.ofNat_le.mp (Int.not_lt.mp x)))
  subst e
  have y:=bQ (g:=fc.v) hi
  refine gE (by left) (by rw[List.length_map,decide_eq_false (λz=>Nat.ne_of_lt il (cW z))];rfl) ?_
  right
  refine gE (by left) (kI (p:=(m.num:Int)≠m.num) (q:=(m.seq:Int)≠m.seq) (λz=>z rfl) (λz=>z rfl)) ?_
  right
  exact ay q
theorem fS{B C:Type}{f:B->C}:∀{l:List B} {i:Nat},(l.eraseIdx i).map f=(l.map f).eraseIdx i
 |[],_=>rfl
 |_::_,0=>rfl
 |a::l,i+1=>congrArg (f a::·) (fS (l:=l) (i:=i))
theorem vh{B:Type}{l:List B}{i:Nat}{x:B}(h:x∈l.eraseIdx i):∃j,j≠i/\l[j]?=some x:=by
 obtain⟨j,b⟩:=List.getElem?_of_mem h
 rw[List.getElem?_eraseIdx]at b
 by_cases e:j<i
 ·rw[if_pos e]at b;exact⟨j,Nat.ne_of_lt e,b⟩
 ·rw[if_neg e]at b;exact⟨j+1,by exact Nat.ne_of_gt (n1 [_,_] (.le (.a (.v 0) (.n 1)) (.a (.v 1) (.n 1))) J0 rfl (nl e)),b⟩
theorem Bv{n made i:Nat}{ml b:Addr}{ms:List fc}{m:fc}{Q:PX}(h:oa σ ml b made ms)(ok:mT made ms)(hi:ms[i]?=some m)(ne:ml≠b)
  (q:∀Z,Mo [b,m.adr] σ Z->oa Z ml b made (ms.eraseIdx i)->Q .none Z):cB ext (n+2) (F.fa 7) [.ref ml,.ref m.adr] σ Q:=by
 have o:=h.m
 have c:=h.l
 have r:=aO (g:=fc.v) (bh ok.l rfl)
 have d:=h.k m (List.mem_of_getElem? hi)
 unfold n9 at d
 have il:=(be hi).1
 have y:=bQ (g:=fc.v) hi
 have n1:ml≠m.adr:=λe=>by rw[e,d]at o;cases o
 have n2:b≠m.adr:=λe=>by rw[e,d]at c;cases c
 refine aB (l:=[.ref ml,.ref m.adr,.undef]) RK rfl rfl ?_;show Go _ b7 _ _ _;delta b7
 refine az (aV (by left) (by nofun) rfl (by kernel_rfl) (by left) (vV h ok hi ?_))
 refine q7 (by left) rU ?_
 refine iZ (by left) (by left) d (by kernel_rfl) rfl ?_
 right
 refine Nr (aq n2 c) r (by rw[List.length_map];exact il) ?_
 right
 refine gn (Wk.refl _) (q _ (((Mo.refl _ _).mut (.tail _ (.head _))).mut (.head _)) ⟨?_,?_,λx s=>?_⟩)
 ·rw[ac ne,ac n1];exact o
 ·rw[fS];exact ab
 ·obtain⟨j,t,p⟩:=vh s
  have f:=h.k x (List.mem_of_getElem? p)
  unfold n9 at f ⊢
  have u:x.adr≠m.adr:=gV ok.a (by rw[List.getElem?_map,hi];rfl) (by rw[List.getElem?_map,p];rfl) t
  have w:x.adr≠b:=λe=>by rw[e,c]at f;cases f
  rw[ac w,ac u];exact f
end
section
variable {ext:bj} {σ Z:Hp}
noncomputable def pu(h:Addr):List (Nat×AV):=[(8,.int 1),(9,.int 32768),(10,.bool true),(11,.bool true),(12,.bool false),(13,.int 4194304),(14,.int 12),(15,.ref h),(16,.int 4096),(17,.int 16),(18,.int 10),(19,.int 11),(20,.int 2097152),(21,.int 7),(22,.int 4),(23,.int 12),(24,.int 10485760),(25,.int 10),(26,.int 2),(27,.int 10),(28,.int 25)]
noncomputable def E1(h:Addr):List (Nat×AV):=[(8,.int 2),(9,.int 32),(10,.bool true),(11,.bool true),(12,.bool false),(13,.int 96),(14,.int 4),(15,.ref h),(16,.int 48),(17,.int 2),(18,.int 4),(19,.int 5),(20,.int 128),(21,.int 4),(22,.int 2),(23,.int 4),(24,.int 256),(25,.int 2),(26,.int 2),(27,.int 10),(28,.int 25)]
theorem tV{n:Nat}{a:Addr}{Q:PX}(d:σ a=none)(q:∀(h:Addr) (Z:Hp),aK σ Z->Z a=some (false,.inst 12 (pu h))->∃b,Wk b Z/\Q .none b):cB ext (n+1) (F.fa 32) [.ref a] (upd σ a (false,.inst 12 [])) Q:=by
 refine aB (l:=[.ref a]) Ni rfl rfl ?_;show Go _ Jn _ _ _;delta Jn
 right
 intro h c
 have n1:a≠h:=af ab c
 have n2:σ h=none:=by rw[ac (Ne.symm n1)]at c;exact c
 right
 obtain⟨b,w,e⟩:=q h _ (((aK.new d).upd n2).upd d) ab
 exact gn w e
theorem Cf{n:Nat}{a h:Addr}{Q:PX}(b:σ a=some (false,.inst 12 (pu h)))(q:Q (.ref a) (upd σ a (true,.inst 12 (E1 h)))):cB ext (n+1) (F.fa 34) [.ref a] σ Q:=by
 unfold pu at b
 refine aB (l:=[.ref a]) MS rfl rfl ?_;show Go _ KZ _ _ _;delta KZ
 right
 exact cU qa q
end
section
variable {ext:bj} {σ Z:Hp}
noncomputable abbrev cV(r:Rw):AV:=.ref r.adr
def gh(σ:Hp)(rs:List Rw):Prop:=∀r∈rs,EK σ r
theorem gh.fz{rs:List Rw}(h:gh σ rs)(k:Fz σ Z):gh Z rs:=λr a=>k _ _ (h r a)
theorem Cj{S:List Addr}{a x:Addr}(h:a∉S)(b:x∈S):a≠x:=λe=>h (e▸b)
theorem Et{cal:bj}{a:SS}{l:aG}{Q:Fl->aG->Hp->Prop}(P:Hp->Prop)(p:P σ)(h:∀b,P b->Go cal a l b Q):Go cal a l σ Q:=h σ p
theorem i8{a:Addr}{o:AO}(h:Mo [a] σ Z)(e:σ a=some (false,o)):Fz σ Z:=h.fz λx b=>by rw[aw b];exact⟨_,e⟩
theorem wP{cal:bj}{c:SS}{l:aG}{Q:Fl->aG->Hp->Prop}{o:X}{es:XS}{r:Addr}{xs vs:List AV}(d:Pe l σ o (.ref r))(hs:Ps l σ es vs)(g:σ r=some (false,.list xs))(n:xs.length<=9000)(m:Nat.ble vs.length 9000=true)
  (k:∀t b,σ t=none->Mo [r] σ b->Fz σ b->b t=some (true,.tup vs)->b r=some (false,.list (xs++[.ref t]))->Go cal c l b Q):Go cal (.cons (.ex (.bm .append o (.cons (.tup es) .nil))) c) l σ Q:=
 dL (iH (d.run _ _ (ja g rfl (aj (fu hs m λt a=>aD (dQ (ag a g) n (k t _ a (((Mo.refl _ _).new a).mut (.head _)) ((Fz.new a).trans (Fz.mut (ag a g))) (cP (ag a g) ab) ab)))))))
noncomputable def Ed.more(E:Ed)(p:Addr)(k:Nat)(f:FM):Ed:={E with al:=E.al++[(p,k,f)]}
theorem j8.put{E:Ed}{p:Addr}{k:Nat}{f:FM}(h:j8 σ E)(m:Fz σ Z)(hd:Z E.dlA=some (false,.list (E.dl.map λp=>rf p.1)))(b:∃xs,Z E.cp=some (false,.list xs))(c:Z E.alA=some (false,.list ((E.al.map λp=>rf p.1)++[.ref p])))
  (d:Z p=some (true,.tup [.int k,f.v])) (g:nL Z f):j8 Z (E.more p k f):=
 ⟨m _ _ h.e,hd,by show _=some (false,AO.list ((E.al++[(p,k,f)]).map _));rw[List.map_append];exact c,b,λq a=>m _ _ (h.dt q a),λq a=>by
  rcases aE a with a|a
  ·exact⟨m _ _ (h.at' q a).1,m _ _ (h.at' q a).2⟩
  ·rw[aw a];exact⟨d,g⟩⟩
theorem ya{n k:Nat}{b i:Addr}{fz:Bool}{rs:List Rw}{lo hi:Rw}{ts:List AV}{E:Ed}{unit:Int}{Q:PX}(y:σ b=some (fz,.list (rs.map cV)))(hR:gh σ rs)(ok:∀r∈rs,r.ok)(v:rs[0]?=some lo)(B:rs[rs.length-1]?=some hi)(len:rs.length<=9000)
  (I:σ i=some (false,.list ts)) (tl:ts.length<=9000) (j:j8 σ E) (al:E.al.length<=9000) (n1:i∉[b,E.alA,E.dlA,E.cp]) (n2:b∉[E.alA,E.dlA,E.cp]) (n3:E.alA∉[E.dlA,E.cp])
  (h:∀(p a:Addr) (Z:Hp),j8 Z (E.more p k ⟨a,ts.length,rs.length*unit,lo,hi,rs⟩)->Z i=some (false,.list (ts++[.ref b]))->Z b=some (true,.list (rs.map cV))->Mo [i,E.alA,b] σ Z->Q .none Z):
  cB ext (n+3) (F.fa 80) [.int k,.ref b,.ref i,.ref E.adr,.int unit] σ Q:=by
 have V:on (rs.map cV) 0=some (cV lo):=bQ v
 have O:=bQ (g:=cV) B
 have J:=aO (g:=cV) len
 have G:=List.mem_of_getElem? v
 have m1:=List.mem_of_getElem? B
 have R:AV.int ((rs.map cV).length:Nat)=AV.int (rs.length:Nat):=by rw[List.length_map]
 have t:0<rs.length:=(be v).1
 have U:=j.e
 have N:=aO (g:=λp:Addr×Nat×FM=>rf p.1) al
 refine aB (l:=[.int k,.ref b,.ref i,.ref E.adr,.int unit,.undef,.undef]) ND rfl rfl ?_;show Go _ JQ _ _ _;delta JQ
 right
 refine lN (hR lo G) (ok lo G) ?_
 refine az (aW (ax (kx (by left) (aU (by left) (congrArg AV.int (show(((rs.map cV).length:Nat):Int)-1=((rs.length-1:Nat):Int)by rw[List.length_map];exact(Int.ofNat_sub t).symm))) y J O) aQ) (lN (hR hi m1) (ok hi m1) ?_))
 refine dL (iH (aS (by left) (ja j.a rfl (aj (oP (aj (aS (by left) (aj ?_))))))))
 refine fR (ax (by left) (ax (fv (aU (by left) R) (by left) ⟨by exact Int.NonNeg.mk (rs.length+Nat.succ 4611686018427387902),by exact PO len⟩) (ax (by left) (ax (by left) aQ)))) rfl λa u=>BY (wu (aD (oG rfl λp s=>aD (dQ (ag s (ag u j.a)) N ?_))))
 refine Et (λq=>Mo [E.alA] σ q/\nL q ⟨a,ts.length,rs.length*unit,lo,hi,rs⟩/\q p=some (true,.tup [.int k,.ref a])/\q E.alA=some (false,.list ((E.al.map λp=>rf p.1)++[.ref p])))
  ⟨(((Mo.refl _ _).new u).new s).mut (.head _),?_,?_,ab⟩ λq ⟨m,f,g,w⟩=>?_
 ·exact cP (ag s (ag u j.a)) (ag s ab)
 ·exact cP (ag s (ag u j.a)) ab
 ·have z:=i8 m j.a
  have t1:=m i _ (di (Cj n1 (.tail _ (.head _)))) I
  have t2:=m b _ (di (Cj n2 (.head _))) y
  have D:b≠i:=λe=>n1 (e▸.head _)
  refine uX (by left) (by left) t1 tl (ak (gn (pF (aq D t2)) ?_))
  have z2:Fz q (upd (upd q i (false,.list (ts++[.ref b]))) b (true,.list (rs.map cV))):=λx o e=>by
   by_cases A:x=b
   ·subst A;rw[t2]at e;cases e;exact ab
   ·exact aq A (cP t1 e)
  refine h p a _ (j.put (z.trans z2) ?_ ?_ ?_ (z2 _ _ g) (z2 _ _ f)) (aq (Ne.symm D) ab) ab ?_
  ·exact aq (λe=>n2 (e▸.tail _ (.head _))) (aq (λe=>n1 (e▸.tail _ (.tail _ (.head _)))) (m _ _ (di λe=>n3 (e▸.head _)) j.d))
  ·exact⟨_,aq (λe=>n2 (e▸.tail _ (.tail _ (.head _)))) (aq (λe=>n1 (e▸.tail _ (.tail _ (.tail _ (.head _))))) (m _ _ (di λe=>n3 (e▸.tail _ (.head _))) j.c.choose_spec))⟩
  ·exact aq (λe=>n2 (e▸.head _)) (aq (λe=>n1 (e▸.tail _ (.head _))) w)
  ·exact((m.sub λx K=>by rw[aw K];exact .tail _ (.head _)).mut (.head _)).mut (.tail _ (.tail _ (.head _)))
end
section
variable {ext:bj} {σ J:Hp}
theorem Mo.step{S c:List Addr}{f:Hp}(h:Mo S σ J)(k:Mo c J f)(n:∀x∈c,x∈S∨σ x=none):Mo S σ f:=λa d b e=>k a d (λg=>(n a g).elim b λz=>by rw[z]at e;cases e) (h a d b e)
theorem Mo.nn{S:List Addr}{x:Addr}(h:Mo S σ J)(e:J x=none)(n:x∉S):σ x=none:=by
 cases g:σ x with
 |none=>rfl
 |some c=>rw[h x c n g]at e;cases e
def kQ(σ:Hp)(ts:List AV)(f:FM):Prop:=∃a,ts[f.num]?=some (.ref a)/\σ a=some (true,.list (f.rows.map cV))/\gh σ f.rows
theorem kQ.fz{ts:List AV}{f:FM}(h:kQ σ ts f)(k:Fz σ J):kQ J ts f:=h.imp λ_ h=>⟨h.1,k _ _ h.2.1,h.2.2.fz k⟩
theorem kQ.app{ts:List AV}{f:FM}{v:AV}(h:kQ σ ts f):kQ σ (ts++[v]) f:=h.imp λ_ h=>⟨by rw[List.getElem?_append_left (be h.1).1];exact h.1,h.2⟩
def nV(a b:Rw):Prop:=a.u<b.u∨(a.u=b.u/\b.s<a.s)
theorem nV.le{a b:Rw}(h:nV a b):a.u<=b.u:=h.elim Nat.le_of_lt λh=>Nat.le_of_eq h.1
theorem nV.s{a b:Rw}(h:nV a b)(e:a.u=b.u):b.s<a.s:=h.elim (λx=>absurd e (Nat.ne_of_lt x)) And.right
structure Sf(V:bp)(k U:Nat)(unit:Int)(O Z:List Rw)(fs:List FM)(N:List Rw):Prop where
 kk:(fs.flatMap FM.rows++N).Sublist Z
 keep:∀r∈fs.flatMap FM.rows++N,∀q∈Z,q.u=r.u->r.s<q.s->U<q.s
 drop:∀r∈Z,r∉fs.flatMap FM.rows++N->(∃q∈Z,q.u=r.u/\r.s<q.s/\q.s<=U)∨(r.k=0/\r.s<=U/\oY V k r.u)
 sep:∀r∈fs.flatMap FM.rows,∀q∈N++O,r.u<q.u
 ap:fs.Pairwise λf g=>∀r∈f.rows,∀q∈g.rows,r.u<q.u
 ne:∀f∈fs,f.rows[0]?=some f.lo/\f.rows[f.rows.length-1]?=some f.hi/\f.size=f.rows.length*unit
section
variable {V:bp} {k U:Nat} {unit:Int} {O Z N:List Rw} {fs:List FM}
theorem Sf.start:Sf V k U unit O [] [] []:=⟨.slnil,λ_=>nM,λ_=>nM,λ_=>nM,.nil,λ_=>nM⟩
theorem Sf.put(h:Sf V k U unit O Z fs N)(c:∀r∈N,∀q∈O,r.u<q.u){f:FM}(l:f.rows=N)(ne:f.rows[0]?=some f.lo/\f.rows[f.rows.length-1]?=some f.hi/\f.size=f.rows.length*unit):Sf V k U unit O Z (fs++[f]) []:=by
 have e:(fs++[f]).flatMap FM.rows=fs.flatMap FM.rows++N:=by rw[iF,l]
 have j:(fs++[f]).flatMap FM.rows++[]=fs.flatMap FM.rows++N:=(List.append_nil _).trans e
 refine⟨j▸h.kk,j▸h.keep,j▸h.drop,λr a q d=>?_,List.pairwise_append.mpr ⟨h.ap,List.pairwise_singleton _ _,λg i b m r a q d=>?_⟩,λg i=>?_⟩
 ·rw[e]at a
  exact(aE a).elim (λa=>h.sep r a q (List.mem_append_right _ d)) λa=>c r a q d
 ·rw[aw m,l]at d
  exact h.sep r (List.mem_flatMap.mpr ⟨g,i,a⟩) q (List.mem_append_left _ d)
 ·exact(aE i).elim (h.ne g) λi=>aw i▸ne
theorem Sf.step{e:Rw}{i:List Rw}(h:Sf V k U unit (e::i) Z fs N)(l:∀r∈Z,nV r e)(b:Bool)(hd:b=true->(∃q∈Z,q.u=e.u/\q.s<=U)∨(e.k=0/\e.s<=U/\oY V k e.u))(m:b=false->∀q∈Z,q.u=e.u->U<q.s):
  Sf V k U unit i (Z++[e]) fs (if b then N else N++[e]):=by
 have lt:∀r∈fs.flatMap FM.rows,∀q∈i,r.u<q.u:=λr c q a=>h.sep r c q (List.mem_append_right _ (.tail _ a))
 have old:∀r∈Z,r.u=e.u->¬r.s<e.s:=λr c d=>iJ (Nat.le_of_lt ((l r c).s d))
 cases b with
 |true=>
  refine⟨h.kk.trans (List.sublist_append_left _ _),λr c q a d f=>?_,λr c g=>?_,λr c q a=>?_,h.ap,h.ne⟩
  ·rcases aE a with a|a
   ·exact h.keep r c q a d f
   ·rw[aw a]at d f;exact(old r (h.kk.subset c) d.symm f).elim
  ·rcases aE c with c|c
   ·exact(h.drop r c g).imp (λ⟨q,a,x⟩=>⟨q,List.mem_append_left _ a,x⟩) id
   ·rw[aw c]
    exact(hd rfl).imp (λ⟨q,a,x⟩=>⟨q,List.mem_append_left _ a,x.1,(l q a).s x.1,x.2⟩) id
  ·exact(aE a).elim (λa=>h.sep r c q (List.mem_append_left _ a)) (lt r c q)
 |false=>
  have j:fs.flatMap FM.rows++(N++[e])=(fs.flatMap FM.rows++N)++[e]:=(List.append_assoc ..).symm
  show Sf V k U unit i (Z++[e]) fs (N++[e])
  refine⟨j▸h.kk.append_right _,λr c q a d f=>?_,λr c g=>?_,λr c q a=>?_,h.ap,h.ne⟩
  ·rw[j]at c
   rcases aE c with c|c
   ·rcases aE a with a|a
    ·exact h.keep r c q a d f
    ·rw[aw a]at d f;exact(old r (h.kk.subset c) d.symm f).elim
   ·rw[aw c]at d f
    rcases aE a with a|a
    ·exact m rfl q a d
    ·rw[aw a]at f;exact(Nat.lt_irrefl _ f).elim
  ·rw[j]at g
   rcases aE c with c|c
   ·exact(h.drop r c λx=>g (List.mem_append_left _ x)).imp (λ⟨q,a,x⟩=>⟨q,List.mem_append_left _ a,x⟩) id
   ·exact(g (List.mem_append_right _ c)).elim
  ·rw[List.append_assoc]at a
   exact h.sep r c q a
end
def C9(Z:List Rw)(cur:Option Nat)(a:Int):Prop:=(Z=[]/\cur=none)∨∃p l,Z=p++[l]/\cur=some l.u/\a=l.s
theorem C9.lt{Z:List Rw}{cur:Option Nat}{i:Int}(h:C9 Z cur i)(f:Z.Pairwise nV){e:Rw}(b:∀r∈Z,nV r e)(c:cur≠some e.u):∀r∈Z,r.u<e.u:=λr a=>by
 rcases h with⟨h,_⟩|⟨p,l,g,d,_⟩
 ·rw[h]at a;cases a
 ·subst g
  have le:=(b l (List.mem_append_right _ (.head _))).le
  have ne:l.u<e.u:=Nat.lt_of_le_of_ne le λx=>c (x▸d)
  rcases aE a with a|a
  ·exact Nat.lt_of_le_of_lt ((List.pairwise_append.mp f).2.2 r a l (.head _)).le ne
  ·rw[aw a];exact ne
theorem C9.nw_le{Z:List Rw}{cur:Option Nat}{a:Int}{U:Nat}(h:C9 Z cur a){e:Rw}(s9:U<10)(c:j7 cur a e.u<=U):∃q∈Z,q.u=e.u/\q.s<=U:=by
 unfold j7 at c
 by_cases x:cur=some e.u
 ·rw[if_pos x]at c
  rcases h with⟨_,h⟩|⟨p,l,d,b,f⟩
  ·rw[h]at x;cases x
  ·subst d;rw[f]at c;exact⟨l,List.mem_append_right _ (.head _),Option.some.inj (b.symm.trans x),Int.ofNat_le.mp c⟩
 ·rw[if_neg x]at c;exact absurd c (by show¬(72057594037927935+1:Int)<=_;exact Int.not_le.mpr (Int.lt_of_lt_of_le (dF s9) (by decide)))
theorem C9.nw_gt{Z:List Rw}{cur:Option Nat}{f:Int}{U:Nat}(h:C9 Z cur f)(b:Z.Pairwise nV){e:Rw}(g:∀r∈Z,nV r e)(c:¬j7 cur f e.u<=U):∀q∈Z,q.u=e.u->U<q.s:=λq a d=>by
 by_cases x:cur=some e.u
 ·unfold j7 at c
  rw[if_pos x]at c
  rcases h with⟨h,_⟩|⟨p,l,j,i,m⟩
  ·rw[h]at a;cases a
  ·subst j;rw[m]at c
   have c:=Nat.lt_of_not_le λy=>c (bF y)
   rcases aE a with a|a
   ·exact Nat.lt_trans c (((List.pairwise_append.mp b).2.2 q a l (.head _)).s (d.trans (Option.some.inj (i.symm.trans x)).symm))
   ·rw[aw a];exact c
 ·exact absurd d (Nat.ne_of_lt (h.lt b g x q a))
end
section
variable {ext:bj} {σ τ:Hp}
noncomputable def t3(r:Rw):Int×Int×Int:=(r.u, -(r.s:Int),r.k)
theorem j6:∀{rs:List Rw},gh σ rs->dI σ (rs.map cV)=some (rs.map t3)
 |[],_=>rfl
 |r::rs,h=>by
  have e:kU σ (cV r)=some (t3 r):=by have:=h r (.head _);unfold EK at this;show(σ _).bind _=_;rw[this];rfl
  show(kU σ (cV r)).bind (λx=>(dI σ (rs.map cV)).map (x::·))=_
  rw[e,j6 λq a=>h q (.tail _ a)];rfl
theorem Fu{a b:Rw}(h:ju (t3 a) (t3 b)=true)(n:a.s≠b.s):nV a b:=by
 rcases of_decide_eq_true h with h|⟨h,c|⟨c,_⟩⟩
 ·exact .inl (cu h)
 ·exact .inr ⟨cW h,cu (Int.neg_lt_neg_iff.mp c)⟩
 ·exact(n (cW (Int.neg_inj.mp c))).elim
def Ns(rs:List Rw):Prop:=rs.Pairwise λa b=>a.s≠b.s
theorem Ns.perm{rs zs:List Rw}(h:Ns rs)(p:zs.Perm rs):Ns zs:=p.symm.pairwise h λh e=>h e.symm
theorem oW{K:PX}{f:Addr}{fz:Bool}{rs:List Rw}(h:σ f=some (fz,.list (rs.map cV)))(hR:gh σ rs)(ne:rs≠[])(n:rs.length<=60)(g:Ns rs)
  (k:∀c (zs:List Rw),σ c=none->zs.Perm rs->zs.Pairwise nV->K (.ref c) (upd σ c (false,.list (zs.map cV)))):eI .sorted [.ref f] σ K:=by
 refine wJ h (by rw[List.length_map];exact n) (by cases rs with|nil=>exact(ne rfl).elim|cons a b=>rfl) (j6 hR) (List.pairwise_map.mpr (g.imp λh e=>h (by have:=congrArg (λt=>t.2.1) e;exact cW (Int.neg_inj.mp this)))) λc o m j p e _ l=>?_
 obtain⟨zs,d,rfl⟩:=oZ p
 rw[j6 λr i=>hR r (d.subset i)]at e
 cases e
 exact k c zs j d (((List.pairwise_map.mp l).and (g.perm d)).imp λh=>Fu h.1 h.2)
end
section
variable {ext:bj} {σ Z:Hp}
noncomputable abbrev A6(n:Nat):AV:=.int n
structure My(σ Z:Hp)(c:Cm)(tA gA:Addr)(ts ts':List AV)(sm:Nat)(unit:Int)(dl:List (Addr×Nat×Nat))(al:List (Addr×Nat×FM))(gone:List Nat):Prop where
 mo:Mo [c.adr,c.pl,tA,c.E.dlA,c.E.alA] σ Z
 hE:j8 Z {c.E with dl:=dl,al:=al}
 kc:∃ga go sk,Z c.adr=some (false,fB c ga go sk)
 ht:Z tA=some (false,.list ts')
 hg:∃fz,Z gA=some (fz,.list (gone.map A6))
 w:(∃f,c.in0=[f]/\c.in1=[]/\gone=[]/\ts'=ts/\dl.map (·.2)=[(c.k,f.num)]/\al.map (·.2)=[(c.k+1,f)])∨
  (gone=(c.in0++c.in1).map FM.num/\dl.map (·.2)=sY c 2/\∃fs zs,al.map (·.2)=fs.map (λf=>(c.k+1,f))/\zs.Perm ((c.in0++c.in1).flatMap FM.rows)/\zs.Pairwise nV/\Sf c.V c.k sm unit [] zs fs []/\
   fs.map FM.num=List.range' ts.length fs.length/\ts'.length=ts.length+fs.length/\(∃t2,ts'=ts++t2)/\∀f∈fs,kQ Z ts' f)
structure Fb(σ:Hp)(c:Cm)(tA:Addr)(ts:List AV):Prop where
 hc:σ c.adr=some (false,fB c 0 0 false)
 hC:wx σ c
 ok:D2 c
 hp:σ c.pl=some (false,.list ((List.replicate c.V.lv.length 0).map tY))
 hE:j8 σ c.E
 ed:c.E.dl=[]
 ea:c.E.al=[]
 ht:σ tA=some (false,.list ts)
 tl:ts.length<=100
 nd:[tA,c.adr,c.pl,c.E.cp,c.E.dlA,c.E.alA].Nodup
 it:∀f∈c.in0++c.in1,kQ σ ts f/\∀r∈f.rows,r.ok
 ne:(c.in0++c.in1).flatMap FM.rows≠[]
 ln:((c.in0++c.in1).flatMap FM.rows).length<=60
 ns:Ns ((c.in0++c.in1).flatMap FM.rows)
theorem Fb.d{c:Cm}{a:Addr}{ts:List AV}(h:Fb σ c a ts){i j:Nat}{x y:Addr}(hi:[a,c.adr,c.pl,c.E.cp,c.E.dlA,c.E.alA][i]?=some x)(b:[a,c.adr,c.pl,c.E.cp,c.E.dlA,c.E.alA][j]?=some y)(n:j≠i):y≠x:=gV h.nd hi b n
theorem yR{n I:Nat}{unit:Int}{c:Cm}{s:Addr}{ts:List AV}{f:FM}{Q:Fl->aG->Hp->Prop}(h:Fb σ c s ts)(r:c.in0=[f])(U:c.in1=[])(q:∀gA u dl al o Z l,My σ Z c s gA ts u I unit dl al o->Q (.ret (.ref gA)) l Z):
  Go (cB ext n) (.cons (.asg 4 (.sub (.sub (.at (.v 0) 53) (.k (.int 0))) (.k (.int 0))))
 (.cons (.ex (.bm .append (.at (.at (.v 0) 55) 41) (.cons (.tup (.cons (.at (.v 0) 49) (.cons (.at (.v 4) 2) .nil))) .nil)))
 (.cons (.ex (.bm .append (.at (.at (.v 0) 55) 42) (.cons (.tup (.cons (.bin .add (.at (.v 0) 49) (.k (.int 1))) (.cons (.v 4) .nil))) .nil)))
 (.cons (.ret (.lst .nil))
 .nil)))) [.ref c.adr,.ref s,.int I,.int unit,.undef,.undef,.undef,.undef,.undef,.undef,.undef,.undef,.undef,.undef] σ Q:=by
 have N:=h.hc
 have hi:=h.hC.h_inp
 have A:=h.hC.h_i0
 have R:=h.hC.h_f0 f (r▸.head _)
 have K:=h.hE.e
 have hd:=h.hE.d
 have G:=h.hE.a
 rw[r]at A
 rw[h.ed]at hd
 rw[h.ea]at G
 unfold nL at R
 have n1:c.E.dlA≠c.E.alA:=h.d (i:=5) (j:=4) rfl rfl (by decide)
 refine bG (by left) (wP (by left) (by left) hd (Nat.zero_le _) rfl λt υ ht m z t1 d1=>?_)
 have B:=m _ _ (di (h.d (i:=4) (j:=1) rfl rfl (by decide))) N
 have D:=m _ _ (di (Ne.symm n1)) G
 have V:=z _ _ K
 refine wP (by left) (by left) D (Nat.zero_le _) rfl λt2 O Y m2 z2 t3 d2=>?_
 refine fe (a8 aQ rfl λg b=>q g ts [(t,c.k,f.num)] [(t2,c.k+1,f)] [] _ _ ?_)
 have J:=(z.trans z2).trans (Fz.new (c:=(false,.list [])) b)
 have W:=ag (c:=(false,.list [])) b (m2 _ _ (di n1) d1)
 refine⟨?_,⟨J _ _ h.hE.e,W,ag b d2,⟨_,ag b (m2 _ _ (di (h.d (i:=5) (j:=3) rfl rfl (by decide))) (m _ _ (di (h.d (i:=4) (j:=3) rfl rfl (by decide))) h.hE.c.choose_spec))⟩,λp w=>?_,λp w=>?_⟩,⟨0,0,false,?_⟩,?_,⟨false,ab⟩,.inl ⟨f,r,U,rfl,rfl,rfl,rfl⟩⟩
 ·exact((m.sub λx y=>by rw[aw y];exact .tail _ (.tail _ (.tail _ (.head _)))).trans (m2.sub λx y=>by rw[aw y];exact .tail _ (.tail _ (.tail _ (.tail _ (.head _)))))).new b
 ·rw[aw w];exact ag b (z2 _ _ t1)
 ·rw[aw w];exact⟨ag b t3,J _ _ (h.hC.h_f0 f (r▸.head _))⟩
 ·exact ag b (m2 _ _ (di (h.d (i:=5) (j:=1) rfl rfl (by decide))) B)
 ·exact ag b (m2 _ _ (di (h.d (i:=5) (j:=0) rfl rfl (by decide))) (m _ _ (di (h.d (i:=4) (j:=0) rfl rfl (by decide))) h.ht))
end
section
variable {ext:bj} {σ Z:Hp}
noncomputable def j5(c:Cm)(i:Int):List FM:=if i<=0 then[] else if i<=1 then c.in0 else c.in0++c.in1
theorem Bn{f:FM}{fs:List FM}(h:f∈fs):f.rows.length<=(fs.flatMap FM.rows).length:=by
 obtain⟨s,t,e⟩:=List.append_of_mem h
 rw[e,List.flatMap_append,List.flatMap_cons,List.length_append,List.length_append]
 exact Nat.le_trans (Nat.le_add_right _ _) (Nat.le_add_left _ _)
theorem aY{B C:Type}{g:B->C}{xs:List B}{f:B}:(xs++[f]).map g=xs.map g++[g f]:=by rw[List.map_append];rfl
theorem y0{n D:Nat}{unit:Int}{c:Cm}{A G j:Addr}{ts:List AV}{Q:Fl->aG->Hp->Prop}{ss:SS}(h:Fb σ c A ts){r:Hp}(x:aK σ r)(hr:r G=some (false,.list []))(hg:r j=some (false,.list []))(sg:σ j=none)
  (k:∀(x:Addr) (v4 v7:AV) o,Mo [j] r o->o j=some (false,.list (((c.in0++c.in1).map FM.num).map A6))->(∃f,o x=some (f,.list (((c.in0++c.in1).flatMap FM.rows).map cV)))->Go (cB ext n) ss [.ref c.adr,.ref A,.int D,.int unit,v4,.ref x,.ref j,v7,.undef,.undef,.undef,.undef,.undef,.undef] o Q):
  Go (cB ext n) (.cons (.forR 7 (.k (.int 0)) (.k (.int 2)) true (.cons (.for [4] (.sub (.at (.v 0) 53) (.v 7)) (.cons (.asg 5 (.bin .add (.v 5) (.sub (.v 1) (.at (.v 4) 2))))
 (.cons (.ex (.bm .append (.v 6) (.cons (.at (.v 4) 2) .nil)))
 .nil)))
 .nil)) ss) [.ref c.adr,.ref A,.int D,.int unit,.undef,.ref G,.ref j,.undef,.undef,.undef,.undef,.undef,.undef,.undef] r Q:=by
 have I:=λ{o} (m:Mo [j] r o)=>i8 m hg
 have ng:∀{a d},σ a=some d->a∉[j]:=λe=>di (af e sg)
 have len:(c.in0++c.in1).length<=120:=by rw[List.length_append];exact Nat.add_le_add h.ok.l0 h.ok.l1
 refine g8 (iK (iK ?_))
 refine dO (λa:AV×Addr×AV=>[.ref c.adr,.ref A,.int D,.int unit,a.1,.ref a.2.1,.ref j,a.2.2,.undef,.undef,.undef,.undef,.undef,.undef])
  (λi a o=>Mo [j] r o/\o j=some (false,.list (((j5 c i).map FM.num).map A6))/\∃f,o a.2.1=some (f,.list (((j5 c i).flatMap FM.rows).map cV))) (.undef,G,.undef) rfl ⟨by decide,by decide,by decide,by decide⟩ ⟨Mo.refl _ _,hg,_,hr⟩ ?_ ?_
 ·intro i a o R g1 g2 ⟨m,N,E⟩ ih
  obtain⟨s,O,q,rfl,hx,Y,hf,u,pn⟩:∃(s:Nat) (O:Addr) (q:List FM),i=s/\on [.ref c.i0,.ref c.i1] i=some (.ref O)/\σ O=some (true,.list (q.map FM.v))/\cM σ q/\(∃t,j5 c i++q++t=c.in0++c.in1)/\j5 c (i+1)=j5 c i++q:=by
   have:i=0∨i=1:=by exact NT g1 g2
   rcases this with rfl|rfl
   ·exact⟨0,c.i0,c.in0,rfl,rfl,h.hC.h_i0,h.hC.h_f0,⟨c.in1,rfl⟩,rfl⟩
   ·exact⟨1,c.i1,c.in1,rfl,rfl,h.hC.h_i1,h.hC.h_f1,⟨[],List.append_nil _⟩,rfl⟩
  obtain⟨rt,u⟩:=u
  have z:=x.fz.trans (I m)
  have c1:=m _ _ (ng h.hc) (x _ _ h.hc)
  have c2:=z _ _ h.hC.h_inp
  have c3:=z _ _ Y
  rw[pn]at ih
  right
  refine eP q FM.v (λb:AV×Addr=>[.ref c.adr,.ref A,.int D,.int unit,b.1,.ref b.2,.ref j,.int s,.undef,.undef,.undef,.undef,.undef,.undef])
   (λg b Z=>Mo [j] r Z/\Z j=some (false,.list (((j5 c s++g).map FM.num).map A6))/\∃f,Z b.2=some (f,.list (((j5 c s++g).flatMap FM.rows).map cV))) (a.1,a.2.1) rfl c3 ?_ (λ_ _ Z p=>⟨_,(x.fz.trans (I p.1)) _ _ Y⟩) ⟨m,by rw[List.append_nil];exact N,by rw[List.append_nil];exact E⟩ ?_ ?_
  ·have:=congrArg List.length u
   rw[List.length_append,List.length_append]at this
   exact n2 [_,_,_,_] jJ (.le (.v 1) (.n 120)) (.eq (.a (.a (.v 2) (.v 0)) (.v 3)) (.v 1)) rfl len this
  ·intro g f us b Z R' e ⟨w,d1,d2⟩ K
   have V:=aP e
   have z':=x.fz.trans (I w)
   have W:=z' _ _ (hf f V)
   obtain⟨fz,d2⟩:=d2
   have fin:f∈c.in0++c.in1:=u▸List.mem_append_left _ (List.mem_append_right _ V)
   obtain⟨⟨ta,t1,t2,_⟩,_⟩:=h.it f fin
   have t3:=w _ _ (ng h.ht) (x _ _ h.ht)
   have t4:=z' _ _ t2
   have tl:=bh h.tl rfl
   have ti:on ts f.num=some (.ref ta):=t1
   have sub:(j5 c s++g).length<=120:=by
    have h1:=congrArg List.length u
    have U:=congrArg List.length e
    rw[List.length_append,List.length_append]at h1
    rw[List.length_append]at U ⊢
    exact m3 [_,_,_,_,_,_] Gn 0 1 1 (-1) Hu (.eq (.a (.a (.v 0) (.v 3)) (.v 4)) (.v 2)) (.eq (.v 3) (.a (.v 1) (.v 5))) rfl len h1 U
   have bl:=bh (Nat.le_trans (Nat.le_of_eq ((List.length_map ..).trans (List.length_map ..))) sub:(((j5 c s++g).map FM.num).map A6).length<=120) rfl
   have rl:((((j5 c s++g).flatMap FM.rows).map cV).length)<=60:=by
    have:((j5 c s++g).flatMap FM.rows).length<=((c.in0++c.in1).flatMap FM.rows).length:=by
     rw[←u,e,List.flatMap_append,List.flatMap_append,List.flatMap_append,List.flatMap_append,List.length_append,List.length_append,List.length_append,List.length_append]
     exact n0 [_,_,_,_] (.le (.a (.v 0) (.v 1)) (.a (.a (.v 0) (.a (.v 1) (.v 2))) (.v 3))) rfl
    rw[List.length_map];exact Nat.le_trans this h.ln
   have fl:(f.rows.map cV).length<=60:=by rw[List.length_map];exact Nat.le_trans (Bn fin) h.ln
   unfold nL at W
   refine mY (az (dk (aS (by left) (aS (kx (by left) (by left) t3 tl ti) (iY d2 t4 ⟨bh rl rfl,bh fl rfl⟩ λy B=>?_)))))
   have J:=ag (c:=(false,.list (((j5 c s++g).flatMap FM.rows).map cV++f.rows.map cV))) B d1
   have β:=ag (c:=(false,.list (((j5 c s++g).flatMap FM.rows).map cV++f.rows.map cV))) B W
   refine uX (by left) (by left) J bl (ak (aR (K (f.v,y) _ ⟨(w.new B).mut (.head _),?_,false,?_⟩)))
   ·exact ab.trans (congrArg (λl=>some (false,AO.list l)) (by rw[←List.append_assoc,aY,aY]))
   ·exact(aq (Ne.symm (af d1 B)) ab).trans (congrArg (λl=>some (false,AO.list l)) (by rw[←List.append_assoc,iF];exact List.map_append.symm))
  ·intro b Z ⟨w,d1,d2⟩
   exact ak (aR (ih (b.1,b.2,.int s) Z ⟨w,d1,d2⟩))
 ·intro i a o g1 g2 g3 ⟨m,N,E⟩
  have:i=2:=by exact i2 g2 g3
  subst this
  exact k a.2.1 a.1 a.2.2 o m N E
end
section
variable {ext:bj} {σ B:Hp}
structure Cb(Z:Hp)(c:Cm)(N G U:Addr)(ts:List AV)(sm:Nat)(dl:List (Addr×Nat×Nat)):Prop where
 hC:wx Z c
 ok:D2 c
 hE:j8 Z {c.E with dl:=dl,al:=[]}
 hs:Sv Z Z c G sm none qK false (List.replicate c.V.lv.length 0)
 ht:Z N=some (false,.list ts)
 tl:ts.length<=100
 hk:Z U=some (false,.list [])
 nd:[N,c.adr,c.pl,c.E.cp,c.E.dlA,c.E.alA,G,U].Nodup
theorem Cb.d{c:Cm}{Z:Hp}{N G U:Addr}{ts:List AV}{sm:Nat}{dl:List (Addr×Nat×Nat)}(h:Cb Z c N G U ts sm dl){i j:Nat}{x y:Addr}(hi:[N,c.adr,c.pl,c.E.cp,c.E.dlA,c.E.alA,G,U][i]?=some x)(a:[N,c.adr,c.pl,c.E.cp,c.E.dlA,c.E.alA,G,U][j]?=some y)(n:j≠i):y≠x:=gV h.nd hi a n
structure Cw(Z B:Hp)(c:Cm)(N G U:Addr)(ts:List AV)(sm:Nat)(unit:Int)(dl:List (Addr×Nat×Nat))(J D:List Rw)(al:List (Addr×Nat×FM))(fs:List FM)(I:List Rw)(cur:Option Nat)(nw:Int)(lb:Nat)(O:List AV):Prop where
 mo:Mo [c.adr,c.pl,G,N,c.E.alA,U] Z B
 hs:∃st ps,Sv B B c G sm cur nw st ps/\∀u,lb<=u->j3 c.V c.k u ps
 hE:j8 B {c.E with dl:=dl,al:=al}
 ea:al.map (·.2)=fs.map λf=>(c.k+1,f)
 ht:B N=some (false,.list O)
 tp:∃t2,O=ts++t2
 tl:O.length=ts.length+fs.length
 nm:fs.map FM.num=List.range' ts.length fs.length
 it:∀f∈fs,kQ B O f
 sf:Sf c.V c.k sm unit J D fs I
section
variable {Z:Hp} {c:Cm} {N G U:Addr} {ts O:List AV} {sm:Nat} {unit nw:Int} {dl:List (Addr×Nat×Nat)} {J D I:List Rw} {al:List (Addr×Nat×FM)} {fs:List FM} {cur:Option Nat} {lb:Nat}
theorem Cb.lv(b:Cb Z c N G U ts sm dl):∀x∈[c.adr,c.pl,G,N,c.E.alA,U],∃o,Z x=some (false,o):=λx d=>by
 rcases au d with rfl|d
 ·obtain⟨_,_,_,e⟩:=b.hs.cc;exact⟨_,e⟩
 rcases au d with rfl|d
 ·exact⟨_,b.hs.cp⟩
 rcases au d with rfl|d
 ·exact⟨_,b.hs.cs⟩
 rcases au d with rfl|d
 ·exact⟨_,b.ht⟩
 rcases au d with rfl|d
 ·exact⟨_,b.hE.a⟩
 ·rw[aw d];exact⟨_,b.hk⟩
theorem Cw.z(h:Cw Z B c N G U ts sm unit dl J D al fs I cur nw lb O)(b:Cb Z c N G U ts sm dl):Fz Z B:=h.mo.fz b.lv
def Kn(Z B:Hp)(U a:Addr)(I:List Rw):Prop:=B a=some (false,.list (I.map cV))/\(a=U∨Z a=none)
theorem Kn.ne(h:Kn Z B U kA I){x:Addr}{d:Bool×AO}(e:Z x=some d)(n:x≠U):x≠kA:=h.2.elim (λe=>e▸n) λk=>af e k
theorem Cw.move(h:Cw Z B c N G U ts sm unit dl J D al fs I cur nw lb O)(b:Cb Z c N G U ts sm dl){S:List Addr}{k:Hp}(m:Mo S B k)(z:Fz B k)(o:∀x∈[N,c.adr,c.pl,c.E.cp,c.E.dlA,c.E.alA,G],x∉S)(hS:∀x∈S,x=U∨Z x=none):Cw Z k c N G U ts sm unit dl J D al fs I cur nw lb O:=by
 obtain⟨st,s,s1,s2⟩:=h.hs
 obtain⟨t,go,q,r⟩:=s1.cc
 have n (i:Nat) {x:Addr} (j:[N,c.adr,c.pl,c.E.cp,c.E.dlA,c.E.alA,G][i]?=some x):x∉S:=o x (List.mem_of_getElem? j)
 exact⟨h.mo.step m λx j=>(hS x j).imp (λe=>by rw[e];exact .tail _ (.tail _ (.tail _ (.tail _ (.tail _ (.head _)))))) id,
  ⟨st,s,⟨Mo.refl _ _,⟨t,go,q,m _ _ (n 1 rfl) r⟩,m _ _ (n 2 rfl) s1.cp,m _ _ (n 6 rfl) s1.cs,s1.n1,s1.n2,s1.n3⟩,s2⟩,
  ⟨z _ _ h.hE.e,m _ _ (n 4 rfl) h.hE.d,m _ _ (n 5 rfl) h.hE.a,⟨_,m _ _ (n 3 rfl) h.hE.c.choose_spec⟩,λp g=>z _ _ (h.hE.dt p g),λp g=>⟨z _ _ (h.hE.at' p g).1,z _ _ (h.hE.at' p g).2⟩⟩,h.ea,m _ _ (n 0 rfl) h.ht,h.tp,h.tl,h.nm,λf l=>(h.it f l).fz z,h.sf⟩
theorem Cw.put{n:Nat}{y:Addr}{K:PX}(h:Cw Z B c N G U ts sm unit dl J D al fs I cur nw lb O)(b:Cb Z c N G U ts sm dl)(hk:Kn Z B U y I)(ne:I≠[])(cd:∀r∈I,∀q∈J,r.u<q.u)(hr:gh B D)(ok:∀r∈D,r.ok)(ln:D.length<=60)(R:fs.length<=60)
  (q:∀A f β O,Cw Z A c N G U ts sm unit dl J D β (fs++[f]) [] cur nw lb O->Fz B A->K .none A):cB ext (n+3) (F.fa 80) [.int ((c.k:Int)+1),.ref y,.ref N,.ref c.E.adr,.int unit] B K:=by
 obtain⟨e,kn⟩:=id hk
 have sub:=(List.sublist_append_right _ _).trans h.sf.kk
 obtain⟨m,hm⟩:∃m,I.length=m+1:=by cases I with|nil=>exact(ne rfl).elim|cons a l=>exact⟨l.length,rfl⟩
 have lk:=Nat.le_trans sub.length_le ln
 have W:al.length<=60:=by have:=congrArg List.length h.ea;rw[List.length_map,List.length_map]at this;exact n2 [_,_] lZ yD CW rfl R this
 have g0:=List.getElem?_eq_getElem (l:=I) (i:=0) (by exact m1 [_,_] CU 0 (-1) Hg rfl hm)
 have g1:=List.getElem?_eq_getElem (l:=I) (i:=I.length-1) (by exact n1 [_,_] J2 HJ rfl (Nat.sub_add_cancel (n:=I.length) (m:=1) (m1 [_,_] (.le (.n 1) (.v 0)) 0 (-1) (.eq (.v 0) (.a (.v 1) (.n 1))) rfl hm)))
 have Q:∀{x:Addr} {d:Bool×AO},Z x=some d->x≠U->x≠y:=λe n=>hk.ne e n
 have a0:=Q b.ht (b.d (i:=7) (j:=0) rfl rfl (by decide))
 have a5:=Q b.hE.a (b.d (i:=7) (j:=5) rfl rfl (by decide))
 have a4:=Q b.hE.d (b.d (i:=7) (j:=4) rfl rfl (by decide))
 have a3:=Q b.hE.c.choose_spec (b.d (i:=7) (j:=3) rfl rfl (by decide))
 have d50:c.E.alA≠N:=b.d (i:=0) (j:=5) rfl rfl (by decide)
 refine ya (k:=c.k+1) (E:={c.E with dl:=dl,al:=al}) e (λr o=>hr r (sub.subset o)) (λr o=>ok r (sub.subset o)) g0 g1 (bh lk rfl) h.ht (by rw[h.tl];exact Nat.le_trans (Nat.add_le_add b.tl R) (Nat.le_of_ble_eq_true rfl)) h.hE (bh W rfl)
  (a7 a0 (a7 (Ne.symm d50) (a7 (b.d (i:=4) (j:=0) rfl rfl (by decide)) (di (b.d (i:=3) (j:=0) rfl rfl (by decide))))))
  (a7 (Ne.symm a5) (a7 (Ne.symm a4) (di (Ne.symm a3)))) (a7 (b.d (i:=4) (j:=5) rfl rfl (by decide)) (di (b.d (i:=3) (j:=5) rfl rfl (by decide)))) λp a A i1 i2 i3 Y=>?_
 have z:Fz B A:=Y.fz λx s=>by
  rcases au s with rfl|s
  ·exact⟨_,h.ht⟩
  rcases au s with rfl|s
  ·exact⟨_,h.hE.a⟩
  ·rw[aw s];exact⟨_,e⟩
 obtain⟨st,ps,s1,s2⟩:=h.hs
 obtain⟨ga,go,sk,s3⟩:=s1.cc
 have w:∀{x:Addr} {d:Bool×AO},Z x=some d->x≠N->x≠c.E.alA->x≠U->x∉[N,c.E.alA,y]:=λg n1 n2 n3=>a7 n1 (a7 n2 (di (Q g n3)))
 obtain⟨_,_,_,b3⟩:=b.hs.cc
 refine q A ⟨a,O.length,I.length*unit,I[0]'(by rw[hm];exact Nat.succ_pos _),I[I.length-1]'(Nat.sub_lt (by rw[hm];exact Nat.succ_pos _) Nat.one_pos),I⟩ _ _ ⟨h.mo.step Y λx s=>?_,⟨st,ps,⟨Mo.refl _ _,⟨ga,go,sk,Y _ _ ?_ s3⟩,Y _ _ ?_ s1.cp,Y _ _ ?_ s1.cs,s1.n1,s1.n2,s1.n3⟩,s2⟩,i1,?_,i2,?_,?_,?_,λf V=>?_,h.sf.put cd rfl ⟨g0,g1,rfl⟩⟩ z
 ·rcases au s with rfl|s
  ·exact .inl (.tail _ (.tail _ (.tail _ (.head _))))
  rcases au s with rfl|s
  ·exact .inl (.tail _ (.tail _ (.tail _ (.tail _ (.head _)))))
  ·rw[aw s];exact kn.imp (λe=>by rw[e];exact .tail _ (.tail _ (.tail _ (.tail _ (.tail _ (.head _)))))) id
 ·exact w b3 (b.d (i:=0) (j:=1) rfl rfl (by decide)) (b.d (i:=5) (j:=1) rfl rfl (by decide)) (b.d (i:=7) (j:=1) rfl rfl (by decide))
 ·exact w b.hs.cp (b.d (i:=0) (j:=2) rfl rfl (by decide)) (b.d (i:=5) (j:=2) rfl rfl (by decide)) (b.d (i:=7) (j:=2) rfl rfl (by decide))
 ·exact w b.hs.cs (b.d (i:=0) (j:=6) rfl rfl (by decide)) (b.d (i:=5) (j:=6) rfl rfl (by decide)) (b.d (i:=7) (j:=6) rfl rfl (by decide))
 ·show(al++[_]).map _=_;rw[aY,aY,h.ea];rfl
 ·exact h.tp.elim λt e=>⟨t++[.ref y],by rw[e,List.append_assoc]⟩
 ·rw[List.length_append,List.length_append,h.tl,Nat.add_assoc];rfl
 ·rw[aY,h.nm,List.length_append];show _++[O.length]=List.range' ts.length (fs.length+1);rw[List.range'_1_concat,h.tl]
 ·rcases aE V with V|V
  ·exact((h.it f V).fz z).app
  ·rw[aw V]
   exact⟨y,List.getElem?_concat_length,i3,λr o=>z _ _ (hr r (sub.subset o))⟩
end
end
section
variable {ext:bj} {σ N:Hp}
theorem j8.up{E:Ed}(h:j8 σ E)(x:aK σ N):j8 N E:=⟨x _ _ h.e,x _ _ h.d,x _ _ h.a,h.c.imp λ_ e=>x _ _ e,λp b=>x _ _ (h.dt p b),λp b=>⟨x _ _ (h.at' p b).1,x _ _ (h.at' p b).2⟩⟩
variable {B:Hp} {c:Cm} {D I J:Addr} {ts O:List AV} {G:Nat} {unit nw:Int} {dl:List (Addr×Nat×Nat)} {U Z ke:List Rw} {al:List (Addr×Nat×FM)} {fs:List FM} {cur:Option Nat} {lb:Nat}
theorem Cw.new{r:Addr}{d:Bool×AO}(h:Cw B N c D I J ts G unit dl U Z al fs ke cur nw lb O)(b:Cb B c D I J ts G dl)(a:N r=none):Cw B (upd N r d) c D I J ts G unit dl U Z al fs ke cur nw lb O:=
 h.move b (S:=[]) ((Mo.refl _ _).new a) (Fz.new a) (λ_ _=>nM) (λ_=>nM)
theorem Cw.fr{r:Addr}(h:Cw B N c D I J ts G unit dl U Z al fs ke cur nw lb O)(b:N r=none):r=J∨B r=none:=by
 by_cases e:r=J
 ·exact .inl e
 ·obtain⟨st,f,s1,_⟩:=h.hs
  obtain⟨_,_,_,d⟩:=s1.cc
  exact .inr (h.mo.nn b (a7 (Ne.symm (af d b)) (a7 (Ne.symm (af s1.cp b)) (a7 (Ne.symm (af s1.cs b)) (a7 (Ne.symm (af h.ht b)) (a7 (Ne.symm (af h.hE.a b)) (di e)))))))
theorem Ej{zs Z d:List Rw}{e:Rw}(i:zs.Pairwise nV)(h:zs=Z++e::d):Z.Pairwise nV/\(∀r∈Z,nV r e)/\∀q∈d,e.u<=q.u:=by
 subst h
 obtain⟨a,b,c⟩:=List.pairwise_append.mp i
 exact⟨a,λr f=>c r f e (.head _),λq g=>((List.pairwise_cons.mp b).1 q g).le⟩
theorem Cw.turn{r:Hp}{st m:Bool}{q o:List Nat}{nw':Int}{u:Nat}(h:Cw B N c D I J ts G unit dl U Z al fs ke cur nw lb O)(b:Cb B c D I J ts G dl)(A:Sv N N c I G cur nw m o)(s:Sv N r c I G (some u) nw' st q)(po:j3 c.V c.k u q):Cw B r c D I J ts G unit dl U Z al fs ke (some u) nw' u O:=by
 have z:=s.z A
 have n {i:Nat} {x:Addr} (g:[D,c.adr,c.pl,c.E.cp,c.E.dlA,c.E.alA,I,J][i]?=some x) (n1:1≠i) (n2:2≠i) (t:6≠i):x∉[c.adr,c.pl,I]:=a7 (Ne.symm (b.d (j:=1) g rfl n1)) (a7 (Ne.symm (b.d (j:=2) g rfl n2)) (di (Ne.symm (b.d (j:=6) g rfl t))))
 exact⟨h.mo.trans (s.mo.sub λx g=>(List.mem_append_left [D,c.E.alA,J] g:x∈[c.adr,c.pl,I]++_)),⟨st,q,⟨Mo.refl _ _,s.cc,s.cp,s.cs,s.n1,s.n2,s.n3⟩,λv w=>po.mono w⟩,
  ⟨z _ _ h.hE.e,s.mo _ _ (n (i:=4) rfl (by decide) (by decide) (by decide)) h.hE.d,s.mo _ _ (n (i:=5) rfl (by decide) (by decide) (by decide)) h.hE.a,⟨_,s.mo _ _ (n (i:=3) rfl (by decide) (by decide) (by decide)) h.hE.c.choose_spec⟩,λp l=>z _ _ (h.hE.dt p l),λp l=>⟨z _ _ (h.hE.at' p l).1,z _ _ (h.hE.at' p l).2⟩⟩,
  h.ea,s.mo _ _ (n (i:=0) rfl (by decide) (by decide) (by decide)) h.ht,h.tp,h.tl,h.nm,λf y=>(h.it f y).fz z,h.sf⟩
theorem RP{m j:Nat}:(List.replicate m 0).getD j 0=0:=by
 rw[List.getD_eq_getElem?_getD]
 cases e:(List.replicate m 0)[j]? with
 |none=>rfl
 |some x=>exact List.eq_of_mem_replicate (List.mem_of_getElem? e)
inductive CI(B:Hp)(c:Cm)(D I J:Addr)(ts:List AV)(G:Nat)(unit:Int)(dl:List (Addr×Nat×Nat))(U Z:List Rw)(a:Addr)(N:Hp):Prop
 |mk (al:List (Addr×Nat×FM)) (fs:List FM) (ke:List Rw) (cur:Option Nat) (nw:Int) (lb:Nat) (O:List AV):Cw B N c D I J ts G unit dl U Z al fs ke cur nw lb O->Kn B N J a ke->fs.length<=Z.length->C9 Z cur nw->(∀q∈U,lb<=q.u)->CI B c D I J ts G unit dl U Z a N
inductive CJ(B:Hp)(c:Cm)(D I J:Addr)(ts:List AV)(G:Nat)(unit:Int)(dl:List (Addr×Nat×Nat))(U Z:List Rw)(e:Rw)(a:Addr)(N:Hp):Prop
 |mk (al:List (Addr×Nat×FM)) (fs:List FM) (ke:List Rw) (O:List AV):Cw B N c D I J ts G unit dl U Z al fs ke (some e.u) e.s e.u O->Kn B N J a ke->fs.length<=Z.length+1->CJ B c D I J ts G unit dl U Z e a N
theorem yY{n:Nat}{zs:List Rw}{y:Addr}{v4 v5 v6 v7:AV}{Q:Fl->aG->Hp->Prop}{ss:SS}(b:Cb B c D I J ts G dl)(hy:B y=some (false,.list (zs.map cV)))(yk:y∉[c.adr,c.pl,I,D,c.E.alA,J])(so:zs.Pairwise nV)(hR:gh B zs)(ok:∀r∈zs,r.ok)(ln:zs.length<=60)(s9:G<10)
  (k:∀(kA:Addr) (al:List (Addr×Nat×FM)) (fs:List FM) (ke:List Rw) (cur:Option Nat) (nw:Int) (lb:Nat) (O:List AV) (x1 x2 x3 x4:AV) N,Cw B N c D I J ts G unit dl [] zs al fs ke cur nw lb O->Kn B N J kA ke->fs.length<=zs.length->Go (cB ext (n+6)) ss [.ref c.adr,.ref D,.int G,.int unit,v4,v5,v6,v7,.ref I,.ref kA,x1,x2,x3,x4] N Q):
  sZ (cB ext (n+6)) [10] (.cons (.asg 11 (.bin .mul (.bi .len (.cons (.v 9) .nil)) (.v 3)))
 (.cons (.ite (.t (.cmp .eq (.v 11) (.k (.int 0)))) (.cons (.asg 11 (.bin .sub (.k (.int 0)) (.k (.int 1))))
 .nil) .nil)
 (.cons (.asgT [12,13] (.mth (.v 8) 15 (.cons (.fn 78 (.cons (.v 10) .nil)) (.cons (.v 11) .nil))))
 (.cons (.ite (.t (.v 12)) (.cons (.ex (.fn 80 (.cons (.bin .add (.at (.v 0) 49) (.k (.int 1))) (.cons (.v 9) (.cons (.v 1) (.cons (.at (.v 0) 55) (.cons (.v 3) .nil)))))))
 (.cons (.asg 9 (.lst .nil))
 .nil)) .nil)
 (.cons (.ite (.not (.t (.v 13))) (.cons (.asg 9 (.bin .add (.v 9) (.lst (.cons (.v 10) .nil))))
 .nil) .nil)
 .nil))))) ss Q (.ref y) [.ref c.adr,.ref D,.int G,.int unit,v4,v5,v6,v7,.ref I,.ref J,.undef,.undef,.undef,.undef] B:=by
 refine eP zs cV (λa:(AV×AV×AV×AV)×Addr=>[.ref c.adr,.ref D,.int G,.int unit,v4,v5,v6,v7,.ref I,.ref a.2,a.1.1,a.1.2.1,a.1.2.2.1,a.1.2.2.2])
  (λZ a N=>CI B c D I J ts G unit dl (zs.drop Z.length) Z a.2 N) ((.undef,.undef,.undef,.undef),J) rfl hy (bh ln rfl) ?_ ?_ ?_ ?_
 ·rintro us a N ⟨al,fs,ke,cur,nw,lb,O,w,_⟩
  exact⟨_,w.mo _ _ yk hy⟩
 ·exact⟨[],[],[],none,qK,0,ts,⟨Mo.refl _ _,⟨_,_,b.hs,λu _=>⟨List.length_replicate,λj L _ _ i f _ hi=>by rw[RP]at hi;exact absurd hi (Nat.not_lt_zero _)⟩⟩,b.hE,rfl,b.ht,⟨[],(List.append_nil _).symm⟩,rfl,rfl,λ_=>nM,Sf.start⟩,⟨b.hk,.inl rfl⟩,Nat.le_refl _,.inl ⟨rfl,rfl⟩,λ_ _=>Nat.zero_le _⟩
 ·rintro Z e us ⟨⟨x1,x2,x3,x4⟩,kA⟩ N R hz ⟨al,fs,ke,cur,nw,lb,O,w,Y,fl,cn,lw⟩ ih
  dsimp only at Y lw
  have hd:zs.drop Z.length=e::us:=by rw[hz];exact List.drop_left
  have φ:zs.drop (Z++[e]).length=us:=by rw[hz,show Z++e::us=(Z++[e])++us by rw[List.append_assoc];rfl];exact List.drop_left
  rw[hd]at w lw
  rw[φ]at ih
  obtain⟨sp,se,su⟩:=Ej so hz
  have pm:∀r∈Z,r∈zs:=λr hr=>hz▸List.mem_append_left _ hr
  have em:e∈zs:=aP hz
  have β:Z.length+1<=60:=by have:=congrArg List.length hz;rw[List.length_append,List.length_cons]at this;exact m2 [_,_,_] GK 0 1 (-1) yD D8 rfl ln this
  have kl:=Nat.le_trans ((List.sublist_append_right _ _).trans w.sf.kk).length_le (Nat.le_of_succ_le β)
  have ω:=aO (g:=cV) (bh kl rfl)
  have k1:=Y.1
  have lm:AV.int ((ke.map cV).length:Nat)=AV.int (ke.length:Nat):=by rw[List.length_map]
  refine mY (bG (fv (aU (by left) lm) (by left) ⟨by exact Int.NonNeg.mk (ke.length+Nat.succ 4611686018427387902),by exact PO (bh kl rfl)⟩) ?_)
  refine bB (λo:Int=>[.ref c.adr,.ref D,.int G,.int unit,v4,v5,v6,v7,.ref I,.ref kA,.ref e.adr,.int o,x3,x4]) (λo υ=>υ=N/\(0<=o->ke≠[])) (λR' V=>?_) ?_
  ·refine hF (by left) (br (λx=>?_) λx=>?_)
   ·right
    exact bk (V _ _ ⟨rfl,λh=>absurd h (by decide)⟩)
   ·right
    exact bk (V _ _ ⟨rfl,λh e=>x (by rw[e];exact Int.zero_mul _)⟩)
  rintro o υ ⟨rfl,ho⟩
  obtain⟨st,ps,s1,s2⟩:=w.hs
  have h3:=s1.cs
  have eR:=(w.z b) _ _ (hR e em)
  refine th (fO (aS (by left) (fU h3 rfl rfl (aj (aW (by left) (lN eR (ok e em) (aj (aS (by left) (aD ?_)))))))))
  refine BX s1 (b.hC.fz (w.z b)) b.ok (ok e em) (s2 _ (lw e (.head _))) ?_ λcut drop st' ps' t μ c1 c2 c3 po γ ht=>?_
  ·intro m hm
   rcases cn with⟨_,h⟩|⟨p,l,h1,h2,_⟩
   ·rw[h]at hm;cases hm
   ·rw[h2]at hm;cases hm;exact(ok l (pm l (h1▸List.mem_append_right _ (.head _)))).u
  refine vR ht ?_
  have w':=w.turn b s1 γ po
  have η:Kn B μ J kA ke:=by
   refine⟨γ.mo _ _ ?_ Y.1,Y.2⟩
   obtain⟨_,_,_,b3⟩:=b.hs.cc
   exact a7 (Ne.symm (Y.ne b3 (b.d (i:=7) (j:=1) rfl rfl (by decide)))) (a7 (Ne.symm (Y.ne b.hs.cp (b.d (i:=7) (j:=2) rfl rfl (by decide)))) (di (Ne.symm (Y.ne b.hs.cs (b.d (i:=7) (j:=6) rfl rfl (by decide))))))
  have rz:gh μ Z:=λr hr=>(w'.z b) _ _ (hR r (pm r hr))
  refine bB (λa:Addr=>[.ref c.adr,.ref D,.int G,.int unit,v4,v5,v6,v7,.ref I,.ref a,.ref e.adr,.int o,.bool cut,.bool drop])
   (λa N=>CJ B c D I J ts G unit dl (e::us) Z e a N) (λR' V=>?_) ?_
  ·refine hF (by left) (jv (λx=>?_) λx=>?_)
   ·obtain⟨y1,y2⟩:=c1 x
    have lt:=cn.lt sp se y1
    have cd:∀r∈ke,∀q∈e::us,r.u<q.u:=λr hr q hq=>Nat.lt_of_lt_of_le (lt r (((List.sublist_append_right _ _).trans w.sf.kk).subset hr)) ((au hq).elim (λh=>h▸Nat.le_refl _) (su q))
    obtain⟨ga,go,sk,hc'⟩:=γ.cc
    have he:=w'.hE.e
    refine dL (aW (by left) (w'.put b η (ho y2) cd rz (λr hr=>ok r (pm r hr)) (Nat.le_of_succ_le β) (Nat.le_trans fl (Nat.le_of_succ_le β)) λυ1 f ψ π w1 z1=>?_))
    refine az (a8 aQ rfl λk' K=>ak (bk (V k' _ ⟨ψ,fs++[f],[],π,w1.new b K,⟨ab,w1.fr K⟩,?_⟩)))
    rw[List.length_append];exact Nat.add_le_add_right fl 1
   ·right
    exact bk (V kA _ ⟨al,fs,ke,O,w',η,Nat.le_succ_of_le fl⟩)
  rintro kB ρ ⟨ξ,ζ,ε,ν,A,θ,κ⟩
  have nx:C9 (Z++[e]) (some e.u) e.s:=.inr ⟨Z,e,rfl,rfl,rfl⟩
  have sd:=λb' h1 h2=>A.sf.step se b' h1 h2
  have k2:=θ.1
  refine jd (by left) (λx=>?_) λx=>?_
  ·have x:drop=false:=by cases drop with|true=>cases x|false=>rfl
   subst x
   have χ:=bh (Nat.le_trans ((List.sublist_append_right _ _).trans A.sf.kk).length_le (Nat.le_of_succ_le β)) rfl
   refine az (dk (aS (by left) (a8 (by left) rfl λt' δ=>iY (ag δ k2) ab ⟨aO χ,Nat.le_of_ble_eq_true rfl⟩ λk' K=>?_)))
   have W:=(A.new b δ (d:=(false,.list [.ref e.adr]))).new b K (d:=(false,.list (ε.map cV++[.ref e.adr])))
   have fr:=(A.new b δ (d:=(false,.list [.ref e.adr]))).fr K
   refine ak (cq (ak (aR (ih ((.ref e.adr,.int o,.bool cut,.bool false),k') _ ⟨ξ,ζ,ε++[e],some e.u,e.s,e.u,ν,⟨W.mo,W.hs,W.hE,W.ea,W.ht,W.tp,W.tl,W.nm,W.it,sd false fT λ_=>cn.nw_gt sp se (c3 rfl)⟩,⟨by rw[aY];exact ab,fr⟩,?_,nx,su⟩))))
   rw[List.length_append];exact κ
  ·have x:drop=true:=by cases drop with|true=>rfl|false=>cases x
   subst x
   refine ak (cq (ak (aR (ih ((.ref e.adr,.int o,.bool cut,.bool true),kB) ρ ⟨ξ,ζ,ε,some e.u,e.s,e.u,ν,⟨A.mo,A.hs,A.hE,A.ea,A.ht,A.tp,A.tl,A.nm,A.it,?_⟩,θ,?_,nx,su⟩))))
   ·exact sd true (λ_=>(c2 rfl).imp (cn.nw_le s9) λh=>⟨h.1,Int.ofNat_le.mp h.2.1,h.2.2⟩) tF
   ·rw[List.length_append];exact κ
 ·rintro a N ⟨al,fs,ke,cur,nw,lb,O,w,Y,fl,_⟩
  rw[List.drop_length]at w
  exact k a.2 al fs ke cur nw lb O _ _ _ _ N w Y fl
end
section
variable {ext:bj} {σ Z:Hp}
theorem ty{n B:Nat}{unit:Int}{c:Cm}{A:Addr}{ts:List AV}{Q:PX}(h:Fb σ c A ts)(s9:B<10)(q:∀gA t dl al I Z,My σ Z c A gA ts t B unit dl al I->Q (.ref gA) Z):
  cB ext (n+7) (F.fa 81) [.ref c.adr,.ref A,.int B,.int unit] σ Q:=by
 have Y:=h.hc
 refine aB (l:=[.ref c.adr,.ref A,.int B,.int unit,.undef,.undef,.undef,.undef,.undef,.undef,.undef,.undef,.undef,.undef]) ML rfl rfl ?_;show Go _ Kh _ _ _;delta Kh
 refine bB (λ_:Unit=>[.ref c.adr,.ref A,.int B,.int unit,.undef,.undef,.undef,.undef,.undef,.undef,.undef,.undef,.undef,.undef]) (λ_ D=>D=σ) (λR ih=>?_) ?_
 ·refine ku (bz (kX (aV (by left) Y rfl rfl (by left) (sS Y h.hC h.ok λb hb=>dK (jv (λx=>bz (hF (wO (bR (by left))) (jv (λy=>da (eJ ?_)) λy=>df (ak (bk (ih () _ rfl)))))) λx=>df (ak (bk (ih () _ rfl))))))))
  obtain⟨e0,e1⟩:=hb x
  obtain⟨f,hf⟩:∃f,c.in0=[f]:=List.length_eq_one_iff.mp e0
  exact yR h hf e1 λgA t dl al I Z l k=>M6 (cU (Wk.refl _) (q _ _ _ _ _ _ k))
 ·rintro _ D rfl
  refine az (a8 aQ rfl λr0 γ=>az (a8 aQ rfl λg0 K=>?_))
  have G:=(aK.new (c:=(false,.list [])) γ).trans (aK.new (c:=(false,.list [])) K)
  have sg:=(aK.new (c:=(false,.list [])) γ).nn K
  refine y0 h G (ag K ab) ab sg λxA v4 v7 θ m1 hg m=>?_
  obtain⟨fx,m⟩:=m
  have ng:∀{a d},D a=some d->a∉[g0]:=λe=>di (af e sg)
  have z1:=G.fz.trans (i8 m1 ab)
  have ζ:=m1 _ _ (ng Y) (G _ _ Y)
  have O:j8 θ c.E:=⟨z1 _ _ h.hE.e,m1 _ _ (ng h.hE.d) (G _ _ h.hE.d),m1 _ _ (ng h.hE.a) (G _ _ h.hE.a),⟨_,m1 _ _ (ng h.hE.c.choose_spec) (G _ _ h.hE.c.choose_spec)⟩,λp hp=>z1 _ _ (h.hE.dt p hp),λp hp=>⟨z1 _ _ (h.hE.at' p hp).1,z1 _ _ (h.hE.at' p hp).2⟩⟩
  refine dL (aV (by left) ζ rfl rfl (by left) (vK ζ (h.hC.fz z1) h.ok O h.ed (h.d (i:=4) (j:=5) rfl rfl (by decide)) (h.d (i:=4) (j:=3) rfl rfl (by decide)) λdl u dp m2 ε=>?_))
  have z2:=z1.trans (i8 m2 O.d)
  have st:∀{a d},D a=some d->a≠c.E.dlA->u a=some d:=λe n=>m2 _ _ (di n) (m1 _ _ (ng e) (G _ _ e))
  refine az (fR (by left) rfl λsv s=>xN (wu (az (a8 aQ rfl λk0 v=>?_))))
  have x2:=(aK.new (c:=(false,vT c.adr B none qK false)) s).trans (aK.new (c:=(false,.list [])) v)
  have sx:u xA=some (fx,.list (((c.in0++c.in1).flatMap FM.rows).map cV)):=m2 _ _ (di ?_) m
  have z3:=z2.trans x2.fz
  have δ:gh D ((c.in0++c.in1).flatMap FM.rows):=λr o=>by
   obtain⟨f,hf,o⟩:=iW o
   exact(h.it f hf).1.choose_spec.2.2 r o
  refine mK (mJ (aj (aS (by left) (aD (oW (x2 _ _ sx) (δ.fz z3) h.ne h.ln h.ns λy U hy pz so=>?_)))))
  ·have N:=x2.trans (aK.new (c:=(false,.list (U.map cV))) hy)
   have z4:=z2.trans N.fz
   have c1:=st Y (h.d (i:=4) (j:=1) rfl rfl (by decide))
   have c2:=st h.hp (h.d (i:=4) (j:=2) rfl rfl (by decide))
   have c0:=st h.ht (h.d (i:=4) (j:=0) rfl rfl (by decide))
   have c3:=st h.hE.c.choose_spec (h.d (i:=4) (j:=3) rfl rfl (by decide))
   have c5:=st h.hE.a (h.d (i:=4) (j:=5) rfl rfl (by decide))
   have nv:∀x∈[A,c.adr,c.pl,c.E.cp,c.E.dlA,c.E.alA],∀r,u r=none->x≠r:=λx m r o=>by
    rcases au m with rfl|m
    ·exact af c0 o
    rcases au m with rfl|m
    ·exact af c1 o
    rcases au m with rfl|m
    ·exact af c2 o
    rcases au m with rfl|m
    ·exact af c3 o
    rcases au m with rfl|m
    ·exact af ε.d o
    ·rw[aw m];exact af c5 o
   have W:=(aK.new (c:=(false,vT c.adr B none qK false)) s).nn v
   have b:Cb (upd (upd (upd u sv (false,vT c.adr B none qK false)) k0 (false,.list [])) y (false,.list (U.map cV))) c A sv k0 ts B dl:=by
    refine⟨h.hC.fz z4,h.ok,?_,⟨Mo.refl _ _,⟨_,_,_,N _ _ c1⟩,N _ _ c2,ag hy (ag v ab),h.d (i:=2) (j:=1) rfl rfl (by decide),af c1 s,af c2 s⟩,N _ _ c0,h.tl,ag hy ab,?_⟩
    ·show j8 _ {c.E with dl:=dl,al:=[]}
     rw[←h.ea];exact ε.up N
    ·refine iu (iu h.nd λx m=>nv x m sv s) λx m=>?_
     rcases aE m with m|m
     ·exact nv x m k0 W
     ·rw[aw m];exact af ab v
   have y2:=x2.nn hy
   have mS:Mo [c.adr,c.pl,A,c.E.dlA,c.E.alA] D u:=(G.mo.step m1 λx m=>by rw[aw m];exact .inr sg).trans (m2.sub λx m=>by rw[aw m];exact .tail _ (.tail _ (.tail _ (.head _))))
   have nS:∀r,u r=none->D r=none:=λr o=>mS.nn o λV=>nv r (by
    rcases au V with rfl|V
    ·exact .tail _ (.head _)
    rcases au V with rfl|V
    ·exact .tail _ (.tail _ (.head _))
    rcases au V with rfl|V
    ·exact .head _
    ·exact .tail _ (.tail _ (.tail _ (.tail _ V)))) r o rfl
   have gd:g0≠c.E.dlA:=Ne.symm (af h.hE.d sg)
   have κ:=N _ _ (m2 _ _ (di gd) hg)
   have fin:∀(al:List (Addr×Nat×FM)) (fs:List FM) (J:Option Nat) (nw:Int) (lb:Nat) (t:List AV) Z,Cw _ Z c A sv k0 ts B unit dl [] U al fs [] J nw lb t->Q (.ref g0) Z:=λal fs J nw lb t Z w=>by
    obtain⟨_,_,w1,_⟩:=w.hs
    refine q g0 t dl al _ Z ⟨(mS.trans N.mo).step w.mo λx m=>?_,w.hE,w1.cc,w.ht,⟨false,w.mo _ _ ?_ κ⟩,.inr ⟨rfl,dp,fs,U,w.ea,pz,so,w.sf,w.nm,w.tl,w.tp,w.it⟩⟩
    ·rcases au m with rfl|m
     ·exact .inl (.head _)
     rcases au m with rfl|m
     ·exact .inl (.tail _ (.head _))
     rcases au m with rfl|m
     ·exact .inr (nS _ s)
     rcases au m with rfl|m
     ·exact .inl (.tail _ (.tail _ (.head _)))
     rcases au m with rfl|m
     ·exact .inl (.tail _ (.tail _ (.tail _ (.tail _ (.head _)))))
     ·rw[aw m];exact .inr (nS _ W)
    ·have e (x:Addr) {d:Bool×AO} (m:D x=some d):g0≠x:=Ne.symm (af m sg)
     have η:=m2 _ _ (di gd) hg
     exact a7 (e _ Y) (a7 (e _ h.hp) (a7 (af η s) (a7 (e _ h.ht) (a7 (e _ h.hE.a) (di (af η W))))))
   have yn:y∉[c.adr,c.pl,sv,A,c.E.alA,k0]:=by
    have e {x:Addr} (m:x∈[A,c.adr,c.pl,c.E.cp,c.E.dlA,c.E.alA]):y≠x:=Ne.symm (nv x m y y2)
    exact a7 (e (.tail _ (.head _))) (a7 (e (.tail _ (.tail _ (.head _)))) (a7 (Ne.symm (af (ag v ab) hy)) (a7 (e (.head _)) (a7 (e (.tail _ (.tail _ (.tail _ (.tail _ (.tail _ (.head _))))))) (di (Ne.symm (af ab hy)))))))
   have β:∀r∈U,r.ok:=λr o=>by
    obtain⟨f,hf,o⟩:=iW (pz.subset o)
    exact(h.it f hf).2 r o
   have rz:gh D U:=λr o=>δ r (pz.subset o)
   have ln:U.length<=60:=by rw[pz.length_eq];exact h.ln
   refine yY b ab yn so (rz.fz z4) β ln s9 λkA al fs ke J nw lb t v1 v2 v3 v4 Z w kn fl=>?_
   have k1:=kn.1
   have kl:=Nat.le_trans ((List.sublist_append_right _ _).trans w.sf.kk).length_le ln
   have μ:=aO (g:=cV) (bh kl rfl)
   refine dX (by left) (λx=>?_) λx=>?_
   ·have ne:ke≠[]:=λe=>by rw[e]at x;exact absurd x (by decide)
    obtain⟨_,_,w1,_⟩:=w.hs
    obtain⟨_,_,_,π⟩:=w1.cc
    have w0:=w.hE.e
    refine dL (aW (by left) (w.put b kn ne (λ_ _ _=>nM) (λr o=>(w.z b) _ _ ((rz.fz z4) r o)) β ln (Nat.le_trans fl ln) λξ f ρ ν w' _=>?_))
    exact ak (cq (fN (by left) (cU (Wk.refl _) (fin _ _ _ _ _ _ _ w'))))
   ·have e:ke=[]:=by cases ke with|nil=>rfl|cons a l=>exact absurd (by rw[List.length_map];exact dF (Nat.succ_pos _)) x
    subst e
    exact ak (cq (fN (by left) (cU (Wk.refl _) (fin _ _ _ _ _ _ _ w))))
  ·intro e
   rw[e,O.d,h.ed]at m
   have:=(Prod.mk.inj (Option.some.inj m)).2
   exact h.ne (List.map_eq_nil_iff.mp (AO.list.inj this).symm)
end
section
section
variable {cal:bj} {l:aG} {σ:Hp} {K:PX} {B:Type}
def Ce(cal:bj)(t:Nat)(f:CS)(e:X)(l:aG)(ok:Hp->Prop)(v:AV)(d:Hp)(P:Option AV->Hp->Prop):Prop:=
 DH cal f (l.set t v) d λb a=>(b=true->Gx cal e (l.set t v) a λy c=>ok c/\P (some y) c)/\(b=false->ok a/\P none a)
def rQ(cal:bj)(t:Nat)(f:CS)(e:X)(l:aG)(K:PX)(a:AV)(σ:Hp):Prop:=kH a λr=>cL (σ r) λd=>d.length<=line/\jx (Ce cal t f e l (vF r d)) d [] σ λg b=>∀c,b c=none->K (.ref c) (upd b c (false,.list g))
theorem jV{t:Nat}{d e:X}{c:CS}(h:Gx cal d l σ λa b=>rQ cal t c e l K a b):Gx cal (.comp t d c e) l σ K:=by with_unfolding_all exact h
def xj(cal:bj)(t:Nat)(g:CS)(e:X)(l:aG)(K:PX)(a b:AV)(σ:Hp):Prop:=bU a λlo=>bU b λf=>(0<=lo/\lo<=line/\0<=f/\f<=line)/\jx (Ce cal t g e l λ_=>True) ((aM lo f).map .int) [] σ λh d=>∀c,d c=none->K (.ref c) (upd d c (false,.list h))
theorem uc{t:Nat}{lo hi e:X}{f:CS}(h:Gx cal lo l σ λa d=>Gx cal hi l d λb c=>xj cal t f e l K a b c):Gx cal (.compR t lo hi f e) l σ K:=by with_unfolding_all exact h
theorem jp{t:Nat}{o:CS}{e:X}{ok:Hp->Prop}{g:B->AV}{bs:List B}{F:List AV->Hp->Prop}(P:List B->List AV->Hp->Prop)(m:∀j a k,P j a k->ok k)
  (step:∀c f j a k (R:List AV->Hp->Prop),bs=c++f::j->P c a k->(∀i d,P (c++[f]) i d->R i d)->DH cal o (l.set t (g f)) k λb d=>(b=true->Gx cal e (l.set t (g f)) d λy n=>R (a++[y]) n)/\(b=false->R a d))
  (done:∀a k,P bs a k->F a k):
  ∀j c a σ,bs=c++j->P c a σ->jx (Ce cal t o e l ok) (j.map g) a σ F
 |[],c,a,σ,e,h=>done a σ (by rw[e,List.append_nil];exact h)
 |f::j,c,a,σ,q,h=>by
  have:=step c f j a σ (λi d=>ok d/\jx (Ce cal t o e l ok) (j.map g) i d F) q h λi d p=>⟨m _ _ _ p,jp P m step done j (c++[f]) i d (by rw[q,List.append_assoc];rfl) p⟩
  exact this
theorem pH{t:Nat}{o:CS}{e:X}{g:B->AV}{r:Addr}{fz:Bool}(bs:List B)(P:List B->List AV->Hp->Prop)(h:σ r=some (fz,.list (bs.map g)))(len:bs.length<=9000)(n:∀m a i,P m a i->vF r (bs.map g) i)(p:P [] [] σ)
  (step:∀pre f m a i (R:List AV->Hp->Prop),bs=pre++f::m->P pre a i->(∀j d,P (pre++[f]) j d->R j d)->DH cal o (l.set t (g f)) i λb d=>(b=true->Gx cal e (l.set t (g f)) d λy k=>R (a++[y]) k)/\(b=false->R a d))
  (done:∀a i,P bs a i->∀c,i c=none->K (.ref c) (upd i c (false,.list a))):rQ cal t o e l K (.ref r) σ:=by
 exact eT h ⟨bN (by rw[List.length_map];exact len),jp P n step done bs [] [] σ rfl p⟩
theorem DL{t:Nat}{c:C}{e:X}{g v:B->AV}{r:Addr}{fz:Bool}(bs:List B)(p:B->Bool)(h:σ r=some (fz,.list (bs.map g)))(len:bs.length<=9000)(n:∀f∈bs,Pc (l.set t (g f)) σ c (p f))(m:∀f∈bs,p f=true->Pe (l.set t (g f)) σ e (v f))
  (k:∀x,σ x=none->K (.ref x) (upd σ x (false,.list ((bs.filter p).map v)))):rQ cal t (.cons c .nil) e l K (.ref r) σ:=by
 refine pH bs (λb a d=>d=σ/\a=(b.filter p).map v) h len (λ_ _ d q=>q.1▸⟨_,h⟩) ⟨rfl,rfl⟩ ?_ λa d q=>by rw[q.1,q.2];exact k
 rintro b f o a d R e ⟨rfl,rfl⟩ j
 have i:=aP e
 refine bz ((n f i).run _ _ (jv (λx=>da (eJ ((m f i x).run _ _ (j _ _ ⟨rfl,?_⟩)))) λx=>df (j _ _ ⟨rfl,?_⟩)))
 ·rw[List.filter_append,List.filter_cons,if_pos x,List.map_append];rfl
 ·rw[List.filter_append,List.filter_cons,if_neg (by rw[x];exact fT)];exact(congrArg (List.map v) (List.append_nil _)).symm
theorem zt{t:Nat}{e:X}{g v:B->AV}{r:Addr}{fz:Bool}(bs:List B)(h:σ r=some (fz,.list (bs.map g)))(len:bs.length<=9000)(d:∀f∈bs,Pe (l.set t (g f)) σ e (v f))
  (k:∀x,σ x=none->K (.ref x) (upd σ x (false,.list (bs.map v)))):rQ cal t .nil e l K (.ref r) σ:=by
 refine pH bs (λb a c=>c=σ/\a=b.map v) h len (λ_ _ c q=>q.1▸⟨_,h⟩) ⟨rfl,rfl⟩ ?_ λa c q=>by rw[q.1,q.2];exact k
 rintro b f j a c R e ⟨rfl,rfl⟩ i
 exact da (eJ ((d f (aP e)).run _ _ (i _ _ ⟨rfl,aY.symm⟩)))
theorem Br{t:Nat}{c:C}{e:X}{lo hi:Int}{v:Int->AV}(p:Int->Bool)(d:0<=lo/\lo<=9000/\0<=hi/\hi<=9000)(o:∀i∈aM lo hi,Pc (l.set t (.int i)) σ c (p i))(n:∀i∈aM lo hi,p i=true->Pe (l.set t (.int i)) σ e (v i))
  (k:∀x,σ x=none->K (.ref x) (upd σ x (false,.list (((aM lo hi).filter p).map v)))):xj cal t (.cons c .nil) e l K (.int lo) (.int hi) σ:=by
 refine⟨⟨d.1,by have:=bI;exact y2 [_,_] J0 0 1 (-1) jJ uv rfl d.2.1 (ce this),d.2.2.1,by have:=bI;exact y2 [_,_] J0 0 1 (-1) jJ uv rfl d.2.2.2 (ce this)⟩,?_⟩
 refine jp (g:=AV.int) (bs:=aM lo hi) (λb a h=>h=σ/\a=(b.filter p).map v) (λ_ _ _ _=>trivial) ?_ (λa h q=>by rw[q.1,q.2];exact k) _ [] [] σ rfl ⟨rfl,rfl⟩
 rintro b f r a h R e ⟨rfl,rfl⟩ m
 have j:=aP e
 refine bz ((o f j).run _ _ (jv (λx=>da (eJ ((n f j x).run _ _ (m _ _ ⟨rfl,?_⟩)))) λx=>df (m _ _ ⟨rfl,?_⟩)))
 ·rw[List.filter_append,List.filter_cons,if_pos x,List.map_append];rfl
 ·rw[List.filter_append,List.filter_cons,if_neg (by rw[x];exact fT)];exact(congrArg (List.map v) (List.append_nil _)).symm
theorem AX{t:Nat}{e:X}{lo hi:Int}{v:Int->AV}(c:0<=lo/\lo<=9000/\0<=hi/\hi<=9000)(h:∀i∈aM lo hi,Pe (l.set t (.int i)) σ e (v i))
  (k:∀x,σ x=none->K (.ref x) (upd σ x (false,.list ((aM lo hi).map v)))):xj cal t .nil e l K (.int lo) (.int hi) σ:=by
 refine⟨⟨c.1,by have:=bI;exact y2 [_,_] J0 0 1 (-1) jJ uv rfl c.2.1 (ce this),c.2.2.1,by have:=bI;exact y2 [_,_] J0 0 1 (-1) jJ uv rfl c.2.2.2 (ce this)⟩,?_⟩
 refine jp (g:=AV.int) (bs:=aM lo hi) (λb a d=>d=σ/\a=b.map v) (λ_ _ _ _=>trivial) ?_ (λa d q=>by rw[q.1,q.2];exact k) _ [] [] σ rfl ⟨rfl,rfl⟩
 rintro b f m a d R e ⟨rfl,rfl⟩ j
 exact da (eJ ((h f (aP e)).run _ _ (j _ _ ⟨rfl,aY.symm⟩)))
end
end
section
variable {ext:bj} {σ Z:Hp}
theorem Mo.exx{S:List Addr}{b:Hp}(m:Mo S b Z)(x:aK σ b)(n:∀a∈S,σ a=none):aK σ Z:=λa d e=>m a d (λh=>by rw[n a h]at e;cases e) (x a d e)
theorem dE{x y:Int}{v:AV}{es:List (Int×AV)}:bE (d6 x v es) y=if y=x then some v else bE es y:=by
 unfold d6
 by_cases h:es.any (λe=>decide (e.1=x))=true
 ·rw[if_pos h]
  induction es with
  |nil=>cases h
  |cons e r d=>
   by_cases b:e.1=x
   ·by_cases c:y=x
    ·rw[if_pos c];unfold bE;rw[List.map_cons,if_pos b,List.find?_cons,show decide (e.1=y)=true from decide_eq_true (b.trans c.symm)];rfl
    ·rw[if_neg c]
     have n1:decide (e.1=y)=false:=decide_eq_false λz=>c (z.symm.trans b)
     have f:∀l:List (Int×AV),bE (l.map λe=>if e.1=x then(e.1,v) else e) y=bE l y:=λl=>by
      induction l with
      |nil=>rfl
      |cons a l d=>
       unfold bE at d ⊢
       rw[List.map_cons,List.find?_cons,List.find?_cons]
       by_cases i:a.1=x
       ·rw[if_pos i,show decide (a.1=y)=false from decide_eq_false λz=>c (z.symm.trans i)];exact d
       ·rw[if_neg i];cases decide (a.1=y)<;>first|rfl|exact d
     exact f (e::r)
   ·have j:r.any (λe=>decide (e.1=x))=true:=by rw[List.any_cons,decide_eq_false b]at h;exact h
    have:=d j
    unfold bE at this ⊢
    rw[List.map_cons,if_neg b,List.find?_cons,List.find?_cons]
    by_cases g:e.1=y
    ·rw[decide_eq_true g,if_neg λz=>b (g.trans z)]
    ·rw[decide_eq_false g];exact this
 ·rw[if_neg h]
  unfold bE
  rw[List.find?_append]
  cases e:es.find? (λe=>decide (e.1=y))with
  |some p=>
   have k:p.1=y:=of_decide_eq_true (List.find?_some (p:=λe:Int×AV=>decide (e.1=y)) e)
   rw[if_neg λz=>h (List.any_eq_true.mpr ⟨p,List.mem_of_find?_eq_some e,decide_eq_true (k.trans z)⟩)];rfl
  |none=>
   rw[Option.none_or,List.find?_cons]
   by_cases z:y=x
   ·rw[if_pos z,show decide (x=y)=true from decide_eq_true z.symm];rfl
   ·rw[if_neg z,show decide (x=y)=false from decide_eq_false λw=>z w.symm];rfl
theorem qV:∀{rs c:List Rw},rs.map cV=c.map cV->gh σ rs->gh σ c->rs=c
 |[],[],_,_,_=>rfl
 |[],_::_,h,_,_=>nomatch h
 |_::_,[],h,_,_=>nomatch h
 |r::rs,q::c,h,g,f=>by
  obtain⟨l,j⟩:=List.cons.inj h
  have a:=AV.ref.inj l
  have e:=g r (.head _)
  have i:=f q (.head _)
  unfold EK at e i
  rw[a,i]at e
  have b:=AO.tup.inj (Prod.mk.inj (Option.some.inj e)).2
  obtain⟨f1,b⟩:=List.cons.inj b
  obtain⟨f2,b⟩:=List.cons.inj b
  obtain⟨k,_⟩:=List.cons.inj b
  rw[qV j (λx d=>g x (.tail _ d)) λx d=>f x (.tail _ d)]
  cases r;cases q
  cases a
  cases cW (AV.int.inj f1)
  cases cW (Int.neg_inj.mp (AV.int.inj f2))
  cases cW (AV.int.inj k)
  rfl
theorem kQ.rows{ts:List AV}{f g:FM}(h:kQ σ ts f)(k:kQ σ ts g)(e:f.num=g.num):f.rows=g.rows:=by
 obtain⟨a,c,i,d⟩:=h
 obtain⟨b,b1,b2,j⟩:=k
 rw[e,b1]at c
 cases c
 rw[i]at b2
 exact qV (AO.list.inj (Prod.mk.inj (Option.some.inj b2)).2) d j
noncomputable def fV:Option Rw->AV
 |some r=>if r.k=0 then .none else .bytes [UInt8.ofNat r.s]
 |none=>.none
theorem Bb(o:Option Rw):∃b k v,ES o=[.bool b,.int k,.bytes v]/\((b&&decide (k=1))=true->fV o=.bytes v)/\((b&&decide (k=1))=false->fV o=.none):=by
 cases o with
 |none=>exact⟨_,_,_,rfl,fT,λ_=>rfl⟩
 |some r=>
  unfold ES fV
  dsimp only
  by_cases a:r.k=0
  ·rw[if_pos a,if_pos a];exact⟨_,_,_,rfl,fT,λ_=>rfl⟩
  ·rw[if_neg a,if_neg a];exact⟨_,_,_,rfl,λ_=>rfl,tF⟩
theorem F8:∀s:Nat,s<10->EM [.int (0- -(s:Int))]=some [UInt8.ofNat s]:=by decide+kernel
theorem FC{u s a b:Nat}:decide ((u:Int)<a∨((u:Int)=a/\0-(s:Int)<= -(b:Int)))=decide (u<a∨(u=a/\b<=s)):=decide_eq_decide.mpr (by exact or_congr Int.ofNat_lt (and_congr Int.ofNat_inj (by rw[Int.zero_sub];exact Int.neg_le_neg_iff.trans Int.ofNat_le)))
structure Tc(σ0 Z:Hp)(d:Addr)(V:bp)(u s:Nat)(pre:List Int)(es:List (Int×AV)):Prop where
 mo:Mo [d] σ0 Z
 hd:Z d=some (false,.dict es)
 el:es.length<=2*pre.length
 no:∀L∈V.lv,∀f∈L.fs,(f.num:Int)∈pre->ah u s f=none->bE es f.num=some .none
 yes:∀L∈V.lv,∀f∈L.fs,(f.num:Int)∈pre->∀r,ah u s f=some r->∃e,bE es f.num=some (.ref e)/\Z e=some (true,.tup [.bytes r.b,.bytes [UInt8.ofNat r.s]])
theorem B2{n u s:Nat}{V:bp}{tA:Addr}{fz:Bool}{ts:List AV}{Q:PX}(hV:dN true σ V)(vr:Ah V)(hu:u<4)(hs:s<10)(ht:σ tA=some (fz,.list ts))(tl:ts.length<=9000)(it:∀L∈V.lv,∀f∈L.fs,kQ σ ts f)(ok:∀L∈V.lv,∀f∈L.fs,∀r∈f.rows,r.ok)(rl:∀L∈V.lv,∀f∈L.fs,f.rows.length<=60)(q:Q (fV (look u s (fF u s V.lv))) σ):
  cB ext (n+8) (F.fa 82) [.ref V.adr,.ref tA,.int u,.int s] σ Q:=by
 have v1:=hV.v
 refine aB (l:=[.ref V.adr,.ref tA,.int u,.int s,.undef,.undef,.undef,.undef,.undef,.undef,.undef,.undef,.undef,.undef,.undef]) Ly rfl rfl ?_;show Go _ KA _ _ _;delta KA
 refine az (yg λd hd=>mK (aV (by left) (ag hd v1) rfl rfl (by left) (ip (hV.up (aK.new hd)) vr.sm λns nA p1 p2 hn=>?_)))
 have x0:=(aK.new (c:=(false,.dict [])) hd).trans (aK.new (c:=(true,.list (ns.map .int))) hn)
 have nl:ns.length<=60:=by rw[p1.length_eq,eH];exact vr.sm.f
 have G:upd (upd σ d (false,.dict [])) nA (true,.list (ns.map .int)) d=some (false,.dict []):=ag hn ab
 generalize W:upd (upd σ d (false,.dict [])) nA (true,.list (ns.map .int))=β at x0 G
 have ε:β nA=some (true,.list (ns.map .int)):=W▸ab
 clear W
 refine eP ns AV.int (λa:AV×AV=>[.ref V.adr,.ref tA,.int u,.int s,.ref d,a.1,a.2,.undef,.undef,.undef,.undef,.undef,.undef,.undef,.undef])
  (λj a Z=>∃m,Tc β Z d V u s j m) (.undef,.undef) rfl ε (bh nl rfl) (λus a Z ⟨m,h⟩=>⟨_,(i8 h.mo G) _ _ ε⟩) ⟨[],Mo.refl _ _,G,Nat.le_refl _,λ_ _ _ _ h=>nM h,λ_ _ _ _ h=>nM h⟩ ?_ ?_
 ·rintro j nn us ⟨a5,a6⟩ Z R e ⟨m,h⟩ ih
  obtain⟨L,A,K⟩:=iW (p1.subset (aP e))
  obtain⟨f,fm,rfl⟩:=bw K
  have z:Fz σ Z:=x0.fz.trans (i8 h.mo G)
  obtain⟨ta,t1,t2,t3⟩:=(it L A f fm).fz z
  have dt:tA≠d:=af ht hd
  have ht':=h.mo _ _ (di dt) (x0 _ _ ht)
  have ti:on ts (f.num:Int)=some (.ref ta):=t1
  have I:=h.hd
  have pl:j.length+1<=60:=by have:=congrArg List.length e;rw[List.length_append,List.length_cons]at this;exact m2 [_,_,_] GK 0 1 (-1) yD D8 rfl nl this
  have el:=h.el
  have dta:ta≠d:=λx=>by rw[x,I]at t2;cases t2
  refine mY (dC (iK (aS (by left) (aS (by left) (Bp I (by exact m2 [_,_] jJ 0 2 1 G5 Ie rfl pl el) ?_)))))
  have ψ:=ab (σ:=Z) (a:=d) (c:=(false,.dict (d6 f.num .none m)))
  have ξ:=cP (c:=(false,.dict (d6 f.num .none m))) I t2
  have ρ:=aq (c:=(false,.dict (d6 f.num .none m))) dt ht'
  have φ:gh _ f.rows:=t3.fz (Fz.mut (c:=(false,.dict (d6 f.num .none m))) I)
  refine az (jV (aS (kx (by left) (by left) ρ tl ti) (pH f.rows (λj Y N=>aK (upd Z d (false,.dict (d6 f.num .none m))) N/\Y=(j.filter λr=>decide (u<r.u∨(u=r.u/\r.s<=s))).map cV) ξ (bh (rl L A f fm) rfl) (λ_ _ N p=>⟨_,p.1 _ _ ξ⟩) ⟨aK.refl _,rfl⟩ ?_ ?_)))
  ·rintro pre' r us' Y N R' e' ⟨U,rfl⟩ η
   have rm:=aP e'
   have B:=U.fz _ _ (φ r rm)
   refine bz (kX (cG (fu (by left) rfl λc1 h1=>fu (by left) rfl λc2 h2=>Ho (ag h2 ab) ab (dK ?_))))
   rw[FC]
   have xx:=(U.trans (aK.new (c:=(true,.tup [.int r.u,.int (-(r.s:Int))])) h1)).trans (aK.new (c:=(true,.tup [.int u,.int (0-(s:Int))])) h2)
   refine jv (λy=>da (eJ (aS (by left) (η _ _ ⟨xx,?_⟩)))) λy=>df (η _ _ ⟨xx,?_⟩)
   ·rw[List.filter_append,List.filter_cons,if_pos y,List.map_append];rfl
   ·rw[List.filter_append,List.filter_cons,if_neg (by rw[y];exact fT)];exact(congrArg (List.map cV) (List.append_nil _).symm)
  ·rintro Y N ⟨U,rfl⟩ c hc
   have fh:(f.rows.filter λr=>decide (u<r.u∨(u=r.u/\r.s<=s))).head?=ah u s f:=List.head?_filter ..
   have mq:Mo [d] β (upd N c (false,.list ((f.rows.filter λr=>decide (u<r.u∨(u=r.u/\r.s<=s))).map cV))):=((h.mo.mut (.head _)).trans U.mo).new hc
   have zq:Fz Z (upd N c (false,.list ((f.rows.filter λr=>decide (u<r.u∨(u=r.u/\r.s<=s))).map cV))):=((Fz.mut I).trans U.fz).trans (Fz.new hc)
   have J:=ag (c:=(false,.list ((f.rows.filter λr=>decide (u<r.u∨(u=r.u/\r.s<=s))).map cV))) hc (U _ _ ψ)
   have κ:=ab (σ:=N) (a:=c) (c:=(false,.list ((f.rows.filter λr=>decide (u<r.u∨(u=r.u/\r.s<=s))).map cV)))
   have same:∀M∈V.lv,∀g∈M.fs,g.num=f.num->ah u s g=ah u s f:=λM D g E e=>by unfold ah;rw[((it M D g E).fz z).rows ⟨ta,t1,t2,t3⟩ e]
   have pm:∀{x:Nat},(x:Int)∈j++[(f.num:Int)]->x≠f.num->(x:Int)∈j:=λo n=>(aE o).elim id λo=>(n (cW (aw o))).elim
   have γ:=nR (x:=(f.num:Int)) (v:=.none) (es:=m)
   have O:∀r∈(f.rows.filter λr=>decide (u<r.u∨(u=r.u/\r.s<=s))),r∈f.rows:=λr B=>(fH B).1
   have ν:=Nat.le_trans (List.length_filter_le (λr=>decide (u<r.u∨(u=r.u/\r.s<=s))) f.rows) (rl L A f fm)
   generalize (f.rows.filter λr=>decide (u<r.u∨(u=r.u/\r.s<=s)))=fl at fh mq zq J κ O ν
   generalize upd N c (false,.list (fl.map cV))=ω at mq zq J κ
   have ll:=aO (g:=cV) (bh ν rfl)
   cases fl with
   |nil=>
    refine Ba (bR (by left)) (ak (cq (ak (aR (ih (.int f.num,.ref c) ω ⟨_,mq,J,by rw[List.length_append,List.length_singleton];exact n2 [_,_,_] Dr E7 Im rfl el γ,λM D g E o _=>?_,λM D g E o r B=>?_⟩)))))
    ·rw[dE]
     by_cases i:(g.num:Int)=f.num
     ·rw[if_pos i]
     ·rw[if_neg i];exact h.no M D g E (pm o λe=>i (congrArg _ e)) ‹_›
    ·by_cases i:(g.num:Int)=f.num
     ·rw[same M D g E (cW i),←fh]at B;cases B
     ·obtain⟨e2,y1,y2⟩:=h.yes M D g E (pm o λe=>i (congrArg _ e)) r B
      exact⟨e2,by rw[dE,if_neg i];exact y1,zq _ _ y2⟩
   |cons r fl=>
    have rm:=O r (.head _)
    have B:=zq _ _ (t3 r rm)
    have δ:=ok L A f fm r rm
    have e0:on ((r::fl).map cV) 0=some (cV r):=rfl
    have hr':=B
    unfold EK at hr'
    have χ:=λe=>nR (x:=(f.num:Int)) (v:=.ref e) (es:=d6 f.num .none m)
    refine dX (by left) (λ_=>?_) λn=>(n (dF (Nat.succ_pos _))).elim
    refine dC (oP (aj (aW (by left) (lN B δ (aj (mJ (aj (a8 (by left) rfl λw hw=>aD (lQ ab (Nat.le_of_ble_eq_true rfl) (F8 _ δ.s) (aD (oG rfl λx o=>aS (by left) (aS (by left) ?_))))))))))))
    have μ:=ag (c:=(true,.tup [.bytes r.b,.bytes [UInt8.ofNat r.s]])) o (ag (c:=(false,.list [.int (0- -(r.s:Int))])) hw J)
    have z2:=((Fz.new (c:=(false,.list [.int (0- -(r.s:Int))])) hw).trans (Fz.new (c:=(true,.tup [.bytes r.b,.bytes [UInt8.ofNat r.s]])) o)).trans (Fz.mut (c:=(false,.dict (d6 f.num (.ref x) (d6 f.num .none m)))) μ)
    refine Bp μ (by exact m3 [_,_,_] jJ 0 2 1 1 G5 E7 Im rfl pl el γ) (ak (cq (ak (aR (ih (.int f.num,.ref c) _ ⟨_,((mq.new hw).new o).mut (.head _),ab,by have:=χ x;rw[List.length_append,List.length_singleton];exact n3 [_,_,_,_] Dr E7 (.le (.v 3) (.a (.v 2) (.n 1))) HI rfl el γ this,λM D g E o _=>?_,λM D g E π r' B=>?_⟩)))))
    ·rw[dE,dE]
     by_cases i:(g.num:Int)=f.num
     ·rename_i h0
      rw[same M D g E (cW i),←fh]at h0;cases h0
     ·rw[if_neg i,if_neg i];exact h.no M D g E (pm o λe=>i (congrArg _ e)) ‹_›
    ·by_cases i:(g.num:Int)=f.num
     ·rw[same M D g E (cW i),←fh]at B
      cases B
      exact⟨x,by rw[dE,if_pos i],cP (ag o (ag hw J)) ab⟩
     ·obtain⟨e2,y1,y2⟩:=h.yes M D g E (pm π λe=>i (congrArg _ e)) r' B
      exact⟨e2,by rw[dE,if_neg i,dE,if_neg i];exact y1,z2 _ _ (zq _ _ y2)⟩
 ·rintro⟨a5,a6⟩ Z ⟨m,h⟩
  have z:Fz σ Z:=x0.fz.trans (i8 h.mo G)
  have ζ:=hV.fz z
  have v1':=ζ.v
  have θ:∀L∈V.lv,∀f∈L.fs,(f.num:Int)∈ns:=λL A f K=>p1.symm.subset (List.mem_flatMap.mpr ⟨L,A,dg ⟨f,K,rfl⟩⟩)
  have ca:HE Z m V u s:=⟨λL A f K e=>h.no L A f K (θ L A f K) e,λL A f K r e=>⟨ok L A f K r (List.mem_of_find?_eq_some e),h.yes L A f K (θ L A f K) r e⟩⟩
  have el:=h.el
  have U:aK σ Z:=h.mo.exx x0 λa ha=>by rw[aw ha];exact hd
  refine th (fO (aS (by left) (fU v1' rfl rfl (aj (aS (by left) (aj (aW (by left) (jH hu (aj (aS (by left) (aD (EE ζ vr hu hs h.hd (by exact m2 [_,_] jJ 0 2 1 yD Ie rfl nl el) ca λt N x ht=>?_))))))))))))
  have xF:=(U.trans x).wk
  obtain⟨b,k,v,e,i,e2⟩:=Bb (look u s (fF u s V.lv))
  rw[e]at ht
  refine Bw ht (jd (by left) (λy=>fN (by left) (vA (cU xF (i y▸q)))) λy=>ak (cq (fN (by left) (cU xF (e2 y▸q)))))
end
section
variable {ext:bj} {σ τ:Hp}
structure Rd where
 adr:Addr
 V:bp
 s:Nat
 ma:Addr
 ms:List AV
noncomputable abbrev Rd.v(r:Rd):AV:=.ref r.adr
structure zV(σ:Hp)(ts:List AV)(r:Rd):Prop where
 t:σ r.adr=some (true,.tup [.ref r.V.adr,.int r.s,.ref r.ma])
 m:∃f,σ r.ma=some (f,.list r.ms)
 l:r.ms.length<=9000
 hV:dN true σ r.V
 vr:Ah r.V
 s9:r.s<10
 it:∀L∈r.V.lv,∀f∈L.fs,kQ σ ts f
 ok:∀L∈r.V.lv,∀f∈L.fs,∀r∈f.rows,r.ok
 rl:∀L∈r.V.lv,∀f∈L.fs,f.rows.length<=60
 told:∀u,u<4->r.ms[u]?=some (fV (look u r.s (fF u r.s r.V.lv)))
theorem Bg{o:Option Rw}{P:Bool->Prop}(h:P false):cmp .ne (fV o) (fV o) σ P:=by
 have b:∀v:List UInt8,cmp .ne (.bytes v) (.bytes v) σ P:=λv=>Ih (by rw[decide_eq_false λn=>n rfl];exact h)
 cases o with
 |none=>exact GB h
 |some r=>
  unfold fV
  dsimp only
  by_cases k:r.k=0
  ·rw[if_pos k];exact GB h
  ·rw[if_neg k];exact b _
theorem xB{n:Nat}{f c d:Addr}{f1 f2 E:Bool}{b:List Rd}{g:List Nat}{ts:List AV}{Q:PX}(o:σ f=some (f1,.list (b.map Rd.v)))(G:σ c=some (f2,.list ts))(p:σ d=some (E,.list (g.map A6)))(tl:ts.length<=9000)(w:b.length<=9000)(I:g.length<=9000)
  (B:∀u∈g,u<4) (ok:∀r∈b,zV σ ts r) (q:Q (.bool true) σ):cB ext (n+9) (F.fa 83) [.ref f,.ref c,.ref d] σ Q:=by
 refine aB (l:=[.ref f,.ref c,.ref d,.undef,.undef,.undef,.undef]) LS rfl rfl ?_;show Go _ K0 _ _ _;delta K0
 refine mK (aS (by left) (gB b Rd.v (λa:AV×AV×AV×AV=>[.ref f,.ref c,.ref d,a.1,a.2.1,a.2.2.1,a.2.2.2]) (λ_=>σ) (λ_ _=>True) (.undef,.undef,.undef,.undef) rfl rfl o w (λ_ _ _=>⟨_,o⟩) trivial ?_ ?_))
 ·rintro D r J ⟨U,Y,O,z⟩ R e-A
  have k:=ok r (aP e)
  obtain⟨N,K⟩:=k.m
  refine Bw k.t (mK (aS (by left) (gB g A6 (λa:AV=>[.ref f,.ref c,.ref d,.ref r.V.adr,.int r.s,.ref r.ma,a]) (λ_=>σ) (λ_ _=>True) z rfl rfl p I (λ_ _ _=>⟨_,p⟩) trivial ?_ ?_)))
  ·rintro i u j a W y-h
   have u4:=B u (aP y)
   have x:on r.ms u=some _:=k.told u u4
   have ml:=k.l
   refine mY (bK (kX (cG (aW (by left) (B2 k.hV k.vr u4 k.s9 G tl k.it k.ok k.rl (aS (kx (by left) (by left) K ml x) (Bg (dK (df (ak (cq (ak (aR (h (.int u) trivial))))))))))))))
  ·rintro a -
   exact ak (aR (A (_,_,_,_) trivial))
 ·rintro a -
  exact fN (by left) (ay q)
end
section
variable {ext:bj} {σ Z:Hp}
theorem Ep{a:Addr}{d:Bool×AO}(m:Mo [a] σ Z)(e:Z a=some d):Wk (upd σ a d) Z:=λb c g=>by
 by_cases x:b=a
 ·rw[x,ab]at g;rw[x];cases g;exact⟨_,e,rfl,id⟩
 ·rw[ac x]at g;exact⟨c,m b c (di x) g,rfl,id⟩
structure Kp where
 r:Rd
 na:Addr
 ns:List Int
noncomputable abbrev Kp.v(k:Kp):AV:=.ref k.r.adr
structure M5(σ:Hp)(k:Kp):Prop where
 t:σ k.r.adr=some (true,.tup [.ref k.r.V.adr,.int k.r.s,.ref k.r.ma,.ref k.na])
 n:∃f,σ k.na=some (f,.list (k.ns.map .int))
 l:k.ns.length<=60
theorem vP{n:Nat}{r D:Addr}{fk:Bool}{V:bp}{B:List Kp}{ts:List AV}{Q:PX}(hV:dN true σ V)(sm:qj V)(O:σ r=some (false,.list ts))(h2:σ D=some (fk,.list (B.map Kp.v)))(tl:ts.length<=9000)(kl:B.length<=100)(W:∀k∈B,M5 σ k)(n1:D≠r)(n2:∀k∈B,k.na≠r)
  (q:∀d:List AV,d.length=ts.length->(∀i:Nat,i=0∨(i:Int)∈nums V∨(∃k∈B,(i:Int)∈k.ns)->d[i]?=ts[i]?)->Q .none (upd σ r (false,.list d))):cB ext (n+2) (F.fa 84) [.ref r,.ref V.adr,.ref D] σ Q:=by
 have v1:=hV.v
 refine aB (l:=[.ref r,.ref V.adr,.ref D,.undef,.undef,.undef]) Nq rfl rfl ?_;show Go _ JJ _ _ _;delta JJ
 refine az (aV (by left) v1 rfl rfl (by left) (ip hV sm λns nA p1 _ Y=>?_))
 have x0:=aK.new (c:=(true,.list (ns.map .int))) Y
 have nl:ns.length<=60:=by rw[p1.length_eq,eH];exact sm.f
 refine mK (aS (by left) (eP B Kp.v (λa:Addr×AV=>[.ref r,.ref V.adr,.ref D,.ref a.1,a.2,.undef]) (λu a Z=>aK σ Z/\∃f g,Z a.1=some (f,.list (g.map .int))/\a.1≠r/\g.length<=60+60*u.length/\∀i,i∈nums V∨(∃k∈u,i∈k.ns)->i∈g) (nA,.undef) rfl (x0 _ _ h2) (bh kl rfl) (λ_ _ Z p=>⟨_,p.1 _ _ h2⟩)
  ⟨x0,_,ns,ab,Ne.symm (af O Y),nl,λi o=>o.elim (λo=>p1.symm.subset o) λ⟨k,W,_⟩=>nM W⟩ ?_ ?_))
 ·rintro u k us ⟨a,b⟩ Z R e ⟨z,f,g,K,ne,cl,o⟩ G
  have U:=W k (aP e)
  obtain⟨fn,y⟩:=U.n
  have y:=z _ _ y
  have ht:=z _ _ U.t
  have pl:u.length+1<=100:=by have:=congrArg List.length e;rw[List.length_append,List.length_cons]at this;exact m2 [_,_,_] EW 0 1 (-1) GU D8 rfl kl this
  have kn:=U.l
  refine mY (az (dk (aS (by left) (aS (by left) (iY K y ⟨aO (by exact m2 [_,_] jJ 0 1 60 (.le (.v 0) (.a (.n 60) (.m 60 (.v 1)))) (.le (.a (.v 1) (.n 1)) (.n 100)) rfl cl pl),aO (bh kn rfl)⟩ λc w=>?_)))))
  refine ak (aR (G (c,k.v) _ ⟨z.trans (aK.new w),false,g++k.ns,by rw[List.map_append];exact ab,Ne.symm (af (z _ _ O) w),?_,λi N=>?_⟩))
  ·rw[List.length_append,List.length_append,List.length_singleton];exact Mine.n2 [_,_,_] (.le (.a (.v 0) (.v 1)) (.a (.n 60) (.m 60 (.a (.v 2) (.n 1))))) (.le (.v 0) (.a (.n 60) (.m 60 (.v 2)))) yD rfl cl kn
  ·rcases N with h|⟨k',s,h⟩
   ·exact List.mem_append_left _ (o i (.inl h))
   ·rcases aE s with s|s
    ·exact List.mem_append_left _ (o i (.inr ⟨k',s,h⟩))
    ·rw[aw s]at h;exact List.mem_append_right _ h
 ·rintro⟨a,b⟩ Z ⟨z,f,g,K,ne,cl,o⟩
  have h3:=z _ _ O
  refine g8 (iK (aS (by left) ?_))
  refine dO (λc:AV=>[.ref r,.ref V.adr,.ref D,.ref a,b,c]) (λi c E=>Mo [r] Z E/\∃d,E r=some (false,.list d)/\d.length=ts.length/\∀i:Nat,i=0∨(i:Int)∈g->d[i]?=ts[i]?) .undef rfl ⟨by decide,by decide,Int.natCast_nonneg _,bF tl⟩ ⟨Mo.refl _ _,ts,h3,rfl,λ_ _=>rfl⟩ ?_ ?_
  ·rintro i c E R g1 g2 ⟨m,d,J,A,I⟩ G
   obtain⟨j,rfl⟩:∃j:Nat,i=j:=⟨i.toNat,by exact tn (Int.le_trans (by decide) g1)⟩
   have w:=m _ _ (di ne) K
   refine jd (bR (rM (by left) (by left) w bS)) (λx=>?_) λx=>?_
   ·refine dC (iK (aS (by left) (aS (by left) (s8 J (by exact Mine.n2 [_,_] jJ (.le (.v 1) (.n 9000)) CW rfl tl A) (by exact Nat.lt_of_lt_of_eq (cu g2) A.symm) (ak (cq (ak (aR (G (.int j) _ ⟨m.mut (.head _),d.set j .none,ab,by rw[List.length_set];exact A,λi o=>?_⟩)))))))))
    have:j≠i:=λe=>by
     subst e
     rcases o with o|o
     ·exact absurd g1 (by rw[o];decide)
     ·have:g.any (·==(j:Int))=true:=List.any_eq_true.mpr ⟨_,o,beq_self_eq_true _⟩
      rw[this]at x;cases x
    rw[List.getElem?_set_ne this];exact I i o
   ·exact ak (cq (ak (aR (G (.int j) E ⟨m,d,J,A,I⟩))))
  ·rintro i c E _ _ _ ⟨m,d,J,A,I⟩
   refine ak (gn (Ep (z.mo.trans m) J) (q d A λi h=>I i (h.imp id λh=>o _ h)))
end
section
variable {ext:bj} {σ Z:Hp}
theorem DE.up{p o b:Addr}{V:bp}{op:Op}{a:List (Option Rw)}(h:DE σ p o b V op a)(x:aK σ Z):DE Z p o b V op a:=
 ⟨x _ _ h.hP,h.hO.fz x.fz,h.v.fz x.fz,h.vr,h.so,x _ _ h.hop,h.oo,h.nl,x _ _ h.hp,h.pl,h.po,h.sz⟩
theorem AJ.base{d:Hp}{c:Cm}{e:Addr}{b:List (Option Rw)}(h:AJ d Z c e b)(x:aK σ d):AJ σ Z c e b:=
 ⟨x.mo.trans h.mo,h.hC,h.kc,h.kpl,h.kE,h.ed,h.ea,h.hp,h.nd,λa f=>x.nn (h.fr a f),h.sel,h.lg,h.og⟩
theorem mem_range{lo hi i:Int}(h:i∈aM lo hi):lo<=i/\i<hi:=by
 unfold aM at h
 obtain⟨k,a,rfl⟩:=bw h
 have:=List.mem_range.mp a
 exact⟨Int.le_add_of_nonneg_right (Int.natCast_nonneg k),Int.add_lt_of_lt_sub_left (Int.lt_toNat.mp this)⟩
noncomputable def Ik(V:bp)(i:Int):Bool:=decide ((0:Int)<((((V.lv[i.toNat]?.map λL=>L.fs.map FM.v).getD []).length:Nat):Int))
theorem wd{n:Nat}{p o d:Addr}{V:bp}{op:Op}{w:List (Option Rw)}{q:Int}{Q:PX}(hi:DE σ p o d V op w)(N:Q .none σ)
  (q1:∀(c:Cm) (pts':List (Option Rw)) (Z:Hp),c.V=V->c.o=op->AJ σ Z c d pts'->pts'.length=V.lv.length->AI pts'->c.k+1<V.lv.length->Q (.ref c.adr) Z):
  cB ext (n+9) (F.fa 86) [.ref p,.ref V.adr,.ref d,.int q,.int V.lv.length] σ Q:=by
 have v1:=hi.v.v
 have v2:=hi.v.fl
 have E:=bh hi.vr.sm.n rfl
 have lm:=aO (g:=bM.v) E
 have U:=hi.vr.sm.n
 have ne:=hi.vr.ne
 have cell:∀i∈aM 0 ((V.lv.length:Int)-1),∃(k:Nat) (L:bM),i=k/\k+1<V.lv.length/\V.lv[k]?=some L:=λi h=>by
  obtain⟨h1,J⟩:=mem_range h
  obtain⟨k,rfl⟩:∃k:Nat,i=k:=⟨i.toNat,by exact tn h1⟩
  exact⟨k,_,rfl,by exact ww J,List.getElem?_eq_getElem (by exact Nat.lt_of_succ_lt (ww J))⟩
 refine aB (l:=[.ref p,.ref V.adr,.ref d,.int q,.int V.lv.length,.undef,.undef,.undef,.undef,.undef,.undef,.undef,.undef,.undef,.undef]) LI rfl rfl ?_;show Go _ KL _ _ _;delta KL
 refine az (uc (iK (aS (by left) (Br (v:=AV.int) (Ik V) ⟨by decide,by decide,by exact z1 [_] Gm CU rfl (cl ne),by exact z1 [_] EH jJ rfl (cl E)⟩ (λi h=>?_) (λi h _=>bo rfl) λx hx=>?_))))
 ·obtain⟨k,L,rfl,_,r⟩:=cell i h
  have O:=List.mem_of_getElem? r
  have K:=bQ (g:=bM.v) r
  have v3:=hi.v.lv L O
  have D:=aO (g:=FM.v) (bh (hi.vr.sm.len O) rfl)
  unfold Ik;rw[show((k:Int)).toNat=k from rfl,r]
  exact(by left)
 have sub:∀i∈(aM 0 ((V.lv.length:Int)-1)).filter (Ik V),∃(k:Nat) (L:bM),i=k/\k+1<V.lv.length/\V.lv[k]?=some L:=λi h=>cell i (fH h).1
 have G:((aM 0 ((V.lv.length:Int)-1)).filter (Ik V)).length<=7:=by
  refine Nat.le_trans (List.length_filter_le _ _) ?_
  unfold aM;rw[List.length_map,List.length_range];exact Int.toNat_le.mpr (Int.le_trans (by rw[Int.sub_zero];exact Int.sub_le_self _ (by decide)) (bF U))
 generalize (aM 0 ((V.lv.length:Int)-1)).filter (Ik V)=lv at sub G
 have m:=aK.new (c:=(false,.list (lv.map .int))) hx
 have hl:=ab (σ:=σ) (a:=x) (c:=(false,.list (lv.map .int)))
 have D:=aO (g:=AV.int) (bh G rfl)
 refine dX (by left) (λ_=>fN (by left) (vA (cU m.wk N))) λn0=>ak (cq ?_)
 have lp:(0:Int)<(((lv.map AV.int).length:Nat):Int):=by exact dF (Nat.pos_of_ne_zero λe=>n0 (ce e))
 obtain⟨j,hj,A⟩:∃j:Nat,(q/4)%(((lv.map AV.int).length:Nat):Int)=j/\j<lv.length:=Hz (q/4) lp (ce (List.length_map _))
 obtain⟨k,L,hk,kn,r⟩:=sub _ (List.getElem_mem A)
 have ej:on (lv.map AV.int) (j:Int)=some (.int k):=by rw[←hk];exact bQ (List.getElem?_eq_getElem A)
 obtain⟨a,W,t⟩:∃a:Nat,(q/12)%4=a/\a<4:=Hz (q/12) (by decide) rfl
 obtain⟨b,hb,b4⟩:∃b:Nat,(q/48)%(4-(a:Int))=b/\a+b<4:=by
  exact(md (q/48) (Int.sub_pos_of_lt (dF t))).imp λb h=>⟨h.1,cu (Int.add_lt_of_lt_sub_left h.2)⟩
 refine bG (kx (by left) (aU (cH (by left) (by left) lp) (congrArg AV.int hj)) hl D ej) (bG (aU (v:=.int (q/12%4)) (by left) (congrArg AV.int W)) (bG (by left) (bG (by left) ?_)))
 refine bB (λo:Option Nat=>[.ref p,.ref V.adr,.ref d,.int q,.int V.lv.length,.ref x,.int k,.int a,ov o,.none,.undef,.undef,.undef,.undef,.undef]) (λo s=>s=upd σ x (false,.list (lv.map .int))/\∀n,o=some n->n<4) (λR f=>?_) ?_
 ·refine hF (by left) (br (λ_=>az (aW (by left) (jH t (ak (bk (f (some a) _ ⟨rfl,λn e=>Option.some.inj e▸t⟩)))))) λ_=>ak (bk (f none _ ⟨rfl,λ_=>oQ⟩)))
 rintro lo s ⟨rfl,y⟩
 refine bB (λo:Option Nat=>[.ref p,.ref V.adr,.ref d,.int q,.int V.lv.length,.ref x,.int k,.int a,ov lo,ov o,.undef,.undef,.undef,.undef,.undef]) (λo s=>s=upd σ x (false,.list (lv.map .int))/\∀n,o=some n->n<4) (λR f=>?_) ?_
 ·refine hF (by left) (br (λ_=>az (aW (ax (aU (v:=.int ((a:Int)+(q/48%(4-(a:Int))))) (cI (by left) (cH (by left) (by left) (Int.sub_pos_of_lt (dF t))) rfl) (congrArg AV.int (by rw[hb];rfl))) aQ) (jH (u:=a+b) b4 (ak (bk (f (some (a+b)) _ ⟨rfl,λn e=>Option.some.inj e▸b4⟩)))))) λ_=>ak (bk (f none _ ⟨rfl,λ_=>oQ⟩)))
 rintro h s ⟨rfl,z⟩
 have I:=(hi.up m).hP
 unfold yf at I
 have B:∀{o:Option Nat},ov o≠.undef:=zZ
 refine fe (fO (aS (by left) (fU I rfl rfl (aj (aS (by left) (aj (aS (by left) (aj (aS (by left) (aj (rC rfl B (aj (rC rfl B (aD ?_))))))))))))))
 exact wi (hi.up m) kn r y z (cU m.wk N) λc pts' Z e1 Y pk K e4 e5=>cU (Wk.refl _) (q1 c pts' Z e1 Y (pk.base m) K e4 e5)
end
section
variable {ext:bj} {σ Z:Hp}
structure Wr(last:Nat)(rs:List Rw):Prop where
 s:rs.map Rw.s=List.range' (last+1) rs.length
 uk:∀r∈rs,r.u<4/\r.k<2
theorem vQ{n c:Nat}{y:Int}{Q:PX}(q:∀(x:Addr) (rs:List Rw) Z,1<=rs.length->rs.length<=3->Wr c rs->gh Z rs->Z x=some (true,.list (rs.map cV))->aK σ Z->Q (.ref x) Z):cB ext (n+1) (F.fa 87) [.int y,.int c] σ Q:=by
 refine aB (l:=[.int y,.int c,.undef,.undef,.undef]) M8 rfl rfl ?_;show Go _ KS _ _ _;delta KS
 refine az (a8 aQ rfl λx A=>g8 (iK (aS (by left) ?_)))
 refine dO (λa:AV×AV=>[.int y,.int c,.ref x,a.1,a.2]) (λi a Z=>aK σ Z/\∃rs:List Rw,(rs.length:Int)=i/\Wr c rs/\gh Z rs/\Z x=some (false,.list (rs.map cV))) (.undef,.undef) rfl ⟨by decide,by decide,by exact Int.sub_nonneg_of_le (Int.le_of_lt (Int.emod_lt_of_pos y (by decide))),by exact Int.le_trans (Int.sub_le_self 3 (Int.emod_nonneg y (by decide))) (by decide)⟩ ⟨aK.new A,[],rfl,⟨rfl,λ_=>nM⟩,λ_=>nM,ab⟩ ?_ ?_
 ·rintro i ⟨a,b⟩ Z R g1 g2 ⟨p,rs,rfl,w,hR,f⟩ E
  have j:rs.length<=2:=by exact Nat.le_of_lt_succ (cu (Int.lt_of_lt_of_le g2 (Int.sub_le_self 3 (Int.emod_nonneg y (by decide)))))
  have G:0<(12:Int) ^ ((rs.length:Int)).toNat/\(12:Int) ^ ((rs.length:Int)).toNat<2 ^ 30:=by
   rw[show((rs.length:Int)).toNat=rs.length from rfl]
   generalize rs.length=m at j
   have:m=0∨m=1∨m=2:=by exact u3 (Nat.lt_succ_of_le j)
   rcases this with rfl|rfl|rfl<;>decide
  refine az (dk (aS (by left) (dk (iK (aS (by left) (FI ⟨Int.natCast_nonneg _,by exact bF j⟩ (Dj G ?_)))))))
  generalize y/3/12 ^ ((rs.length:Int)).toNat=z
  obtain⟨u,I,u4⟩:∃u:Nat,z%4=u/\u<4:=Hz z (by decide) rfl
  obtain⟨k,U,k2⟩:∃k:Nat,(if z/4%3<1 then z/4%3 else 1)=(k:Int)/\k<2:=by
   by_cases h:z/4%3<1
   ·exact⟨0,by rw[if_pos h];exact Int.le_antisymm (Int.le_of_lt_add_one (b:=0) h) (Int.emod_nonneg _ (by decide)),by decide⟩
   ·exact⟨1,by rw[if_neg h];rfl,by decide⟩
  have B:(rs.map cV).length<=9000:=aO (bh j rfl)
  refine wP (by left) (ax (aU (v:=.int (z%4)) (by left) (congrArg AV.int I)) (ax (aU (v:=.int (0-(c:Int)-1-(rs.length:Int))) (by left) (congrArg AV.int (show _= -((c+1+rs.length:Nat):Int)by exact Int.le_antisymm (z0 [_,_] (.le (.a (.a (.a (.n 0) (.g (.v 0))) (.g (.n 1))) (.g (.v 1))) (.g (.a (.a (.v 0) (.n 1)) (.v 1)))) rfl) (z0 [_,_] (.le (.g (.a (.a (.v 0) (.n 1)) (.v 1))) (.a (.a (.a (.n 0) (.g (.v 0))) (.g (.n 1))) (.g (.v 1)))) rfl)))) (ax (aU (v:=.int (if z/4%3<1 then z/4%3 else 1)) (by left) (congrArg AV.int U)) aQ))) f B rfl λt O V m N K J=>?_
  refine ak (aR (E (.int rs.length,.int z) O ⟨m.exx p λa D=>by rw[aw D];exact A,rs++[⟨u,c+1+rs.length,k,t⟩],by rw[List.length_append];rfl,⟨?_,λr d=>?_⟩,λr d=>?_,by rw[aY];exact J⟩))
  ·rw[aY,w.s,List.length_append];show _=List.range' (c+1) (rs.length+1);rw[List.range'_1_concat]
  ·rcases aE d with d|d
   ·exact w.uk r d
   ·rw[aw d];exact⟨u4,k2⟩
  ·rcases aE d with d|d
   ·exact N _ _ (hR r d)
   ·rw[aw d];exact K
 ·rintro i ⟨a,b⟩ Z g1 g2 g3 ⟨p,rs,e,w,hR,f⟩
  refine fN (by left) (cU (pF f) (q x rs _ (by exact cu (Int.lt_of_lt_of_le (Int.sub_pos_of_lt (Int.emod_lt_of_pos y (by decide))) (e▸g2))) (by exact Int.ofNat_le.mp (Int.le_trans (Int.le_of_eq e) (g3.elim (λq=>Int.le_trans (Int.le_of_eq q) (by decide)) λq=>Int.le_trans (Int.le_of_eq q) (Int.sub_le_self 3 (Int.emod_nonneg y (by decide)))))) w (hR.fz λa o e=>?_) ab (p.upd A)))
  exact cP f e
end
section
variable {σ τ:Hp}
inductive Dw(σ:Hp)(Q:PX):Addr->List AV->Prop
 |mk (ml hA la:Addr) (last:Int) (made:Nat) (f1 f2:Bool) (_:σ ml=some (false,.inst 8 [(5,.ref la),(6,.int made)])) (_:σ la=some (f1,.list [])) (_:σ hA=some (f2,.list [])) (_:Q (.int last) σ):Dw σ Q (F.fa 85) [.ref ml,.ref hA,.int last]
noncomputable def j9:bj:=λf a σ Q=>Dw σ Q f a
theorem GM{ext:bj}{k i:Nat}{d:Fd}{as:List AV}{Q:PX}(a:bD (F.fa i)=some d)(h:ext (F.fa i) as σ Q):cB ext (k+1) (F.fa i) as σ Q:=by
 show gw F bD ext (k+1) (F.fa i) as σ Q
 unfold gw
 rw[a]
 exact .inr h
structure Hd where
 adr:Addr
 k:fc
 ma:Addr
 ms:List AV
noncomputable abbrev Hd.v(h:Hd):AV:=.ref h.adr
noncomputable abbrev Hd.s(h:Hd):Nat:=h.k.seq
def As(σ:Hp)(h:Hd):Prop:=σ h.adr=some (true,.tup [.ref h.k.adr,.int h.s,.ref h.ma])
noncomputable def xW(hs:List Hd)(a:Nat):Nat:=match hs with
 |[]=>a
 |h::_=>h.s
theorem wg{n made a:Nat}{ml i hA:Addr}{hs:List Hd}{Q:PX}(h:oa σ ml i made (hs.map Hd.k))(ok:mT made (hs.map Hd.k))(j:σ hA=some (false,.list (hs.map Hd.v)))(p:∀h∈hs,As σ h)(q:Q (.int (xW hs a)) σ):cB j9 (n+2) (F.fa 85) [.ref ml,.ref hA,.int a] σ Q:=by
 cases hs with
 |nil=>exact GM Hi (.mk ml hA i a made false false h.m h.l j q)
 |cons b hs=>
  have m1:=h.m
  have l9:(b::hs).length<=9000:=bh (by have:=ok.l;rw[List.length_map]at this;exact this) rfl
  have u:=aO (g:=Hd.v) l9
  refine aB (l:=[.ref ml,.ref hA,.int a,.undef,.undef,.undef,.undef,.undef,.undef]) Hi rfl rfl ?_;show Go _ Jm _ _ _;delta Jm
  refine C2 (az (aV (by left) m1 rfl rfl (by left) (yA (ms:=hs.map Hd.k) h ok (ak (cq ?_)))))
  refine bK (ku (bz (hF (by left) (br (λ_=>?_) λx=>(x (dF (Nat.succ_pos _))).elim))))
  refine bz (kX (cG (aS (by left) (mJ (aj (jV (aS (by left) (zt (v:=λh:Hd=>.int h.s) (b::hs) j l9 (λf c=>?_) λx o=>aD ?_))))))))
  ·have t:=p f c
   unfold As at t
   exact(by left)
  ·have e:(b::hs).map (λh:Hd=>AV.int h.s)=((b::hs).map λh:Hd=>(h.s:Int)).map .int:=by rw[List.map_map];rfl
   refine BB (ns:=(b::hs).map λh:Hd=>(h.s:Int)) ab (aO l9) (by rw[e];exact bS) (Nat.succ_pos _) λM r d=>?_
   have:M=(b.s:Int):=by
    refine Int.le_antisymm (d _ (.head _)) ?_
    obtain⟨f,c,rfl⟩:=bw r
    rcases au c with rfl|c
    ·exact Int.le_refl _
    ·have:=ok.s
     rw[List.map_map]at this
     exact bF ((List.pairwise_cons.mp this).1 _ (dg ⟨f,c,rfl⟩))
   subst this
   refine Mg (dK (Nn rfl (da (eJ (fN (by left) (vA (cU (jX o) q)))))))
end
section
noncomputable def gD:Expr:=.Constant .none 0 default
noncomputable def gN(e:Expr):Str×Pos:=if h:e.ctorIdx=23 then Expr.Name.elim (motive_1:=λ_=>Str×Pos) e h λa b=>(a,b) else("",default)
noncomputable def gC(e:Expr):Expr×List Expr×Pos:=if h:e.ctorIdx=16 then Expr.Call.elim (motive_1:=λ_=>Expr×List Expr×Pos) e h λa b _ d=>(a,b,d) else(gD,[],default)
noncomputable def gA(e:Expr):Expr×Pos:=if h:e.ctorIdx=20 then Expr.Attribute.elim (motive_1:=λ_=>Expr×Pos) e h λa _ d=>(a,d) else(gD,default)
noncomputable def gK(e:Expr):Const×Nat×Pos:=if h:e.ctorIdx=19 then Expr.Constant.elim (motive_1:=λ_=>Const×Nat×Pos) e h λa b c=>(a,b,c) else(.none,0,default)
noncomputable def gS(c:Const):Str:=if h:c.ctorIdx=5 then Const.str.elim (motive:=λ_=>Str) c h id else ""
noncomputable def hI(s:Stmt):Expr×List Stmt×Pos:=if h:s.ctorIdx=12 then Stmt.If.elim (motive_2:=λ_=>Expr×List Stmt×Pos) s h λa b _ d=>(a,b,d) else(gD,[],default)
noncomputable def hR(s:Stmt):Expr×Pos:=if h:s.ctorIdx=16 then Stmt.Raise.elim (motive_2:=λ_=>Expr×Pos) s h λa _ d=>(a.getD gD,d) else(gD,default)
noncomputable def hT(s:Stmt):Expr×Pos:=if h:s.ctorIdx=3 then Stmt.Return.elim (motive_2:=λ_=>Expr×Pos) s h λa d=>(a.getD gD,d) else(gD,default)
noncomputable def hA(s:Stmt):Expr×Expr×Pos:=if h:s.ctorIdx=5 then Stmt.Assign.elim (motive_2:=λ_=>Expr×Expr×Pos) s h λa b d=>(a.headD gD,b,d) else(gD,gD,default)
noncomputable def hY(s:Stmt):List Stmt×List ExceptHandler×Pos:=if h:s.ctorIdx=17 then Stmt.Try.elim (motive_2:=λ_=>List Stmt×List ExceptHandler×Pos) s h λa b _ _ d=>(a,b,d) else([],[],default)
noncomputable def hH(l:List ExceptHandler):Expr×List Stmt×Pos:=(l.map λ(.ExceptHandler e _ b p)=>(e.getD gD,b,p)).headD (gD,[],default)
noncomputable def hS:Stmt:=.Pass default
noncomputable def Ff:Str:=Str.ofString "NotFound"
noncomputable def Ny:Str:=Str.ofString "smallest"
noncomputable def i9:Expr×List Stmt×Pos:=hI ((ao s9).headD hS)
noncomputable def r9:Expr×Pos:=hR (i9.2.1.headD hS)
noncomputable def e9:Expr×List Expr×Pos:=gC r9.1
noncomputable def a9:Const×Nat×Pos:=gK (e9.2.1.headD gD)
noncomputable def x9:Pos:=(gN e9.1).2
noncomputable def z9:Str:=gS a9.1
theorem Q5:ao s9=.If i9.1 [.Raise (some (.Call (.Name Ff x9) [.Constant (.str z9) a9.2.1 a9.2.2] [] e9.2.2)) none r9.2] [] i9.2.2::(ao s9).tail:=by kernel_rfl
noncomputable def Lj:List Stmt×List ExceptHandler×Pos:=hY ((ao Al).headD hS)
noncomputable def Mi:Expr×Expr×Pos:=hA (Lj.1.headD hS)
noncomputable def Ol:Str×Pos:=gN Mi.1
noncomputable def Nl:Expr×List Expr×Pos:=gC Mi.2.1
noncomputable def GP:Expr×Pos:=gA Nl.1
noncomputable def Ks:Expr×List Stmt×Pos:=hH Lj.2.1
noncomputable def Rj:Pos:=(gN Ks.1).2
noncomputable def I0:Expr×List Stmt×Pos:=hI (Ks.2.1.headD hS)
noncomputable def NJ:Expr×Pos:=hT (Ks.2.1.tail.headD hS)
theorem Mh:ao Al=.Try [.Assign [.Name Ol.1 Ol.2] (.Call (.Attribute GP.1 Ny GP.2) [] [] Nl.2.2) Mi.2.2]
  [.ExceptHandler (some (.Name Ff Rj)) none [.If I0.1 I0.2.1 [] I0.2.2,.Return (some NJ.1) NJ.2] Ks.2.2] [] [] Lj.2.2::(ao Al).tail:=by kernel_rfl
noncomputable def yX:Cn:=⟨ae Al,(ar (ae Al)).nm,[],true⟩
noncomputable def c9:C:=.not (.t (.at (.v 0) 5))
noncomputable def Mx:C:=.t (.cmp .gt (.bi .len (.cons (.v 1) .nil)) (.k (.int 0)))
theorem k1:tW ct d9.cn c9 i9.1=true:=by kernel_rfl
theorem k2:aX ct oB.cn (.v 0) GP.1=true:=by kernel_rfl
theorem k3:kD GP.1=true:=by kernel_rfl
theorem k4:(GP.2.endLine==Nl.2.2.line)=true:=by kernel_rfl
theorem k5:tW ct yX Mx I0.1=true:=by kernel_rfl
theorem k6:aX ct yX (.v 2) NJ.1=true:=by kernel_rfl
theorem k7(n:Nat):cellsFrom n d9.cn.sc.names []=[]:=by kernel_rfl
theorem k8(n:Nat):cellsFrom n oB.cn.sc.names []=[]:=by kernel_rfl
theorem JM{K:Frag}(H:HK K):nsIn K mainGlobals Ff=some (some (.ref 80))/\excIn K 80 [.type "Exception",.type "BaseException",.type "object"] "Exception.__new__"=true/\ktsIn K 80 "BaseException"=true:=by
 have h:=H.k.nf
 unfold Mf at h
 simp only[Bool.and_eq_true]at h
 exact⟨gM h.1.1,h.1.2,h.2⟩
theorem f9:(190,d9,s9)∈jw:=List.mem_of_getElem? (i:=5) (by kernel_rfl)
theorem Rp:(875,oB,Al)∈jw:=List.mem_of_getElem? (i:=63) (by kernel_rfl)
theorem Re:(897,L5,Ci)∈jw:=List.mem_of_getElem? (i:=67) (by kernel_rfl)
theorem RU:d9.cn.sc.names.lookup Ff=some .globalImplicit:=by kernel_rfl
theorem Q2:oB.cn.sc.names.lookup Ff=some .globalImplicit:=by kernel_rfl
theorem Pj:(Ff==("__debug__":Str))=false:=by decide+kernel
theorem Ro:ct.gi.lookup Ny=some 7:=by kernel_rfl
theorem Bi{c a g d:Heap}{L:Addr}{m:Str->Option Value}(b:c.StaysIn a)(F:Fr a L g m)(x:cE c g d):∃h',cE c a h'/\Fr h' L d m:=by
 obtain⟨h',T,S⟩:=cE.pull b F.keep x
 obtain⟨n,h,j,i,hd,k,e⟩:=F.ns
 obtain⟨l,f⟩:=x.up _ _ i
 exact⟨h',T,⟨_,h,j,f,hd,k,e⟩,S,by rw[T.size];exact F.above⟩
theorem cE.ofKts{c g a:Heap}{fs:List Addr}(x:KtsTurn fs g a)(b:c.StaysIn a):cE c g a:=⟨x.size,x.none_,b,λ_ _ e=>x.up e⟩
theorem Fv{q:Str}{b:Scope}{L a:Addr}{c:Value}(h:∀n,cellsFrom n b.names []=[]):envOfC q b L a c=envOf q b L a c:=by
 show envX q b L a c (cellsFrom (L+1) b.names [])=envX q b L a c []
 rw[h]
noncomputable def qi:bj:=λ_ _ _ _=>False
theorem RG{ml d:Addr}{a:AV}{f1:Bool}(m1:σ ml=some (false,.inst 8 [(5,.ref d),(6,a)]))(m2:σ d=some (f1,.list [])):Ai F qi c9 ([AV.ref ml]++List.replicate (d9.nl-d9.np) AV.undef) σ λb c=>b=true/\c=σ:=by
 exact El m1 ⟨by kernel_rfl,eT m2 ⟨Nat.zero_le _,rfl,rfl⟩⟩
theorem Mj{ml hA:Addr}{a:AV}{f1:Bool}(m2:σ hA=some (f1,.list [])):Ai F qi Mx ([AV.ref ml,.ref hA,a]++List.replicate (oB.nl-oB.np) AV.undef) σ λb c=>b=false/\c=σ:=by
 exact eT m2 ⟨Nat.zero_le _,rfl,rfl⟩
noncomputable def wM(w:World)(K:Frag)(A:Around)(e:Addr)(a g:Heap):Wd:=⟨pw,w,K,T,F,ct,qi,A.mark (some (.ref e)),a,g⟩
theorem H9{W:Wd}{L:Addr}{m:Str->Option Value}{opq:List (Addr×Obj)}{E:Value->Shared->Prop}{s:Shared}{t:Sem Value}{r:Addr}{R:Value->Shared->Prop}(h:wpAny W.M W.A t (W.P L opq m (λa b=>a=.ref r/\b=σ) s) E s)
  (c:∀s',d8 s s'->W.H L opq m σ s'.heap->R (.ref r) s'):wpAny W.M W.A t R E s:=aN h λv a b s' d e H q=>by
 obtain⟨rfl,rfl⟩:=q
 obtain rfl:=e.ref
 exact c s' d H
theorem F9{W:Wd}{L:Addr}{m:Str->Option Value}{opq:List (Addr×Obj)}{E:Value->Shared->Prop}{s:Shared}{t:Sem Value}{i:Int}{R:Value->Shared->Prop}(h:wpAny W.M W.A t (W.P L opq m (λa b=>a=.int i/\b=σ) s) E s)
  (c:∀v s',d8 s s'->VR v (.int i)->W.H L opq m σ s'.heap->R v s'):wpAny W.M W.A t R E s:=aN h λv a b s' d e H q=>by
 obtain⟨rfl,rfl⟩:=q
 exact c v s' d e H
theorem yN{W:Wd}{L:Addr}{m:Str->Option Value}{opq:List (Addr×Obj)}{E:Value->Shared->Prop}{s:Shared}{t:Sem Bool}{b:Bool}{R:Bool->Shared->Prop}(h:wpAny W.M W.A t (W.PB L opq m (λc a=>c=b/\a=σ) s) E s)
  (c:∀s',d8 s s'->W.H L opq m σ s'.heap->R b s'):wpAny W.M W.A t R E s:=jE h λv a s' d H q=>by
 obtain⟨rfl,rfl⟩:=q
 exact c s' d H
theorem HM{W:Wd}{env:Env}{n:Cn}{l:aG}{L:Addr}{m:Str->Option Value}{opq:List (Addr×Obj)}{E:Value->Shared->Prop}{s:Shared}{t:Ct}{f:Value}{first:List Value}{pos:Pos}{P:Heap->Prop}{Q:Value->Shared->Prop}(i:W.SXS n .nil [])
  (g:∀h,P h->∃k,(k=Keeper.frame∨k=Keeper.machine∨k=Keeper.boundFrame)/\Looks W.M h (keeperOf f) k) (lv:W.L env n L m opq l) (H:W.H L opq m σ s.heap)
  (k:∀s',d8 s s'->W.H L opq m σ s'.heap->P s'.heap/\wpAny W.M W.A (call f (first++[])) Q E s'):wpAny W.M W.A (callWith pos f first (backTo pos (starEach [] env)) []) Q E s:=
 nJ (t:=t) (xs:=.nil) (es:=[]) rfl i g lv H (Qs:=λb a=>b=[]/\a=σ) ⟨rfl,rfl⟩ λj b a s' d e c q=>by
  obtain⟨rfl,rfl⟩:=q
  cases e
  exact k s' d c
theorem DS{w:World}{K:Frag}(i:HK K):∀(A:Around) (env:Env) (l h₀:Heap) (L:Addr),Gd K l h₀ A env->env.frame=some L->Bl l h₀ A env->A.handled=none->A.depth<=890->A.units+320<=cLine->gY pw w T j9 A l h₀ L:=by
 intro A env l h₀ L gd hf hB hh hd hu J f as vs z s Z m Q R V hc r H hR
 obtain⟨ml,hA,la,U,made,f1,f2,m1,m2,m3,q⟩:=hc
 obtain⟨pp,φ,mean,mg,mb,TB⟩:=gd.trb
 have ζ:∀{A l h L},gY pw w T qi A l h L:=λ_ _ _ _ _ _ _ _ _ _ _ h=>h.elim
 obtain⟨υ,χ⟩:F.fa 85=875/\F.fa 9=190:=by constructor<;>kernel_rfl
 rw[υ]
 refine qb (cal:=qi) (CP i) (lB i Rp) gd hf hB hh (by exact n1 [_] OF (.le (.v 0) (.n 890)) rfl hd) (by exact n1 [_,_] NR (.le (.a (.v 0) (.n 320)) (.v 1)) rfl hu) (λ_ _ _ _ _ _ _ _ _ _=>ζ) V rfl r H hR λenv2 g0 g o mm cs s2 en tu j H2 _=>?_
 obtain⟨c,fG,e2⟩:=en.ee
 obtain⟨y,ξ,B,DD⟩:=en.bl
 have eb:=en.b
 rw[Fv k8]at e2
 subst e2
 rw[Mh]
 refine wpAny_execs_cons (wpAny_Try_except (wpAny_execs_cons (wpAny_Assign_Name (jS (W:=⟨pw,w,K,T,F,ct,qi,J.deeper (envOf c oB.cn.sc o 875 fG),l,g⟩) (n:=oB.cn) (t:=ct) (xs:=.nil) k3 k4 (Nat.le_of_ble_eq_true rfl) rfl λpl=>?_) rfl)))
 refine H9 (bY (.v 0) oB.cn _ k2 _ o mm (cs++Z) _ z s2 (λa k=>a=.ref ml/\k=z) _ j.lv H2 ⟨rfl,rfl⟩) λs1 ψ H1=>?_
 obtain⟨q1,q2,q3,q4⟩:=(CP i).mth Ny 7 Ro 8 9 (by kernel_rfl)
 obtain⟨d,ents,nn,I,hr⟩:=HS.inst j.lv.gd.st H1 m1
 obtain⟨G,ω,_,_,Fh,_,_⟩:=id H1
 refine method_inst Fh (j.lv.gd.turn ω.base).X I q1.pg q2 q3 (jA hr λp hp e=>?_) ?_
 ·have h1:=kY (show([(5,.ref la),(6,.int made)]:List (Nat×AV)).all (λp=>F.fo 8 p.1)=true by kernel_rfl) p hp
  have h2:=((CP i).fld _ _ h1).2.2
  rw[e,q2]at h2
  cases h2
 refine HM (t:=ct) (pG .nil oB.cn [] rfl) (jq q4) j.lv H1 λs3 la2 H3=>⟨Kx j.lv H3,?_⟩
 rw[χ]
 have d1:=V.dp
 have u1:=V.un
 refine wpAny_call (qb (cal:=qi) (as:=[.ref ml]) (Q:=λ_ _=>False) (CP i) (lB i f9) j.lv.gd rfl eb (j.lv.hh j.lf) (by show J.depth+1<=990;exact n2 [_,_] (.le (.a (.v 0) (.n 1)) (.n 990)) (.le (.v 1) (.n 890)) O0 rfl hd d1) (by show J.units+3+300<=cLine;exact n2 [_,_,_] (.le (.a (.a (.v 0) (.n 3)) (.n 300)) (.v 1)) (.le (.a (.v 2) (.n 320)) (.v 1)) (.le (.v 0) (.a (.v 2) (.n 10))) rfl hu u1) (λ_ _ _ _ _ _ _ _ _ _=>ζ) (.refl _) rfl (.cons rfl .nil) H3 (λv s' p=>?_) λenv3 g1 g' L3 m4 cs3 s4 O δ u H4 _=>?_)
 ·obtain⟨_,_,_,_,_,_,_,h⟩:=p
  exact h.elim
 obtain⟨Y,ε,e3⟩:=O.ee
 obtain⟨N,γ,B3,_⟩:=O.bl
 have κ:(J.deeper (envOf c oB.cn.sc o 875 fG)).frames=some (envOf c oB.cn.sc o 875 fG::env::y):=by show J.frames.map _=_;rw[ξ];rfl
 have ho:N=env::y:=by rw[κ]at γ;exact(List.cons.inj (Option.some.inj γ)).2.symm
 subst ho
 rw[Fv k7]at e3
 subst e3
 rw[Q5]
 refine wpAny_execs_cons (wpAny_If (yN (W:=⟨pw,w,K,T,F,ct,qi,(J.deeper (envOf c oB.cn.sc o 875 fG)).deeper (envOf Y d9.cn.sc L3 190 ε),l,g'⟩) (Em c9 d9.cn _ k1 _ L3 m4 _ _ z s4 (λb k=>b=true/\k=z) _ u.lv H4 ?_) λs5 ρ H5=>?_))
 ·exact RG m1 m2
 rw[if_pos rfl]
 obtain⟨g5,E,η,D,F5,N5,R5⟩:=id H5
 have T5:=topRead_of (TB.keeps E.base)
 refine wpAny_execs_cons (Raise_own F5 T5.g (own_of_in (gd.Xb.keeps E.base) T5 (JM i).1 (JM i).2.1) PySem.F.excBase_Exception (u.lv.hh u.lf) (spliced_more (wpAny_Constant_str (spliced_none ⟨by show 1<=sizeLine;decide+kernel,F5.keep,λh' e me=>?_⟩))) rfl rfl u.lv.gd.fk RU Pj)
 refine leave_raiseS (E.below B3) me F5 N5 (λh6 t RS _ up=>?_) u.lv.gd.fk
 obtain⟨h1,T1,F1⟩:=Bi δ.base O.fr E
 have Tg:cE l g h1:=δ.trans T1
 refine caught_SO0 RS F1 (Tg.below B) up gd.Xb TB (Tg.dicts DD) .refl (JM i).1 (JM i).2.2 (λh7 g7 π T4 F4 _ _ N4 B4 _ _ _=>?_) j.lv.gd.fk Q2 Pj
 have θ:cE l g g7:=Tg.trans (.ofKts T4 B4.stays)
 have HF:HS T l g o (cs++Z) mm z h7:=⟨g7,θ,η,D,F4,N4,R5.opq_sub λp hp=>List.mem_append_right _ hp⟩
 have β:(wM w K (J.deeper (envOf c oB.cn.sc o 875 fG)) e l g).L (envOf c oB.cn.sc o 875 fG) yX o mm (cs++Z) ([.ref ml,.ref hA,.int U]++List.replicate (oB.nl-oB.np) .undef):=⟨⟨j.lv.gd.Xb,j.lv.gd.trb,j.lv.gd.st,j.lv.gd.fk,rfl,rfl,j.lv.gd.un,j.lv.gd.fits⟩,CP i,j.lv.lr,λx=>.inl rfl,j.lv.lo,(nofun),(nofun),(nofun)⟩
 refine wpAny_execs_cons (wpAny_If (yN (Em (W:=wM w K (J.deeper (envOf c oB.cn.sc o 875 fG)) e l g) Mx yX _ k5 _ o mm _ _ z {s5 with heap:=h7,toks:=s5.toks+1} (λb k=>b=false/\k=z) _ β HF (Mj m3)) λs6 μ H6=>?_))
 rw[if_neg Bool.false_ne_true]
 refine wpAny_execs_nil (wpAny_execs_cons (wpAny_Return_some (F9 (bY (W:=wM w K (J.deeper (envOf c oB.cn.sc o 875 fG)) e l g) (.v 2) yX _ k6 _ o mm _ _ z s6 (λa k=>a=.int U/\k=z) _ β H6 ⟨rfl,rfl⟩) λv s7 ν r7 H7=>?_)))
 exact bf (ψ.trans (la2.trans (O.la.trans (ρ.trans (d8.trans (s':={s5 with heap:=h7,toks:=s5.toks+1}) ⟨h7,s5.toks+1,rfl⟩ (μ.trans ν)))))) (.ret r7) j H7 ⟨z,.refl _,q⟩
end
section
noncomputable def bV(V:bp)(j:Nat):List FM:=match V.lv[j]? with
 |some L=>L.fs
 |none=>[]
theorem bP{V:bp}{j:Nat}{L:bM}(h:V.lv[j]?=some L):bV V j=L.fs:=by unfold bV;rw[h]
theorem dZ{V:bp}{j:Nat}{f:FM}(h:f∈bV V j):∃L,V.lv[j]?=some L/\f∈L.fs:=by
 unfold bV at h
 cases e:V.lv[j]? with
 |none=>rw[e]at h;cases h
 |some L=>rw[e]at h;exact⟨L,rfl,h⟩
theorem CX{V:bp}{L:bM}(h:L∈V.lv):∃j:Nat,V.lv[j]?=some L:=List.getElem?_of_mem h
theorem gH{V:bp}{L:bM}{f:FM}(h:L∈V.lv)(a:f∈L.fs):∃j,f∈bV V j:=by
 obtain⟨j,e⟩:=CX h;exact⟨j,bP e▸a⟩
structure Gf(unit:Int)(f:FM):Prop where
 so:f.rows.Pairwise nV
 ns:Ns f.rows
 ok:∀r∈f.rows,r.ok
 lo:f.rows[0]?=some f.lo
 hi:f.rows[f.rows.length-1]?=some f.hi
 sz:f.size=f.rows.length*unit
def wm(f g:FM):Prop:=f.num≠g.num/\∀r∈f.rows,∀q∈g.rows,r.s≠q.s
theorem wm.symm{f g:FM}(h:wm f g):wm g f:=⟨Ne.symm h.1,λr a q b e=>h.2 q b r a e.symm⟩
def o8(f g:FM):Prop:=∀r∈f.rows,∀q∈g.rows,r.u=q.u->q.s<r.s
structure Gv(unit:Int)(Z:Nat)(V:bp):Prop where
 n:2<=V.lv.length/\V.lv.length<=7
 gf:∀j,∀f∈bV V j,Gf unit f
 so:∀j,(bV V j).Pairwise (bA j)
 d1:∀j,(bV V j).Pairwise wm
 d2:∀i j,i<j->∀f∈bV V i,∀g∈bV V j,wm f g
 sl:∀j,∀f∈bV V j,∀r∈f.rows,1<=r.s/\r.s<=Z
 up:∀i j,i<j->∀f∈bV V i,∀g∈bV V j,o8 f g
 r0:∀f∈bV V 0,∀g∈bV V 0,f.num<g.num->o8 g f
section
variable {unit:Int} {Z:Nat} {V:bp} {f:FM}
theorem Gf.lm(h:Gf unit f):f.lo∈f.rows:=List.mem_of_getElem? h.lo
theorem Gf.hm(h:Gf unit f):f.hi∈f.rows:=List.mem_of_getElem? h.hi
theorem Gf.fok(h:Gf unit f):f.ok:=⟨h.ok _ h.lm,h.ok _ h.hm⟩
theorem Gf.le1(h:Gf unit f){r:Rw}(b:r∈f.rows):r=f.lo∨nV f.lo r:=by
 have e:=h.lo
 have c:=h.so
 generalize f.rows=d at b e c
 cases d with
 |nil=>cases b
 |cons a l=>
  cases e
  exact(au b).imp id ((List.pairwise_cons.mp c).1 r)
theorem Gf.le2(h:Gf unit f){r:Rw}(a:r∈f.rows):r=f.hi∨nV r f.hi:=by
 obtain⟨i,hi,rfl⟩:=List.getElem_of_mem a
 obtain⟨b,e⟩:=be h.hi
 rw[←e]
 by_cases x:i=f.rows.length-1
 ·subst x;exact .inl rfl
 ·exact .inr (List.pairwise_iff_getElem.mp h.so _ _ _ _ (Nat.lt_of_le_of_ne (Nat.le_sub_one_of_lt hi) x))
theorem Gf.lo_le(h:Gf unit f){r:Rw}(a:r∈f.rows):f.lo.u<=r.u:=(h.le1 a).elim (λe=>e▸Nat.le_refl _) nV.le
theorem Gf.le_hi(h:Gf unit f){r:Rw}(a:r∈f.rows):r.u<=f.hi.u:=(h.le2 a).elim (λe=>e▸Nat.le_refl _) nV.le
theorem Gf.ord(h:Gf unit f):f.lo.u<=f.hi.u:=h.lo_le h.hm
theorem Gf.cmp(h:Gf unit f):¬0<dD f.lo f.hi:=by
 have k:=h.fok
 intro x
 unfold dD jW at x
 rcases h.le1 h.hm with e|e|⟨e,a⟩
 ·rw[e,if_neg (Nat.lt_irrefl _),if_neg (Nat.lt_irrefl _),if_neg (Int.lt_irrefl _),if_neg (Int.lt_irrefl _)]at x;cases x
 ·rw[if_pos e]at x;cases x
 ·rw[if_neg (by exact iJ (m1 [_,_] J0 0 (-1) EP rfl e)),if_neg (by exact iJ (n1 [_,_] J0 CW rfl e)),if_pos (show cx f.hi.s f.hi.k<cx f.lo.s f.lo.k from tg _ a k.2.k)]at x;cases x
theorem Gf.pos(h:Gf unit f):1<=f.rows.length:=(be h.lo).1
theorem tJ{B:Type}{R:B->B->Prop}(i:∀a b,R a b->R b a):∀{l:List B},l.Pairwise R->∀a∈l,∀b∈l,a≠b->R a b
 |[],_,_,h,_,_,_=>nomatch h
 |x::l,h,a,d,b,c,n=>by
  obtain⟨g,j⟩:=List.pairwise_cons.mp h
  rcases au d with rfl|d
  ·rcases au c with rfl|c
   ·exact(n rfl).elim
   ·exact g b c
  ·rcases au c with e|c
   ·exact e▸i _ _ (g a d)
   ·exact tJ i j a d b c n
theorem Ns.inj{rs:List Rw}(h:Ns rs){r q:Rw}(a:r∈rs)(b:q∈rs)(e:r.s=q.s):r=q:=Classical.byContradiction λn=>tJ (λ_ _=>Ne.symm) h r a q b n e
theorem Gv.dd(h:Gv unit Z V){i j:Nat}{f g:FM}(b:f∈bV V i)(a:g∈bV V j)(n:f≠g∨i≠j):wm f g:=by
 rcases Nat.lt_trichotomy i j with x|rfl|x
 ·exact h.d2 i j x f b g a
 ·exact tJ (λ_ _=>wm.symm) (h.d1 i) f b g a (n.elim id λn=>(n rfl).elim)
 ·exact(h.d2 j i x g a f b).symm
theorem qD{R:FM->FM->Prop}(d:∀j,(bV V j).Pairwise R)(a:∀i j,i<j->∀f∈bV V i,∀g∈bV V j,R f g):(V.lv.flatMap bM.fs).Pairwise R:=by
 refine List.pairwise_flatMap.mpr ⟨λL c=>?_,List.pairwise_iff_getElem.mpr λi j k h x f l g b=>a i j x f ?_ g ?_⟩
 ·obtain⟨j,e⟩:=CX c;exact bP e▸d j
 ·exact(bP (List.getElem?_eq_getElem k)).symm▸l
 ·exact(bP (List.getElem?_eq_getElem h)).symm▸b
theorem fP(h:f∈V.lv.flatMap bM.fs):∃j,f∈bV V j:=by obtain⟨L,a,b⟩:=iW h;exact gH a b
theorem hZ{j:Nat}(h:f∈bV V j):f∈V.lv.flatMap bM.fs:=by obtain⟨L,e,a⟩:=dZ h;exact List.mem_flatMap.mpr ⟨L,List.mem_of_getElem? e,a⟩
noncomputable def cj(V:bp):List Rw:=(V.lv.flatMap bM.fs).flatMap FM.rows
theorem aZ{r:Rw}:r∈cj V↔∃j,∃f∈bV V j,r∈f.rows:=by
 refine List.mem_flatMap.trans ⟨λ⟨f,b,a⟩=>?_,λ⟨j,f,b,a⟩=>⟨f,hZ b,a⟩⟩
 obtain⟨j,c⟩:=fP b;exact⟨j,f,c,a⟩
theorem Gv.ns(h:Gv unit Z V):Ns (cj V):=List.pairwise_flatMap.mpr ⟨λf b=>by obtain⟨j,a⟩:=fP b;exact(h.gf j f a).ns,(qD h.d1 h.d2).imp And.right⟩
theorem nI{rs:List Rw}(h:Ns rs){m:Nat}(b:∀r∈rs,1<=r.s/\r.s<=m):rs.length<=m:=by
 have:=List.Nodup.length_le_of_subset (l₁:=rs.map Rw.s) (l₂:=List.range' 1 m) (List.pairwise_map.mpr h) λx d=>by
  obtain⟨r,c,rfl⟩:=bw d
  exact List.mem_range'_1.mpr (by have:=b r c;exact⟨n1 [_] Fm Fm rfl this.1,n1 [_,_] (.le (.a (.v 0) (.n 1)) (.a (.n 1) (.v 1))) J0 rfl this.2⟩)
 rwa [List.length_map,List.length_range']at this
theorem Gv.rows_len(h:Gv unit Z V):(cj V).length<=Z:=nI h.ns λr a=>by obtain⟨j,f,b,a⟩:=aZ.mp a;exact h.sl j f b r a
theorem lF{fs:List FM}(h:∀f∈fs,1<=f.rows.length):fs.length<=(fs.flatMap FM.rows).length:=by
 induction fs with
 |nil=>exact Nat.le_refl _
 |cons f fs a=>rw[List.flatMap_cons,List.length_append,List.length_cons,Nat.add_comm];exact Nat.add_le_add (h f (.head _)) (a λg b=>h g (.tail _ b))
theorem Gv.files_len(h:Gv unit Z V):(V.lv.flatMap bM.fs).length<=Z:=Nat.le_trans (lF λf b=>by obtain⟨j,a⟩:=fP b;exact(h.gf j f a).pos) h.rows_len
theorem Gv.frows(h:Gv unit Z V){j:Nat}(a:f∈bV V j):f.rows.length<=Z:=nI (h.gf j f a).ns (h.sl j f a)
theorem Gv.sm(h:Gv unit Z V)(l9:Z<=9):qj V:=⟨h.n.2,Nat.le_trans h.files_len (Nat.le_trans l9 (by decide))⟩
theorem Gv.vrd(h:Gv unit Z V)(l9:Z<=9):Ah V where
 sm:=h.sm l9
 ok:=λL a f c=>by obtain⟨j,b⟩:=gH a c;exact(h.gf j f b).fok
 ord:=λL a f c=>by obtain⟨j,b⟩:=gH a c;exact(h.gf j f b).ord
 ap:=λk L d e=>by have:=h.so k;rw[bP e]at this;exact this.imp λh=>by unfold bA at h;rw[if_neg (Nat.ne_of_gt d)]at h;exact h
 ne:=Nat.lt_of_lt_of_le (by decide) h.n.1
theorem jo:nums V=(V.lv.flatMap bM.fs).map λf=>(f.num:Int):=by unfold nums;rw[List.map_flatMap];rfl
theorem Gv.nums(h:Gv unit Z V):(nums V).Nodup:=jo (V:=V)▸List.pairwise_map.mpr ((qD h.d1 h.d2).imp λd e=>d.1 (cW e))
theorem Gv.ck(h:Gv unit Z V)(l9:Z<=9):K6 V:=⟨h.sm l9,h.nums,(h.vrd l9).ok,λL a f c=>by obtain⟨j,b⟩:=gH a c;exact(h.gf j f b).cmp,λk L e=>bP e▸h.so k⟩
theorem Gv.fsz(h:Gv unit Z V)(l9:Z<=9)(a:0<=unit)(d:unit<2 ^ 30):∀L∈V.lv,Fk L.fs:=λL c f g=>by
 obtain⟨j,b⟩:=gH c g
 have e:=(h.gf j f b).sz
 have l:=Nat.le_trans (h.frows b) l9
 rw[e]
 refine⟨Int.mul_nonneg (Int.natCast_nonneg _) a,Int.lt_of_le_of_lt (Int.mul_le_mul_of_nonneg_right (bF l) a) ?_⟩
 exact Int.lt_of_le_of_lt (Int.mul_le_mul_of_nonneg_left (Int.le_of_lt d) (by decide)) (by decide)
end
end
section
noncomputable def gU(R:List Rw)(u s:Nat):Option Rw->Prop
 |some r=>r∈R/\r.u=u/\r.s<=s/\∀q∈R,q.u=u->q.s<=s->q.s<=r.s
 |none=>∀q∈R,q.u=u->¬q.s<=s
theorem gU.same{R b:List Rw}{u s:Nat}{o:Option Rw}(h:gU R u s o)(d:∀q∈R,q∈b)(c:∀q∈b,q.u=u->q.s<=s->q∈R):gU b u s o:=by
 cases o with
 |none=>exact λq a e l=>h q (c q a e l) e l
 |some r=>exact⟨d r h.1,h.2.1,h.2.2.1,λq a e l=>h.2.2.2 q (c q a e l) e l⟩
theorem gU.uniq{R:List Rw}{u s:Nat}{o o':Option Rw}(ns:Ns R)(h:gU R u s o)(h':gU R u s o'):o=o':=by
 cases o with
 |none=>cases o' with
  |none=>rfl
  |some r=>exact(h r h'.1 h'.2.1 h'.2.2.1).elim
 |some r=>cases o' with
  |none=>exact(h' r h.1 h.2.1 h.2.2.1).elim
  |some q=>exact congrArg some (ns.inj h.1 h'.1 (Nat.le_antisymm (h'.2.2.2 r h.1 h.2.1 h.2.2.1) (h.2.2.2 q h'.1 h'.2.1 h'.2.2.1)))
section
variable {unit:Int} {Z:Nat} {V:bp} {f:FM} {u s:Nat}
theorem ym(h:Gf unit f):gU f.rows u s (Am u s f):=by
 unfold Am ah
 cases e:f.rows.find? (λr=>decide (u<r.u∨(u=r.u/\r.s<=s)))with
 |none=>exact λq a b c=>List.find?_eq_none.mp e q a (decide_eq_true (.inr ⟨b.symm,c⟩))
 |some r=>
  obtain⟨p,j,i,b,c⟩:=List.find?_eq_some_iff_append.mp e
  have p:=of_decide_eq_true p
  have d:∀q∈f.rows,q.u=u->q.s<=s->q=r∨nV r q:=λq a x y=>by
   rw[b]at a
   rcases aE a with a|a
   ·have:=c q a
    rw[decide_eq_true (Or.inr ⟨x.symm,y⟩)]at this;cases this
   ·have g:=h.so
    rw[b]at g
    exact(au a).imp id ((List.pairwise_cons.mp (List.pairwise_append.mp g).2.1).1 q)
  dsimp only
  by_cases x:r.u=u
  ·rw[if_pos x]
   refine⟨List.mem_of_find?_eq_some e,x,p.elim (λl=>absurd x (Nat.ne_of_gt l)) And.right,λq a y z=>?_⟩
   exact(d q a y z).elim (λe=>e▸Nat.le_refl _) λl=>Nat.le_of_lt (l.s (x.trans y.symm))
  ·rw[if_neg x]
   intro q a y z
   rcases d q a y z with e|l
   ·exact x (e▸y)
   ·have:=l.le
    rcases p with p|p
    ·exact eK p (y▸this)
    ·exact x p.1.symm
theorem oR:∀{c:List FM},(∀f∈c,Gf unit f)->c.Pairwise o8->gU (c.flatMap FM.rows) u s (look u s c)
 |[],_,_=>λ_=>nM
 |f::c,g,n=>by
  have b:=ym (u:=u) (s:=s) (g f (.head _))
  obtain⟨n1,n2⟩:=List.pairwise_cons.mp n
  have d:=oR (λf i=>g f (.tail _ i)) n2
  unfold look at d ⊢
  rw[List.findSome?_cons,List.flatMap_cons]
  cases e:Am u s f with
  |some r=>
   rw[e]at b
   refine⟨List.mem_append_left _ b.1,b.2.1,b.2.2.1,λq a x y=>?_⟩
   rcases aE a with a|a
   ·exact b.2.2.2 q a x y
   ·obtain⟨h,j,a⟩:=iW a
    exact Nat.le_of_lt (n1 h j r b.1 q a (b.2.1.trans x.symm))
  |none=>
   rw[e]at b
   exact d.same (λq a=>List.mem_append_right _ a) λq a x y=>(aE a).elim (λa=>(b q a x y).elim) id
theorem jU{fs:List FM}{g:FM}(h:g∈de u s fs):g∈fs:=by
 unfold de at h
 cases e:fs.find? (λf=>decide (¬dD f.hi ⟨u,s,1,0⟩<0))with
 |none=>rw[e]at h;cases h
 |some f=>
  rw[e]at h;dsimp only at h
  by_cases x:f.lo.u<=u
  ·rw[if_pos x]at h;rw[aw h];exact List.mem_of_find?_eq_some e
  ·rw[if_neg x]at h;cases h
theorem vW{fs:List FM}{g:FM}(j:g∈fs)(m:xY fs)(o:∀f∈fs,Gf unit f){q:Rw}(a:q∈g.rows)(e:q.u=u)(l:q.s<=s):g∈de u s fs:=by
 obtain⟨p,w,rfl⟩:=List.append_of_mem j
 have k:=o g j
 have no:∀f∈p,dD f.hi ⟨u,s,1,0⟩<0:=λf b=>by
  have:=(List.pairwise_append.mp m).2.2 f b g (.head _)
  have:f.hi.u<u:=Nat.lt_of_lt_of_le this (e▸k.lo_le a)
  unfold dD jW;rw[if_pos this];decide
 have yes:¬dD g.hi ⟨u,s,1,0⟩<0:=by
  intro x
  unfold dD jW at x
  have i:=k.le_hi a
  rw[if_neg (show¬g.hi.u<u by exact iJ (m2 [_,_,_] J0 0 (-1) 1 (.eq (.v 2) (.v 0)) Ag rfl e i))]at x
  by_cases c:u<g.hi.u
  ·rw[if_pos c]at x;cases x
  ·rw[if_neg c]at x
   have r:g.hi.s<=s:=(k.le2 a).elim (λe=>e▸l) λh=>by have:=h.s (by exact Nat.le_antisymm (n1 [_,_] J0 J0 rfl i) (m2 [_,_,_] J0 0 (-1) 1 LN J4 rfl e (nl c)));exact n2 [_,_,_] J0 Ag Fq rfl l this
   have t:=k.fok.2.k
   rw[if_neg (show¬cx s 1<cx g.hi.s g.hi.k by show¬((s:Int)*256+(1:Nat)<(g.hi.s:Int)*256+g.hi.k);exact fX (Int.add_le_add (Int.mul_le_mul_of_nonneg_right (bF r) (by decide)) (bF (Nat.le_of_lt_succ t))))]at x
   by_cases d:cx g.hi.s g.hi.k<cx s 1
   ·rw[if_pos d]at x;cases x
   ·rw[if_neg d]at x;cases x
 unfold de
 rw[List.find?_append,List.find?_eq_none.mpr λf b=>by rw[decide_eq_false λn=>n (no f b)];exact fT,Option.none_or,List.find?_cons,decide_eq_true yes]
 dsimp only
 rw[if_pos (show g.lo.u<=u from e▸k.lo_le a)];exact .head _
theorem vy{fs:List FM}{R:FM->FM->Prop}:(de u s fs).Pairwise R:=by
 unfold de
 cases fs.find? (λf=>decide (¬dD f.hi ⟨u,s,1,0⟩<0))with
 |none=>exact .nil
 |some f=>dsimp only;by_cases x:f.lo.u<=u<;>simp only[x,if_true,if_false]<;>first|exact List.pairwise_singleton _ _|exact .nil
theorem Gv.look(h:Gv unit Z V)(l9:Z<=9):gU (cj V) u s (look u s (fF u s V.lv)):=by
 have J:=h.vrd l9
 cases b:V.lv with
 |nil=>have:=h.n.1;rw[b]at this;cases this
 |cons L m=>
  have B:V.lv[0]?=some L:=by rw[b];rfl
  have z0:=bP B
  have E:∀M∈m,∃j:Nat,V.lv[j+1]?=some M:=λM d=>(List.getElem?_of_mem d).imp λj e=>by rw[b];exact e
  have y:∀f∈L.fs.reverse.filter (ut u),f∈bV V 0:=λf a=>z0▸List.mem_reverse.mp (fH a).1
  have w:∀f∈m.flatMap (λL=>de u s L.fs),∃j,f∈bV V (j+1):=λf a=>by
   obtain⟨M,d,a⟩:=iW a
   obtain⟨j,e⟩:=E M d
   exact⟨j,bP e▸jU a⟩
  have r:∀f∈fF u s (L::m),∃j,f∈bV V j:=λf a=>(aE a).elim (λa=>⟨0,y f a⟩) λa=>by obtain⟨j,e⟩:=w f a;exact⟨_,e⟩
  refine(oR (unit:=unit) (λf a=>by obtain⟨j,e⟩:=r f a;exact h.gf j f e) (List.pairwise_append.mpr ⟨?_,List.pairwise_flatMap.mpr ⟨λ_ _=>vy,?_⟩,λf a g p=>?_⟩)).same (λq c=>?_) λq c e l=>?_
  ·refine List.Pairwise.filter _ (List.pairwise_reverse.mpr ?_)
   have t:=h.so 0
   rw[z0]at t
   exact t.imp_of_mem λz G l=>h.r0 _ (z0▸z) _ (z0▸G) l
  ·refine List.pairwise_iff_getElem.mpr λi j A I x f a g p=>h.up (i+1) (j+1) (Nat.succ_lt_succ x) f ?_ g ?_
   ·exact(bP (V:=V) (j:=i+1) (by rw[b];exact List.getElem?_eq_getElem A)).symm▸jU a
   ·exact(bP (V:=V) (j:=j+1) (by rw[b];exact List.getElem?_eq_getElem I)).symm▸jU p
  ·obtain⟨j,e⟩:=w g p;exact h.up 0 (j+1) (Nat.succ_pos _) f (y f a) g e
  ·obtain⟨f,a,c⟩:=iW c
   obtain⟨j,e⟩:=r f a
   exact aZ.mpr ⟨j,f,e,c⟩
  ·obtain⟨j,f,a,k⟩:=aZ.mp c
   have v:=h.gf j f a
   refine List.mem_flatMap.mpr ⟨f,List.mem_append.mpr ?_,k⟩
   cases j with
   |zero=>exact .inl (List.mem_filter.mpr ⟨List.mem_reverse.mpr (z0▸a),by unfold ut;rw[decide_eq_true (e▸v.lo_le k),decide_eq_true (e▸v.le_hi k)];rfl⟩)
   |succ j=>
    obtain⟨M,o,d⟩:=dZ a
    have D:M∈m:=by rw[b]at o;exact List.mem_of_getElem? (i:=j) o
    exact .inr (List.mem_flatMap.mpr ⟨M,D,vW d (J.ap _ M (Nat.succ_pos j) o) (λf a=>h.gf _ f (bP o▸a)) k e l⟩)
end
end
section
noncomputable def newL(V:bp)(E:Ed)(j:Nat):List FM:=cS E j (bV V j)++cQ E.al j
section
variable {unit:Int} {U Z:Nat} {V O:bp} {E:Ed}
theorem ez(m:iI V E O){j:Nat}(h:j<V.lv.length):(bV O j).Perm (newL V E j)/\(bV O j).Pairwise (bA j):=by
 have e:=List.getElem?_eq_getElem h
 obtain⟨c,a,p,b⟩:=m.l j _ e
 unfold newL
 rw[bP e,bP a];exact⟨p,b⟩
theorem bL(m:iI V E O){j:Nat}{f:FM}(h:f∈bV O j):j<V.lv.length/\f∈newL V E j:=by
 obtain⟨L,e,_⟩:=dZ h
 have lt:j<V.lv.length:=m.n▸(be e).1
 exact⟨lt,(ez m lt).1.subset h⟩
theorem cZ{j:Nat}{f:FM}{fs:List FM}(h:f∈cS E j fs):f∈fs:=(fH h).1
structure Kv(unit:Int)(Z:Nat)(V:bp)(E:Ed):Prop where
 gf:∀j,∀f∈cQ E.al j,Gf unit f/\∀r∈f.rows,1<=r.s/\r.s<=Z
 d1:∀j,(newL V E j).Pairwise wm
 d2:∀i j,i<j->∀f∈newL V E i,∀g∈newL V E j,wm f g/\o8 f g
 r0:∀f∈newL V E 0,∀g∈newL V E 0,f.num<g.num->o8 g f
 sep:∀j,(newL V E j).Pairwise λa b=>bA j a b∨bA j b a
theorem Kv.made(k:Kv unit Z V E)(g:Gv unit U V)(d:U<=Z)(m:iI V E O):Gv unit Z O where
 n:=m.n▸g.n
 gf:=λj f a=>(aE (bL m a).2).elim (λh=>g.gf j f (cZ h)) λh=>(k.gf j f h).1
 so:=λj=>by
  cases e:O.lv[j]? with
  |none=>unfold bV;rw[e];exact .nil
  |some L=>exact(ez m (m.n▸(be e).1)).2
 d1:=λj=>by
  cases e:O.lv[j]? with
  |none=>unfold bV;rw[e];exact .nil
  |some L=>exact(ez m (m.n▸(be e).1)).1.symm.pairwise (k.d1 j) wm.symm
 d2:=λi j h f a q b=>(k.d2 i j h f (bL m a).2 q (bL m b).2).1
 sl:=λj f a r c=>(aE (bL m a).2).elim (λh=>⟨(g.sl j f (cZ h) r c).1,Nat.le_trans (g.sl j f (cZ h) r c).2 d⟩) λh=>(k.gf j f h).2 r c
 up:=λi j h f a q b=>(k.d2 i j h f (bL m a).2 q (bL m b).2).2
 r0:=λf a q b=>k.r0 f (bL m a).2 q (bL m b).2
theorem Kv.mok(k:Kv unit Z V E)(g:Gv unit U V)(c:U<=Z)(l9:Z<=9):Lp V E where
 gd:=λj L e f a=>by
  have a:f∈newL V E j:=by unfold newL;rw[bP e];exact a
  exact(aE a).elim (λh=>⟨(g.gf j f (cZ h)).fok,(g.gf j f (cZ h)).ord⟩) λh=>⟨(k.gf j f h).1.fok,(k.gf j f h).1.ord⟩
 sep:=λj L e=>by have:=k.sep j;unfold newL at this;rw[bP e]at this;exact this
 so:=λj L e=>bP e▸g.so j
 nw:=λj L e f a q b=>by
  have:=k.d1 j
  unfold newL at this
  rw[bP e]at this
  exact((List.pairwise_append.mp this).2.2 f a q b).1
 ck:=λO m=>(k.made g c m).ck l9
theorem oH(m:iI V E O)(c:∀j,cQ E.al j≠[]->j<V.lv.length){r:Rw}:r∈cj O↔∃j,∃f∈newL V E j,r∈f.rows:=by
 refine aZ.trans ⟨λ⟨j,f,a,b⟩=>⟨j,f,(bL m a).2,b⟩,λ⟨j,f,a,b⟩=>?_⟩
 have lt:j<V.lv.length:=by
  rcases aE a with h|h
  ·obtain⟨L,e,_⟩:=dZ (cZ h);exact(be e).1
  ·exact c j (List.ne_nil_of_mem h)
 exact⟨j,f,(ez m lt).1.symm.subset a,b⟩
end
theorem hW{k:Nat}:∀{al:List (Addr×Nat×FM)} {fs:List FM},al.map (·.2)=fs.map (λf=>(k,f))->∀j,cQ al j=if j=k then fs else[]
 |[],[],_,j=>by unfold cQ;by_cases h:j=k<;>simp[h]
 |[],_::_,h,_=>nomatch h
 |_::_,[],h,_=>nomatch h
 |p::al,f::fs,h,j=>by
  obtain⟨b,c⟩:=List.cons.inj h
  have b:p.2=(k,f):=b
  have a:=hW c j
  unfold cQ at a ⊢
  rw[List.filter_cons,b]
  by_cases e:j=k
  ·rw[if_pos e]at a ⊢
   rw[if_pos (decide_eq_true e.symm),List.map_cons,a,b]
  ·rw[if_neg e]at a ⊢
   rw[if_neg (by rw[decide_eq_false λx=>e x.symm];exact fT),a]
theorem rq{E:Ed}(h:E.dl=[])(j:Nat)(fs:List FM):cS E j fs=fs:=by
 unfold cS kS;rw[h]
 exact List.filter_eq_self.mpr λ_ _=>rfl
theorem wV{unit:Int}{U Z p:Nat}{V:bp}{E:Ed}{f:FM}(g:Gv unit U V)(A:U<=Z)(hd:E.dl=[])(u:E.al=[(p,0,f)])(y:Gf unit f)(n:∀r∈f.rows,U<r.s/\r.s<=Z)(num:∀j,∀g∈bV V j,g.num<f.num):Kv unit Z V E:=by
 have w:∀j,cQ E.al j=if j=0 then[f] else[]:=hW (by rw[u];rfl)
 have o:∀j,newL V E j=bV V j++if j=0 then[f] else[]:=λj=>by unfold newL;rw[rq hd,w]
 have m:∀j q,q∈newL V E j->q∈bV V j∨(j=0/\q=f):=λj q e=>by
  rw[o]at e
  refine(aE e).imp id λh=>?_
  by_cases z:j=0
  ·rw[if_pos z]at h;exact⟨z,aw h⟩
  ·rw[if_neg z]at h;cases h
 have v:∀j,∀q∈bV V j,wm f q/\o8 f q:=λj q e=>⟨⟨Nat.ne_of_gt (num j q e),λr k x t=>Nat.ne_of_gt (Nat.lt_of_le_of_lt (g.sl j q e x t).2 (n r k).1)⟩,λr k x t _=>Nat.lt_of_le_of_lt (g.sl j q e x t).2 (n r k).1⟩
 refine⟨λj q e=>?_,λj=>?_,λi j h a c b d=>?_,λa c b d l=>?_,λj=>?_⟩
 ·rw[w]at e
  by_cases z:j=0
  ·rw[if_pos z]at e;rw[aw e];exact⟨y,λr k=>⟨Nat.lt_of_le_of_lt (Nat.zero_le _) (n r k).1,(n r k).2⟩⟩
  ·rw[if_neg z]at e;cases e
 ·rw[o]
  by_cases z:j=0
  ·rw[if_pos z];exact List.pairwise_append.mpr ⟨g.d1 j,List.pairwise_singleton _ _,λa c b d=>by rw[aw d];exact(v j a c).1.symm⟩
  ·rw[if_neg z,List.append_nil];exact g.d1 j
 ·rcases m j b d with d|⟨z,_⟩
  ·rcases m i a c with c|⟨_,rfl⟩
   ·exact⟨g.d2 i j h a c b d,g.up i j h a c b d⟩
   ·exact v j b d
  ·exact(Nat.not_lt_zero i (z▸h)).elim
 ·rcases m 0 b d with d|⟨_,rfl⟩
  ·rcases m 0 a c with c|⟨_,rfl⟩
   ·exact g.r0 a c b d l
   ·exact absurd l (iJ (Nat.le_of_lt (num 0 b d)))
  ·rcases m 0 a c with c|⟨_,rfl⟩
   ·exact(v 0 a c).2
   ·exact(Nat.lt_irrefl _ l).elim
 ·rw[o]
  by_cases z:j=0
  ·rw[if_pos z]
   refine List.pairwise_append.mpr ⟨(g.so j).imp .inl,List.pairwise_singleton _ _,λa c b d=>?_⟩
   rw[aw d]
   unfold bA;rw[if_pos z];exact .inl (num j a c)
  ·rw[if_neg z,List.append_nil];exact(g.so j).imp .inl
end
section
noncomputable abbrev jT(Z U:List FM):List Rw:=(Z++U).flatMap FM.rows
structure eS(V:bp)(k:Nat)(Z U:List FM):Prop where
 kn:k+1<V.lv.length
 i0:∀f∈Z,f∈bV V k
 i1:∀f∈U,f∈bV V (k+1)
 c2:∀g∈bV V k,g∉Z->∀f∈Z,∀r∈f.rows,∀q∈g.rows,r.u≠q.u
 c3:∀g∈bV V (k+1),g∉U->(∀r∈jT Z U,g.hi.u<r.u)∨∀r∈jT Z U,r.u<g.lo.u
 pd:(Z++U).Pairwise wm
section
variable {unit:Int} {O k N:Nat} {V V':bp} {Z U fs:List FM} {E:Ed}
theorem C6{j:Nat}(h:(bV V j).Pairwise (bA j))(c:0<j){f g:FM}(e:f∈bV V j)(d:g∈bV V j)(n:f≠g):f.hi.u<g.lo.u∨g.hi.u<f.lo.u:=by
 have:=tJ (R:=λa b=>bA j a b∨bA j b a) (λ_ _=>Or.symm) (h.imp .inl) f e g d n
 unfold bA at this
 rw[if_neg (Nat.ne_of_gt c),if_neg (Nat.ne_of_gt c)]at this;exact this
theorem Cc(g:Gv unit O V)(s:tU V k Z U):eS V k Z U:=by
 obtain⟨L0,B,e0,K,sb,ne,cl,lo,p,Q,rfl⟩:=s.s
 have z0:=bP e0
 have z1:=bP K
 have i:∀f∈Z,f∈bV V k:=λf c=>z0▸sb.subset c
 have t:∀f∈B.fs.filter (cK lo p),f∈bV V (k+1):=λf c=>z1▸(fH c).1
 have w:∀f g:FM,Gf unit f->Gf unit g->g.hi.u<f.lo.u∨f.hi.u<g.lo.u->∀r∈f.rows,∀q∈g.rows,r.u≠q.u:=λf g c I h r d q A e=>by
  have m:=c.lo_le d
  have v:=c.le_hi d
  have h3:=I.lo_le A
  have h4:=I.le_hi A
  exact h.elim (λz=>eK z (Nat.le_trans m (Nat.le_trans (Nat.le_of_eq e) h4))) λz=>eK z (Nat.le_trans h3 (Nat.le_trans (Nat.le_of_eq e.symm) v))
 refine⟨(be K).1,i,t,λx j n f c=>w f x (g.gf k f (i f c)) (g.gf k x j) ?_,λx j n=>?_,List.pairwise_append.mpr ⟨(z0▸g.d1 k).sublist sb,(z1▸g.d1 (k+1)).filter _,λa W b hb=>g.d2 k (k+1) (Nat.lt_succ_self k) a (i a W) b (t b hb)⟩⟩
 ·by_cases D:k=0
  ·exact cl D x (z0▸j) n f c
  ·exact C6 (g.so k) (Nat.pos_of_ne_zero D) j (i f c) λe=>n (e▸c)
 ·have Y:=g.gf _ x j
  have R:¬(lo<=x.hi.u/\x.lo.u<=p):=λh=>n (List.mem_filter.mpr ⟨z1▸j,by unfold cK;rw[decide_eq_true h.1,decide_eq_true h.2];rfl⟩)
  have y:∀f∈Z,∀r∈f.rows,lo<=r.u/\r.u<=p:=λf c r d=>⟨Nat.le_trans (Q f c).1 ((g.gf k f (i f c)).lo_le d),Nat.le_trans ((g.gf k f (i f c)).le_hi d) (Q f c).2⟩
  have lh:lo<=p:=by
   cases Z with
   |nil=>exact(ne rfl).elim
   |cons f l=>have:=y f (.head _) _ (g.gf k f (i f (.head _))).lm;exact n2 [_,_,_] J0 J4 Ag rfl this.1 this.2
  have J:∀f∈B.fs.filter (cK lo p),(lo<=f.hi.u/\f.lo.u<=p)/\(x.hi.u<f.lo.u∨f.hi.u<x.lo.u):=λf c=>by
   have o:=(fH c).2
   unfold cK at o
   rw[Bool.and_eq_true]at o
   exact⟨⟨of_decide_eq_true o.1,of_decide_eq_true o.2⟩,C6 (g.so _) (Nat.succ_pos k) j (t f c) λe=>n (e▸c)⟩
  have G:=Y.ord
  by_cases a:x.hi.u<lo
  ·refine .inl ?_
   intro r d
   obtain⟨f,c,d⟩:=iW d
   rcases aE c with c|c
   ·exact Nat.lt_of_lt_of_le a (y f c r d).1
   ·have m:=J f c
    have v:=(g.gf _ f (t f c)).lo_le d
    exact m.2.elim (λz=>Nat.lt_of_lt_of_le z v) λz=>(eK (Nat.lt_of_lt_of_le z G) (Nat.le_trans (Nat.le_of_lt a) m.1.1)).elim
  ·refine .inr ?_
   intro r d
   obtain⟨f,c,d⟩:=iW d
   rcases aE c with c|c
   ·have:=(y f c r d).2;exact Nat.lt_of_le_of_lt this (ng λz=>R ⟨nl a,z⟩)
   ·have m:=J f c
    have v:=(g.gf _ f (t f c)).le_hi d
    exact m.2.elim (λz=>absurd (Nat.le_trans G (Nat.le_trans (Nat.le_of_lt z) m.1.2)) λq=>R ⟨nl a,q⟩) λz=>Nat.lt_of_le_of_lt v z
structure jt(unit:Int)(V:bp)(k N:Nat)(Z U fs:List FM)(E:Ed):Prop where
 ed:E.dl.map (·.2)=Z.map (λf=>(k,f.num))++U.map λf=>(k+1,f.num)
 ea:E.al.map (·.2)=fs.map λf=>(k+1,f)
 sub:∀f∈fs,∀r∈f.rows,r∈jT Z U
 gf:∀f∈fs,Gf unit f
 fd:fs.Pairwise λf g=>f.num≠g.num/\∀r∈f.rows,∀q∈g.rows,r.u<q.u/\r.s≠q.s
 nn:∀f∈fs,∀j,∀g∈bV V j,(j=k->g∉Z)->(j=k+1->g∉U)->f.num≠g.num
 drop:∀r∈jT Z U,r∉fs.flatMap FM.rows->(∃q∈jT Z U,q.u=r.u/\r.s<q.s/\q.s<=N)∨(r.k=0/\r.s<=N/\oY V k r.u/\∀q∈fs.flatMap FM.rows,q.u=r.u->¬q.s<r.s)
theorem nT(c:eS V k Z U){r:Rw}(h:r∈jT Z U):(∃f∈Z,f∈bV V k/\r∈f.rows)∨∃f∈U,f∈bV V (k+1)/\r∈f.rows:=by
 obtain⟨f,a,b⟩:=iW h
 exact(aE a).imp (λa=>⟨f,a,c.i0 f a,b⟩) λa=>⟨f,a,c.i1 f a,b⟩
theorem qM(g:Gv unit O V)(c:eS V k Z U)(x:jt unit V k N Z U fs E){j:Nat}{f:FM}(m:f∈bV V j):kS E.dl j f=true↔(j=k/\f∈Z)∨(j=k+1/\f∈U):=by
 have e:kS E.dl j f=(E.dl.map (·.2)).any λp=>decide (p.1=j/\p.2=f.num):=by unfold kS;rw[List.any_map];rfl
 rw[e,x.ed,List.any_eq_true]
 have one:∀{i:Nat} {h:FM},h∈bV V i->i=j->h.num=f.num->h=f:=λ{i h} b a l=>Classical.byContradiction λn=>(g.dd b m (.inl n)).1 l
 constructor
 ·rintro⟨p,d,e⟩
  obtain⟨a,l⟩:=of_decide_eq_true e
  rcases aE d with d|d
  ·obtain⟨h,b,rfl⟩:=bw d
   exact .inl ⟨a.symm,one (c.i0 h b) a l▸b⟩
  ·obtain⟨h,b,rfl⟩:=bw d
   exact .inr ⟨a.symm,one (c.i1 h b) a l▸b⟩
 ·rintro(⟨a,h⟩|⟨a,h⟩)
  ·exact⟨_,List.mem_append_left _ (dg ⟨f,h,rfl⟩),decide_eq_true ⟨a.symm,rfl⟩⟩
  ·exact⟨_,List.mem_append_right _ (dg ⟨f,h,rfl⟩),decide_eq_true ⟨a.symm,rfl⟩⟩
theorem dJ(g:Gv unit O V)(c:eS V k Z U)(x:jt unit V k N Z U fs E){j:Nat}{f:FM}:f∈cS E j (bV V j)↔f∈bV V j/\(j=k->f∉Z)/\(j=k+1->f∉U):=by
 refine List.mem_filter.trans ⟨λ⟨a,b⟩=>⟨a,?_⟩,λ⟨a,b,d⟩=>⟨a,?_⟩⟩
 ·have n:¬kS E.dl j f=true:=λe=>by rw[e]at b;cases b
  rw[qM g c x a]at n
  exact⟨λe h=>n (.inl ⟨e,h⟩),λe h=>n (.inr ⟨e,h⟩)⟩
 ·have n:¬kS E.dl j f=true:=λe=>((qM g c x a).mp e).elim (λh=>b h.1 h.2) λh=>d h.1 h.2
  cases e:kS E.dl j f with
  |true=>exact(n e).elim
  |false=>rfl
theorem cX(x:jt unit V k N Z U fs E){j:Nat}{f:FM}:f∈newL V E j↔f∈cS E j (bV V j)∨(j=k+1/\f∈fs):=by
 unfold newL
 rw[hW x.ea,List.mem_append]
 refine or_congr Iff.rfl ?_
 by_cases e:j=k+1
 ·rw[if_pos e];exact⟨λh=>⟨e,h⟩,And.right⟩
 ·rw[if_neg e];exact⟨nM,λh=>(e h.1).elim⟩
end
end
section
section
variable {unit:Int} {O k J:Nat} {V N:bp} {U Z fs:List FM} {E:Ed}
theorem eC(c:eS V k U Z){r:Rw}(h:r∈jT U Z):r∈cj V:=(nT c h).elim (λ⟨f,_,b,a⟩=>aZ.mpr ⟨_,f,b,a⟩) λ⟨f,_,b,a⟩=>aZ.mpr ⟨_,f,b,a⟩
theorem zH(g:Gv unit O V)(c:eS V k U Z)(x:jt unit V k J U Z fs E){j:Nat}{h:FM}(o:h∈cS E j (bV V j)){r q:Rw}(a:r∈jT U Z)(l:q∈h.rows):r.s≠q.s:=by
 obtain⟨m,n,p⟩:=(dJ g c x).mp o
 rcases nT c a with⟨f,i,d,a⟩|⟨f,i,d,a⟩
 ·exact(g.dd d m (Classical.or_iff_not_imp_right.mpr λe b=>n (Classical.not_not.mp e).symm (b▸i))).2 r a q l
 ·exact(g.dd d m (Classical.or_iff_not_imp_right.mpr λe b=>p (Classical.not_not.mp e).symm (b▸i))).2 r a q l
theorem uG(g:Gv unit O V)(c:eS V k U Z)(x:jt unit V k J U Z fs E):Kv unit O V E:=by
 have st:∀{j f},f∈cS E j (bV V j)->f∈bV V j:=λh=>cZ h
 have B:∀{j h f},h∈cS E j (bV V j)->f∈fs->wm f h:=λ{j h f} y p=>by
  obtain⟨t,z,A⟩:=(dJ g c x).mp y
  exact⟨x.nn f p j h t z A,λr n q s=>zH g c x y (x.sub f p r n) s⟩
 have w:=hW x.ea
 refine⟨λj f p=>?_,λj=>?_,λi j l a G b v=>?_,λa o b d l=>?_,λj=>?_⟩
 ·rw[w]at p
  by_cases e:j=k+1
  ·rw[if_pos e]at p
   refine⟨x.gf f p,λr n=>?_⟩
   obtain⟨i,h,y,n⟩:=aZ.mp (eC c (x.sub f p r n))
   exact g.sl i h y r n
  ·rw[if_neg e]at p;cases p
 ·unfold newL
  refine List.pairwise_append.mpr ⟨(g.d1 j).filter _,?_,λa o b d=>?_⟩
  ·rw[w]
   by_cases e:j=k+1
   ·rw[if_pos e];exact x.fd.imp λh=>⟨h.1,λr n q s=>(h.2 r n q s).2⟩
   ·rw[if_neg e];exact .nil
  ·rw[w]at d
   by_cases e:j=k+1
   ·rw[if_pos e]at d;exact(B o d).symm
   ·rw[if_neg e]at d;cases d
 ·rcases(cX x).mp G with o|⟨ei,o⟩
  ·rcases(cX x).mp v with d|⟨D,d⟩
   ·exact⟨g.d2 i j l a (st o) b (st d),g.up i j l a (st o) b (st d)⟩
   ·refine⟨(B o d).symm,λr n q s e=>?_⟩
    subst D
    obtain⟨t,z,A⟩:=(dJ g c x).mp o
    rcases nT c (x.sub b d q s)with⟨f,p,u,s⟩|⟨f,p,u,s⟩
    ·rcases Nat.lt_or_eq_of_le (Nat.le_of_lt_succ l)with l|rfl
     ·exact g.up i k l a t f u r n q s e
     ·exact(c.c2 a t (z rfl) f p q s r n e.symm).elim
    ·exact g.up i (k+1) l a t f u r n q s e
  ·rcases(cX x).mp v with d|⟨D,_⟩
   ·refine⟨B d o,λr n q s e=>?_⟩
    subst ei
    rcases nT c (x.sub a o r n)with⟨f,p,u,n⟩|⟨f,p,u,n⟩
    ·exact g.up k j (Nat.lt_of_succ_lt l) f u b (st d) r n q s e
    ·exact g.up (k+1) j l f u b (st d) r n q s e
   ·exact absurd (ei.trans D.symm) (Nat.ne_of_lt l)
 ·have m:∀{f},f∈newL V E 0->f∈bV V 0:=λh=>((cX x).mp h).elim st λh=>(Nat.succ_ne_zero _ h.1.symm).elim
  exact g.r0 a (m o) b (m d) l
 ·unfold newL
  refine List.pairwise_append.mpr ⟨((g.so j).filter _).imp .inl,?_,λa o b d=>?_⟩
  ·rw[w]
   by_cases e:j=k+1
   ·rw[if_pos e]
    refine x.fd.imp_of_mem λo d h=>.inl ?_
    unfold bA
    rw[if_neg (by exact Nat.ne_of_gt (m1 [_,_] CU 0 (-1) Hg rfl e))]
    exact(h.2 _ (x.gf _ o).hm _ (x.gf _ d).lm).1
   ·rw[if_neg e];exact .nil
  ·rw[w]at d
   by_cases e:j=k+1
   ·rw[if_pos e]at d
    subst e
    obtain⟨t,z,A⟩:=(dJ g c x).mp o
    unfold bA
    rw[if_neg (Nat.succ_ne_zero k),if_neg (Nat.succ_ne_zero k)]
    exact(c.c3 a t (A rfl)).imp (λh=>h _ (x.sub b d _ (x.gf b d).lm)) λh=>h _ (x.sub b d _ (x.gf b d).hm)
   ·rw[if_neg e]at d;cases d
theorem iB(g:Gv unit O V)(c:eS V k U Z)(x:jt unit V k J U Z fs E)(m:iI V E N){r:Rw}:r∈cj N↔(∃j,∃f∈cS E j (bV V j),r∈f.rows)∨r∈fs.flatMap FM.rows:=by
 refine(oH m λj h=>?_).trans ⟨λ⟨j,f,a,b⟩=>((cX x).mp a).imp (λa=>⟨j,f,a,b⟩) λh=>List.mem_flatMap.mpr ⟨f,h.2,b⟩,λh=>h.elim (λ⟨j,f,a,b⟩=>⟨j,f,(cX x).mpr (.inl a),b⟩) λh=>?_⟩
 ·rw[hW x.ea]at h
  by_cases e:j=k+1
  ·rw[e];exact c.kn
  ·rw[if_neg e]at h;exact(h rfl).elim
 ·obtain⟨f,a,b⟩:=iW h
  exact⟨k+1,f,(cX x).mpr (.inr ⟨rfl,a⟩),b⟩
theorem vU(g:Gv unit O V)(c:eS V k U Z)(x:jt unit V k J U Z fs E)(m:iI V E N){u s:Nat}(hs:J<=s){o:Option Rw}(h:gU (cj V) u s o):∃o',gU (cj N) u s o'/\fV o'=fV o:=by
 have sub:∀q∈cj N,q∈cj V:=λq b=>((iB g c x m).mp b).elim (λ⟨j,f,w,v⟩=>aZ.mpr ⟨j,f,cZ w,v⟩) λb=>by
  obtain⟨f,w,v⟩:=iW b
  exact eC c (x.sub f w q v)
 cases o with
 |none=>exact⟨none,λq b=>h q (sub q b),rfl⟩
 |some r=>
  by_cases v:r∈cj N
  ·exact⟨some r,⟨v,h.2.1,h.2.2.1,λq b=>h.2.2.2 q (sub q b)⟩,rfl⟩
  ·have n1:r∉fs.flatMap FM.rows:=λe=>v ((iB g c x m).mpr (.inr e))
   have A:r∈jT U Z:=by
    obtain⟨j,f,w,D⟩:=aZ.mp h.1
    refine Classical.byContradiction λn=>v ((iB g c x m).mpr (.inl ⟨j,f,(dJ g c x).mpr ⟨w,λ_ e=>n ?_,λ_ e=>n ?_⟩,D⟩))
    ·exact List.mem_flatMap.mpr ⟨f,List.mem_append_left _ e,D⟩
    ·exact List.mem_flatMap.mpr ⟨f,List.mem_append_right _ e,D⟩
   rcases x.drop r A n1 with⟨q,b,e1,e2,e3⟩|⟨k0,_,R,old⟩
   ·exact absurd (h.2.2.2 q (eC c b) (e1.trans h.2.1) (Nat.le_trans e3 hs)) (eK e2)
   ·refine⟨none,λq b e l=>?_,by show AV.none=if r.k=0 then AV.none else _;rw[if_pos k0]⟩
    have Y:=sub q b
    have i:q.u=r.u:=e.trans h.2.1.symm
    have lt:q.s<r.s:=Nat.lt_of_le_of_ne (h.2.2.2 q Y e l) λz=>v (g.ns.inj Y h.1 z▸b)
    rcases(iB g c x m).mp b with⟨j,f,w,a⟩|b
    ·obtain⟨t,f2,W⟩:=(dJ g c x).mp w
     rcases nT c A with⟨d,hd,dl,B⟩|⟨d,hd,dl,B⟩
     ·rcases Nat.lt_trichotomy j k with y|rfl|y
      ·exact absurd (g.up j k y f t d dl q a r B i) (iJ (Nat.le_of_lt lt))
      ·exact c.c2 f t (f2 rfl) d hd r B q a i.symm
      ·rcases Nat.lt_or_eq_of_le (show k+1<=j from y)with y|rfl
       ·obtain⟨L,I,Q⟩:=dZ t
        have p:=g.gf j f t
        exact R j L y I f Q ⟨i▸p.lo_le a,i▸p.le_hi a⟩
       ·have p:=g.gf _ f t
        have G:=p.lo_le a
        have K:=p.le_hi a
        exact(c.c3 f t (W rfl)).elim (λh=>eK (h r A) (i▸K)) λh=>eK (h r A) (i▸G)
     ·rcases Nat.lt_trichotomy j (k+1)with y|rfl|y
      ·exact absurd (g.up j (k+1) y f t d dl q a r B i) (iJ (Nat.le_of_lt lt))
      ·have p:=g.gf _ f t
       have G:=p.lo_le a
       have K:=p.le_hi a
       exact(c.c3 f t (W rfl)).elim (λh=>eK (h r A) (i▸K)) λh=>eK (h r A) (i▸G)
      ·obtain⟨L,I,Q⟩:=dZ t
       have p:=g.gf j f t
       exact R j L y I f Q ⟨i▸p.lo_le a,i▸p.le_hi a⟩
    ·exact old q b i lt
theorem vt(g:Gv unit O V)(c:eS V k U Z)(x:jt unit V k J U Z fs E)(m:iI V E N){y:Int}:y∈nums N↔(y∈nums V/\y∉(U++Z).map λf=>(f.num:Int))∨y∈fs.map λf=>(f.num:Int):=by
 have o:∀{W:bp},y∈nums W↔∃j,∃f∈bV W j,(f.num:Int)=y:=λ{W}=>by
  rw[jo]
  exact List.mem_map.trans ⟨λ⟨f,a,e⟩=>by obtain⟨j,r⟩:=fP a;exact⟨j,f,r,e⟩,λ⟨j,f,a,e⟩=>⟨f,hZ a,e⟩⟩
 rw[o,o]
 constructor
 ·rintro⟨j,f,a,rfl⟩
  rcases(cX x).mp (bL m a).2 with h|⟨_,h⟩
  ·obtain⟨b,p,q⟩:=(dJ g c x).mp h
   refine .inl ⟨⟨j,f,b,rfl⟩,λs=>?_⟩
   obtain⟨d,hd,e⟩:=bw s
   have e:=cW e
   rcases aE hd with hd|hd
   ·exact(g.dd (c.i0 d hd) b (Classical.or_iff_not_imp_right.mpr λz i=>p (Classical.not_not.mp z).symm (i▸hd))).1 e
   ·exact(g.dd (c.i1 d hd) b (Classical.or_iff_not_imp_right.mpr λz i=>q (Classical.not_not.mp z).symm (i▸hd))).1 e
  ·exact .inr (dg ⟨f,h,rfl⟩)
 ·have put:∀{j f},f∈newL V E j->j<V.lv.length->∃j,∃g∈bV N j,(g.num:Int)=f.num:=λ{j f} h l=>⟨j,f,(ez m l).1.symm.subset h,rfl⟩
  rintro(⟨⟨j,f,a,rfl⟩,n⟩|h)
  ·obtain⟨L,e,_⟩:=dZ a
   refine put ((cX x).mpr (.inl ((dJ g c x).mpr ⟨a,λ_ h=>n ?_,λ_ h=>n ?_⟩))) (be e).1
   ·exact dg ⟨f,List.mem_append_left _ h,rfl⟩
   ·exact dg ⟨f,List.mem_append_right _ h,rfl⟩
  ·obtain⟨f,a,rfl⟩:=bw h
   exact put ((cX x).mpr (.inr ⟨rfl,a⟩)) c.kn
end
end
section
variable {σ J:Hp}
section
variable {unit:Int} {Z N:Nat} {V:bp} {k:Nat} {O U fs:List FM} {E:Ed}
theorem Ac{fs:List FM}{f:FM}(h:f∈fs):f.rows.Sublist (fs.flatMap FM.rows):=by
 obtain⟨s,t,e⟩:=List.append_of_mem h
 rw[e,List.flatMap_append,List.flatMap_cons]
 exact(List.sublist_append_left _ _).trans (List.sublist_append_right _ _)
theorem eS.ns(c:eS V k O U)(g:Gv unit Z V):Ns (jT O U):=List.pairwise_flatMap.mpr ⟨λf a=>((aE a).elim (λh=>g.gf _ f (c.i0 f h)) λh=>g.gf _ f (c.i1 f h)).ns,c.pd.imp And.right⟩
theorem eS.len(c:eS V k O U)(g:Gv unit Z V):(jT O U).length<=Z:=nI (c.ns g) λr a=>by
 obtain⟨j,f,b,a⟩:=aZ.mp (eC c a);exact g.sl j f b r a
theorem eS.ins_len(c:eS V k O U)(g:Gv unit Z V):(O++U).length<=Z:=Nat.le_trans (lF λf a=>((aE a).elim (λh=>g.gf _ f (c.i0 f h)) λh=>g.gf _ f (c.i1 f h)).pos) (c.len g)
theorem A0{c:Cm}{W gA:Addr}{ts i:List AV}{dl:List (Addr×Nat×Nat)}{al:List (Addr×Nat×FM)}{m:List Nat}(g:Gv unit Z c.V)(u:eS c.V c.k c.in0 c.in1)(cp:My σ J c W gA ts i N unit dl al m)(lt:∀j,∀f∈bV c.V j,f.num<ts.length):
  ∃fs,jt unit c.V c.k N c.in0 c.in1 fs {c.E with dl:=dl,al:=al}/\(∀f∈fs,∀h∈c.in1,f.num≠h.num)/\(∃t2,i=ts++t2)/\
   ((fs=c.in0/\c.in1=[]/\m=[]/\i=ts)∨(m=(c.in0++c.in1).map FM.num/\fs.map FM.num=List.range' ts.length fs.length/\i.length=ts.length+fs.length/\∀f∈fs,kQ J i f)):=by
 rcases cp.w with⟨f,s,v,A,I,G,y⟩|⟨A,G,fs,Q,y,p,R,o,D,tl,tp,it⟩
 ·have K:=u.i0 f (s▸.head _)
  refine⟨[f],⟨by rw[s,v];exact G,y,λx t r a=>?_,λx t=>?_,List.pairwise_singleton _ _,λx t j q b n1 _ e=>?_,λr a n=>?_⟩,λx _ q b=>?_,⟨[],by rw[List.append_nil,I]⟩,.inl ⟨s.symm,v,A,I⟩⟩
  ·rw[aw t]at a;exact List.mem_flatMap.mpr ⟨f,List.mem_append_left _ (s▸.head _),a⟩
  ·rw[aw t];exact g.gf _ f K
  ·rw[aw t]at e
   refine(g.dd K b (Classical.or_iff_not_imp_right.mpr λz z'=>n1 (Classical.not_not.mp z).symm (s▸z'▸.head _))).1 e
  ·rw[show jT c.in0 c.in1=f.rows by unfold jT;rw[s,v];exact List.append_nil _]at a
   exact(n (List.mem_flatMap.mpr ⟨f,.head _,a⟩)).elim
  ·rw[v]at b;cases b
 ·have B:=o.kk
  rw[List.append_nil]at B
  have keep:=o.keep
  have drop:=o.drop
  rw[List.append_nil]at keep drop
  have nz:Ns Q:=(u.ns g).perm p
  have sb:∀f∈fs,f.rows.Sublist Q:=λf d=>(Ac d).trans B
  have num:∀f∈fs,ts.length<=f.num:=λf d=>by
   have:f.num∈List.range' ts.length fs.length:=D▸dg ⟨f,d,rfl⟩
   exact(List.mem_range'_1.mp this).1
  refine⟨fs,⟨G,y,λf d r a=>p.subset ((sb f d).subset a),λf d=>⟨R.sublist (sb f d),nz.sublist (sb f d),λr a=>?_,(o.ne f d).1,(o.ne f d).2.1,(o.ne f d).2.2⟩,?_,λf d j q b _ _=>Nat.ne_of_gt (Nat.lt_of_lt_of_le (lt j q b) (num f d)),λr a n=>?_⟩,λf d q b=>Nat.ne_of_gt (Nat.lt_of_lt_of_le (lt _ q (u.i1 q b)) (num f d)),tp,.inr ⟨A,D,tl,it⟩⟩
  ·obtain⟨j,q,b,a⟩:=aZ.mp (eC u (p.subset ((sb f d).subset a)))
   exact(g.gf j q b).ok r a
  ·have n1:fs.Pairwise λf g=>f.num≠g.num:=List.pairwise_map.mp (D▸List.nodup_range':(fs.map FM.num).Nodup)
   exact(n1.and (o.ap.and (List.pairwise_flatMap.mp (nz.sublist B)).2)).imp λh=>⟨h.1,λr a q b=>⟨h.2.1 r a q b,h.2.2 r a q b⟩⟩
  ·refine(drop r (p.symm.subset a) n).imp (λ⟨q,b,x⟩=>⟨q,p.subset b,x⟩) λ⟨k0,l,Y⟩=>⟨k0,l,Y,λq b e x=>?_⟩
   exact absurd (keep q b r (p.symm.subset a) e.symm x) (iJ l)
theorem Dd(g:Gv unit Z V)(c:eS V k O U)(x:jt unit V k N O U fs E)(w:∀f∈fs,∀h∈U,f.num≠h.num)(l9:Z<=9):HG V.lv.length E:=by
 have o:∀p∈E.dl,(p.2.1=k/\∃f∈O,f.num=p.2.2)∨(p.2.1=k+1/\∃f∈U,f.num=p.2.2):=λp b=>by
  have:p.2∈E.dl.map (·.2):=dg ⟨p,b,rfl⟩
  rw[x.ed]at this
  rcases aE this with h|h
  ·obtain⟨f,a,e⟩:=bw h;rw[←e];exact .inl ⟨rfl,f,a,rfl⟩
  ·obtain⟨f,a,e⟩:=bw h;rw[←e];exact .inr ⟨rfl,f,a,rfl⟩
 have s:∀p∈E.al,p.2.1=k+1/\p.2.2∈fs:=λp b=>by
  have:p.2∈E.al.map (·.2):=dg ⟨p,b,rfl⟩
  rw[x.ea]at this
  obtain⟨f,a,e⟩:=bw this
  rw[←e];exact⟨rfl,a⟩
 have l:=c.kn
 have u:(E.al.map λp=>p.2.2.num)=fs.map FM.num:=by
  have:=congrArg (List.map λq:Nat×FM=>q.2.num) x.ea
  rw[List.map_map,List.map_map]at this;exact this
 have A:fs.length<=9:=by
  refine Nat.le_trans (lF λf a=>(x.gf f a).pos) (Nat.le_trans (nI (m:=Z) (List.pairwise_flatMap.mpr ⟨λf a=>(x.gf f a).ns,x.fd.imp λh r d q i=>(h.2 r d q i).2⟩) λr d=>?_) l9)
  obtain⟨f,a,d⟩:=iW d
  obtain⟨j,q,i,d⟩:=aZ.mp (eC c (x.sub f a r d))
  exact g.sl j q i r d
 refine⟨λp b=>(o p b).elim (λh=>by exact n2 [_,_,_] J2 Hx IP rfl l h.1) λh=>by exact n2 [_,_,_] J2 Hx GS rfl l h.1,λp b=>by rw[(s p b).1];exact l,u▸List.pairwise_map.mpr (x.fd.imp And.left),λp b q i e t=>?_,?_,?_⟩
 ·obtain⟨y,z⟩:=s q i
  rcases o p b with⟨h,_⟩|⟨_,f,a,h⟩
  ·exact absurd (h.symm.trans (e.trans y)) (Nat.ne_of_lt (Nat.lt_succ_self k))
  ·exact w _ z f a (h.trans t).symm
 ·have:=congrArg List.length x.ed
  rw[List.length_map,List.length_append,List.length_map,List.length_map,←List.length_append]at this
  exact Nat.le_trans (Nat.le_of_eq this) (Nat.le_trans (c.ins_len g) (Nat.le_trans l9 (Nat.le_of_ble_eq_true rfl)))
 ·have:=congrArg List.length x.ea
  rw[List.length_map,List.length_map]at this
  exact n2 [_,_] lZ (.le (.v 1) (.n 9)) CW rfl A this
end
end
section
variable {σ Z:Hp}
structure Fx where
 nA:Addr
 a:Int
 op:Op
 unit:Int
 o:Addr
 p:Addr
 pA:Addr
 ml:Addr
 la:Addr
 tA:Addr
 hA:Addr
 kA:Addr
 wA:Addr
 ns:List Int
structure St where
 V:bp
 sA:Addr
 last:Nat
 ts:List AV
 stand:List Int
 hs:List Hd
 ks:List Kp
 now:List AV
 made:Nat
 ms:List fc
 pts:List (Option Rw)
noncomputable def cells(F:Fx)(S:St):List (Addr×AO):=
 [(F.pA,.list (S.pts.map nX)),(F.tA,.list S.ts),(F.hA,.list (S.hs.map Hd.v)),(F.kA,.list (S.ks.map Kp.v)),(F.wA,.list S.now),(S.sA,.list (S.stand.map .int)),(F.ml,.inst 8 [(5,.ref F.la),(6,.int S.made)]),(F.la,.list (S.ms.map fc.v))]
noncomputable def IA(m:fc):AO:=.inst 7 [(2,.int m.num),(3,.int m.seq),(4,.bool true)]
noncomputable def dM(F:Fx)(S:St):List (Addr×AO):=
 (F.nA,.list (F.ns.map .int))::(S.ms.map (λm=>(m.adr,IA m))++(S.hs.map (λh=>(h.ma,.list h.ms))++S.ks.map λk=>(k.r.ma,.list k.r.ms)))
noncomputable def iR(F:Fx)(S:St):List Addr:=(cells F S).map (·.1)
structure Hf(F:Fx)(σ:Hp)(S:St):Prop where
 hop:ft σ F.op
 hP:yf σ F.p F.op.adr F.o
 hO:sj σ F.o
 hV:dN true σ S.V
 hd:∀h∈S.hs,As σ h
 it:∀j,∀f∈bV S.V j,kQ σ S.ts f
 kp:∀k∈S.ks,σ k.r.adr=some (true,.tup [.ref k.r.V.adr,.int k.r.s,.ref k.r.ma,.ref k.na])/\σ k.na=some (true,.list (k.ns.map .int))/\dN true σ k.r.V/\∀j,∀f∈bV k.r.V j,kQ σ S.ts f
structure Hl(F:Fx)(σ:Hp)(S:St):Prop where
 f:Hf F σ S
 cl:∀p∈cells F S,σ p.1=some (false,p.2)
 nd:(iR F S).Nodup
 qu:∀p∈dM F S,σ p.1=some (false,p.2)/\p.1∉iR F S
section
variable {F:Fx} {S U:St}
theorem Hf.fz(h:Hf F σ S)(z:Fz σ Z):Hf F Z S:=
 ⟨z _ _ h.hop,z _ _ h.hP,h.hO.fz z,h.hV.fz z,λx c=>z _ _ (h.hd x c),λj f b=>(h.it j f b).fz z,λk a=>⟨z _ _ (h.kp k a).1,z _ _ (h.kp k a).2.1,(h.kp k a).2.2.1.fz z,λj f b=>((h.kp k a).2.2.2 j f b).fz z⟩⟩
theorem Hl.up(h:Hl F σ S)(x:aK σ Z):Hl F Z S:=⟨h.f.fz x.fz,λp a=>x _ _ (h.cl p a),h.nd,λp a=>⟨x _ _ (h.qu p a).1,(h.qu p a).2⟩⟩
theorem Hl.d(h:Hl F σ S){i j:Nat}{x y:Addr}(hi:(iR F S)[i]?=some x)(a:(iR F S)[j]?=some y)(n:j≠i):y≠x:=gV h.nd hi a n
theorem Hl.m(h:Hl F σ S)(i:Nat){x:Addr}{o:AO}(hi:(cells F S)[i]?=some (x,o)):σ x=some (false,o):=h.cl _ (List.mem_of_getElem? hi)
def Fr(F:Fx)(S:St)(y:Addr):Prop:=y∉iR F S/\∀p∈dM F S,p.1≠y
theorem Hl.fr(h:Hl F σ S){y:Addr}(e:σ y=none):Fr F S y:=by
 refine⟨λb=>?_,λp a x=>?_⟩
 ·obtain⟨p,a,rfl⟩:=bw b
  rw[h.cl p a]at e;cases e
 ·have:=(h.qu p a).1;rw[x,e]at this;cases this
theorem Hl.cell(h:Hl F σ S){i:Nat}{x:Addr}{o o':AO}{T:List Addr}(hi:(cells F S)[i]?=some (x,o))(m:Mo T σ Z)(hT:∀y∈T,y=x∨Fr F S y)(e:Z x=some (false,o'))(g:cells F U=(cells F S).set i (x,o'))(q:Hf F Z U)
  (r:∀p∈dM F U,p∈dM F S∨(Z p.1=some (false,p.2)/\p.1∉iR F S)):Hl F Z U:=by
 have ce:iR F U=iR F S:=by
  unfold iR
  rw[g,List.map_set]
  refine List.ext_getElem? λj=>?_
  by_cases b:i=j
  ·subst b
   rw[List.getElem?_set_self (by rw[List.length_map];exact(be hi).1),List.getElem?_map,hi];rfl
  ·rw[List.getElem?_set_ne b]
 have l:(iR F S)[i]?=some x:=by unfold iR;rw[List.getElem?_map,hi];rfl
 refine⟨q,λp a=>?_,ce▸h.nd,λp a=>?_⟩
 ·rw[g]at a
  obtain⟨j,c⟩:=List.getElem?_of_mem a
  by_cases b:i=j
  ·subst b
   rw[List.getElem?_set_self (be hi).1]at c
   cases c;exact e
  ·rw[List.getElem?_set_ne b]at c
   have n:(iR F S)[j]?=some p.1:=by unfold iR;rw[List.getElem?_map,c];rfl
   exact m _ _ (λf=>(hT _ f).elim (h.d l n (Ne.symm b)) λz=>z.1 (List.mem_of_getElem? n)) (h.m j c)
 ·rw[ce]
  rcases r p a with a|a
  ·obtain⟨s,k⟩:=h.qu p a
   exact⟨m _ _ (λf=>(hT _ f).elim (λy=>k (y▸List.mem_of_getElem? l)) λz=>z.2 p a rfl) s,k⟩
  ·exact a
theorem Hl.z(h:Hl F σ S){T:List Addr}(m:Mo T σ Z)(hT:∀y∈T,y∈iR F S∨σ y=none):Fz σ Z:=λa o e=>m a _ (λc=>(hT a c).elim (λd=>by
 obtain⟨p,b,rfl⟩:=bw d
 rw[h.cl p b]at e;cases e) λn=>by rw[n]at e;cases e) e
end
structure Pl(F:Fx)(S:St):Prop where
 oo:iS F.op
 nl:F.op.nl=S.V.lv.length
 n0:0<F.ns.length/\F.ns.length<=9000
 u0:0<=F.unit/\F.unit<2 ^ 30
 gv:Gv F.unit S.last S.V
 so:yh S.V
 l9:S.last<=9
 me:S.ms=S.hs.map Hd.k
 mo:mT S.made S.ms
 hl:∀h∈S.hs,h.s<=S.last
 w4:S.now.length=4
 wt:∀u,u<4->∃o,gU (cj S.V) u S.last o/\S.now[u]?=some (fV o)
 ht:∀h∈S.hs,h.ms.length=4/\∀u,u<4->∃o,gU (cj S.V) u h.s o/\h.ms[u]?=some (fV o)
 kt:∀k∈S.ks,Gv F.unit k.r.s k.r.V/\k.r.s<=9/\k.ns.Perm (nums k.r.V)/\k.ns.Pairwise (·<=·)/\k.r.ms.length=4/\∀u,u<4->∃o,gU (cj k.r.V) u k.r.s o/\k.r.ms[u]?=some (fV o)
 sp:S.stand.Perm (nums S.V)
 ss:S.stand.Pairwise (·<=·)
 pl:S.pts.length=S.V.lv.length
 po:AI S.pts
 kl:S.ks.length<=100
 tl:S.ts.length<=100
noncomputable def lv(F:Fx)(S:St)(x:Nat->AV):aG:=
 [.ref F.nA,.int F.a,.ref F.op.adr,.int F.op.nl,.int F.unit,.ref F.o,.ref F.p,.ref F.pA,.ref S.V.adr,.ref F.ml,.ref F.tA,.ref S.sA,.ref F.hA,.ref F.kA,.ref F.wA,.int S.last,
  x 16,x 17,x 18,x 19,x 20,x 21,x 22,x 23,x 24,x 25,x 26,x 27,x 28,x 29,x 30,x 31,x 32,x 33,x 34,x 35,x 36,x 37,x 38]
end
section
variable {ext:bj} {σ Z:Hp} {F:Fx} {S U:St} {x:Nat->AV} {O:SS} {Q:Fl->aG->Hp->Prop}
theorem Pl.sm(p:Pl F S):qj S.V:=p.gv.sm p.l9
theorem Pl.kns(p:Pl F S){k:Kp}(h:k∈S.ks):k.ns.length<=60:=by
 obtain⟨g,s9,a,_⟩:=p.kt k h
 rw[a.length_eq,eH]
 exact Nat.le_trans g.files_len (Nat.le_trans s9 (by decide))
theorem xv{V:bp}{j:Nat}{f:FM}(h:f∈bV V j):(f.num:Int)∈nums V:=jo (V:=V)▸dg ⟨f,hZ h,rfl⟩
theorem oN{n:Nat}(h:Hl F σ S)(p:Pl F S)(k:∀b:List AV,b.length=S.ts.length->Hl F (upd σ F.tA (false,.list b)) {S with ts:=b}->Pl F {S with ts:=b}->Go (cB ext (n+2)) O (lv F S x) (upd σ F.tA (false,.list b)) Q):
  Go (cB ext (n+2)) (.cons (.ex (.fn 84 (.cons (.v 10) (.cons (.v 8) (.cons (.v 13) .nil))))) O) (lv F S x) σ Q:=by
 have r:=h.m 1 rfl
 have c:=h.m 3 rfl
 refine dL (aW (by left) (vP h.f.hV p.sm r c (bh p.tl rfl) p.kl (λk c=>⟨(h.f.kp k c).1,⟨_,(h.f.kp k c).2.1⟩,p.kns c⟩) (h.d (i:=1) (j:=3) rfl rfl (by decide)) (λk c e=>by have:=(h.f.kp k c).2.1;rw[e,r]at this;cases this) λb u s=>k b u (h.cell (i:=1) rfl ((Mo.refl [F.tA] σ).mut (.head _)) (λy o=>.inl (aw o)) ab rfl ?_ λq w=>.inl w) ?_))
 ·have z:=h.z ((Mo.refl [F.tA] σ).mut (d:=(false,.list b)) (.head _)) λy o=>.inl (by rw[aw o];exact .tail _ (.head _))
  have f:=h.f.fz z
  have t:∀{f:FM},b[f.num]?=S.ts[f.num]?->kQ (upd σ F.tA (false,.list b)) S.ts f->kQ (upd σ F.tA (false,.list b)) b f:=λe h=>h.imp λa h=>⟨e▸h.1,h.2⟩
  exact⟨f.hop,f.hP,f.hO,f.hV,f.hd,λj g l=>t (s _ (.inr (.inl (xv l)))) (f.it j g l),λk c=>⟨(f.kp k c).1,(f.kp k c).2.1,(f.kp k c).2.2.1,λj g l=>t (s _ (.inr (.inr ⟨k,c,(p.kt k c).2.2.1.symm.subset (xv l)⟩))) ((f.kp k c).2.2.2 j g l)⟩⟩
 ·exact⟨p.oo,p.nl,p.n0,p.u0,p.gv,p.so,p.l9,p.me,p.mo,p.hl,p.w4,p.wt,p.ht,p.kt,p.sp,p.ss,p.pl,p.po,p.kl,u▸p.tl⟩
theorem Hl.many(h:Hl F σ S){T:List Addr}(m:Mo T σ Z)(ce:iR F U=iR F S)(d:∀p∈cells F U,(p∈cells F S/\p.1∉T)∨Z p.1=some (false,p.2))(e:Hf F Z U)
  (c:∀p∈dM F U,(p∈dM F S/\p.1∉T)∨(Z p.1=some (false,p.2)/\p.1∉iR F S)):Hl F Z U:=
 ⟨e,λp b=>(d p b).elim (λa=>m _ _ a.2 (h.cl p a.1)) id,ce▸h.nd,λp b=>ce▸(c p b).elim (λa=>⟨m _ _ a.2 (h.qu p a.1).1,(h.qu p a.1).2⟩) id⟩
theorem Hl.mrk(h:Hl F σ S){m:fc}(a:m∈S.ms):σ m.adr=some (false,IA m)/\m.adr∉iR F S:=h.qu (m.adr,IA m) (.tail _ (List.mem_append_left _ (dg ⟨m,a,rfl⟩)))
theorem Hl.iml(h:Hl F σ S):oa σ F.ml F.la S.made S.ms:=⟨h.m 6 rfl,h.m 7 rfl,λm a=>(h.mrk a).1⟩
theorem Hl.nq(h:Hl F σ S){p:Addr×AO}(a:p∈dM F S){T:List Addr}(hT:∀y∈T,y∈iR F S):p.1∉T:=λe=>(h.qu p a).2 (hT _ e)
theorem Hl.new(h:Hl F σ S){r:Addr}(a:σ r=none):r∉iR F S:=λe=>by
 obtain⟨p,b,rfl⟩:=bw e
 rw[h.cl p b]at a;cases a
theorem Hl.add(h:Hl F σ S){r:Addr}(g:σ r=none)(m:Mo [F.ml,F.la] σ Z)(e:oa Z F.ml F.la (S.made+1) (S.ms++[⟨r,S.made+1,S.last⟩])):Hl F Z {S with made:=S.made+1,ms:=S.ms++[⟨r,S.made+1,S.last⟩]}:=by
 have hT:∀y∈[F.ml,F.la],y∈iR F S:=λy b=>by
  rcases au b with rfl|b
  ·exact List.mem_of_getElem? (i:=6) rfl
  ·rw[aw b];exact List.mem_of_getElem? (i:=7) rfl
 have z:=h.z m λy b=>.inl (hT y b)
 have n {i:Nat} {y:Addr} (b:(iR F S)[i]?=some y) (o:i≠6) (j:i≠7):y∉[F.ml,F.la]:=a7 (h.d (i:=6) rfl b o) (di (h.d (i:=7) rfl b j))
 have f:=h.f.fz z
 refine h.many m rfl (λp a=>?_) ⟨f.hop,f.hP,f.hO,f.hV,f.hd,f.it,f.kp⟩ λp a=>?_
 ·rcases au a with rfl|a
  ·exact .inl ⟨.head _,n (i:=0) rfl (by decide) (by decide)⟩
  rcases au a with rfl|a
  ·exact .inl ⟨.tail _ (.head _),n (i:=1) rfl (by decide) (by decide)⟩
  rcases au a with rfl|a
  ·exact .inl ⟨.tail _ (.tail _ (.head _)),n (i:=2) rfl (by decide) (by decide)⟩
  rcases au a with rfl|a
  ·exact .inl ⟨.tail _ (.tail _ (.tail _ (.head _))),n (i:=3) rfl (by decide) (by decide)⟩
  rcases au a with rfl|a
  ·exact .inl ⟨.tail _ (.tail _ (.tail _ (.tail _ (.head _)))),n (i:=4) rfl (by decide) (by decide)⟩
  rcases au a with rfl|a
  ·exact .inl ⟨.tail _ (.tail _ (.tail _ (.tail _ (.tail _ (.head _))))),n (i:=5) rfl (by decide) (by decide)⟩
  rcases au a with rfl|a
  ·exact .inr e.m
  ·rw[aw a];exact .inr e.l
 ·rcases au a with rfl|a
  ·exact .inl ⟨.head _,h.nq (.head _) hT⟩
  rcases aE a with a|a
  ·obtain⟨q,c,rfl⟩:=bw a
   rcases aE c with c|c
   ·have:(q.adr,IA q)∈dM F S:=.tail _ (List.mem_append_left _ (dg ⟨q,c,rfl⟩))
    exact .inl ⟨this,h.nq this hT⟩
   ·rw[aw c]
    exact .inr ⟨e.k _ (List.mem_append_right _ (.head _)),h.new g⟩
  ·have:p∈dM F S:=.tail _ (List.mem_append_right _ a)
   exact .inl ⟨this,h.nq this hT⟩
end
section
variable {ext:bj} {σ Z:Hp} {F:Fx} {S S':St} {x:Nat->AV} {ss:SS} {Q:Fl->aG->Hp->Prop}
theorem Hl.note(h:Hl F σ S){t c:Addr}{d:Hp}{m:fc}(r:aK σ Z)(n:σ c=none)(g:Z c=some (false,.list S.now))(o:Z t=some (true,.tup [.ref m.adr,.int m.seq,.ref c]))(l:Mo [F.hA] Z d)(z:Fz Z d)(e:d F.hA=some (false,.list (S.hs.map Hd.v++[.ref t]))):Hl F d {S with hs:=S.hs++[⟨t,m,c,S.now⟩]}:=by
 have k:=h.up r
 have j:=h.new n
 have u:c≠F.hA:=λe=>j (e▸List.mem_of_getElem? (i:=2) rfl)
 have f:=k.f.fz z
 refine k.cell (i:=2) rfl l (λy s=>.inl (aw s)) e (by unfold cells;rw[aY];rfl) ⟨f.hop,f.hP,f.hO,f.hV,λq b=>?_,f.it,f.kp⟩ λp a=>?_
 ·rcases aE b with b|b
  ·exact f.hd q b
  ·rw[aw b];exact z _ _ o
 ·rcases au a with rfl|a
  ·exact .inl (.head _)
  rcases aE a with a|a
  ·exact .inl (.tail _ (List.mem_append_left _ a))
  rcases aE a with a|a
  ·rw[aY]at a
   rcases aE a with a|a
   ·exact .inl (.tail _ (List.mem_append_right _ (List.mem_append_left _ a)))
   ·rw[aw a];exact .inr ⟨l _ _ (di u) g,j⟩
  ·exact .inl (.tail _ (List.mem_append_right _ (List.mem_append_right _ a)))
theorem Pl.note(p:Pl F S){t c r:Addr}(i:∀m∈S.ms,m.adr≠r)(b:S.hs.length<=60):Pl F {S with made:=S.made+1,ms:=S.ms++[⟨r,S.made+1,S.last⟩],hs:=S.hs++[⟨t,⟨r,S.made+1,S.last⟩,c,S.now⟩]} where
 oo:=p.oo
 nl:=p.nl
 n0:=p.n0
 u0:=p.u0
 gv:=p.gv
 so:=p.so
 l9:=p.l9
 me:=by show S.ms++_=(S.hs++_).map Hd.k;rw[aY,p.me]
 mo:=by
  have mo:=p.mo
  have ml:∀m∈S.ms,m.seq<=S.last:=λm d=>by rw[p.me]at d;obtain⟨h,e,rfl⟩:=bw d;exact p.hl h e
  refine⟨?_,λm d=>?_,?_,?_,?_⟩
  ·show((S.ms++[_]).map fc.num).Pairwise _
   rw[aY]
   exact List.pairwise_append.mpr ⟨mo.n,List.pairwise_singleton _ _,λa f b g=>by obtain⟨m,d,rfl⟩:=bw f;rw[aw g];exact Nat.lt_succ_of_le (mo.b m d)⟩
  ·rcases aE d with d|d
   ·exact Nat.le_succ_of_le (mo.b m d)
   ·rw[aw d];exact Nat.le_refl _
  ·show((S.ms++[_]).map fc.seq).Pairwise _
   rw[aY]
   exact List.pairwise_append.mpr ⟨mo.s,List.pairwise_singleton _ _,λa f b g=>by obtain⟨m,d,rfl⟩:=bw f;rw[aw g];exact ml m d⟩
  ·show((S.ms++[_]).map fc.adr).Nodup
   rw[aY]
   exact iu mo.a λa f=>by obtain⟨m,d,rfl⟩:=bw f;exact i m d
  ·show(S.ms++[_]).length<=100
   have:=congrArg List.length p.me
   rw[List.length_map]at this
   rw[List.length_append,List.length_singleton];exact n2 [_,_] EW yD CW rfl b this
 hl:=λh e=>(aE e).elim (p.hl h) λe=>by rw[aw e];exact Nat.le_refl _
 w4:=p.w4
 wt:=p.wt
 ht:=λh e=>(aE e).elim (p.ht h) λe=>by rw[aw e];exact⟨p.w4,p.wt⟩
 kt:=p.kt
 sp:=p.sp
 ss:=p.ss
 pl:=p.pl
 po:=p.po
 kl:=p.kl
 tl:=p.tl
theorem wB{n:Nat}{o:Int}(h:Hl F σ S)(p:Pl F S)(b:S.hs.length<=50)(z:x 17=.int o)
  (k:∀(hs:List Hd) (made:Nat) (ms:List fc) (v:AV) Z,Hl F Z {S with hs:=hs,made:=made,ms:=ms}->Pl F {S with hs:=hs,made:=made,ms:=ms}->hs.length<=S.hs.length+2->Go (cB ext (n+2)) ss (lv F {S with hs:=hs,made:=made,ms:=ms} (aI x 22 v)) Z Q):
  Go (cB ext (n+2)) (.cons (.forR 22 (.k (.int 0)) (.sub (.lst (.cons (.k (.int 1)) (.cons (.k (.int 1)) (.cons (.k (.int 2)) (.cons (.k (.int 0)) .nil))))) (.bin .mod (.v 17) (.k (.int 4)))) true (.cons (.ex (.bm .append (.v 12) (.cons (.tup (.cons (.mth (.v 9) 2 (.cons (.v 15) .nil)) (.cons (.v 15) (.cons (.bi .list (.cons (.v 14) .nil)) .nil)))) .nil)))
 .nil)) ss) (lv F S x) σ Q:=by
 obtain⟨j,W,J⟩:∃j:Nat,o%4=j/\j<4:=Hz o (by decide) rfl
 obtain⟨m,f,m2⟩:∃m:Nat,([.int 1,.int 1,.int 2,.int 0]:List AV)[j]?=some (.int m)/\m<=2:=by
  have:j=0∨j=1∨j=2∨j=3:=by exact u4 J
  rcases this with rfl|rfl|rfl|rfl
  ·exact⟨1,rfl,by decide⟩
  ·exact⟨1,rfl,by decide⟩
  ·exact⟨2,rfl,by decide⟩
  ·exact⟨0,rfl,by decide⟩
 have s:bT (lv F S x) 17=some (.int o):=by show bT [x 17] 0=_;rw[z];rfl
 refine g8 (iK (qx (a8 (by left) rfl λt g=>aS (aU (cH (bo s) aT (by decide)) (congrArg AV.int W)) (wQ ab (Nat.le_of_ble_eq_true rfl) f ?_))))
 refine dO (λa:(List Hd×Nat×List fc)×AV=>lv F {S with hs:=a.1.1,made:=a.1.2.1,ms:=a.1.2.2} (aI x 22 a.2))
  (λi a Z=>Hl F Z {S with hs:=a.1.1,made:=a.1.2.1,ms:=a.1.2.2}/\Pl F {S with hs:=a.1.1,made:=a.1.2.1,ms:=a.1.2.2}/\(a.1.1.length:Int)<=S.hs.length+i) ((S.hs,S.made,S.ms),x 22) ?_ ⟨by decide,by decide,by exact Int.natCast_nonneg m,by exact z1 [_] jJ Nb rfl (cl m2)⟩ ⟨h.up (aK.new g),p,by dsimp only;exact Int.le_refl ↑S.hs.length⟩ ?_ ?_
 ·unfold lv;rfl
 ·rintro i ⟨⟨hs,made,ms⟩,v⟩ Z R g1 g2 ⟨h,p,l⟩ D
  dsimp only at h p l D
  have O:=h.m 2 rfl
  have K:=h.m 6 rfl
  have c4:=h.m 4 rfl
  have w:∀m∈ms,m.seq<=S.last:=λm f=>by have e:ms=hs.map Hd.k:=p.me;rw[e]at f;obtain⟨q,N,rfl⟩:=bw f;exact p.hl q N
  have U:S.now.length<=9000:=Nat.le_trans (Nat.le_of_eq p.w4) (Nat.le_of_ble_eq_true rfl)
  have u:(hs.map Hd.v).length<=9000:=aO (Nat.le_trans (show hs.length<=60 by exact Int.ofNat_le.mp (Int.le_trans l (Int.le_trans (Int.add_le_add (bF b) (Int.le_of_lt (Int.lt_of_lt_of_le g2 (bF m2)))) (by decide)))) (Nat.le_of_ble_eq_true rfl))
  refine dL (iH (aS (by left) (ja O rfl (aj (oP (aj (aV (by left) K rfl rfl (by left) (EY h.iml p.mo w (h.d (i:=7) (j:=6) rfl rfl (by decide)) λr Y A V I=>?_))))))))
  have y:=h.add A V I
  have d4:=y.m 4 rfl
  have d2:=y.m 2 rfl
  refine aj (aS (by left) (aj (mJ (aj (aS (by left) (aD (vf d4 U λc B=>aD (oG rfl λt g=>aD ?_))))))))
  have G:=(aK.new (c:=(false,.list S.now)) B).trans (aK.new (c:=(true,.tup [.ref r,.int S.last,.ref c])) g)
  have E:=G _ _ d2
  refine dQ E u (ak (aR (D ((hs++[⟨t,⟨r,made+1,S.last⟩,c,S.now⟩],made+1,ms++[⟨r,made+1,S.last⟩]),.int i) _ ⟨y.note G B (ag g ab) ab ((Mo.refl _ _).mut (.head _)) (Fz.mut E) ab,p.note (λm f=>af (h.mrk f).1 A) (by show hs.length<=60;exact Int.ofNat_le.mp (Int.le_trans l (Int.le_trans (Int.add_le_add (bF b) (Int.le_of_lt (Int.lt_of_lt_of_le g2 (bF m2)))) (by decide)))),?_⟩)))
  show(((hs++[_]).length:Nat):Int)<=_
  rw[List.length_append,List.length_singleton];exact z1 [_,_,_] (.le (.a (.v 0) (.n 1)) (.a (.v 1) (.a (.v 2) (.n 1)))) (.le (.v 0) (.a (.v 1) (.v 2))) rfl l
 ·rintro i ⟨⟨hs,made,ms⟩,v⟩ Z g1 g2 g3 ⟨h,p,l⟩
  exact k hs made ms v Z h p (by dsimp only at l;exact Int.ofNat_le.mp (Int.le_trans l (Int.add_le_add_left (g3.elim (λq=>Int.le_trans (Int.le_of_eq q) (by decide)) λq=>Int.le_trans (Int.le_of_eq q) (bF m2)) _)))
end
section
variable {ext:bj} {σ Z:Hp} {F:Fx} {S S':St} {x:Nat->AV} {U:SS} {Q:Fl->aG->Hp->Prop}
theorem Pl.keep(p:Pl F S){t c d:Addr}{ns:List Int}(p1:ns.Perm (nums S.V))(p2:ns.Pairwise (·<=·))(b:S.ks.length<=60):Pl F {S with ks:=S.ks++[⟨⟨t,S.V,S.last,c,S.now⟩,d,ns⟩]}:=
 ⟨p.oo,p.nl,p.n0,p.u0,p.gv,p.so,p.l9,p.me,p.mo,p.hl,p.w4,p.wt,p.ht,λk a=>(aE a).elim (p.kt k) λa=>by rw[aw a];exact⟨p.gv,p.l9,p1,p2,p.w4,p.wt⟩,p.sp,p.ss,p.pl,p.po,by
  show(S.ks++[_]).length<=100
  rw[List.length_append,List.length_singleton];exact n1 [_] EW lZ rfl b,p.tl⟩
theorem A4{n:Nat}{G:Int}(h:Hl F σ S)(p:Pl F S)(b:S.ks.length<=50)(u:x 17=.int G)
  (k:∀(ks:List Kp) Z,Hl F Z {S with ks:=ks}->Pl F {S with ks:=ks}->ks.length<=S.ks.length+1->Go (cB ext (n+1)) U (lv F S x) Z Q):
  Go (cB ext (n+1)) (.cons (.ite (.t (.cmp .eq (.bin .mod (.bin .fdiv (.v 17) (.k (.int 4))) (.k (.int 2))) (.k (.int 1)))) (.cons (.ex (.bm .append (.v 13) (.cons (.tup (.cons (.v 8) (.cons (.v 15) (.cons (.bi .list (.cons (.v 14) .nil)) (.cons (.mth (.v 8) 24 .nil) .nil))))) .nil)))
 .nil) .nil) U) (lv F S x) σ Q:=by
 have j:bT (lv F S x) 17=some (.int G):=by show bT [x 17] 0=_;rw[u];rfl
 refine bB (λ_:Unit=>lv F S x) (λ_ Z=>∃ks,Hl F Z {S with ks:=ks}/\Pl F {S with ks:=ks}/\ks.length<=S.ks.length+1) (λR B=>?_) λ_ Z ⟨ks,h,p,l⟩=>k ks Z h p l
 refine hF (bR (ff (cH (dY (bo j) aT (by decide)) aT (by decide)) aT rfl)) (jv (λ_=>?_) λ_=>ak (bk (B () σ ⟨S.ks,h,p,Nat.le_succ _⟩)))
 have O:=h.m 3 rfl
 have I:=h.m 4 rfl
 have v1:=h.f.hV.v
 have N:S.now.length<=9000:=Nat.le_trans (Nat.le_of_eq p.w4) (Nat.le_of_ble_eq_true rfl)
 have W:(S.ks.map Kp.v).length<=9000:=aO (Nat.le_trans b (Nat.le_of_ble_eq_true rfl))
 refine dL (iH (aS (by left) (ja O rfl (aj (oP (aj (aS (by left) (aj (aS (by left) (aj (mJ (aj (aS (by left) (aD (vf I N λc g=>?_)))))))))))))))
 have s:=ag (c:=(false,.list S.now)) g v1
 refine aj (aV (by left) s rfl rfl (by left) (ip (h.f.hV.up (aK.new g)) p.sm λw D p1 K d=>aD (oG rfl λt o=>aD ?_)))
 have J:=((aK.new (c:=(false,.list S.now)) g).trans (aK.new (c:=(true,.list (w.map .int))) d)).trans (aK.new (c:=(true,.tup [.ref S.V.adr,.int S.last,.ref c,.ref D])) o)
 have r:=h.up J
 have E:=r.m 3 rfl
 refine dQ E W (ak (bk (B () _ ⟨S.ks++[⟨⟨t,S.V,S.last,c,S.now⟩,D,w⟩],?_,p.keep p1 K (Nat.le_trans b (by decide)),by rw[List.length_append];exact Nat.le_refl _⟩)))
 have A:=h.new g
 have ch:c≠F.kA:=λe=>A (e▸List.mem_of_getElem? (i:=3) rfl)
 have z:Fz _ (upd _ F.kA (false,.list (S.ks.map Kp.v++[.ref t]))):=Fz.mut E
 have f:=r.f.fz z
 refine r.cell (i:=3) rfl ((Mo.refl [F.kA] _).mut (.head _)) (λy Y=>.inl (aw Y)) ab (by unfold cells;rw[aY];rfl) ⟨f.hop,f.hP,f.hO,f.hV,f.hd,f.it,λq a=>?_⟩ λq a=>?_
 ·rcases aE a with a|a
  ·exact f.kp q a
  ·rw[aw a]
   exact⟨z _ _ ab,z _ _ (ag o ab),f.hV,f.it⟩
 ·rcases au a with rfl|a
  ·exact .inl (.head _)
  rcases aE a with a|a
  ·exact .inl (.tail _ (List.mem_append_left _ a))
  rcases aE a with a|a
  ·exact .inl (.tail _ (List.mem_append_right _ (List.mem_append_left _ a)))
  ·rw[aY]at a
   rcases aE a with a|a
   ·exact .inl (.tail _ (List.mem_append_right _ (List.mem_append_right _ a)))
   ·rw[aw a];exact .inr ⟨aq ch (ag o (ag d ab)),A⟩
end
section
variable {ext:bj} {σ Z:Hp} {F:Fx} {S S':St} {x:Nat->AV} {ss:SS} {Q:Fl->aG->Hp->Prop}
theorem era{B:Type}{l:List B}{i:Nat}:l.take i++l.drop (i+1)=l.eraseIdx i:=(List.eraseIdx_eq_take_drop_succ ..).symm
theorem mT.era{made i:Nat}{ms:List fc}(h:mT made ms):mT made (ms.eraseIdx i):=by
 have s:=List.eraseIdx_sublist ms i
 exact⟨h.n.sublist (s.map _),λm c=>h.b m (s.subset c),h.s.sublist (s.map _),(s.map _).nodup h.a,Nat.le_trans s.length_le h.l⟩
theorem Pl.drop(p:Pl F S)(i:Nat):Pl F {S with hs:=S.hs.eraseIdx i,ms:=S.ms.eraseIdx i}:=
 ⟨p.oo,p.nl,p.n0,p.u0,p.gv,p.so,p.l9,by show S.ms.eraseIdx i=(S.hs.eraseIdx i).map Hd.k;rw[fS,p.me],p.mo.era,λh a=>p.hl h ((List.eraseIdx_sublist _ _).subset a),p.w4,p.wt,λh a=>p.ht h ((List.eraseIdx_sublist _ _).subset a),p.kt,p.sp,p.ss,p.pl,p.po,p.kl,p.tl⟩
theorem Pl.dropK(p:Pl F S)(i:Nat):Pl F {S with ks:=S.ks.eraseIdx i}:=
 ⟨p.oo,p.nl,p.n0,p.u0,p.gv,p.so,p.l9,p.me,p.mo,p.hl,p.w4,p.wt,p.ht,λh a=>p.kt h ((List.eraseIdx_sublist _ _).subset a),p.sp,p.ss,p.pl,p.po,Nat.le_trans (List.eraseIdx_sublist _ _).length_le p.kl,p.tl⟩
theorem Hl.popH(h:Hl F σ S)(i:Nat):Hl F (upd σ F.hA (false,.list ((S.hs.eraseIdx i).map Hd.v))) {S with hs:=S.hs.eraseIdx i}:=by
 have sb:=List.eraseIdx_sublist S.hs i
 have f:=h.f.fz (h.z ((Mo.refl [F.hA] σ).mut (d:=(false,.list ((S.hs.eraseIdx i).map Hd.v))) (.head _)) λy b=>.inl (by rw[aw b];exact List.mem_of_getElem? (i:=2) rfl))
 refine h.cell (i:=2) rfl ((Mo.refl [F.hA] _).mut (.head _)) (λy b=>.inl (aw b)) ab rfl ⟨f.hop,f.hP,f.hO,f.hV,λq a=>f.hd q (sb.subset a),f.it,f.kp⟩ λq a=>.inl ?_
 rcases au a with rfl|a
 ·exact .head _
 rcases aE a with a|a
 ·exact .tail _ (List.mem_append_left _ a)
 rcases aE a with a|a
 ·exact .tail _ (List.mem_append_right _ (List.mem_append_left _ ((sb.map _).subset a)))
 ·exact .tail _ (List.mem_append_right _ (List.mem_append_right _ a))
theorem Hl.popK(h:Hl F σ S)(i:Nat):Hl F (upd σ F.kA (false,.list ((S.ks.eraseIdx i).map Kp.v))) {S with ks:=S.ks.eraseIdx i}:=by
 have sb:=List.eraseIdx_sublist S.ks i
 have f:=h.f.fz (h.z ((Mo.refl [F.kA] σ).mut (d:=(false,.list ((S.ks.eraseIdx i).map Kp.v))) (.head _)) λy b=>.inl (by rw[aw b];exact List.mem_of_getElem? (i:=3) rfl))
 refine h.cell (i:=3) rfl ((Mo.refl [F.kA] _).mut (.head _)) (λy b=>.inl (aw b)) ab rfl ⟨f.hop,f.hP,f.hO,f.hV,f.hd,f.it,λq a=>f.kp q (sb.subset a)⟩ λq a=>.inl ?_
 rcases au a with rfl|a
 ·exact .head _
 rcases aE a with a|a
 ·exact .tail _ (List.mem_append_left _ a)
 rcases aE a with a|a
 ·exact .tail _ (List.mem_append_right _ (List.mem_append_left _ a))
 ·exact .tail _ (List.mem_append_right _ (List.mem_append_right _ ((sb.map _).subset a)))
theorem Hl.dropM(h:Hl F σ S){i:Nat}{m:fc}(hi:S.ms[i]?=some m)(ok:mT S.made S.ms)(t:Mo [F.la,m.adr] σ Z)(s:oa Z F.ml F.la S.made (S.ms.eraseIdx i)):Hl F Z {S with ms:=S.ms.eraseIdx i}:=by
 have v:=List.mem_of_getElem? hi
 have mk:=h.mrk v
 have z:Fz σ Z:=t.fz λy o=>by
  rcases au o with rfl|o
  ·exact⟨_,h.m 7 rfl⟩
  ·rw[aw o];exact⟨_,mk.1⟩
 have f:=h.f.fz z
 have n {j:Nat} {y:Addr} (o:(iR F S)[j]?=some y) (u:j≠7):y∉[F.la,m.adr]:=a7 (h.d (i:=7) rfl o u) (di λe=>mk.2 (e▸List.mem_of_getElem? o))
 refine h.many t rfl (λp b=>?_) ⟨f.hop,f.hP,f.hO,f.hV,f.hd,f.it,f.kp⟩ λp b=>?_
 ·rcases au b with rfl|b
  ·exact .inl ⟨.head _,n (j:=0) rfl (by decide)⟩
  rcases au b with rfl|b
  ·exact .inl ⟨.tail _ (.head _),n (j:=1) rfl (by decide)⟩
  rcases au b with rfl|b
  ·exact .inl ⟨.tail _ (.tail _ (.head _)),n (j:=2) rfl (by decide)⟩
  rcases au b with rfl|b
  ·exact .inl ⟨.tail _ (.tail _ (.tail _ (.head _))),n (j:=3) rfl (by decide)⟩
  rcases au b with rfl|b
  ·exact .inl ⟨.tail _ (.tail _ (.tail _ (.tail _ (.head _)))),n (j:=4) rfl (by decide)⟩
  rcases au b with rfl|b
  ·exact .inl ⟨.tail _ (.tail _ (.tail _ (.tail _ (.tail _ (.head _))))),n (j:=5) rfl (by decide)⟩
  rcases au b with rfl|b
  ·exact .inr s.m
  ·rw[aw b];exact .inr s.l
 ·have nl:∀q∈dM F S,q.1≠F.la:=λq c e=>(h.qu q c).2 (e▸List.mem_of_getElem? (i:=7) rfl)
  have lst:∀a r,(a,AO.list r)∈dM F S->((a,AO.list r)∈dM F S/\a∉[F.la,m.adr]):=λa r c=>⟨c,a7 (nl _ c) (di λe=>by have:=(h.qu _ c).1;rw[show(a,AO.list r).1=m.adr from e,mk.1]at this;cases this)⟩
  rcases au b with rfl|b
  ·exact .inl (lst _ _ (.head _))
  rcases aE b with b|b
  ·obtain⟨q,c,rfl⟩:=bw b
   exact .inr ⟨s.k q c,(h.mrk ((List.eraseIdx_sublist _ _).subset c)).2⟩
  rcases aE b with g|g
  ·obtain⟨q,_,rfl⟩:=bw g;exact .inl (lst _ _ (.tail _ (List.mem_append_right _ b)))
  ·obtain⟨q,_,rfl⟩:=bw g;exact .inl (lst _ _ (.tail _ (List.mem_append_right _ b)))
end
section
variable {ext:bj} {σ Z:Hp} {F:Fx} {S S':St} {x:Nat->AV} {U:SS} {Q:Fl->aG->Hp->Prop}
theorem yK{z:Int}{n:Nat}(h:0<n):∃i:Nat,z%(n:Int)=i/\i<n:=Hz z (dF h) rfl
theorem Ch{n:Nat}{gz:Int}(h:Hl F σ S)(p:Pl F S)(u:bT (lv F S x) 23=some (.int gz))
  (k:∀(hs:List Hd) (ms:List fc) (v:AV) Z,Hl F Z {S with hs:=hs,ms:=ms}->Pl F {S with hs:=hs,ms:=ms}->hs.length<=S.hs.length->Go (cB ext (n+2)) U (lv F {S with hs:=hs,ms:=ms} (aI x 24 v)) Z Q):
  Go (cB ext (n+2)) (.cons (.ite (.and (.cons (.t (.cmp .gt (.bi .len (.cons (.v 12) .nil)) (.k (.int 0)))) (.cons (.t (.cmp .eq (.bin .mod (.v 23) (.k (.int 3))) (.k (.int 0)))) .nil))) (.cons (.asg 24 (.bm .pop (.v 12) (.cons (.bin .mod (.bin .fdiv (.v 23) (.k (.int 3))) (.bi .len (.cons (.v 12) .nil))) .nil)))
 (.cons (.ex (.mth (.v 9) 5 (.cons (.sub (.v 24) (.k (.int 0))) .nil)))
 .nil)) .nil) U) (lv F S x) σ Q:=by
 have b:=h.m 2 rfl
 have I:S.hs.length<=100:=by have:=p.mo.l;rw[p.me,List.length_map]at this;exact this
 have D:=aO (g:=Hd.v) (bh I rfl)
 refine bB (λa:(List Hd×List fc)×AV=>lv F {S with hs:=a.1.1,ms:=a.1.2} (aI x 24 a.2)) (λa Z=>Hl F Z {S with hs:=a.1.1,ms:=a.1.2}/\Pl F {S with hs:=a.1.1,ms:=a.1.2}/\a.1.1.length<=S.hs.length) (λR o=>?_) λa Z ⟨h,p,l⟩=>k _ _ _ Z h p l
 have no:Go (cB ext (n+2)) .nil (lv F S x) σ (Kj R Q):=ak (bk (o ((S.hs,S.ms),x 24) σ ⟨h,p,Nat.le_refl _⟩))
 refine ku (bz (hF (by left) (br (λy=>bz (hF (by left) (jv (λ_=>da (eJ ?_)) λ_=>df no))) λ_=>df no)))
 have y:0<S.hs.length:=by rw[List.length_map]at y;exact cu y
 obtain⟨i,B,il⟩:=yK (z:=gz/3) y
 have q:=List.getElem?_eq_getElem il
 have s:(((S.hs.map Hd.v).length:Nat):Int)=(S.hs.length:Nat):=by rw[List.length_map]
 refine az (iH (aS (by left) (ja b rfl (aj (aS (aU (x':=.int ((i:Nat):Int)) (v:=.int (gz/3%((S.hs.map Hd.v).length:Nat))) (cH (by left) (by left) (by rw[s];exact dF (Nat.zero_lt_of_lt il))) (congrArg AV.int (by rw[s];exact B))) (aD (yB (i:=i) b D (by rw[List.getElem?_map,q];rfl) ?_)))))))
 rw[era,←fS]
 have e:=h.popH i
 have A:=e.m 6 rfl
 have hd:=h.f.hd _ (List.getElem_mem il)
 unfold As at hd
 have G:=cP (c:=(false,.list ((S.hs.eraseIdx i).map Hd.v))) b hd
 have r:S.ms[i]?=some (S.hs[i]).k:=by rw[p.me,List.getElem?_map,q];rfl
 refine dL (aV (by left) A rfl rfl (by left) (Bv e.iml p.mo r (h.d (i:=7) (j:=6) rfl rfl (by decide)) λZ E w=>ak (bk (o ((S.hs.eraseIdx i,S.ms.eraseIdx i),_) Z ⟨e.dropM r p.mo E w,p.drop i,(List.eraseIdx_sublist _ _).length_le⟩))))
theorem yU{n:Nat}{gz:Int}(h:Hl F σ S)(p:Pl F S)(d:bT (lv F S x) 23=some (.int gz))
  (k:∀(ks:List Kp) Z,Hl F Z {S with ks:=ks}->Pl F {S with ks:=ks}->ks.length<=S.ks.length->Go (cB ext n) U (lv F S x) Z Q):
  Go (cB ext n) (.cons (.ite (.and (.cons (.t (.cmp .gt (.bi .len (.cons (.v 13) .nil)) (.k (.int 0)))) (.cons (.t (.cmp .eq (.bin .mod (.bin .fdiv (.v 23) (.k (.int 24))) (.k (.int 3))) (.k (.int 0)))) .nil))) (.cons (.ex (.bm .pop (.v 13) (.cons (.bin .mod (.bin .fdiv (.v 23) (.k (.int 72))) (.bi .len (.cons (.v 13) .nil))) .nil)))
 .nil) .nil) U) (lv F S x) σ Q:=by
 have b:=h.m 3 rfl
 have f:=aO (g:=Kp.v) (bh p.kl rfl)
 refine bB (λ_:Unit=>lv F S x) (λ_ Z=>∃ks,Hl F Z {S with ks:=ks}/\Pl F {S with ks:=ks}/\ks.length<=S.ks.length) (λR a=>?_) λ_ Z ⟨ks,h,p,l⟩=>k ks Z h p l
 have no:Go (cB ext n) .nil (lv F S x) σ (Kj R Q):=ak (bk (a () σ ⟨S.ks,h,p,Nat.le_refl _⟩))
 refine ku (bz (hF (by left) (br (λy=>bz (hF (by left) (jv (λ_=>da (eJ ?_)) λ_=>df no))) λ_=>df no)))
 have y:0<S.ks.length:=by rw[List.length_map]at y;exact cu y
 obtain⟨i,e,il⟩:=yK (z:=gz/72) y
 have j:=List.getElem?_eq_getElem il
 have c:(((S.ks.map Kp.v).length:Nat):Int)=(S.ks.length:Nat):=by rw[List.length_map]
 refine dL (iH (aS (by left) (ja b rfl (aj (aS (aU (x':=.int ((i:Nat):Int)) (v:=.int (gz/72%((S.ks.map Kp.v).length:Nat))) (cH (by left) (by left) (by rw[c];exact dF (Nat.zero_lt_of_lt il))) (congrArg AV.int (by rw[c];exact e))) (aD (yB (i:=i) b f (by rw[List.getElem?_map,j];rfl) ?_)))))))
 rw[era,←fS]
 exact ak (bk (a () _ ⟨S.ks.eraseIdx i,h.popK i,p.dropK i,(List.eraseIdx_sublist _ _).length_le⟩))
end
section
noncomputable def kJ(w:List AV)(r:Rw):List AV:=w.set r.u (fV (some r))
def F7(R:List Rw)(s:Nat)(w:List AV):Prop:=∀u,u<4->∃o,gU R u s o/\w[u]?=some (fV o)
theorem pP:∀{rs:List Rw} {w:List AV},(rs.foldl kJ w).length=w.length
 |[],_=>rfl
 |r::rs,w=>by rw[List.foldl_cons,pP];unfold kJ;rw[List.length_set]
theorem BV{R:List Rw}{s:Nat}{w:List AV}{r:Rw}(h:F7 R s w)(l:w.length=4)(i:s<r.s)(b:∀q∈R,q.s<=s)(u4:r.u<4):F7 (R++[r]) r.s (kJ w r):=λu g=>by
 unfold kJ
 by_cases e:r.u=u
 ·subst e
  refine⟨some r,⟨List.mem_append_right _ (.head _),rfl,Nat.le_refl _,λq a _ _=>?_⟩,List.getElem?_set_self (by exact m2 [_,_] J2 0 (-1) 1 (.eq (.v 1) (.n 4)) No rfl l u4)⟩
  rcases aE a with a|a
  ·exact Nat.le_trans (b q a) (Nat.le_of_lt i)
  ·rw[aw a];exact Nat.le_refl _
 ·obtain⟨o,d,j⟩:=h u g
  refine⟨o,?_,by rw[List.getElem?_set_ne e];exact j⟩
  have c:∀q∈R++[r],q.u=u->q∈R:=λq a g=>(aE a).elim id λa=>by rw[aw a]at g;exact(e g).elim
  cases o with
  |none=>exact λq a x _=>d q (c q a x) x (b q (c q a x))
  |some k=>exact⟨List.mem_append_left _ d.1,d.2.1,Nat.le_trans d.2.2.1 (Nat.le_of_lt i),λq a x _=>d.2.2.2 q (c q a x) x (b q (c q a x))⟩
theorem uM:∀{rs:List Rw} {R:List Rw} {s:Nat} {w:List AV},F7 R s w->w.length=4->(∀q∈R,q.s<=s)->rs.map Rw.s=List.range' (s+1) rs.length->(∀r∈rs,r.u<4)->F7 (R++rs) (s+rs.length) (rs.foldl kJ w)
 |[],R,s,w,h,_,_,_,_=>by rw[List.append_nil];exact h
 |r::rs,R,s,w,h,l,b,e,u4=>by
  obtain⟨d,j⟩:=List.cons.inj (e.trans (List.range'_succ ..))
  have i:=BV h l (by exact m1 [_,_] J2 0 (-1) (.eq (.v 1) (.a (.v 0) (.n 1))) rfl d) b (u4 r (.head _))
  have:=uM (rs:=rs) (d▸i) (by unfold kJ;rw[List.length_set];exact l) (λq c=>?_) (by rw[j]) λr g=>u4 r (.tail _ g)
  ·rw[List.append_assoc]at this
   rw[List.length_cons,show s+(rs.length+1)=s+1+rs.length by exact Nat.le_antisymm (n0 [_,_] P4 rfl) (n0 [_,_] PM rfl)];exact this
  ·rcases aE c with c|c
   ·exact Nat.le_succ_of_le (b q c)
   ·rw[aw c,d];exact Nat.le_refl _
section
variable {unit:Int} {Z last' p:Nat} {V U:bp} {E:Ed} {f:FM}
theorem nQ(a:E.al=[(p,0,f)])(j:Nat):cQ E.al j=if j=0 then[f] else[]:=hW (al:=E.al) (fs:=[f]) (by rw[a];rfl) j
theorem dv(hd:E.dl=[])(a:E.al=[(p,0,f)]){j:Nat}{q:FM}:q∈newL V E j↔q∈bV V j∨(j=0/\q=f):=by
 unfold newL
 rw[rq hd,nQ a,List.mem_append]
 refine or_congr Iff.rfl ?_
 by_cases e:j=0
 ·rw[if_pos e];exact⟨λh=>⟨e,aw h⟩,λh=>List.mem_singleton.mpr h.2⟩
 ·rw[if_neg e];exact⟨nM,λh=>(e h.1).elim⟩
theorem iT(g:Gv unit Z V)(hd:E.dl=[])(a:E.al=[(p,0,f)])(m:iI V E U){r:Rw}:r∈cj U↔r∈cj V∨r∈f.rows:=by
 refine(oH m λj h=>?_).trans ⟨λ⟨j,q,c,b⟩=>?_,λh=>h.elim (λh=>?_) λh=>⟨0,f,(dv hd a).mpr (.inr ⟨rfl,rfl⟩),h⟩⟩
 ·rw[nQ a]at h
  by_cases e:j=0
  ·rw[e];exact Nat.lt_of_lt_of_le (by decide) g.n.1
  ·rw[if_neg e]at h;exact(h rfl).elim
 ·exact((dv hd a).mp c).imp (λh=>aZ.mpr ⟨j,q,h,b⟩) λ⟨_,h⟩=>h▸b
 ·obtain⟨j,q,c,b⟩:=aZ.mp h
  exact⟨j,q,(dv hd a).mpr (.inl c),b⟩
theorem fK{V:bp}{y:Int}:y∈nums V↔∃j,∃f∈bV V j,(f.num:Int)=y:=by
 rw[jo]
 exact List.mem_map.trans ⟨λ⟨f,a,e⟩=>by obtain⟨j,b⟩:=fP a;exact⟨j,f,b,e⟩,λ⟨j,f,a,e⟩=>⟨f,hZ a,e⟩⟩
theorem sU(g:Gv unit Z V)(hd:E.dl=[])(a:E.al=[(p,0,f)])(m:iI V E U){y:Int}:y∈nums U↔y∈nums V∨y=f.num:=by
 rw[fK,fK]
 have put:∀{j q},q∈newL V E j->j<V.lv.length->∃j,∃g∈bV U j,(g.num:Int)=q.num:=λ{j q} h l=>⟨j,q,(ez m l).1.symm.subset h,rfl⟩
 refine⟨λ⟨j,q,b,e⟩=>((dv hd a).mp (bL m b).2).imp (λh=>⟨j,q,h,e⟩) λ⟨_,h⟩=>h▸e.symm,λh=>h.elim (λ⟨j,q,b,e⟩=>?_) λh=>?_⟩
 ·obtain⟨L,c,_⟩:=dZ b
  exact e▸put ((dv hd a).mpr (.inl b)) (be c).1
 ·exact h▸put ((dv hd a).mpr (.inr ⟨rfl,rfl⟩)) (Nat.lt_of_lt_of_le (by decide) g.n.1)
end
theorem oO{xs ys:List Int}(p:xs.Perm ys)(h:xs.Pairwise (·<=·))(k:ys.Pairwise (·<=·)):xs=ys:=List.Perm.eq_of_pairwise (λ_ _ _ _=>Int.le_antisymm) h k p
end
section
variable {ext:bj} {σ Z:Hp} {F:Fx} {S S':St} {x:Nat->AV} {U:SS} {Q:Fl->aG->Hp->Prop}
theorem Hl.now(h:Hl F σ S)(w:List AV):Hl F (upd σ F.wA (false,.list w)) {S with now:=w}:=by
 have f:=h.f.fz (h.z ((Mo.refl [F.wA] σ).mut (d:=(false,.list w)) (.head _)) λy a=>.inl (by rw[aw a];exact List.mem_of_getElem? (i:=4) rfl))
 exact h.cell (i:=4) rfl ((Mo.refl [F.wA] _).mut (.head _)) (λy a=>.inl (aw a)) ab rfl ⟨f.hop,f.hP,f.hO,f.hV,f.hd,f.it,f.kp⟩ λq b=>.inl b
theorem Eo{n:Nat}{rs:List Rw}{q:Addr}(h:Hl F σ S)(w:σ q=some (true,.list (rs.map cV)))(hR:gh σ rs)(ok:∀r∈rs,r.ok)(D:S.now.length=4)(ln:rs.length<=9)
  (k:∀v Z,Hl F Z {S with now:=rs.foldl kJ S.now}->Fz σ Z->Go (cB ext n) U (lv F S (aI x 20 v)) Z Q):
  sZ (cB ext n) [20] (.cons (.setI (.v 14) (.sub (.v 20) (.k (.int 0))) (.ite (.t (.cmp .eq (.sub (.v 20) (.k (.int 2))) (.k (.int 1)))) (.bi .bytes (.cons (.lst (.cons (.bin .sub (.k (.int 0)) (.sub (.v 20) (.k (.int 1)))) .nil)) .nil)) (.k .none)))
 .nil) U Q (.ref q) (lv F S x) σ:=by
 refine eP rs cV (λv:AV=>lv F S (aI x 20 v)) (λa _ Z=>Hl F Z {S with now:=a.foldl kJ S.now}/\Fz σ Z) (x 20) (by unfold lv;rfl) w (bh ln rfl) (λ_ _ Z p=>⟨_,p.2 _ _ w⟩) ⟨h,Fz.refl _⟩ ?_ λv Z ⟨h,z⟩=>k v Z h z
 rintro a r J v Z R e ⟨h,z⟩ d
 have B:=aP e
 have b:=ok r B
 have l:=z _ _ (hR r B)
 unfold EK at l
 have o:=h.m 4 rfl
 have f:(a.foldl kJ S.now).length=4:=pP.trans D
 have I:(a++[r]).foldl kJ S.now=(a.foldl kJ S.now).set r.u (fV (some r)):=by rw[List.foldl_append];rfl
 rw[I]at d
 refine mY (dC (Gi (hF (by left) (br (λy=>?_) λy=>?_))))
 ·have k1:¬r.k=0:=λe=>by rw[e]at y;exact absurd y (by decide)
  have j:fV (some r)=.bytes [UInt8.ofNat r.s]:=if_neg k1
  rw[j]at d
  refine mJ (aj (a8 (by left) rfl λc g=>aD (lQ ab (Nat.le_of_ble_eq_true rfl) (F8 _ b.s) ?_)))
  have A:=h.up (aK.new (c:=(false,.list [.int (0- -(r.s:Int))])) g)
  have d4:=A.m 4 rfl
  have G:=ag (c:=(false,.list [.int (0- -(r.s:Int))])) g l
  exact aS (by left) (aS (by left) (s8 (i:=r.u) d4 (by rw[f];decide) (by rw[f];exact b.u) (ak (aR (d (cV r) _ ⟨A.now _,(z.trans (Fz.new g)).trans (Fz.mut d4)⟩)))))
 ·have E:r.k=0:=by
   exact Nat.lt_one_iff.mp (Mine.ln b.k λe=>y (by rw[e];rfl))
  have j:fV (some r)=.none:=if_pos E
  rw[j]at d
  exact iK (aS (by left) (aS (by left) (s8 (i:=r.u) o (by rw[f];decide) (by rw[f];exact b.u) (ak (aR (d (cV r) _ ⟨h.now _,z.trans (Fz.mut o)⟩))))))
end
section
variable {ext:bj} {σ Z:Hp} {F:Fx} {S U:St} {x:Nat->AV} {O:SS} {Q:Fl->aG->Hp->Prop}
theorem j8.mv{E:Ed}{T:List Addr}(h:j8 σ E)(m:Mo T σ Z)(z:Fz σ Z)(n1:E.dlA∉T)(n2:E.alA∉T)(n3:E.cp∉T):j8 Z E:=
 ⟨z _ _ h.e,m _ _ n1 h.d,m _ _ n2 h.a,h.c.imp λ_ e=>m _ _ n3 e,λp b=>z _ _ (h.dt p b),λp b=>⟨z _ _ (h.at' p b).1,z _ _ (h.at' p b).2⟩⟩
theorem Hl.stand(h:Hl F σ S)(w:List Int):Hl F (upd σ S.sA (false,.list (w.map .int))) {S with stand:=w}:=by
 have f:=h.f.fz (h.z ((Mo.refl [S.sA] σ).mut (d:=(false,.list (w.map .int))) (.head _)) λy a=>.inl (by rw[aw a];exact List.mem_of_getElem? (i:=5) rfl))
 exact h.cell (i:=5) rfl ((Mo.refl [S.sA] _).mut (.head _)) (λy a=>.inl (aw a)) ab rfl ⟨f.hop,f.hP,f.hO,f.hV,f.hd,f.it,f.kp⟩ λq b=>.inl b
theorem Hl.ts(h:Hl F σ S){ts:List AV}{T:List Addr}{t2:List AV}(m:Mo T σ Z)(z:Fz σ Z)(hT:∀y∈T,y=F.tA∨Fr F S y)(e:Z F.tA=some (false,.list ts))(l:ts=S.ts++t2):Hl F Z {S with ts:=ts}:=by
 have f:=h.f.fz z
 have d:∀{f:FM},kQ Z S.ts f->kQ Z ts f:=λh=>h.imp λa h=>⟨by rw[l,List.getElem?_append_left (be h.1).1];exact h.1,h.2⟩
 exact h.cell (i:=1) rfl m hT e rfl ⟨f.hop,f.hP,f.hO,f.hV,f.hd,λj g c=>d (f.it j g c),λk b=>⟨(f.kp k b).1,(f.kp k b).2.1,(f.kp k b).2.2.1,λj g c=>d ((f.kp k b).2.2.2 j g c)⟩⟩ λq n=>.inl n
theorem Hl.ver(h:Hl F σ S){V:bp}(a:dN true σ V)(b:∀j,∀f∈bV V j,kQ σ S.ts f):Hl F σ {S with V:=V}:=⟨⟨h.f.hop,h.f.hP,h.f.hO,a,h.f.hd,b,h.f.kp⟩,h.cl,h.nd,h.qu⟩
theorem Hl.lst(h:Hl F σ S)(l:Nat):Hl F σ {S with last:=l}:=⟨⟨h.f.hop,h.f.hP,h.f.hO,h.f.hV,h.f.hd,h.f.it,h.f.kp⟩,h.cl,h.nd,h.qu⟩
theorem Hl.num(h:Hl F σ S){j:Nat}{f:FM}(b:f∈bV S.V j):f.num<S.ts.length:=by
 obtain⟨a,e,_⟩:=h.f.it j f b
 exact(be e).1
theorem xf{n t:Nat}(h:Hl F σ S)(p:Pl F S)(l6:S.last<=6)(t9:S.ts.length<=90)(t2:t<=2)(κ:bT (lv F S x) 16=some (.int t))
  (k:∀U μ N ξ Z,Hl F Z U->Pl F U->U.last<=S.last+3->U.hs=S.hs->U.ks=S.ks->U.ts.length=S.ts.length+1->Go (cB ext (n+8)) O (lv F U (aI (aI (aI x 19 μ) 20 N) 21 ξ)) Z Q):
  Go (cB ext (n+8)) (.cons (.asg 19 (.fn 87 (.cons (.fn 76 (.cons (.v 0) (.cons (.bin .add (.k (.int 1)) (.bin .mul (.k (.int 5)) (.v 16))) .nil))) (.cons (.v 15) .nil))))
 (.cons (.asg 15 (.bin .add (.v 15) (.bi .len (.cons (.v 19) .nil))))
 (.cons (.for [20] (.v 19) (.cons (.setI (.v 14) (.sub (.v 20) (.k (.int 0))) (.ite (.t (.cmp .eq (.sub (.v 20) (.k (.int 2))) (.k (.int 1)))) (.bi .bytes (.cons (.lst (.cons (.bin .sub (.k (.int 0)) (.sub (.v 20) (.k (.int 1)))) .nil)) .nil)) (.k .none)))
 .nil))
 (.cons (.asg 21 (.mk 15 .nil))
 (.cons (.ex (.bm .append (.v 11) (.cons (.bi .len (.cons (.v 10) .nil)) .nil)))
 (.cons (.ex (.fn 80 (.cons (.k (.int 0)) (.cons (.bi .sorted (.cons (.v 19) .nil)) (.cons (.v 10) (.cons (.v 21) (.cons (.v 4) .nil)))))))
 (.cons (.asg 8 (.fn 79 (.cons (.v 8) (.cons (.v 21) (.cons (.v 2) .nil)))))
 O))))))) (lv F S x) σ Q:=by
 have hn:=(h.qu _ (.head _)).1
 refine az (At (aj (aW (ax (by left) (ax (aU (x':=.int ((1+5*t:Nat):Int)) (cI aT (fv aT (bo κ) (by decide)) rfl) (congrArg AV.int (by exact rfl))) aQ)) (pW hn p.n0.1 p.n0.2 λy=>aj (aS (by left) (aD (vQ λxA G Z r1 r3 w hR hx xE=>?_)))))))
 have h1:=h.up xE
 have rl:(G.map cV).length<=9000:=aO (Nat.le_trans r3 (by decide))
 have lm:AV.int ((S.last:Int)+((G.map cV).length:Nat))=AV.int ((S.last+G.length:Nat):Int):=by rw[List.length_map];rfl
 have R:∀r∈G,r.ok:=λr A=>by
  have hs:r.s∈List.range' (S.last+1) G.length:=w.s▸dg ⟨r,A,rfl⟩
  have:=List.mem_range'_1.mp hs
  exact⟨(w.uk r A).1,by exact n3 [_,_,_] (.le (.a (.v 0) (.n 1)) (.n 10)) (.le (.v 1) (.n 6)) (.le (.v 2) (.n 3)) (.le (.a (.v 0) (.n 1)) (.a (.a (.v 1) (.n 1)) (.v 2))) rfl l6 r3 this.2,(w.uk r A).2⟩
 refine bG (aU (by left) lm) (mK (aS (by left) ?_))
 have h2:Hl F Z {S with last:=S.last+G.length}:=h1.lst _
 refine Eo (S:={S with last:=S.last+G.length}) (x:=aI x 19 (.ref xA)) h2 hx hR R p.w4 (by exact n1 [_] (.le (.v 0) (.n 9)) FZ rfl r3) λN ψ h3 z1=>?_
 have ns:Ns G:=List.pairwise_map.mp (w.s▸List.nodup_range':(G.map Rw.s).Nodup)
 have xT:=z1 _ _ hx
 have χ:bT (lv F {S with last:=S.last+G.length} (aI (aI x 19 (.ref xA)) 20 N)) 19=some (.ref xA):=rfl
 refine az (fR (by left) rfl λe he=>rB he λE K e1 e2 e3 x2 iE g1 g2 g3 g4 g5 g6 _=>wu ?_)
 subst e1
 have h4:=h3.up x2
 have c1:=h4.m 1 rfl
 have c5:=h4.m 5 rfl
 have sl:(S.stand.map AV.int).length<=9000:=by
  rw[List.length_map,p.sp.length_eq,eH]
  exact Nat.le_trans p.gv.files_len (Nat.le_trans p.l9 (by decide))
 have υ:S.ts.length<=9000:=Nat.le_trans t9 (by decide)
 refine uX (by left) (by left) c5 sl ?_
 have h5:=h4.stand (S.stand++[(S.ts.length:Int)])
 have ce:(S.stand.map AV.int++[AV.int (S.ts.length:Nat)])=(S.stand++[(S.ts.length:Int)]).map .int:=aY.symm
 rw[ce]
 have z5:Fz K (upd K S.sA (false,.list ((S.stand++[(S.ts.length:Int)]).map .int))):=Fz.mut c5
 have a5:=h3.m 5 rfl
 have J:=iE.mv ((Mo.refl [S.sA] K).mut (d:=(false,.list ((S.stand++[(S.ts.length:Int)]).map .int))) (.head _)) z5 (di (Ne.symm (af a5 g2))) (di (Ne.symm (af a5 g3))) (di (Ne.symm (af a5 g1)))
 generalize upd K S.sA (false,.list ((S.stand++[(S.ts.length:Int)]).map .int))=W at h5 z5 J
 have β:=x2.fz.trans z5
 have ν:=β _ _ xT
 refine dL (At (aj (iK (aj (mJ (aj (aS (by left) (aD (oW ν (hR.fz (z1.trans β)) ?_ (by exact n1 [_] lZ FZ rfl r3) ns λY I hy pz so=>aj (aS (by left) (aj (aS (by left) (aj (aS (by left) (aD ?_)))))))))))))))
 ·intro e;rw[e]at r1;exact absurd r1 (by decide)
 have h6:=h5.up (aK.new (c:=(false,.list (I.map cV))) hy)
 have zl:=pz.length_eq
 have i0:=List.getElem?_eq_getElem (l:=I) (i:=0) (by exact m2 [_,_] CU 0 1 (-1) (.le (.n 1) (.v 1)) CW rfl r1 zl)
 have i1:=List.getElem?_eq_getElem (l:=I) (i:=I.length-1) (by exact n1 [_,_] J2 HJ rfl (Nat.sub_add_cancel (n:=I.length) (m:=1) (m2 [_,_] (.le (.n 1) (.v 0)) 0 1 (-1) (.le (.n 1) (.v 1)) (.eq (.v 0) (.v 1)) rfl r1 zl)))
 have d1:=h6.m 1 rfl
 have η:=J.up (aK.new (c:=(false,.list (I.map cV))) hy)
 have b1:=h3.m 1 rfl
 have ω:=h3.fr g2
 have π:=h3.fr g3
 have frc:=h3.fr g1
 have ρ:=h5.fr hy
 have t1:F.tA∈iR F {S with last:=S.last+G.length}:=List.mem_of_getElem? (i:=1) rfl
 have zz:gh (upd W Y (false,.list (I.map cV))) I:=λr A=>(hR.fz ((z1.trans β).trans (Fz.new (c:=(false,.list (I.map cV))) hy))) r (pz.subset A)
 have ny:∀{a d},W a=some d->Y≠a:=λe=>Ne.symm (af e hy)
 refine ya (k:=0) (E:=E) (ts:=S.ts) (fz:=false) ab zz (λr A=>R r (pz.subset A)) i0 i1 (by exact n2 [_,_] jJ (.le (.v 1) (.n 3)) CW rfl r3 zl) d1 υ η (by rw[e3];decide) ?_ ?_ (a7 (Ne.symm g6) (di (Ne.symm g5))) λpp a θ ε tE rE mo=>?_
 ·exact a7 (Ne.symm (ny (h5.m 1 rfl))) (a7 (af b1 g3) (a7 (af b1 g2) (di (af b1 g1))))
 ·exact a7 (ny J.a) (a7 (ny J.d) (di (ny J.c.choose_spec)))
 have z4:Fz (upd W Y (false,.list (I.map cV))) θ:=mo.fz λq z=>by
  rcases au z with rfl|z
  ·exact⟨_,d1⟩
  rcases au z with rfl|z
  ·exact⟨_,η.a⟩
  ·rw[aw z];exact⟨_,ab⟩
 have h7:=h6.ts (ts:=S.ts++[.ref Y]) mo z4 (λq z=>by
  rcases au z with rfl|z
  ·exact .inl rfl
  rcases au z with rfl|z
  ·exact .inr π
  ·rw[aw z];exact .inr ρ) tE rfl
 generalize hf:(⟨a,S.ts.length,I.length*F.unit,I[0]'(by rw[zl];exact r1),I[I.length-1]'(Nat.sub_lt (by rw[zl];exact r1) Nat.one_pos),I⟩:FM)=f at ε
 have fr:f.rows=I:=by rw[←hf]
 have fn:f.num=S.ts.length:=by rw[←hf]
 have nz:Ns I:=ns.perm pz
 have gf:Gf F.unit f:=by rw[←hf];exact⟨so,nz,λr A=>R r (pz.subset A),i0,i1,rfl⟩
 have δ:∀r∈f.rows,S.last<r.s/\r.s<=S.last+G.length:=λr A=>by
  rw[fr]at A
  have hs:r.s∈List.range' (S.last+1) G.length:=w.s▸dg ⟨r,pz.subset A,rfl⟩
  have:=List.mem_range'_1.mp hs
  exact⟨this.1,Nat.le_of_lt_succ (by rw[Nat.add_right_comm]at this;exact this.2)⟩
 have B:(E.more pp 0 f).dl=[]:=e2
 have D:(E.more pp 0 f).al=[(pp,0,f)]:=by show E.al++_=_;rw[e3];rfl
 have ll:S.last<=S.last+G.length:=Nat.le_add_right _ _
 have l9:S.last+G.length<=9:=by exact Nat.add_le_add l6 r3
 have kv:=wV p.gv ll B D gf δ λj g hg=>by rw[fn];exact h.num hg
 have eo:HG S.V.lv.length (E.more pp 0 f):=by
  refine⟨λq z=>?_,λq z=>?_,?_,λq z=>?_,?_,?_⟩
  ·rw[B]at z;cases z
  ·rw[D]at z;rw[aw z];exact Nat.lt_of_lt_of_le (show 0<2 by decide) p.gv.n.1
  ·rw[D];exact List.pairwise_singleton _ _
  ·rw[B]at z;cases z
  ·rw[B];decide
  ·rw[D];exact Nat.le_of_ble_eq_true rfl
 refine az (aW (by left) (tI h7.f.hV p.sm ε eo (kv.mok p.gv ll l9) h7.f.hop p.oo p.nl (λV' md=>(kv.made p.gv ll md).fsz l9 p.u0.1 p.u0.2) λV' γ md ho sc x5 iV=>?_))
 have gv:=kv.made p.gv ll md
 have φ:∀j,∀q∈bV V' j,kQ γ (S.ts++[.ref Y]) q:=λj q z=>by
  rcases(dv B D).mp (bL md z).2 with z|⟨_,rfl⟩
  ·exact(h7.f.it j q z).fz x5.fz
  ·exact⟨Y,by rw[fn];exact List.getElem?_concat_length,by rw[fr];exact x5 _ _ rE,by rw[fr];exact zz.fz (z4.trans x5.fz)⟩
 have h8:=(h7.up x5).ver iV φ
 have old:∀q∈cj S.V,q.s<=S.last:=λq z=>by obtain⟨j,g,hg,z⟩:=aZ.mp z;exact(p.gv.sl j g hg q z).2
 have nw:=uM p.wt p.w4 old w.s λr A=>(w.uk r A).1
 have ζ:∀{r},r∈cj V'↔r∈cj S.V++G:=λ{r}=>(iT p.gv B D md).trans (by rw[fr,List.mem_append,pz.mem_iff])
 have tn:(S.ts.length:Int)∉nums S.V:=λe=>by
  obtain⟨j,g,hg,e⟩:=fK.mp e
  exact absurd (cW e) (Nat.ne_of_lt (h.num hg))
 refine k ⟨V',S.sA,S.last+G.length,S.ts++[.ref Y],S.stand++[(S.ts.length:Int)],S.hs,S.ks,G.foldl kJ S.now,S.made,S.ms,S.pts⟩ (.ref xA) N (.ref E.adr) γ h8 ?_ (Nat.add_le_add_left r3 _) rfl rfl (by show(S.ts++[_]).length=_;rw[List.length_append];rfl)
 refine⟨p.oo,md.n▸p.nl,p.n0,p.u0,gv,sc,l9,p.me,p.mo,λq z=>Nat.le_trans (p.hl q z) ll,pP.trans p.w4,λu hu=>?_,λq z=>⟨(p.ht q z).1,λu hu=>?_⟩,p.kt,?_,?_,md.n▸p.pl,p.po,p.kl,?_⟩
 ·exact(nw u hu).imp λo ho=>⟨ho.1.same (λq z=>ζ.mpr z) λq z _ _=>ζ.mp z,ho.2⟩
 ·obtain⟨o,ho,e⟩:=(p.ht q z).2 u hu
  refine⟨o,ho.same (λr A=>(iT p.gv B D md).mpr (.inl A)) λr A _ l=>((iT p.gv B D md).mp A).elim id λA=>?_,e⟩
  exact absurd (Nat.le_trans l (p.hl q z)) (eK (δ r A).1)
 ·refine(List.perm_ext_iff_of_nodup ?_ gv.nums).mpr λy=>?_
  ·exact List.nodup_append.mpr ⟨p.sp.symm.pairwise p.gv.nums Ne.symm,List.pairwise_singleton _ _,λa ha b hb e=>tn (by rw[aw hb]at e;exact e▸p.sp.subset ha)⟩
  ·rw[sU p.gv B D md,List.mem_append,p.sp.mem_iff,List.mem_singleton,fn]
 ·refine List.pairwise_append.mpr ⟨p.ss,List.pairwise_singleton _ _,λa ha b hb=>?_⟩
  rw[aw hb]
  obtain⟨j,g,hg,rfl⟩:=fK.mp (p.sp.subset ha)
  exact bF (Nat.le_of_lt (h.num hg))
 ·show(S.ts++[_]).length<=100
  rw[List.length_append,List.length_singleton];exact Nat.le_trans (Nat.succ_le_succ t9) (Nat.le_of_ble_eq_true rfl)
end
section
variable {ext:bj} {σ Z:Hp} {F:Fx} {S S':St} {x:Nat->AV} {ss:SS} {Q:Fl->aG->Hp->Prop}
theorem Hl.pts(h:Hl F σ S){pts:List (Option Rw)}(m:Mo [F.pA] σ Z)(e:Z F.pA=some (false,.list (pts.map nX))):Hl F Z {S with pts:=pts}:=by
 have f:=h.f.fz (h.z m λy a=>.inl (by rw[aw a];exact List.mem_of_getElem? (i:=0) rfl))
 exact h.cell (i:=0) rfl m (λy a=>.inl (aw a)) e rfl ⟨f.hop,f.hP,f.hO,f.hV,f.hd,f.it,f.kp⟩ λq b=>.inl b
theorem Hl.newS(h:Hl F σ S){s:Addr}(hs:σ s=none)(w:List Int):Hl F (upd σ s (false,.list (w.map .int))) {S with sA:=s,stand:=w}:=by
 have l:=h.up (aK.new (c:=(false,.list (w.map .int))) hs)
 have n:=(h.fr hs).1
 have ne {i:Nat} {y:Addr} (B:(iR F S)[i]?=some y):y≠s:=λe=>n (e▸List.mem_of_getElem? B)
 have d {i j:Nat} {a b:Addr} (q:(iR F S)[i]?=some a) (r:(iR F S)[j]?=some b) (k:j≠i):b≠a:=h.d q r k
 refine⟨⟨l.f.hop,l.f.hP,l.f.hO,l.f.hV,l.f.hd,l.f.it,l.f.kp⟩,λp g=>?_,?_,λp g=>⟨(l.qu p g).1,λo=>?_⟩⟩
 ·rcases au g with rfl|g
  ·exact l.m 0 rfl
  rcases au g with rfl|g
  ·exact l.m 1 rfl
  rcases au g with rfl|g
  ·exact l.m 2 rfl
  rcases au g with rfl|g
  ·exact l.m 3 rfl
  rcases au g with rfl|g
  ·exact l.m 4 rfl
  rcases au g with rfl|g
  ·exact ab
  rcases au g with rfl|g
  ·exact l.m 6 rfl
  ·rw[aw g];exact l.m 7 rfl
 ·have D:=h.nd
  have e:iR F {S with sA:=s,stand:=w}=(iR F S).set 5 s:=rfl
  rw[e]
  refine List.pairwise_iff_getElem.mpr λi j q r A=>?_
  rw[List.length_set]at q r
  have gi:=List.getElem?_eq_getElem q
  have u:=List.getElem?_eq_getElem r
  rw[List.getElem_set,List.getElem_set]
  by_cases t:5=i
  ·rw[if_pos t,if_neg (by exact Nat.ne_of_lt (n2 [_,_] (.le (.a (.n 5) (.n 1)) (.v 0)) LT (.eq (.n 5) (.v 1)) rfl A t))];exact Ne.symm (ne u)
  ·rw[if_neg t]
   by_cases z:5=j
   ·rw[if_pos z];exact ne gi
   ·rw[if_neg z];exact d u gi (by exact Nat.ne_of_lt (n1 [_,_] J2 J2 rfl A))
 ·have e:iR F {S with sA:=s,stand:=w}=(iR F S).set 5 s:=rfl
  rw[e]at o
  rcases List.mem_or_eq_of_mem_set o with o|o
  ·exact(l.qu p g).2 o
  ·exact(h.fr hs).2 p g o
theorem xy{hs:List Hd}{a:Nat}(c:((hs.map Hd.k).map fc.seq).Pairwise (·<=·))(e:∀h∈hs,h.s<=a):xW hs a<=a/\∀h∈hs,xW hs a<=h.s:=by
 cases hs with
 |nil=>exact⟨Nat.le_refl _,λ_=>nM⟩
 |cons d hs=>
  refine⟨e d (.head _),λh b=>?_⟩
  rcases au b with rfl|b
  ·exact Nat.le_refl _
  ·exact(List.pairwise_cons.mp c).1 _ (dg ⟨_,dg ⟨h,b,rfl⟩,rfl⟩)
noncomputable def gi(a:List Nat):List Int:=a.map λn:Nat=>(n:Int)
noncomputable def dw(c:List Int)(d:List Nat)(a b:Nat):List Int:=(c.filter λn=>!(gi d).any (·==n))++aM a b
theorem yE{unit:Int}{q k Y:Nat}{V t:bp}{p o fs:List FM}{E:Ed}{ts l:List AV}{i:List Nat}{d:List Int}(g:Gv unit q V)(c:eS V k p o)(r:jt unit V k Y p o fs E)(m:iI V E t)(W:Gv unit q t)(lt:∀j,∀f∈bV V j,f.num<ts.length)
  (w:(fs=p/\o=[]/\i=[]/\l=ts)∨(i=(p++o).map FM.num/\fs.map FM.num=List.range' ts.length fs.length/\l.length=ts.length+fs.length)) (G:d.Perm (nums V)) (U:d.Pairwise (·<=·)):
  (dw d i ts.length l.length).Perm (nums t)/\(dw d i ts.length l.length).Pairwise (·<=·):=by
 have nd:d.Nodup:=G.symm.pairwise g.nums Ne.symm
 have J:∀y∈d,y<(ts.length:Int):=λy hy=>by obtain⟨j,f,s,rfl⟩:=fK.mp (G.subset hy);exact dF (lt j f s)
 have I:∀{y:Int},y∈aM ts.length l.length↔(ts.length:Int)<=y/\y<l.length:=λ{y}=>by
  refine⟨mem_range,λh=>?_⟩
  unfold aM
  exact dg ⟨(y-ts.length).toNat,List.mem_range.mpr (by exact Int.lt_toNat.mpr (by rw[Int.toNat_of_nonneg (Int.sub_nonneg_of_le h.1)];exact Int.sub_lt_sub_right h.2 _)),by exact(by rw[Int.toNat_of_nonneg (Int.sub_nonneg_of_le h.1),Int.add_comm];exact Int.sub_add_cancel _ _)⟩
 have N:∀{R:Int->Int->Prop},(∀a b,a<b->R a b)->(aM ts.length l.length).Pairwise R:=λ{R} hR=>by
  unfold aM
  exact List.pairwise_map.mpr (List.pairwise_lt_range.imp λh=>hR _ _ (by exact z1 [_,_,_] (.le (.a (.a (.v 0) (.v 1)) (.n 1)) (.a (.v 0) (.v 2))) (.le (.a (.v 1) (.n 1)) (.v 2)) rfl (cl h)))
 have u:∀{y:Int},y∈d.filter (λn=>!(gi i).any (·==n))↔y∈d/\y∉gi i:=λ{y}=>by
  rw[List.mem_filter]
  refine and_congr Iff.rfl ?_
  cases e:(gi i).any (·==y)with
  |true=>
   obtain⟨z,hz,e⟩:=List.any_eq_true.mp e
   have:z=y:=by simpa using e
   exact⟨fT,λh=>(h (this▸hz)).elim⟩
  |false=>exact⟨λ_ h=>by
   have a:(gi i).any (λx=>x==y)=true:=List.any_eq_true.mpr ⟨y,h,beq_self_eq_true y⟩
   exact absurd (e.symm.trans a) fT,λ_=>rfl⟩
 have B:∀{y:Int},y∈dw d i ts.length l.length↔y∈nums t:=λ{y}=>by
  unfold dw
  rw[List.mem_append,u,I,vt g c r m,G.mem_iff]
  rcases w with⟨rfl,rfl,rfl,rfl⟩|⟨rfl,K,O⟩
  ·refine⟨λh=>?_,λh=>.inl ⟨?_,nM⟩⟩
   ·rcases h with h|h
    ·by_cases e:y∈fs.map λf=>(f.num:Int)
     ·exact .inr e
     ·exact .inl ⟨h.1,by rw[List.append_nil];exact e⟩
    ·exact absurd h.2 (fX h.1)
   ·rcases h with h|h
    ·exact h.1
    ·obtain⟨f,s,e⟩:=bw h
     exact fK.mpr ⟨k,f,c.i0 f s,e⟩
  ·refine or_congr (and_congr Iff.rfl (not_congr ?_)) ⟨λh=>?_,λh=>?_⟩
   ·unfold gi;rw[List.map_map];exact Iff.rfl
   ·have:y.toNat∈fs.map FM.num:=by rw[K];exact List.mem_range'_1.mpr (by exact⟨(Int.le_toNat (Int.le_trans (Int.natCast_nonneg _) h.1)).mpr h.1,O▸tl (Int.le_trans (Int.natCast_nonneg _) h.1) h.2⟩)
    obtain⟨f,s,e⟩:=bw this
    exact dg ⟨f,s,by exact(ce e).trans (tn (Int.le_trans (Int.natCast_nonneg _) h.1)).symm⟩
   ·obtain⟨f,s,e⟩:=bw h
    have:f.num∈List.range' ts.length fs.length:=K▸dg ⟨f,s,rfl⟩
    have:=List.mem_range'_1.mp this
    exact⟨e▸bF this.1,by rw[O];exact e▸dF this.2⟩
 refine⟨(List.perm_ext_iff_of_nodup ?_ W.nums).mpr λy=>B,?_⟩
 ·exact List.nodup_append.mpr ⟨nd.filter _,N λa b h=>Int.ne_of_lt h,λa A b D=>Int.ne_of_lt (Int.lt_of_lt_of_le (J a (u.mp A).1) (I.mp D).1)⟩
 ·exact List.pairwise_append.mpr ⟨U.filter _,N λa b h=>Int.le_of_lt h,λa A b D=>Int.le_of_lt (Int.lt_of_lt_of_le (J a (u.mp A).1) (I.mp D).1)⟩
end
section
variable {ext:bj} {σ Z:Hp} {F:Fx} {S S':St} {x:Nat->AV} {U:SS} {Q:Fl->aG->Hp->Prop}
theorem Hl.sel(h:Hl F σ S)(p:Pl F S):DE σ F.p F.o F.pA S.V F.op S.pts:=⟨h.f.hP,h.f.hO,h.f.hV,p.gv.vrd p.l9,p.so,h.f.hop,p.oo,p.nl,h.m 0 rfl,p.pl,p.po,p.gv.fsz p.l9 p.u0.1 p.u0.2⟩
def Jc(F:Fx)(S:St)(σ:Hp)(v:AV)(Z:Hp):Prop:=(v=.none/\Z=σ)∨∃(c:Cm) (a:List (Option Rw)),v=.ref c.adr/\c.V=S.V/\c.o=F.op/\AJ σ Z c F.pA a/\a.length=S.V.lv.length/\AI a/\c.k+1<S.V.lv.length
theorem Bu{n:Nat}{q t:Int}(h:Hl F σ S)(p:Pl F S)(g:bT (lv F S x) 16=some (.int t))(f:bT (lv F S x) 27=some (.int q))
  (k:∀v Z,Jc F S σ v Z->Go (cB ext (n+9)) U (lv F S (aI x 29 v)) Z Q):
  Go (cB ext (n+9)) (.cons (.asg 29 (.k .none))
 (.cons (.ite (.t (.cmp .eq (.bin .mod (.v 27) (.k (.int 2))) (.k (.int 0)))) (.cons (.asg 29 (.mth (.v 6) 38 (.cons (.v 8) (.cons (.v 7) .nil))))
 .nil) .nil)
 (.cons (.ite (.and (.cons (.t (.cmp .is (.v 29) (.k .none))) (.cons (.or (.cons (.t (.cmp .gt (.v 16) (.k (.int 0)))) (.cons (.t (.cmp .eq (.bin .mod (.v 27) (.k (.int 2))) (.k (.int 1)))) .nil))) .nil))) (.cons (.asg 29 (.fn 86 (.cons (.v 6) (.cons (.v 8) (.cons (.v 7) (.cons (.v 27) (.cons (.v 3) .nil)))))))
 .nil) .nil)
 U))) (lv F S x) σ Q:=by
 have j:=h.sel p
 have u:=j.hP
 unfold yf at u
 have w:F.op.nl=S.V.lv.length:=p.nl
 refine bG (by left) ?_
 have s:∀v,bT (lv F S (aI x 29 v)) 16=some (.int t):=λv=>g
 have m:∀v,bT (lv F S (aI x 29 v)) 27=some (.int q):=λv=>f
 have CM:=m .none
 show Go _ _ (lv F S (aI x 29 .none)) σ Q
 refine bB (λv:AV=>lv F S (aI x 29 v)) (λv Z=>Jc F S σ v Z) (λR b=>?_) λv Z J=>?_
 ·refine hF (bR (ff (cH (bo CM) aT (by decide)) aT rfl)) (jv (λ_=>?_) λ_=>ak (bk (b .none σ (.inl ⟨rfl,rfl⟩))))
  refine az (aV (by left) u rfl rfl (by left) (BI j (ak (bk (b .none σ (.inl ⟨rfl,rfl⟩)))) λc a Z r e i l po o=>ak (bk (b (.ref c.adr) Z (.inr ⟨c,a,rfl,r,e,i,l,po,o⟩)))))
 ·rcases J with⟨rfl,rfl⟩|⟨c,a,rfl,J⟩
  ·refine bB (λv:AV=>lv F S (aI x 29 v)) (λv d=>Jc F S Z v d) (λR b=>?_) λv d J=>k v d J
   have Cu:=s .none
   have no:Go (cB ext (n+9)) .nil (lv F S (aI x 29 .none)) Z (Kj R Q):=ak (bk (b .none Z (.inl ⟨rfl,rfl⟩)))
   refine hF (iy (bR (ub (bo rfl) rfl)) (jG (qF (bR (ff (bo Cu) aT rfl)) λ_=>bR (ff (cH (bo CM) aT (by decide)) aT rfl)))) (jv (λ_=>?_) λ_=>no)
   refine az (aW (ax (by left) (ax (by left) (ax (by left) (ax (bo CM) (ax (aU (x':=.int (S.V.lv.length:Nat)) (v:=.int (F.op.nl:Nat)) (by left) (by rw[w])) aQ))))) (wd j no λc a d r e i l po o=>ak (bk (b (.ref c.adr) d (.inr ⟨c,a,rfl,r,e,i,l,po,o⟩)))))
  ·refine Ba (iA (bR (ub (bo rfl) rfl))) (ak (cq (k _ Z (.inr ⟨c,a,rfl,J⟩))))
end
section
variable {ext:bj} {σ Z:Hp} {F:Fx} {S S':St} {x:Nat->AV} {ss:SS} {Q:Fl->aG->Hp->Prop}
theorem Hl.cin(h:Hl F σ S)(p:Pl F S){c:Cm}{t:List (Option Rw)}(r:c.V=S.V)(u:c.o=F.op)(b:AJ σ Z c F.pA t)(w:c.k+1<S.V.lv.length):Fb Z c F.tA S.ts/\eS S.V c.k c.in0 c.in1:=by
 have sel:=b.sel
 rw[r]at sel
 have q:=Cc p.gv sel
 have z:=h.z b.mo λy A=>.inl (by rw[aw A];exact List.mem_of_getElem? (i:=0) rfl)
 have inl:=Nat.le_trans (q.ins_len p.gv) p.l9
 rw[List.length_append]at inl
 have E:∀f∈c.in0++c.in1,∃j,f∈bV S.V j:=λf g=>(aE g).elim (λg=>⟨_,q.i0 f g⟩) λg=>⟨_,q.i1 f g⟩
 have tp:F.tA≠F.pA:=h.d (i:=0) (j:=1) rfl rfl (by decide)
 refine⟨⟨b.kc,b.hC,⟨u▸p.oo,r▸p.gv.vrd p.l9,by rw[u,r];exact p.nl,by exact n1 [_,_] lZ (.le (.a (.v 0) (.v 1)) (.n 9)) rfl inl,by exact n1 [_,_] lZ (.le (.a (.v 1) (.v 0)) (.n 9)) rfl inl,b.lg,b.og,by rw[r];exact w⟩,b.kpl,b.kE,b.ed,b.ea,b.mo _ _ (di tp) (h.m 1 rfl),p.tl,?_,λf g=>?_,?_,Nat.le_trans (q.len p.gv) (Nat.le_trans p.l9 (by decide)),q.ns p.gv⟩,q⟩
 ·exact List.nodup_cons.mpr ⟨λD=>af (h.m 1 rfl) (b.fr _ D) rfl,b.nd⟩
 ·obtain⟨j,g⟩:=E f g
  exact⟨(h.f.it j f g).fz z,(p.gv.gf j f g).ok⟩
 ·obtain⟨_,_,_,_,_,ne,_⟩:=sel.s
  cases e:c.in0 with
  |nil=>exact(ne e).elim
  |cons f l=>
   have B:f∈c.in0:=e▸.head _
   exact List.ne_nil_of_mem (List.mem_flatMap.mpr ⟨f,.head _,(p.gv.gf _ f (q.i0 f B)).lm⟩)
theorem Pl.comp(h:Hl F σ S)(p:Pl F S){k:Nat}{i:bp}{d c fs:List FM}{E:Ed}{a:List AV}{b:List Nat}{pts:List (Option Rw)}{s:Addr}(l:eS S.V k d c)(r:jt F.unit S.V k (xW S.hs S.last) d c fs E)(md:iI S.V E i)(B:yh i)
  (w:(fs=d/\c=[]/\b=[]/\a=S.ts)∨(b=(d++c).map FM.num/\fs.map FM.num=List.range' S.ts.length fs.length/\a.length=S.ts.length+fs.length)) (O:pts.length=S.V.lv.length) (po:AI pts) (tl:a.length<=100):
  Pl F {S with V:=i,sA:=s,ts:=a,stand:=dw S.stand b S.ts.length a.length,pts:=pts}:=by
 have I:=uG p.gv l r
 have y:=I.made p.gv (Nat.le_refl _) md
 have z:=p.mo.s
 rw[p.me]at z
 have A:=xy z p.hl
 have st:=yE p.gv l r md y (λj f D=>h.num D) w p.sp p.ss
 have g:∀{u s:Nat} {m:Option AV},xW S.hs S.last<=s->(∃o,gU (cj S.V) u s o/\m=some (fV o))->∃o,gU (cj i) u s o/\m=some (fV o):=λhs ⟨o,G,e⟩=>by
  obtain⟨N,K,J⟩:=vU p.gv l r md hs G
  exact⟨N,K,J▸e⟩
 exact⟨p.oo,md.n▸p.nl,p.n0,p.u0,y,B,p.l9,p.me,p.mo,p.hl,p.w4,λu v=>g A.1 (p.wt u v),λq t=>⟨(p.ht q t).1,λu v=>g (A.2 q t) ((p.ht q t).2 u v)⟩,p.kt,st.1,st.2,O.trans md.n.symm,po,p.kl,tl⟩
theorem jt.fl{unit:Int}{a k n:Nat}{V:bp}{i d fs:List FM}{E:Ed}(x:jt unit V k n i d fs E)(c:eS V k i d)(g:Gv unit a V):fs.length<=a:=by
 refine Nat.le_trans (lF λf e=>(x.gf f e).pos) (nI (m:=a) (List.pairwise_flatMap.mpr ⟨λf e=>(x.gf f e).ns,x.fd.imp λh r b q l=>(h.2 r b q l).2⟩) λr b=>?_)
 obtain⟨f,e,b⟩:=iW b
 obtain⟨j,q,l,b⟩:=aZ.mp (eC c (x.sub f e r b))
 exact g.sl j q l r b
end
section
variable {ext:bj} {σ U:Hp} {F:Fx} {S Z:St} {x:Nat->AV} {O:SS} {Q:Fl->aG->Hp->Prop}
theorem Ee{a:List Nat}:a.map A6=(gi a).map .int:=by unfold gi;rw[List.map_map];rfl
theorem AY{n:Nat}{v:AV}(h:Hl F σ S)(p:Pl F S)(J:Jc F S σ v U)(t9:S.ts.length<=90)(ε:x 29=v)(μ:bT (lv F S x) 28=some (.int (xW S.hs S.last)))
  (k:∀Z ξ ζ U,Hl F U Z->Pl F Z->Z.last=S.last->Z.hs=S.hs->Z.ks=S.ks->Z.ts.length<=S.ts.length+9->Go (cB ext (n+8)) O (lv F Z (aI (aI x 30 ξ) 31 ζ)) U Q):
  Go (cB ext (n+8)) (.cons (.ite (.t (.cmp .isnt (.v 29) (.k .none))) (.cons (.asg 30 (.bi .len (.cons (.v 10) .nil)))
 (.cons (.asg 31 (.fn 81 (.cons (.v 29) (.cons (.v 10) (.cons (.v 28) (.cons (.v 4) .nil))))))
 (.cons (.asg 11 (.bin .add (.comp 37 (.v 11) (.cons (.t (.cmp .notin (.v 37) (.v 31))) .nil) (.v 37)) (.compR 37 (.v 30) (.bi .len (.cons (.v 10) .nil)) .nil (.v 37))))
 (.cons (.asg 8 (.fn 79 (.cons (.v 8) (.cons (.at (.v 29) 55) (.cons (.v 2) .nil)))))
 (.cons (.ex (.fn 84 (.cons (.v 10) (.cons (.v 8) (.cons (.v 13) .nil)))))
 (.cons (.ite (.t (.cmp .ne (.mth (.v 8) 24 .nil) (.v 11))) (.cons (.ret (.k (.bool false)))
 .nil) .nil)
 .nil)))))) .nil) O) (lv F S x) U Q:=by
 have κ:S.ts.length<=9000:=Nat.le_trans t9 (by decide)
 rcases J with⟨rfl,rfl⟩|⟨c,pts,rfl,eV,eo,G,pl,po,kn⟩
 ·have o:bT (lv F S x) 29=some .none:=by show bT [x 29] 0=_;rw[ε];rfl
  exact Ba (bR (ir (bo o) rfl)) (ak (cq (k S (x 30) (x 31) U h p rfl rfl rfl (Nat.le_add_right _ _))))
 ·have o:bT (lv F S x) 29=some (.ref c.adr):=by show bT [x 29] 0=_;rw[ε];rfl
  have W:∀v,bT (lv F S (aI x 30 v)) 29=some (.ref c.adr):=λ_=>o
  have γ:∀v,bT (lv F S (aI x 30 v)) 28=some (.int (xW S.hs S.last)):=λ_=>μ
  obtain⟨A,D⟩:=h.cin p eV eo G kn
  have h1:=h.pts G.mo G.hp
  have so:=p.mo.s
  rw[p.me]at so
  have s9:xW S.hs S.last<10:=Nat.lt_succ_of_le (Nat.le_trans (xy so p.hl).1 p.l9)
  have ct:=A.ht
  refine EO (bR (ir (bo o) rfl)) (bG (by left) ?_)
  show Go _ _ (lv F S (aI x 30 (.int (S.ts.length:Nat)))) U _
  have η:=γ (.int (S.ts.length:Nat))
  have δ:=W (.int (S.ts.length:Nat))
  refine az (aW (ax (bo δ) (ax (by left) (ax (bo η) (ax (by left) aQ)))) (ty A s9 λgA b dl al i υ z=>?_))
  show Go _ _ (lv F S (aI (aI x 30 (.int (S.ts.length:Nat))) 31 (.ref gA))) υ _
  have gv:Gv F.unit S.last c.V:=eV▸p.gv
  obtain⟨fs,cr,ni,⟨t2,et⟩,w⟩:=A0 gv (eV▸D) z λj f u=>h.num (eV▸u)
  rw[eV]at cr
  have z2:Fz U υ:=z.mo.fz λy l=>by
   rcases au l with rfl|l
   ·exact⟨_,A.hc⟩
   rcases au l with rfl|l
   ·exact⟨_,A.hp⟩
   rcases au l with rfl|l
   ·exact⟨_,A.ht⟩
   rcases au l with rfl|l
   ·exact⟨_,A.hE.d⟩
   ·rw[aw l];exact⟨_,A.hE.a⟩
  have h2:Hl F υ {S with pts:=pts,ts:=b}:=h1.ts z.mo z2 (λy l=>by
   rcases au l with rfl|l
   ·exact .inr (h.fr (G.fr _ (.head _)))
   rcases au l with rfl|l
   ·exact .inr (h.fr (G.fr _ (.tail _ (.head _))))
   rcases au l with rfl|l
   ·exact .inl rfl
   ·exact .inr (h.fr (G.fr _ (.tail _ (.tail _ (.tail _ l)))))) z.ht et
  have B:b.length<=S.ts.length+9:=by
   have q1:=cr.fl D p.gv
   rcases w with⟨_,_,_,e⟩|⟨_,_,e,_⟩
   ·rw[e];exact Nat.le_add_right S.ts.length 9
   ·rw[e];exact Nat.add_le_add_left (Nat.le_trans q1 p.l9) _
  have c5:=h2.m 5 rfl
  have sl:S.stand.length<=60:=by rw[p.sp.length_eq,eH];exact p.sm.f
  obtain⟨fg,hg⟩:=z.hg
  rw[Ee]at hg
  refine az (dk (jV (aS (by left) (DL (g:=AV.int) (v:=AV.int) S.stand (λn=>!(gi i).any (·==n)) c5 (bh sl rfl) (λf _=>bR (rM (bo rfl) (bo rfl) hg bS)) (λf _ _=>bo rfl) λc1 θ=>?_))))
  have x1:=aK.new (c:=(false,.list ((S.stand.filter λn=>!(gi i).any (·==n)).map .int))) θ
  have π:=x1 _ _ z.ht
  have q:b.length<=9000:=by exact n2 [_,_] jJ (.le (.v 1) (.n 90)) (.le (.v 0) (.a (.v 1) (.n 9))) rfl t9 B
  refine uc (aS (by left) (aS (by left) (AX (v:=AV.int) ⟨Int.natCast_nonneg _,bF κ,Int.natCast_nonneg _,bF q⟩ (λ_ _=>bo rfl) λc2 β=>?_)))
  have x2:=x1.trans (aK.new (c:=(false,.list ((aM S.ts.length b.length).map .int))) β)
  have rl:(aM S.ts.length b.length).length<=9000:=by unfold aM;rw[List.length_map,List.length_range];exact Int.toNat_le.mpr (Int.le_trans (Int.sub_le_self _ (Int.natCast_nonneg _)) (bF q))
  refine iY (ag β ab) ab ⟨aO (Nat.le_trans (List.length_filter_le _ _) (bh sl rfl)),aO rl⟩ λs hs=>?_
  rw[show(S.stand.filter λn=>!(gi i).any (·==n)).map AV.int++(aM S.ts.length b.length).map AV.int=(dw S.stand i S.ts.length b.length).map .int from List.map_append.symm]
  have I:Hl F _ {S with pts:=pts,ts:=b,sA:=s,stand:=dw S.stand i S.ts.length b.length}:=(h2.up x2).newS hs (dw S.stand i S.ts.length b.length)
  have x3:=x2.trans (aK.new (c:=(false,.list ((dw S.stand i S.ts.length b.length).map .int))) hs)
  obtain⟨ga,go,sk,kc⟩:=z.kc
  have R:=x3 _ _ kc
  have iE:=z.hE.up x3
  generalize upd _ s (false,.list ((dw S.stand i S.ts.length b.length).map .int))=ω at I x3 R iE
  have kv:=uG p.gv D cr
  have ll:=Nat.le_refl S.last
  refine az (aW (ax (by left) (ax (ud (bo δ) R (by kernel_rfl) rfl) (ax (by left) aQ))) (tI (V:=S.V) (E:={c.E with dl:=dl,al:=al}) I.f.hV p.sm iE (Dd p.gv D cr ni p.l9) (kv.mok p.gv ll p.l9) I.f.hop p.oo p.nl (λN md=>(kv.made p.gv ll md).fsz p.l9 p.u0.1 p.u0.2) λN K md ho sc x5 iV=>?_))
  have ν:∀j,∀f∈bV N j,kQ K b f:=λj f u=>by
   rcases(cX cr).mp (bL md u).2 with u|⟨ej,u⟩
   ·exact(I.f.it j f (cZ u)).fz x5.fz
   ·rcases w with⟨e1,_,_,_⟩|⟨_,_,_,it⟩
    ·exact(I.f.it c.k f (D.i0 f (e1▸u))).fz x5.fz
    ·exact(it f u).fz (x3.fz.trans x5.fz)
  have h4:Hl F K {S with V:=N,sA:=s,ts:=b,stand:=dw S.stand i S.ts.length b.length,pts:=pts}:=(I.up x5).ver iV ν
  have p4:=p.comp h (s:=s) D cr md sc (w.imp id λw=>⟨w.1,w.2.1,w.2.2.1⟩) pl po (Nat.le_trans B (by exact n1 [_] (.le (.a (.v 0) (.n 9)) (.n 100)) Gq rfl t9))
  refine oN (n:=n+6) (S:={S with V:=N,sA:=s,ts:=b,stand:=dw S.stand i S.ts.length b.length,pts:=pts}) (x:=aI (aI x 30 (.int (S.ts.length:Nat))) 31 (.ref gA)) h4 p4 λY e2 h5 p5=>?_
  have v5:=h5.f.hV.v
  have d5:=h5.m 5 rfl
  refine bK (kX (cG (aV (by left) v5 rfl rfl (by left) (ip h5.f.hV p5.sm λns r q1 q2 hr=>aS (by left) (Cz ab (ag hr d5) bS bS (dK ?_))))))
  rw[oO (q1.trans p5.sp.symm) q2 p5.ss,decide_eq_true rfl]
  exact df (ak (cq (ak (cq (k {S with V:=N,sA:=s,ts:=Y,stand:=dw S.stand i S.ts.length b.length,pts:=pts} _ _ _ (h5.up (aK.new hr)) p5 rfl rfl rfl (by show Y.length<=_;rw[e2];exact B))))))
end
section
variable {ext:bj} {σ Z:Hp} {F:Fx} {S S':St} {x:Nat->AV} {U:SS} {Q:Fl->aG->Hp->Prop}
theorem zV.up{ts:List AV}{r:Rd}(h:zV σ ts r)(e:aK σ Z):zV Z ts r:=⟨e _ _ h.t,h.m.imp λ_ g=>e _ _ g,h.l,h.hV.fz e.fz,h.vr,h.s9,λL a f b=>(h.it L a f b).fz e.fz,h.ok,h.rl,h.told⟩
theorem sC{unit:Int}{a:Nat}{ts:List AV}{r:Rd}{f:Bool}(g:Gv unit a r.V)(l9:a<=9)(s9:r.s<=9)(t:σ r.adr=some (true,.tup [.ref r.V.adr,.int r.s,.ref r.ma]))(m:σ r.ma=some (f,.list r.ms))(l:r.ms.length=4)(p:dN true σ r.V)(n:∀j,∀f∈bV r.V j,kQ σ ts f)(c:F7 (cj r.V) r.s r.ms):zV σ ts r:=
 ⟨t,⟨f,m⟩,by rw[l];decide,p,g.vrd l9,Nat.lt_succ_of_le s9,λL d f b=>by obtain⟨j,h⟩:=gH d b;exact n j f h,λL d f b=>by obtain⟨j,h⟩:=gH d b;exact(g.gf j f h).ok,λL d f b=>by obtain⟨j,h⟩:=gH d b;exact Nat.le_trans (g.frows h) (Nat.le_trans l9 (by decide)),λu k=>by
  obtain⟨o,i,e⟩:=c u k
  rw[e,i.uniq g.ns (g.look l9)]⟩
theorem uV{cal:bj}{l:aG}{K:PX}{B:Type}{z w y:X}{g:B->AV}{r:Addr}{fz:Bool}{t:Nat}{ts:List AV}(bs:List B)(f:B->Addr->Rd)(h:σ r=some (fz,.list (bs.map g)))(len:bs.length<=9000)
  (A:∀b∈bs,∀j,aK σ j->Ps (l.set t (g b)) j (.cons z (.cons w (.cons y .nil))) [.ref (f b 0).V.adr,.int (f b 0).s,.ref (f b 0).ma]) (D:∀b∈bs,∀a,(f b a).V=(f b 0).V/\(f b a).s=(f b 0).s/\(f b a).ma=(f b 0).ma/\(f b a).adr=a)
  (ok:∀b∈bs,∀j a,aK σ j->j a=some (true,.tup [.ref (f b 0).V.adr,.int (f b 0).s,.ref (f b 0).ma])->zV j ts (f b a))
  (k:∀(d:List Rd) Z,aK σ Z->d.length=bs.length->(∀r∈d,zV Z ts r)->∀c,Z c=none->K (.ref c) (upd Z c (false,.list (d.map Rd.v)))):
  rQ cal t .nil (.tup (.cons z (.cons w (.cons y .nil)))) l K (.ref r) σ:=by
 refine pH bs (λo i Z=>aK σ Z/\∃d:List Rd,i=d.map Rd.v/\d.length=o.length/\∀r∈d,zV Z ts r) h len (λ_ _ Z p=>⟨_,p.1 _ _ h⟩) ⟨aK.refl _,[],rfl,rfl,λ_=>nM⟩ ?_ ?_
 ·rintro o b I i Z R e ⟨n,d,rfl,l,u⟩ G
  have bm:=aP e
  refine da (eJ (fu (A b bm Z n) rfl λa q=>G _ _ ⟨n.trans (aK.new q),d++[f b a],?_,?_,λr m=>?_⟩))
  ·rw[aY];show _++[AV.ref a]=_++[AV.ref (f b a).adr];rw[(D b bm a).2.2.2]
  ·rw[List.length_append,List.length_append,l];rfl
  ·rcases aE m with m|m
   ·exact(u r m).up (aK.new q)
   ·rw[aw m];exact ok b bm _ a (n.trans (aK.new q)) ab
 ·rintro i Z ⟨n,d,rfl,l,u⟩ c E
  exact k d Z n l u c E
theorem tB{n:Nat}{t pz:Int}(h:Hl F σ S)(p:Pl F S)(ν:bT (lv F S x) 16=some (.int t))(μ:bT (lv F S x) 25=some (.int pz))
  (k:∀ρ ω Z,Hl F Z S->Go (cB ext (n+9)) U (lv F S (aI (aI x 32 ρ) 33 ω)) Z Q):
  Go (cB ext (n+9)) (.cons (.asg 32 (.bin .add (.lst (.cons (.tup (.cons (.v 8) (.cons (.v 15) (.cons (.v 14) .nil)))) .nil)) (.comp 35 (.v 12) .nil (.tup (.cons (.v 8) (.cons (.sub (.v 35) (.k (.int 1))) (.cons (.sub (.v 35) (.k (.int 2))) .nil)))))))
 (.cons (.asg 32 (.bin .add (.v 32) (.comp 35 (.v 13) .nil (.tup (.cons (.sub (.v 35) (.k (.int 0))) (.cons (.sub (.v 35) (.k (.int 1))) (.cons (.sub (.v 35) (.k (.int 2))) .nil)))))))
 (.cons (.asg 33 (.lst (.cons (.k (.int 0)) (.cons (.k (.int 1)) (.cons (.k (.int 2)) (.cons (.k (.int 3)) .nil))))))
 (.cons (.ite (.t (.cmp .lt (.v 16) (.k (.int 2)))) (.cons (.asg 33 (.lst (.cons (.bin .mod (.bin .fdiv (.v 25) (.k (.int 4))) (.k (.int 4))) (.cons (.bin .mod (.bin .add (.bin .fdiv (.v 25) (.k (.int 4))) (.k (.int 1))) (.k (.int 4))) .nil))))
 .nil) .nil)
 (.cons (.ite (.not (.t (.fn 83 (.cons (.v 32) (.cons (.v 10) (.cons (.v 33) .nil)))))) (.cons (.ret (.k (.bool false)))
 .nil) .nil)
 U))))) (lv F S x) σ Q:=by
 have hl:S.hs.length<=100:=by have:=p.mo.l;rw[p.me,List.length_map]at this;exact this
 refine az (dk (uB (aj (fu (by left) rfl λa ha=>aD (uF rfl λc hc=>?_)))))
 have x1:=(aK.new (c:=(true,.tup [.ref S.V.adr,.int S.last,.ref F.wA])) ha).trans (aK.new (c:=(false,.list [.ref a])) hc)
 have β:=ab (σ:=upd σ a (true,.tup [.ref S.V.adr,.int S.last,.ref F.wA])) (a:=c) (c:=(false,.list [.ref a]))
 have I:=h.up x1
 have r0:zV (upd (upd σ a (true,.tup [.ref S.V.adr,.int S.last,.ref F.wA])) c (false,.list [.ref a])) S.ts ⟨a,S.V,S.last,F.wA,S.now⟩:=sC p.gv p.l9 p.l9 (ag hc ab) (I.m 4 rfl) p.w4 I.f.hV I.f.it p.wt
 generalize upd (upd σ a (true,.tup [.ref S.V.adr,.int S.last,.ref F.wA])) c (false,.list [.ref a])=σ1 at I r0 β
 have c2:=I.m 2 rfl
 refine jV (aS (by left) (uV (ts:=S.ts) S.hs (λh b=>⟨b,S.V,h.s,h.ma,h.ms⟩) c2 (bh hl rfl) (λb A G B=>?_) (λ_ _ _=>⟨rfl,rfl,rfl,rfl⟩) (λb A G b' B ht=>?_) λq Z B rl rk c' η=>?_))
 ·have e:=B _ _ (I.f.hd b A)
  exact(by left)
 ·have h2:=I.up B
  exact sC p.gv p.l9 (Nat.le_trans (p.hl b A) p.l9) ht (h2.qu (b.ma,.list b.ms) (.tail _ (List.mem_append_right _ (List.mem_append_left _ (dg ⟨b,A,rfl⟩))))).1 (p.ht b A).1 h2.f.hV h2.f.it (p.ht b A).2
 have h2:=I.up B
 have l9:(q.map Rd.v).length<=9000:=aO (by rw[rl];exact bh hl rfl)
 refine iY (ag η (B _ _ β)) ab ⟨Nat.le_of_ble_eq_true rfl,l9⟩ λd hd=>?_
 have x2:=(aK.new (c:=(false,.list (q.map Rd.v))) η).trans (aK.new (c:=(false,.list ([.ref a]++q.map Rd.v))) hd)
 have γ:=ab (σ:=upd Z c' (false,.list (q.map Rd.v))) (a:=d) (c:=(false,.list ([.ref a]++q.map Rd.v)))
 have h3:=h2.up x2
 have O:∀r∈(⟨a,S.V,S.last,F.wA,S.now⟩::q:List Rd),zV (upd (upd Z c' (false,.list (q.map Rd.v))) d (false,.list ([.ref a]++q.map Rd.v))) S.ts r:=λr D=>by
  rcases au D with rfl|D
  ·exact r0.up (B.trans x2)
  ·exact(rk r D).up x2
 generalize upd (upd Z c' (false,.list (q.map Rd.v))) d (false,.list ([.ref a]++q.map Rd.v))=φ at h3 O γ
 have ζ:φ d=some (false,.list ((⟨a,S.V,S.last,F.wA,S.now⟩::q:List Rd).map Rd.v)):=γ
 have J:(⟨a,S.V,S.last,F.wA,S.now⟩::q:List Rd).length<=101:=by rw[List.length_cons,rl];exact Nat.lt_succ_of_le hl
 generalize (⟨a,S.V,S.last,F.wA,S.now⟩::q:List Rd)=o at O ζ J
 have c3:=h3.m 3 rfl
 refine az (dk (aS (by left) (jV (aS (by left) (uV (ts:=S.ts) S.ks (λk b=>⟨b,k.r.V,k.r.s,k.r.ma,k.r.ms⟩) c3 (bh p.kl rfl) (λb A G B=>?_) (λ_ _ _=>⟨rfl,rfl,rfl,rfl⟩) (λb A G b' B ht=>?_) λg N δ θ ψ K E=>?_)))))
 ·have e:=B _ _ (h3.f.kp b A).1
  exact(by left)
 ·have h4:=h3.up B
  obtain⟨kg,k9,_,_,k4,kt⟩:=p.kt b A
  exact sC kg k9 k9 ht (h4.qu (b.r.ma,.list b.r.ms) (.tail _ (List.mem_append_right _ (List.mem_append_right _ (dg ⟨b,A,rfl⟩))))).1 k4 (h4.f.kp b A).2.2.1 (h4.f.kp b A).2.2.2 kt
 have ξ:(g.map Rd.v).length<=9000:=aO (by rw[θ];exact bh p.kl rfl)
 refine iY (ag E (δ _ _ ζ)) ab ⟨aO (bh J rfl),ξ⟩ λe he=>?_
 have x4:=δ.trans ((aK.new (c:=(false,.list (g.map Rd.v))) E).trans (aK.new (c:=(false,.list (o.map Rd.v++g.map Rd.v))) he))
 have W:upd (upd N K (false,.list (g.map Rd.v))) e (false,.list (o.map Rd.v++g.map Rd.v)) e=some (false,.list ((o++g).map Rd.v)):=by rw[List.map_append];exact ab
 have h5:=h3.up x4
 have Y:∀r∈o++g,zV (upd (upd N K (false,.list (g.map Rd.v))) e (false,.list (o.map Rd.v++g.map Rd.v))) S.ts r:=λr D=>by
  rcases aE D with D|D
  ·exact(O r D).up x4
  ·exact(ψ r D).up ((aK.new (c:=(false,.list (g.map Rd.v))) E).trans (aK.new (c:=(false,.list (o.map Rd.v++g.map Rd.v))) he))
 have ε:(o++g).length<=9000:=by rw[List.length_append,θ];have:=p.kl;exact n2 [_,_] FT (.le (.v 0) (.n 101)) GU rfl J this
 generalize o++g=rds5 at Y W ε
 generalize upd (upd N K (false,.list (g.map Rd.v))) e (false,.list (o.map Rd.v++g.map Rd.v))=π at h5 Y W
 refine az (a8 (by left) rfl λu hu=>?_)
 have x16:∀v w,bT (lv F S (aI (aI x 32 v) 33 w)) 16=some (.int t):=λ_ _=>ν
 have χ:∀v w,bT (lv F S (aI (aI x 32 v) 33 w)) 25=some (.int pz):=λ_ _=>μ
 refine bB (λw:Addr=>lv F S (aI (aI x 32 (.ref e)) 33 (.ref w))) (λw G=>aK π G/\∃us:List Nat,G w=some (false,.list (us.map A6))/\us.length<=9000/\∀u∈us,u<4) (λR ih=>?_) ?_
 ·show Gc _ _ (lv F S (aI (aI x 32 (.ref e)) 33 (.ref u))) _ _
  have Cu:=x16 (.ref e) (.ref u)
  have κ:=χ (.ref e) (.ref u)
  refine hF (bR (ff (bo Cu) aT rfl)) (jv (λ_=>?_) λ_=>?_)
  ·obtain⟨i,hi,i4⟩:=yK (z:=pz/4) (n:=4) (by decide)
   obtain⟨j,hj,j4⟩:=yK (z:=pz/4+1) (n:=4) (by decide)
   refine az (a8 (ax (aU (x':=.int (i:Nat)) (v:=.int (pz/4%4)) (cH (dY (bo κ) aT (by decide)) aT (by decide)) (congrArg AV.int hi)) (ax (aU (x':=.int (j:Nat)) (v:=.int ((pz/4+1)%4)) (cH (cI (dY (bo κ) aT (by decide)) aT rfl) aT (by decide)) (congrArg AV.int hj)) aQ)) rfl λw hw=>ak (bk (ih w _ ⟨(aK.new hu).trans (aK.new hw),[i,j],ab,Nat.le_of_ble_eq_true rfl,λy hy=>?_⟩)))
   rcases au hy with rfl|hy
   ·exact i4
   ·rw[aw hy];exact j4
  ·exact ak (bk (ih u _ ⟨aK.new hu,[0,1,2,3],ab,Nat.le_of_ble_eq_true rfl,by decide⟩))
 ·rintro w G ⟨x6,us,hw,ul,u4⟩
  have h6:=h5.up x6
  have e6:=x6 _ _ W
  refine bK (C1 (kX (aW (by left) (xB e6 (h6.m 1 rfl) hw (bh p.tl rfl) ε ul u4 (λr D=>(Y r D).up x6) (dK (df (ak (cq (k _ _ G h6)))))))))
end
section
variable {ext:bj} {σ U:Hp} {F:Fx} {S Z:St} {x:Nat->AV} {O:SS} {Q:Fl->aG->Hp->Prop}
structure Bd(S:St)(l t m k:Nat):Prop where
 l:S.last<=l
 t:S.ts.length<=t
 m:S.hs.length<=m
 k:S.ks.length<=k
theorem pi{i:Nat}{v:AV}(e:bT (lv F S x) i=bT [x i] 0)(h:x i=v)(n:bT [v] 0=some v):bT (lv F S x) i=some v:=by rw[e,h];exact n
theorem vu{n t:Nat}{A:Int}(h:Hl F σ S)(p:Pl F S)(b:Bd S (3*t) (1+19*t) (4*t) (2*t))(t2:t<=2)(d:x 16=.int t)(f:x 17=.int A)
  (k:∀Z x' U,Hl F U Z->Pl F Z->Bd Z (3*t+3) (1+19*t+1) (4*t+4) (2*t+2)->x' 16=.int t->Go (cB ext (n+9)) O (lv F Z x') U Q):
  Go (cB ext (n+9)) (.cons (.forR 18 (.k (.int 0)) (.k (.int 2)) true (.cons (.ite (.or (.cons (.and (.cons (.t (.cmp .eq (.v 18) (.k (.int 0)))) (.cons (.or (.cons (.t (.cmp .eq (.v 16) (.k (.int 0)))) (.cons (.t (.cmp .ne (.bin .mod (.bin .fdiv (.v 17) (.k (.int 8))) (.k (.int 4))) (.k (.int 3)))) .nil))) .nil))) (.cons (.and (.cons (.t (.cmp .eq (.v 18) (.k (.int 1)))) (.cons (.t (.cmp .gt (.v 16) (.k (.int 0)))) (.cons (.t (.cmp .eq (.bin .mod (.bin .fdiv (.v 17) (.k (.int 8))) (.k (.int 4))) (.k (.int 3)))) .nil)))) .nil))) (.cons (.asg 19 (.fn 87 (.cons (.fn 76 (.cons (.v 0) (.cons (.bin .add (.k (.int 1)) (.bin .mul (.k (.int 5)) (.v 16))) .nil))) (.cons (.v 15) .nil))))
 (.cons (.asg 15 (.bin .add (.v 15) (.bi .len (.cons (.v 19) .nil))))
 (.cons (.for [20] (.v 19) (.cons (.setI (.v 14) (.sub (.v 20) (.k (.int 0))) (.ite (.t (.cmp .eq (.sub (.v 20) (.k (.int 2))) (.k (.int 1)))) (.bi .bytes (.cons (.lst (.cons (.bin .sub (.k (.int 0)) (.sub (.v 20) (.k (.int 1)))) .nil)) .nil)) (.k .none)))
 .nil))
 (.cons (.asg 21 (.mk 15 .nil))
 (.cons (.ex (.bm .append (.v 11) (.cons (.bi .len (.cons (.v 10) .nil)) .nil)))
 (.cons (.ex (.fn 80 (.cons (.k (.int 0)) (.cons (.bi .sorted (.cons (.v 19) .nil)) (.cons (.v 10) (.cons (.v 21) (.cons (.v 4) .nil)))))))
 (.cons (.asg 8 (.fn 79 (.cons (.v 8) (.cons (.v 21) (.cons (.v 2) .nil)))))
 .nil))))))) (.cons (.forR 22 (.k (.int 0)) (.sub (.lst (.cons (.k (.int 1)) (.cons (.k (.int 1)) (.cons (.k (.int 2)) (.cons (.k (.int 0)) .nil))))) (.bin .mod (.v 17) (.k (.int 4)))) true (.cons (.ex (.bm .append (.v 12) (.cons (.tup (.cons (.mth (.v 9) 2 (.cons (.v 15) .nil)) (.cons (.v 15) (.cons (.bi .list (.cons (.v 14) .nil)) .nil)))) .nil)))
 .nil))
 (.cons (.ite (.t (.cmp .eq (.bin .mod (.bin .fdiv (.v 17) (.k (.int 4))) (.k (.int 2))) (.k (.int 1)))) (.cons (.ex (.bm .append (.v 13) (.cons (.tup (.cons (.v 8) (.cons (.v 15) (.cons (.bi .list (.cons (.v 14) .nil)) (.cons (.mth (.v 8) 24 .nil) .nil))))) .nil)))
 .nil) .nil)
 .nil)))
 .nil)) O) (lv F S x) σ Q:=by
 obtain⟨w,hw⟩:∃w:Bool,w=(decide ((t:Int)=0)||decide ¬(A/8%4=3)):=⟨_,rfl⟩
 refine g8 (iK (iK ?_))
 refine dO (λa:St×(Nat->AV)=>lv F a.1 a.2) (λi a U=>Hl F U a.1/\Pl F a.1/\a.2 16=.int t/\a.2 17=.int A/\∃j m:Nat,i=j/\((j=0/\m=0)∨(j=1/\m=w.toNat)∨(j=2/\m=1))/\Bd a.1 (3*t+3*m) (1+19*t+m) (4*t+2*j) (2*t+j)) (S,x) rfl ⟨by decide,by decide,by decide,by decide⟩ ⟨h,p,d,f,0,0,rfl,.inl ⟨rfl,rfl⟩,b⟩ ?_ ?_
 ·rintro i ⟨S,x⟩ U R g1 g2 ⟨h,p,d,f,j,m,rfl,B,b⟩ ih
  dsimp only at d f b h p
  show Go _ _ (lv F S (aI x 18 (.int j))) U _
  have r:bT (lv F S (aI x 18 (.int j))) 16=some (.int t):=pi rfl d rfl
  have Y:bT (lv F S (aI x 18 (.int j))) 17=some (.int A):=pi rfl f rfl
  obtain⟨c,hc,cw⟩:∃c:Bool,Pc (lv F S (aI x 18 (.int j))) U (.or (.cons (.and (.cons (.t (.cmp .eq (.v 18) (.k (.int 0)))) (.cons (.or (.cons (.t (.cmp .eq (.v 16) (.k (.int 0)))) (.cons (.t (.cmp .ne (.bin .mod (.bin .fdiv (.v 17) (.k (.int 8))) (.k (.int 4))) (.k (.int 3)))) .nil))) .nil))) (.cons (.and (.cons (.t (.cmp .eq (.v 18) (.k (.int 1)))) (.cons (.t (.cmp .gt (.v 16) (.k (.int 0)))) (.cons (.t (.cmp .eq (.bin .mod (.bin .fdiv (.v 17) (.k (.int 8))) (.k (.int 4))) (.k (.int 3)))) .nil)))) .nil))) c/\((j=0/\m=0/\c=w)∨(j=1/\m=w.toNat/\c=!w)):=by
   have g:=cH (dY (bo (σ:=U) Y) (aT (v:=.int 8)) (by decide)) (aT (v:=.int 4)) (by decide)
   rcases B with⟨rfl,rfl⟩|⟨rfl,rfl⟩|⟨rfl,rfl⟩
   ·refine⟨_,qF (iy (bR (ff (bo rfl) aT rfl)) (jG (qF (bR (ff (bo r) aT rfl)) λ_=>bR (ff g aT rfl)))) λ_=>iA (bR (ff (bo rfl) aT rfl)),.inl ⟨rfl,rfl,?_⟩⟩
    rw[hw,Bool.or_false]
   ·refine⟨_,qF (iA (bR (ff (bo rfl) aT rfl))) λ_=>iy (bR (ff (bo rfl) aT rfl)) (xg (bR (ff (bo r) aT rfl)) λ_=>bR (ff g aT rfl)),.inr ⟨rfl,rfl,?_⟩⟩
    rw[hw,Bool.false_or]
    by_cases a:t=0
    ·rw[decide_eq_true (show(t:Int)=0 by exact congrArg Nat.cast a),decide_eq_false (show¬(0:Int)<t by exact fX (z1 [_] NX Ha rfl (ce a)))];rfl
    ·rw[decide_eq_false (show¬(t:Int)=0 by exact λe=>a (cW e)),decide_eq_true (show(0:Int)<t by exact dF (Nat.pos_of_ne_zero a)),decide_not,Bool.true_and,Bool.false_or,Bool.not_not]
   ·exact absurd g2 (by decide)
  obtain⟨b1,b2,b3,b4⟩:=b
  have nx:∀s,((j=0/\s=w.toNat)∨(j=1/\s=1))->(j+1=0/\s=0)∨(j+1=1/\s=w.toNat)∨(j+1=2/\s=1):=λs h=>.inr (h.imp (λh=>⟨by exact Nat.le_antisymm (n1 [_] (.le (.a (.v 0) (.n 1)) (.n 1)) Ha rfl h.1) (n0 [_] (.le (.n 1) (.a (.v 0) (.n 1))) rfl),h.2⟩) λh=>⟨by exact Nat.le_antisymm (n1 [_] LU HN rfl h.1) (m1 [_] (.le (.n 2) (.a (.v 0) (.n 1))) 0 (-1) HN rfl h.1),h.2⟩)
  refine jd hc (λct=>?_) λN=>?_
  ·have y:m=0/\((j=0/\1=w.toNat)∨(j=1/\1=1)):=by
    rcases cw with⟨o,l,g⟩|⟨o,l,g⟩
    ·exact⟨l,.inl ⟨o,by rw[←g,ct];rfl⟩⟩
    ·exact⟨by rw[l];cases w with|true=>rw[g]at ct;cases ct|false=>rfl,.inr ⟨o,rfl⟩⟩
   obtain⟨rfl,m1⟩:=y
   refine xf (n:=n+1) (x:=aI x 18 (.int j)) h p (by exact m2 [_,_] (.le (.v 0) (.n 6)) 0 3 1 EB (.le (.v 0) (.a (.m 3 (.v 1)) (.m 3 (.n 0)))) rfl t2 b1) (by exact m2 [_,_] Gq 0 19 1 EB (.le (.v 0) (.a (.a (.n 1) (.m 19 (.v 1))) (.n 0))) rfl t2 b2) t2 r λZ V J γ u K p' l' D W E=>ak (cq (ak (aR (ih (Z,aI (aI (aI (aI x 18 (.int j)) 19 V) 20 J) 21 γ) u ⟨K,p',d,f,j+1,1,rfl,nx 1 m1,⟨by show Z.last<=_;exact n2 [_,_,_] (.le (.v 0) (.a (.m 3 (.v 1)) (.m 3 (.n 1)))) (.le (.v 2) (.a (.m 3 (.v 1)) (.m 3 (.n 0)))) Ou rfl b1 l',by show Z.ts.length<=_;exact n2 [_,_,_] (.le (.v 0) (.a (.a (.n 1) (.m 19 (.v 1))) (.n 1))) (.le (.v 2) (.a (.a (.n 1) (.m 19 (.v 1))) (.n 0))) GS rfl b2 E,by show Z.hs.length<=_;rw[D];exact n1 [_,_,_] Hr (.le (.v 0) (.a (.m 4 (.v 1)) (.m 2 (.v 2)))) rfl b3,by show Z.ks.length<=_;rw[W];exact Nat.le.step b4⟩⟩))))
  ·have y:(j=0/\m=w.toNat)∨(j=1/\m=1):=by
    rcases cw with⟨o,l,g⟩|⟨o,l,g⟩
    ·exact .inl ⟨o,by rw[l,←g,N];rfl⟩
    ·exact .inr ⟨o,by rw[l];cases w with|true=>rfl|false=>rw[g]at N;cases N⟩
   refine wB (n:=n+7) (x:=aI x 18 (.int j)) h p (by exact Nat.le_trans b3 (Nat.le_trans (Nat.add_le_add (Nat.mul_le_mul_left 4 t2) (Nat.mul_le_mul_left 2 (y.elim (λq=>Nat.le_trans (Nat.le_of_eq q.1) (Nat.zero_le 1)) λq=>Nat.le_of_eq q.1))) (Nat.le_of_ble_eq_true rfl))) f λhs made ms v u K p' l'=>?_
   refine A4 (n:=n+8) (x:=aI (aI x 18 (.int j)) 22 v) K p' (by show S.ks.length<=50;exact Nat.le_trans b4 (Nat.le_trans (Nat.add_le_add (Nat.mul_le_mul_left 2 t2) (y.elim (λq=>Nat.le_trans (Nat.le_of_eq q.1) (Nat.zero_le 1)) λq=>Nat.le_of_eq q.1)) (Nat.le_of_ble_eq_true rfl))) f λks z I β G=>ak (cq (ak (aR (ih ({S with hs:=hs,made:=made,ms:=ms,ks:=ks},aI (aI x 18 (.int j)) 22 v) z ⟨I,β,d,f,j+1,m,rfl,nx m y,⟨b1,by show S.ts.length<=_;exact b2,by show hs.length<=_;exact n2 [_,_,_,_] Hr (.le (.v 3) (.a (.m 4 (.v 1)) (.m 2 (.v 2)))) (.le (.v 0) (.a (.v 3) (.n 2))) rfl b3 l',?_⟩⟩))))
   have l3:ks.length<=S.ks.length+1:=G
   show ks.length<=_
   exact n2 [_,_,_,_] (.le (.v 0) (.a (.m 2 (.v 1)) (.a (.v 2) (.n 1)))) (.le (.v 3) (.a (.m 2 (.v 1)) (.v 2))) HI rfl b4 l3
 ·rintro i ⟨S,x⟩ U g1 g2 g3 ⟨h,p,d,f,j,m,rfl,B,b⟩
  dsimp only at d b h p
  have:j=2:=by exact B.elim (λq=>absurd g2 (by rw[q.1];decide)) λh=>h.elim (λq=>absurd g2 (by rw[q.1];decide)) λq=>q.1
  subst this
  have:m=1:=by exact B.elim (λq=>absurd q.1 (by decide)) λh=>h.elim (λq=>absurd q.1 (by decide)) λq=>q.2
  subst this
  exact k S x U h p b d
end
section
variable {σ Z:Hp} {F:Fx} {S U:St} {x:Nat->AV} {O:SS} {Q:Fl->aG->Hp->Prop}
theorem nh{n:Nat}{K:PX}(h:Hl F σ S)(p:Pl F S)(k:K (.int (xW S.hs S.last)) σ):Gx (cB j9 (n+2)) (.fn 85 (.cons (.v 9) (.cons (.v 12) (.cons (.v 15) .nil)))) (lv F S x) σ K:=by
 have a:=h.iml
 have b:=p.mo
 rw[p.me]at a b
 exact aW (by left) (wg a b (h.m 2 rfl) h.f.hd k)
theorem wE{n t:Nat}{pz:Int}(h:Hl F σ S)(p:Pl F S)(E:S.ts.length<=60)(e:x 16=.int t)(d:x 25=.int pz)
  (k:∀U x' Z,Hl F Z U->Pl F U->U.last=S.last->U.hs=S.hs->U.ks=S.ks->U.ts.length<=S.ts.length+18->x' 16=.int t->x' 25=.int pz->Go (cB j9 (n+9)) O (lv F U x') Z Q):
  Go (cB j9 (n+9)) (.cons (.forR 26 (.k (.int 0)) (.bin .add (.k (.int 1)) (.bin .mod (.bin .fdiv (.v 25) (.k (.int 2))) (.k (.int 2)))) true (.cons (.asg 27 (.bin .add (.v 25) (.bin .mul (.k (.int 5)) (.v 26))))
 (.cons (.asg 28 (.fn 85 (.cons (.v 9) (.cons (.v 12) (.cons (.v 15) .nil)))))
 (.cons (.ite (.t (.cmp .lt (.v 28) (.k (.int 0)))) (.cons (.ret (.k (.bool false)))
 .nil) .nil)
 (.cons (.asg 29 (.k .none))
 (.cons (.ite (.t (.cmp .eq (.bin .mod (.v 27) (.k (.int 2))) (.k (.int 0)))) (.cons (.asg 29 (.mth (.v 6) 38 (.cons (.v 8) (.cons (.v 7) .nil))))
 .nil) .nil)
 (.cons (.ite (.and (.cons (.t (.cmp .is (.v 29) (.k .none))) (.cons (.or (.cons (.t (.cmp .gt (.v 16) (.k (.int 0)))) (.cons (.t (.cmp .eq (.bin .mod (.v 27) (.k (.int 2))) (.k (.int 1)))) .nil))) .nil))) (.cons (.asg 29 (.fn 86 (.cons (.v 6) (.cons (.v 8) (.cons (.v 7) (.cons (.v 27) (.cons (.v 3) .nil)))))))
 .nil) .nil)
 (.cons (.ite (.t (.cmp .isnt (.v 29) (.k .none))) (.cons (.asg 30 (.bi .len (.cons (.v 10) .nil)))
 (.cons (.asg 31 (.fn 81 (.cons (.v 29) (.cons (.v 10) (.cons (.v 28) (.cons (.v 4) .nil))))))
 (.cons (.asg 11 (.bin .add (.comp 37 (.v 11) (.cons (.t (.cmp .notin (.v 37) (.v 31))) .nil) (.v 37)) (.compR 37 (.v 30) (.bi .len (.cons (.v 10) .nil)) .nil (.v 37))))
 (.cons (.asg 8 (.fn 79 (.cons (.v 8) (.cons (.at (.v 29) 55) (.cons (.v 2) .nil)))))
 (.cons (.ex (.fn 84 (.cons (.v 10) (.cons (.v 8) (.cons (.v 13) .nil)))))
 (.cons (.ite (.t (.cmp .ne (.mth (.v 8) 24 .nil) (.v 11))) (.cons (.ret (.k (.bool false)))
 .nil) .nil)
 .nil)))))) .nil)
 .nil)))))))) O) (lv F S x) σ Q:=by
 have g:bT (lv F S x) 25=some (.int pz):=pi rfl d rfl
 have r:0<=pz/2%2/\pz/2%2<2:=by exact⟨Int.emod_nonneg _ (by decide),Int.emod_lt_of_pos _ (by decide)⟩
 refine g8 (iK (aS (cI aT (cH (dY (bo g) aT (by decide)) aT (by decide)) rfl) ?_))
 refine dO (λa:St×(Nat->AV)=>lv F a.1 a.2) (λi a Z=>Hl F Z a.1/\Pl F a.1/\a.2 16=.int t/\a.2 25=.int pz/\a.1.last=S.last/\a.1.hs=S.hs/\a.1.ks=S.ks/\((a.1.ts.length:Nat):Int)<=S.ts.length+9*i) (S,x) rfl ⟨by decide,by decide,by exact z1 [_] (.le (.n 0) (.a (.n 1) (.v 0))) It rfl r.1,by exact z1 [_] (.le (.a (.n 1) (.v 0)) (.n 9000)) LU rfl r.2⟩ ⟨h,p,e,d,rfl,rfl,rfl,by dsimp only;exact Int.le_refl ↑S.ts.length⟩ ?_ ?_
 ·rintro i ⟨f,x⟩ Z R g1 g2 ⟨h,p,e,d,o,j,l,tl⟩ w
  dsimp only at e d h p o j l tl w
  show Go _ _ (lv F f (aI x 26 (.int i))) Z _
  have g:bT (lv F f (aI x 26 (.int i))) 25=some (.int pz):=pi rfl d rfl
  refine bG (cI (bo g) (fv aT (bo rfl) (by decide)) rfl) (az ?_)
  show Gx _ _ (lv F f (aI (aI x 26 (.int i)) 27 (.int (pz+5*i)))) Z _
  refine nh (n:=n+7) h p ?_
  show Go _ _ (lv F f (aI (aI (aI x 26 (.int i)) 27 (.int (pz+5*i))) 28 (.int (xW f.hs f.last)))) Z _
  refine q7 (by left) rU ?_
  refine Bu (q:=pz+5*i) (t:=t) h p (pi rfl e rfl) rfl λv I J=>?_
  refine AY (n:=n+1) h p J (by exact Int.ofNat_le.mp (Int.le_trans tl (Int.le_trans (Int.add_le_add (bF E) (Int.mul_le_mul_of_nonneg_left (Int.le_of_lt (Int.lt_of_lt_of_le g2 (Int.add_le_add_left (Int.le_of_lt_add_one (b:=1) r.2) 1))) (by decide))) (by decide)))) rfl rfl λy u s z D A f1 f2 B G=>ak (aR (w (y,aI (aI (aI (aI (aI (aI x 26 (.int i)) 27 (.int (pz+5*i))) 28 (.int (xW f.hs f.last))) 29 v) 30 u) 31 s) z ⟨D,A,e,d,f1.trans o,f2.trans j,B.trans l,?_⟩))
  show((y.ts.length:Nat):Int)<=_
  exact z2 [_,_,_,_] (.le (.v 0) (.a (.v 1) (.m 9 (.a (.v 2) (.n 1))))) (.le (.v 3) (.a (.v 1) (.m 9 (.v 2)))) (.le (.v 0) (.a (.v 3) (.n 9))) rfl tl (cl G)
 ·rintro i ⟨f,x⟩ Z g1 g2 g3 ⟨h,p,e,d,o,j,l,tl⟩
  dsimp only at tl
  exact k f x Z h p o j l (by exact Int.ofNat_le.mp (Int.le_trans tl (Int.add_le_add_left (Int.mul_le_mul_of_nonneg_left (c:=9) (g3.elim (λq=>Int.le_trans (Int.le_of_eq q) (by decide)) λq=>Int.le_trans (Int.le_of_eq q) (Int.add_le_add_left (Int.le_of_lt_add_one (b:=1) r.2) 1)) (by decide)) _))) e d
end
section
variable {ext:bj} {σ Z:Hp} {F:Fx} {S S':St} {x:Nat->AV} {U:SS} {Q:Fl->aG->Hp->Prop}
theorem qf{n c i t:Nat}(h:Hl F σ S)(p:Pl F S)(a:bT (lv F S x) 16=some (.int t))(k:∀z:Int,Go (cB ext (n+1)) U ((lv F S x).set i (.int z)) σ Q):Go (cB ext (n+1)) (.cons (.asg i (.fn 76 (.cons (.v 0) (.cons (.bin .add (.k (.int (c:Nat))) (.bin .mul (.k (.int 5)) (.v 16))) .nil)))) U) (lv F S x) σ Q:=
 az (aW (ax (bo rfl) (ax (aU (x':=.int ((c+5*t:Nat):Int)) (cI aT (fv aT (bo a) (by decide)) rfl) (congrArg AV.int (by exact rfl))) aQ)) (pW (h.qu _ (.head _)).1 p.n0.1 p.n0.2 k))
theorem Bf{n:Nat}{K:PX}(h:Hl F σ S)(p:Pl F S)(b:Bd S 0 1 0 0)(k:∀Z,K (.bool true) Z):
  Go (cB j9 (n+9)) (.cons (.forR 16 (.k (.int 0)) (.k (.int 3)) true (.cons (.asg 17 (.fn 76 (.cons (.v 0) (.cons (.bin .add (.k (.int 2)) (.bin .mul (.k (.int 5)) (.v 16))) .nil))))
 (.cons (.forR 18 (.k (.int 0)) (.k (.int 2)) true (.cons (.ite (.or (.cons (.and (.cons (.t (.cmp .eq (.v 18) (.k (.int 0)))) (.cons (.or (.cons (.t (.cmp .eq (.v 16) (.k (.int 0)))) (.cons (.t (.cmp .ne (.bin .mod (.bin .fdiv (.v 17) (.k (.int 8))) (.k (.int 4))) (.k (.int 3)))) .nil))) .nil))) (.cons (.and (.cons (.t (.cmp .eq (.v 18) (.k (.int 1)))) (.cons (.t (.cmp .gt (.v 16) (.k (.int 0)))) (.cons (.t (.cmp .eq (.bin .mod (.bin .fdiv (.v 17) (.k (.int 8))) (.k (.int 4))) (.k (.int 3)))) .nil)))) .nil))) (.cons (.asg 19 (.fn 87 (.cons (.fn 76 (.cons (.v 0) (.cons (.bin .add (.k (.int 1)) (.bin .mul (.k (.int 5)) (.v 16))) .nil))) (.cons (.v 15) .nil))))
 (.cons (.asg 15 (.bin .add (.v 15) (.bi .len (.cons (.v 19) .nil))))
 (.cons (.for [20] (.v 19) (.cons (.setI (.v 14) (.sub (.v 20) (.k (.int 0))) (.ite (.t (.cmp .eq (.sub (.v 20) (.k (.int 2))) (.k (.int 1)))) (.bi .bytes (.cons (.lst (.cons (.bin .sub (.k (.int 0)) (.sub (.v 20) (.k (.int 1)))) .nil)) .nil)) (.k .none)))
 .nil))
 (.cons (.asg 21 (.mk 15 .nil))
 (.cons (.ex (.bm .append (.v 11) (.cons (.bi .len (.cons (.v 10) .nil)) .nil)))
 (.cons (.ex (.fn 80 (.cons (.k (.int 0)) (.cons (.bi .sorted (.cons (.v 19) .nil)) (.cons (.v 10) (.cons (.v 21) (.cons (.v 4) .nil)))))))
 (.cons (.asg 8 (.fn 79 (.cons (.v 8) (.cons (.v 21) (.cons (.v 2) .nil)))))
 .nil))))))) (.cons (.forR 22 (.k (.int 0)) (.sub (.lst (.cons (.k (.int 1)) (.cons (.k (.int 1)) (.cons (.k (.int 2)) (.cons (.k (.int 0)) .nil))))) (.bin .mod (.v 17) (.k (.int 4)))) true (.cons (.ex (.bm .append (.v 12) (.cons (.tup (.cons (.mth (.v 9) 2 (.cons (.v 15) .nil)) (.cons (.v 15) (.cons (.bi .list (.cons (.v 14) .nil)) .nil)))) .nil)))
 .nil))
 (.cons (.ite (.t (.cmp .eq (.bin .mod (.bin .fdiv (.v 17) (.k (.int 4))) (.k (.int 2))) (.k (.int 1)))) (.cons (.ex (.bm .append (.v 13) (.cons (.tup (.cons (.v 8) (.cons (.v 15) (.cons (.bi .list (.cons (.v 14) .nil)) (.cons (.mth (.v 8) 24 .nil) .nil))))) .nil)))
 .nil) .nil)
 .nil)))
 .nil))
 (.cons (.asg 23 (.fn 76 (.cons (.v 0) (.cons (.bin .add (.k (.int 3)) (.bin .mul (.k (.int 5)) (.v 16))) .nil))))
 (.cons (.ite (.and (.cons (.t (.cmp .gt (.bi .len (.cons (.v 12) .nil)) (.k (.int 0)))) (.cons (.t (.cmp .eq (.bin .mod (.v 23) (.k (.int 3))) (.k (.int 0)))) .nil))) (.cons (.asg 24 (.bm .pop (.v 12) (.cons (.bin .mod (.bin .fdiv (.v 23) (.k (.int 3))) (.bi .len (.cons (.v 12) .nil))) .nil)))
 (.cons (.ex (.mth (.v 9) 5 (.cons (.sub (.v 24) (.k (.int 0))) .nil)))
 .nil)) .nil)
 (.cons (.ite (.and (.cons (.t (.cmp .gt (.bi .len (.cons (.v 13) .nil)) (.k (.int 0)))) (.cons (.t (.cmp .eq (.bin .mod (.bin .fdiv (.v 23) (.k (.int 24))) (.k (.int 3))) (.k (.int 0)))) .nil))) (.cons (.ex (.bm .pop (.v 13) (.cons (.bin .mod (.bin .fdiv (.v 23) (.k (.int 72))) (.bi .len (.cons (.v 13) .nil))) .nil)))
 .nil) .nil)
 (.cons (.ex (.fn 84 (.cons (.v 10) (.cons (.v 8) (.cons (.v 13) .nil)))))
 (.cons (.asg 25 (.fn 76 (.cons (.v 0) (.cons (.bin .add (.k (.int 4)) (.bin .mul (.k (.int 5)) (.v 16))) .nil))))
 (.cons (.forR 26 (.k (.int 0)) (.bin .add (.k (.int 1)) (.bin .mod (.bin .fdiv (.v 25) (.k (.int 2))) (.k (.int 2)))) true (.cons (.asg 27 (.bin .add (.v 25) (.bin .mul (.k (.int 5)) (.v 26))))
 (.cons (.asg 28 (.fn 85 (.cons (.v 9) (.cons (.v 12) (.cons (.v 15) .nil)))))
 (.cons (.ite (.t (.cmp .lt (.v 28) (.k (.int 0)))) (.cons (.ret (.k (.bool false)))
 .nil) .nil)
 (.cons (.asg 29 (.k .none))
 (.cons (.ite (.t (.cmp .eq (.bin .mod (.v 27) (.k (.int 2))) (.k (.int 0)))) (.cons (.asg 29 (.mth (.v 6) 38 (.cons (.v 8) (.cons (.v 7) .nil))))
 .nil) .nil)
 (.cons (.ite (.and (.cons (.t (.cmp .is (.v 29) (.k .none))) (.cons (.or (.cons (.t (.cmp .gt (.v 16) (.k (.int 0)))) (.cons (.t (.cmp .eq (.bin .mod (.v 27) (.k (.int 2))) (.k (.int 1)))) .nil))) .nil))) (.cons (.asg 29 (.fn 86 (.cons (.v 6) (.cons (.v 8) (.cons (.v 7) (.cons (.v 27) (.cons (.v 3) .nil)))))))
 .nil) .nil)
 (.cons (.ite (.t (.cmp .isnt (.v 29) (.k .none))) (.cons (.asg 30 (.bi .len (.cons (.v 10) .nil)))
 (.cons (.asg 31 (.fn 81 (.cons (.v 29) (.cons (.v 10) (.cons (.v 28) (.cons (.v 4) .nil))))))
 (.cons (.asg 11 (.bin .add (.comp 37 (.v 11) (.cons (.t (.cmp .notin (.v 37) (.v 31))) .nil) (.v 37)) (.compR 37 (.v 30) (.bi .len (.cons (.v 10) .nil)) .nil (.v 37))))
 (.cons (.asg 8 (.fn 79 (.cons (.v 8) (.cons (.at (.v 29) 55) (.cons (.v 2) .nil)))))
 (.cons (.ex (.fn 84 (.cons (.v 10) (.cons (.v 8) (.cons (.v 13) .nil)))))
 (.cons (.ite (.t (.cmp .ne (.mth (.v 8) 24 .nil) (.v 11))) (.cons (.ret (.k (.bool false)))
 .nil) .nil)
 .nil)))))) .nil)
 .nil))))))))
 (.cons (.asg 32 (.bin .add (.lst (.cons (.tup (.cons (.v 8) (.cons (.v 15) (.cons (.v 14) .nil)))) .nil)) (.comp 35 (.v 12) .nil (.tup (.cons (.v 8) (.cons (.sub (.v 35) (.k (.int 1))) (.cons (.sub (.v 35) (.k (.int 2))) .nil)))))))
 (.cons (.asg 32 (.bin .add (.v 32) (.comp 35 (.v 13) .nil (.tup (.cons (.sub (.v 35) (.k (.int 0))) (.cons (.sub (.v 35) (.k (.int 1))) (.cons (.sub (.v 35) (.k (.int 2))) .nil)))))))
 (.cons (.asg 33 (.lst (.cons (.k (.int 0)) (.cons (.k (.int 1)) (.cons (.k (.int 2)) (.cons (.k (.int 3)) .nil))))))
 (.cons (.ite (.t (.cmp .lt (.v 16) (.k (.int 2)))) (.cons (.asg 33 (.lst (.cons (.bin .mod (.bin .fdiv (.v 25) (.k (.int 4))) (.k (.int 4))) (.cons (.bin .mod (.bin .add (.bin .fdiv (.v 25) (.k (.int 4))) (.k (.int 1))) (.k (.int 4))) .nil))))
 .nil) .nil)
 (.cons (.ite (.not (.t (.fn 83 (.cons (.v 32) (.cons (.v 10) (.cons (.v 33) .nil)))))) (.cons (.ret (.k (.bool false)))
 .nil) .nil)
 .nil))))))))))))))
 (.cons (.for [24] (.v 13) (.cons (.ite (.t (.cmp .ne (.mth (.sub (.v 24) (.k (.int 0))) 24 .nil) (.sub (.v 24) (.k (.int 3))))) (.cons (.ret (.k (.bool false)))
 .nil) .nil)
 .nil))
 (.cons (.ret (.cmp .ge (.fn 85 (.cons (.v 9) (.cons (.v 12) (.cons (.v 15) .nil)))) (.k (.int 0))))
 .nil))) (lv F S x) σ (cO K):=by
 refine g8 (iK (iK ?_))
 refine dO (λa:St×(Nat->AV)=>lv F a.1 a.2) (λi a Z=>Hl F Z a.1/\Pl F a.1/\∃t:Nat,i=t/\Bd a.1 (3*t) (1+19*t) (4*t) (2*t)) (S,x) rfl ⟨by decide,by decide,by decide,by decide⟩ ⟨h,p,0,rfl,b⟩ ?_ ?_
 ·rintro i ⟨S,x⟩ Z R g1 g2 ⟨h,p,t,rfl,b⟩ s
  dsimp only at h p b s
  have t2:t<=2:=by exact Nat.le_of_lt_succ (cu g2)
  show Go _ _ (lv F S (aI x 16 (.int t))) Z _
  refine qf (n:=n+8) (c:=2) (t:=t) h p rfl λhz=>?_
  show Go _ _ (lv F S (aI (aI x 16 (.int t)) 17 (.int hz))) Z _
  refine vu h p b t2 rfl rfl λj o y h1 V ⟨c1,Y,E,c4⟩ z=>?_
  refine qf (n:=n+8) (c:=3) (t:=t) h1 V (pi rfl z rfl) λg=>?_
  show Go _ _ (lv F j (aI o 23 (.int g))) y _
  refine Ch (n:=n+7) (gz:=g) h1 V rfl λhs ms v β h2 p2 B=>?_
  refine yU (gz:=g) h2 p2 rfl λks δ h3 p3 D=>?_
  refine oN (n:=n+7) (S:={j with hs:=hs,ms:=ms,ks:=ks}) (x:=aI (aI o 23 (.int g)) 24 v) h3 p3 λts q W p4=>?_
  refine qf (n:=n+8) (c:=4) (t:=t) (S:={j with hs:=hs,ms:=ms,ks:=ks,ts:=ts}) (x:=aI (aI o 23 (.int g)) 24 v) W p4 (pi rfl z rfl) λl=>?_
  show Go _ _ (lv F {j with hs:=hs,ms:=ms,ks:=ks,ts:=ts} (aI (aI (aI o 23 (.int g)) 24 v) 25 (.int l))) _ _
  have q:ts.length=j.ts.length:=q
  refine wE (t:=t) (pz:=l) W p4 (by show ts.length<=60;exact m3 [_,_,_] lZ 0 19 1 1 EB HH IP rfl t2 Y q) z rfl λd x5 γ h5 O f1 f2 J w f5 f6=>?_
  refine tB (t:=t) (pz:=l) h5 O (pi rfl f5 rfl) (pi rfl f6 rfl) λG N A h6=>ak (aR (s (d,aI (aI x5 32 G) 33 N) A ⟨h6,O,t+1,rfl,?_⟩))
  have f1:d.last=j.last:=f1
  have f2:d.hs=hs:=f2
  have J:d.ks=ks:=J
  have w:d.ts.length<=ts.length+18:=w
  have B:hs.length<=j.hs.length:=B
  have D:ks.length<=j.ks.length:=D
  exact⟨by show d.last<=_;exact n2 [_,_,_] (.le (.v 0) (.m 3 (.a (.v 1) (.n 1)))) (.le (.v 2) (.a (.m 3 (.v 1)) (.n 3))) IP rfl c1 f1,by show d.ts.length<=_;exact n3 [_,_,_,_] (.le (.v 0) (.a (.n 1) (.m 19 (.a (.v 1) (.n 1))))) HH O3 (.le (.v 0) (.a (.v 3) (.n 18))) rfl Y q w,by show d.hs.length<=_;rw[f2];exact n2 [_,_,_] (.le (.v 0) (.m 4 (.a (.v 1) (.n 1)))) (.le (.v 2) (.a (.m 4 (.v 1)) (.n 4))) J4 rfl E B,by show d.ks.length<=_;rw[J];exact n2 [_,_,_] Dr (.le (.v 2) (.a (.m 2 (.v 1)) (.n 2))) J4 rfl c4 D⟩
 ·rintro i ⟨S,x⟩ Z g1 g2 g3 ⟨h,p,t,rfl,b⟩
  dsimp only at h p b
  have E:=h.m 3 rfl
  refine mK (aS (bo rfl) (eP S.ks Kp.v (λv:AV=>lv F S (aI x 24 v)) (λ_ _ Z=>Hl F Z S) (x 24) (by unfold lv;rfl) E (bh p.kl rfl) (λ_ _ Z h=>⟨_,h.m 3 rfl⟩) h ?_ ?_))
  ·rintro ε u us v υ R e h s
   have km:=aP e
   obtain⟨t1,t2,t3,_⟩:=h.f.kp u km
   have v1:=t3.v
   obtain⟨kg,k9,kp,ks,_⟩:=p.kt u km
   refine mY (bK (kX (cG (fO (aS (kx (bo rfl) aT t1 (Nat.le_of_ble_eq_true rfl) rfl) (fU v1 rfl rfl (aD (ip t3 (kg.sm k9) λns r q1 q2 I=>?_))))))))
   refine aS (kx (bo rfl) aT (ag I t1) (Nat.le_of_ble_eq_true rfl) rfl) (Cz ab (ag I t2) bS bS (dK ?_))
   rw[oO (q1.trans kp.symm) q2 ks,decide_eq_true rfl]
   exact df (ak (cq (ak (aR (s u.v _ (h.up (aK.new I)))))))
  ·rintro v υ h
   refine fe (cG (nh (n:=n+7) h p (iK (G4 ?_))))
   rw[decide_eq_true (Int.natCast_nonneg _)]
   exact cU (Wk.refl _) (k υ)
end
section
variable {σ Z:Hp}
theorem Ds(a h:Addr):iS ⟨a,pu h,2097152,7,4,10485760,10,10,25⟩:=⟨rfl,rfl,rfl,rfl,rfl,rfl,rfl,(show(0:Int)<2097152/\(2097152:Int)<2 ^ 24 by decide),(show 2<=7/\7<=7 by decide),(show(0:Int)<4/\(4:Int)<100 by decide),(show(0:Int)<10485760/\(10485760:Int)<=2 ^ 24 by decide),(show(0:Int)<10/\(10:Int)<=16 by decide),(show(0:Int)<10/\(10:Int)<=100 by decide),(show(0:Int)<25/\(25:Int)<=100 by decide)⟩
theorem Ef(a h:Addr):iS ⟨a,E1 h,128,4,2,256,2,10,25⟩:=⟨rfl,rfl,rfl,rfl,rfl,rfl,rfl,(show(0:Int)<128/\(128:Int)<2 ^ 24 by decide),(show 2<=4/\4<=7 by decide),(show(0:Int)<2/\(2:Int)<100 by decide),(show(0:Int)<256/\(256:Int)<=2 ^ 24 by decide),(show(0:Int)<2/\(2:Int)<=16 by decide),(show(0:Int)<10/\(10:Int)<=100 by decide),(show(0:Int)<25/\(25:Int)<=100 by decide)⟩
theorem qz{a:Addr}{o:AO}(h:aK σ Z)(e:σ a=none):aK σ (Mine.upd Z a (true,o)):=aK.upd h e
theorem Bh{n:Nat}{c:Addr}{a:Int}{Q:Fl->aG->Hp->Prop}{j:SS}(k:∀(op:Op) Z,aK σ Z->ft Z op->iS op->Go (cB j9 (n+1)) j [.ref c,.int a,.ref op.adr,.undef,.undef,.undef,.undef,.undef,.undef,.undef,.undef,.undef,.undef,.undef,.undef,.undef,.undef,.undef,.undef,.undef,.undef,.undef,.undef,.undef,.undef,.undef,.undef,.undef,.undef,.undef,.undef,.undef,.undef,.undef,.undef,.undef,.undef,.undef,.undef] Z Q):
  Go (cB j9 (n+1)) (.cons (.asg 2 (.mk 12 .nil))
 (.cons (.ite (.t (.cmp .ne (.bin .mod (.v 1) (.k (.int 4))) (.k (.int 3)))) (.cons (.asg 2 (.mth (.mk 12 .nil) 14 .nil))
 .nil) .nil) j)) [.ref c,.int a,.undef,.undef,.undef,.undef,.undef,.undef,.undef,.undef,.undef,.undef,.undef,.undef,.undef,.undef,.undef,.undef,.undef,.undef,.undef,.undef,.undef,.undef,.undef,.undef,.undef,.undef,.undef,.undef,.undef,.undef,.undef,.undef,.undef,.undef,.undef,.undef,.undef] σ Q:=by
 refine az (fR aQ rfl λo l=>tV l λh Z u f=>⟨upd Z o (true,.inst 12 (pu h)),pF f,wu ?_⟩)
 have e:=qz (o:=.inst 12 (pu h)) u l
 have p:ft (upd Z o (true,.inst 12 (pu h))) ⟨o,pu h,2097152,7,4,10485760,10,10,25⟩:=ab
 generalize upd Z o (true,.inst 12 (pu h))=g at e p
 refine bB (λb:Addr=>[.ref c,.int a,.ref b,.undef,.undef,.undef,.undef,.undef,.undef,.undef,.undef,.undef,.undef,.undef,.undef,.undef,.undef,.undef,.undef,.undef,.undef,.undef,.undef,.undef,.undef,.undef,.undef,.undef,.undef,.undef,.undef,.undef,.undef,.undef,.undef,.undef,.undef,.undef,.undef]) (λb Z=>∃op:Op,b=op.adr/\aK σ Z/\ft Z op/\iS op) (λR m=>?_) ?_
 ·refine hF (by left) (jv (λ_=>?_) λ_=>ak (bk (m o g ⟨_,rfl,e,p,Ds o h⟩)))
  refine az (fO (fR aQ rfl λb q=>tV q λr d w s=>⟨d,Wk.refl _,wu (fU s rfl rfl (aD (Cf s (ak (bk (m b _ ⟨⟨b,E1 r,128,4,2,256,2,10,25⟩,rfl,e.trans (qz w q),ab,Ef b r⟩))))))⟩))
 ·rintro b Z ⟨op,rfl,x,i,ok⟩
  exact k op Z x i ok
end
section
variable {σ Z:Hp}
theorem vS{n:Nat}:List.replicate n (AV.bytes [])=(List.replicate n (none:Option Rw)).map nX:=by rw[List.map_replicate];rfl
theorem uO{V:bp}(h:∀L∈V.lv,L.fs=[])(j:Nat):bV V j=[]:=by
 cases e:bV V j with
 |nil=>rfl
 |cons f l=>
  obtain⟨L,b,a⟩:=dZ (V:=V) (j:=j) (f:=f) (by rw[e];exact .head _)
  rw[h L (List.mem_of_getElem? b)]at a;cases a
theorem Pl.start{F:Fx}{S:St}(e:iS F.op)(nl:F.op.nl=S.V.lv.length)(n0:0<F.ns.length/\F.ns.length<=9000)(o:0<=F.unit/\F.unit<2 ^ 30)(fs:∀L∈S.V.lv,L.fs=[])(top:S.V.top=0)(bot:S.V.bot=1)(s:S.last=0)(c:S.hs=[])(g:S.ks=[])(k:S.ms=[])(n:S.made=0)(l:S.now=[.none,.none,.none,.none])(es:S.stand=[])
  (ep:S.pts=List.replicate F.op.nl none) (v:S.ts.length=1):Pl F S:=by
 have z:=uO fs
 have m:∀q,q∉cj S.V:=λq b=>by obtain⟨j,f,a,_⟩:=aZ.mp b;rw[z j]at a;cases a
 have p:nums S.V=[]:=by rw[jo,List.flatMap_eq_nil_iff.mpr fs];rfl
 refine⟨e,nl,n0,o,⟨nl▸e.nl,λj f a=>?_,λj=>?_,λj=>?_,λi j _ f a=>?_,λj f a=>?_,λi j _ f a=>?_,λf a=>?_⟩,λh=>?_,by rw[s];decide,by rw[k,c];rfl,?_,?_,by rw[l];rfl,λu t=>⟨none,λq b=>(m q b).elim,?_⟩,?_,?_,by rw[es,p],by rw[es];exact .nil,by rw[ep,List.length_replicate,nl],λr d=>?_,by rw[g];exact Nat.zero_le _,by rw[v];decide⟩
 ·rw[z j]at a;cases a
 ·rw[z j];exact .nil
 ·rw[z j];exact .nil
 ·rw[z i]at a;cases a
 ·rw[z j]at a;cases a
 ·rw[z i]at a;cases a
 ·rw[z 0]at a;cases a
 ·rw[top,bot]at h;exact absurd h (by decide)
 ·rw[k];exact⟨.nil,λ_=>nM,.nil,.nil,Nat.zero_le _⟩
 ·rw[c];exact λ_=>nM
 ·rw[l]
  have:u=0∨u=1∨u=2∨u=3:=by exact u4 t
  rcases this with rfl|rfl|rfl|rfl<;>rfl
 ·rw[c];exact λ_=>nM
 ·rw[g];exact λ_=>nM
 ·rw[ep]at d;have:=List.eq_of_mem_replicate d;cases this
theorem tj{xs ys:List Addr}(d:List Nat)(j:xs.Nodup)(c:d.Nodup)(h:d.map (λi=>xs[i]?)=ys.map some):ys.Nodup:=by
 have:(ys.map some).Nodup:=by
  rw[←h]
  refine List.pairwise_map.mpr (c.imp_of_mem λ{a b} g k ne e=>?_)
  have:xs[a]?∈ys.map some:=h▸dg ⟨a,g,rfl⟩
  obtain⟨y,_,f⟩:=bw this
  exact gV j f.symm (e▸f.symm) (Ne.symm ne) rfl
 exact(List.pairwise_map.mp this).imp λh e=>h (congrArg some e)
theorem wT{xs ys:List Addr}{x:Addr}(a:List Nat)(h:a.map (λi=>xs[i]?)=ys.map some)(m:x∈ys):x∈xs:=
 (bw (h.symm▸dg ⟨x,m,rfl⟩:some x∈a.map λi=>xs[i]?)).elim λ_ h=>List.mem_of_getElem? h.2
theorem QD{j:Nat}(h:j<4):∃m:Int,([.int 12,.int 6,.int 3,.int 40]:List AV)[j]?=some (.int m)/\0<=m/\m<=40:=by
 rcases u4 h with rfl|rfl|rfl|rfl
 ·exact⟨12,rfl,by decide⟩
 ·exact⟨6,rfl,by decide⟩
 ·exact⟨3,rfl,by decide⟩
 ·exact⟨40,rfl,by decide⟩
theorem Ax{n:Nat}{s:Addr}{a:Int}{op:Op}{ns:List Int}{Q:Fl->aG->Hp->Prop}{ss:SS}(hn:σ s=some (false,.list (ns.map .int)))(n0:0<ns.length/\ns.length<=9000)(i:ft σ op)(y:iS op)
  (k:∀(F:Fx) (S:St) Z,Hl F Z S->Pl F S->S.hs=[]->S.ks=[]->S.last=0->S.ts.length=1->Go (cB j9 (n+1)) ss (lv F S λ_=>.undef) Z Q):
  Go (cB j9 (n+1)) (.cons (.asg 3 (.at (.v 2) 21))
 (.cons (.asg 4 (.bin .mul (.bin .fdiv (.at (.v 2) 20) (.k (.int 8))) (.sub (.lst (.cons (.k (.int 12)) (.cons (.k (.int 6)) (.cons (.k (.int 3)) (.cons (.k (.int 40)) .nil))))) (.bin .mod (.bin .fdiv (.v 1) (.k (.int 4))) (.k (.int 4))))))
 (.cons (.asg 5 (.mk 11 .nil))
 (.cons (.asg 6 (.mk 19 (.cons (.v 2) (.cons (.v 5) .nil))))
 (.cons (.asg 7 (.bin .mul (.lst (.cons (.k (.bytes [])) .nil)) (.v 3)))
 (.cons (.asg 8 (.mk 16 (.cons (.v 3) (.cons (.v 5) .nil))))
 (.cons (.asg 9 (.mk 8 .nil))
 (.cons (.asg 10 (.lst (.cons (.lst .nil) .nil)))
 (.cons (.asg 11 (.lst .nil))
 (.cons (.asg 12 (.lst .nil))
 (.cons (.asg 13 (.lst .nil))
 (.cons (.asg 14 (.lst (.cons (.k .none) (.cons (.k .none) (.cons (.k .none) (.cons (.k .none) .nil))))))
 (.cons (.asg 15 (.k (.int 0))) ss))))))))))))) [.ref s,.int a,.ref op.adr,.undef,.undef,.undef,.undef,.undef,.undef,.undef,.undef,.undef,.undef,.undef,.undef,.undef,.undef,.undef,.undef,.undef,.undef,.undef,.undef,.undef,.undef,.undef,.undef,.undef,.undef,.undef,.undef,.undef,.undef,.undef,.undef,.undef,.undef,.undef,.undef] σ Q:=by
 have ζ:=y.f20
 have η:=y.f21
 have io:=i
 unfold ft at i
 obtain⟨j,hj,j4⟩:=yK (z:=a/4) (n:=4) (by decide)
 obtain⟨m,hm,m1⟩:∃m:Int,([.int 12,.int 6,.int 3,.int 40]:List AV)[j]?=some (.int m)/\0<=m/\m<=40:=by
  exact QD j4
 have A:=y.mfs
 refine bG (ud (by left) i (by kernel_rfl) η) (az (dk (aS (dY (ud (by left) i (by kernel_rfl) ζ) aT (by decide)) (qx (a8 (by left) rfl λt ht=>aS (aU (x':=.int (j:Nat)) (v:=.int (a/4%4)) (cH (dY (by left) aT (by decide)) aT (by decide)) (congrArg AV.int hj)) (wQ ab (Nat.le_of_ble_eq_true rfl) hm (GD ⟨by exact Int.lt_of_lt_of_le (by decide) (Int.ediv_nonneg (Int.le_of_lt A.1) (by decide)),by exact Int.lt_of_le_of_lt (Int.ediv_le_self _ (Int.le_of_lt A.1)) (Int.lt_trans A.2 (by decide))⟩ ?_)))))))
 have u0:0<=op.mfs/8*m/\op.mfs/8*m<2 ^ 30:=by
  have h1:0<=op.mfs/8:=by exact Int.ediv_nonneg (Int.le_of_lt A.1) (by decide)
  refine⟨Int.mul_nonneg h1 m1.1,Int.lt_of_le_of_lt (Int.mul_le_mul_of_nonneg_left m1.2 h1) (by exact Int.lt_of_le_of_lt (Int.mul_le_mul_of_nonneg_right (Int.le_trans (Int.ediv_le_self _ (Int.le_of_lt A.1)) (Int.le_of_lt A.2)) (by decide)) (by decide))⟩
 generalize op.mfs/8*m=unit at u0
 have x1:=aK.new (c:=(false,.list [.int 12,.int 6,.int 3,.int 40])) ht
 have D:=x1 _ _ hn
 have N:=x1 _ _ io
 generalize upd σ t (false,.list [.int 12,.int 6,.int 3,.int 40])=ν at D N
 refine az (fR aQ rfl λo ho=>rx ho λβ x2 o2=>wu (az (fR (by left) rfl λp hp=>zj (wu ?_))))
 have x3:=x2.trans (aK.new (c:=(true,.inst 19 [(51,.ref op.adr),(44,.ref o)])) hp)
 have o3:=o2.fz (Fz.new (c:=(true,.inst 19 [(51,.ref op.adr),(44,.ref o)])) hp)
 have p3:yf (upd β p (true,.inst 19 [(51,.ref op.adr),(44,.ref o)])) p op.adr o:=ab
 have r:=x3 _ _ D
 have U:=x3 _ _ N
 generalize upd β p (true,.inst 19 [(51,.ref op.adr),(44,.ref o)])=h at r U o3 p3
 refine az (dk (a8 (by left) rfl λt' μ=>aS (by left) (xM ab ⟨Int.natCast_nonneg _,by have:=y.nl;exact z1 [_] M7 yt rfl (cl this.2)⟩ λw θ=>?_)))
 have n4:=((⟨aK.refl _,.nil,λ_=>nM,λ_=>nM⟩:Nw h h []).new μ (d:=(false,.list [.bytes []]))).new θ (d:=(false,.list (List.replicate (op.nl:Int).toNat (.bytes []))))
 have cp:upd (upd h t' (false,.list [.bytes []])) w (false,.list (List.replicate (op.nl:Int).toNat (.bytes []))) w=some (false,.list ((List.replicate op.nl (none:Option Rw)).map nX)):=by rw[←vS];exact ab
 generalize upd (upd h t' (false,.list [.bytes []])) w (false,.list (List.replicate (op.nl:Int).toNat (.bytes [])))=κ at n4 cp
 refine az (fR (by left) rfl λv hv=>qG hv (o3.fz n4.ex.fz) y.nl.2 λV Z e1 e2 e3 e4 e5 e6 _ x iV _ w1 w2=>⟨frz _ Z,wy x,wu ?_⟩)
 subst e1
 have iV:=iV.frz x hv w1 w2
 have n5:=n4.up (tO x)
 have ε:=tO x _ _ cp
 generalize frz κ Z=l at iV n5 ε
 refine az (fR aQ rfl λml K=>wp K λe I ne=>wu ?_)
 have g:upd l e (false,.list []) ml=none:=by rw[ac ne];exact K
 have n6:=(n5.new I (d:=(false,.list []))).new g (d:=(false,.inst 8 [(5,.ref e),(6,.int 0)]))
 have x6:=(aK.new (c:=(false,.list [])) I).trans (aK.new (c:=(false,.inst 8 [(5,.ref e),(6,.int 0)])) g)
 have γ:=x6 _ _ ε
 have J:=iV.fz x6.fz
 have E:upd (upd l e (false,.list [])) ml (false,.inst 8 [(5,.ref e),(6,.int 0)]) ml=_:=ab
 have B:upd (upd l e (false,.list [])) ml (false,.inst 8 [(5,.ref e),(6,.int 0)]) e=some (false,.list []):=ag g ab
 generalize upd (upd l e (false,.list [])) ml (false,.inst 8 [(5,.ref e),(6,.int 0)])=ξ at n6 γ J E B
 refine az (uB (aj (a8 aQ rfl λt0 W=>aD (uF rfl λtA O=>az (a8 aQ rfl λsA G=>az (a8 aQ rfl λhA Y=>az (a8 aQ rfl λkA R=>az (a8 (by left) rfl λwA δ=>bG (by left) ?_))))))))
 have u:=(((((n6.new W (d:=(false,.list []))).new O (d:=(false,.list [.ref t0]))).new G (d:=(false,.list []))).new Y (d:=(false,.list []))).new R (d:=(false,.list []))).new δ (d:=(false,.list [.none,.none,.none,.none]))
 have x7:=(((((aK.new (c:=(false,.list [])) W).trans (aK.new (c:=(false,.list [.ref t0])) O)).trans (aK.new (c:=(false,.list [])) G)).trans (aK.new (c:=(false,.list [])) Y)).trans (aK.new (c:=(false,.list [])) R)).trans (aK.new (c:=(false,.list [.none,.none,.none,.none])) δ)
 have nd:[w,tA,hA,kA,wA,sA,ml,e].Nodup:=tj [8,4,2,1,0,3,6,7] u.nd (by decide) rfl
 have na:s∉[w,tA,hA,kA,wA,sA,ml,e]:=λhm=>by
  have:h s=none:=u.fr s (wT [8,4,2,1,0,3,6,7] rfl hm)
  rw[r]at this;cases this
 have e8:=x7 _ _ γ
 have el:=x7 _ _ B
 have em:=x7 _ _ E
 refine k ⟨s,a,op,unit,o,p,w,ml,e,tA,hA,kA,wA,ns⟩ ⟨V,sA,0,[.ref t0],[],[],[],[.none,.none,.none,.none],0,[],List.replicate op.nl none⟩ _ ⟨⟨u.ex _ _ U,u.ex _ _ p3,o3.fz u.ex.fz,J.fz x7.fz,λ_=>nM,λj f hf=>(List.not_mem_nil ((uO e4 j)▸hf)).elim,λ_=>nM⟩,λq b=>?_,nd,λq b=>?_⟩ (Pl.start y e3.symm n0 u0 e4 e5 e6 rfl rfl rfl rfl rfl rfl rfl rfl rfl) rfl rfl rfl rfl
 ·rcases au b with rfl|b
  ·exact e8
  rcases au b with rfl|b
  ·exact(show upd _ _ _ tA=some (false,.list [.ref t0])from(by nofun))
  rcases au b with rfl|b
  ·exact(show upd _ _ _ hA=some (false,.list [])from(by nofun))
  rcases au b with rfl|b
  ·exact(show upd _ _ _ kA=some (false,.list [])from(by nofun))
  rcases au b with rfl|b
  ·exact ab
  rcases au b with rfl|b
  ·exact(show upd _ _ _ sA=some (false,.list [])from(by nofun))
  rcases au b with rfl|b
  ·exact em
  ·rw[aw b];exact el
 ·rw[aw b];exact⟨u.ex _ _ r,na⟩
end
section
variable {σ Z:Hp}
theorem Au{n:Nat}{b:Addr}{ns:List Int}{K:PX}(c:σ b=some (false,.list (ns.map .int)))(n0:0<ns.length/\ns.length<=9000)(k:∀Z,K (.bool true) Z):cB j9 (n+10) (F.fa 88) [.ref b] σ K:=by
 refine aB (l:=[.ref b,.undef,.undef,.undef,.undef,.undef,.undef,.undef,.undef,.undef,.undef,.undef,.undef,.undef,.undef,.undef,.undef,.undef,.undef,.undef,.undef,.undef,.undef,.undef,.undef,.undef,.undef,.undef,.undef,.undef,.undef,.undef,.undef,.undef,.undef,.undef,.undef,.undef,.undef]) MN rfl rfl ?_;show Go _ JN _ _ _;delta JN
 refine az (aW (ax (bo rfl) (ax aT aQ)) (pW (i:=0) c n0.1 n0.2 λa=>Bh (n:=n+8) λop Z x i f=>Ax (n:=n+8) (x _ _ c) n0 i f λF S Z h p e g d j=>?_))
 refine bK (kX (cG (nh (n:=n+7) h p (iK (Ma (dK ?_))))))
 rw[e,d]
 exact df (ak (cq (Bf h p ⟨by rw[d];exact Nat.le_refl _,by rw[j];exact Nat.le_refl _,by rw[e];exact Nat.le_refl _,by rw[g];exact Nat.le_refl _⟩ k)))
theorem Eg{n:Nat}{j:Addr}{f:Bool}{b:List Int}{K:PX}(h:σ j=some (f,.list (b.map .int)))(l:b.length<=63)(k:∀Z,K (.bool true) Z):cB j9 (n+11) (F.fa 89) [.ref j] σ K:=by
 have s:(b.map AV.int).length<=9000:=aO (bh l rfl)
 refine aB (l:=[.ref j,.undef,.undef,.undef,.undef,.undef,.undef,.undef]) HZ rfl rfl ?_;show Go _ JA _ _ _;delta JA
 refine az (jV (yQ (aS (by left) (iK (zA h ⟨s,by decide,by decide⟩ λc q=>?_)))))
 have u:(b.map AV.int).take (20:Int).toNat=(b.take 20).map AV.int:=List.map_take.symm
 rw[u]
 have tl:(b.take 20).length<=9000:=Nat.le_trans (List.length_take_le' _ _) (bh l rfl)
 refine zt (b.take 20) (v:=λx=>.int (x%999983)) ab tl (λx _=>cH (bo rfl) aT (by decide)) λd hd=>?_
 have y:=(aK.new (c:=(false,.list ((b.take 20).map .int))) q)
 have t:(b.take 20).map (λx:Int=>AV.int (x%999983))=((b.take 20).map λx:Int=>x%999983).map .int:=by rw[List.map_map];rfl
 rw[t]
 have nl:((b.take 20).map λx:Int=>x%999983).length<=9000:=by rw[List.length_map];exact tl
 generalize (b.take 20).map (λx:Int=>x%999983)=i at nl
 have w:=aO (g:=AV.int) nl
 have m:=ab (σ:=upd σ c (false,.list ((b.take 20).map .int))) (a:=d) (c:=(false,.list (i.map .int)))
 refine bB (λr:Addr=>[.ref j,.ref r,.undef,.undef,.undef,.undef,.undef,.undef]) (λr Z=>∃i:List Int,Z r=some (false,.list (i.map .int))/\0<i.length/\i.length<=9000) (λR p=>?_) ?_
 ·refine hF (by left) (br (λ_=>az (a8 (vs:=[.int 0]) (ax aT aQ) rfl λr o=>ak (bk (p r _ ⟨[0],ab,by decide,by decide⟩)))) λn0=>ak (bk (p d _ ⟨i,m,?_,nl⟩)))
  rw[List.length_map]at n0;exact Nat.pos_of_ne_zero λe=>n0 (ce e)
 ·rintro r Z ⟨i,o,n0,n1⟩
  exact bG (by left) (C2 (az (aW (by left) (Au o ⟨n0,n1⟩ λZ=>ak (cq (fN (by left) (cU (Wk.refl _) (k Z))))))))
end
section
theorem Rr(walk:C5):PySem.Challenge.rw_xm0840_01.Holds:=
 holds_law GA λa=>holds_open (Xt:=xH) (XP:=XL qH []) (YP:=YH) Ij GG zn (λs e=>xl_of s (Bool.and_eq_true_iff.mp e).1) XL.keeps Rq Q7 Ru (λs e=>recFacts_of (Bool.and_eq_true_iff.mp e).2) (by kernel_rfl) a Rs QG QZ walk
theorem LE:PySem.Challenge.rw_xm0840_01.row.args=[.list .int]:=by kernel_rfl
theorem GZ:PySem.Challenge.rw_xm0840_01.row.records=[]:=by kernel_rfl
theorem Mw:PySem.Challenge.rw_xm0840_01.row.pre=.and (.not (.lt (.lit (.int 63)) (.len (.arg 0)))) (.lit (.bool true)):=by kernel_rfl
theorem Cx:∀{xs:List WData},WShape.hasItems [] xs .int=true->∃is:List Int,xs=is.map .int
 |[],_=>⟨[],rfl⟩
 |x::xs,h=>by
  unfold WShape.hasItems at h
  rw[Bool.and_eq_true]at h
  obtain⟨is,rfl⟩:=Cx h.2
  obtain⟨i,rfl⟩:=hasW_int h.1
  exact⟨i::is,rfl⟩
theorem Ao{a:List WData}(h:WShape.hasAll PySem.Challenge.rw_xm0840_01.row.records a PySem.Challenge.rw_xm0840_01.row.args=true):∃is:List Int,a=[.list (is.map .int)]:=by
 rw[LE,GZ]at h
 obtain⟨x,e,rfl,d,c⟩:=hasAllW_cons h
 obtain rfl:=hasAllW_nil c
 obtain⟨f,rfl,b⟩:=hasW_list d
 obtain⟨is,rfl⟩:=Cx b
 exact⟨is,rfl⟩
theorem ET{is:List Int}(h:WTm.holds PySem.Challenge.rw_xm0840_01.row.records PySem.Challenge.rw_xm0840_01.row.pre {args:=[.list (is.map .int)]}=true):is.length<=63:=by
 rw[Mw,GZ]at h
 have b:=(holds_andW h).1
 have a:=condW_of b (X:=!decide ((63:Int)<(((is.map WData.int).length:Nat):Int))) (by rfl)
 rw[List.length_map,Bool.not_eq_true',decide_eq_false_iff_not]at a
 exact Int.ofNat_le.mp (il a)
theorem qN{P:Params}{h:Heap}{vs:List Value}(x:WellAll P h vs []):vs=[]:=by cases x;rfl
theorem zy{P:Params}{h:Heap}{v:Value}{i:Int}(x:Well P h v (.int i)):∃t,v=.int i t:=by cases x;exact⟨_,rfl⟩
theorem vl{P:Params}{h:Heap}{v:Value}{xs:List WData}(x:Well P h v (.list xs)):∃a vs,v=.ref a/\h.get? a=some (jz vs 0)/\WellAll P h vs xs:=by
 cases x with
 |list c b=>exact⟨_,_,rfl,c,b⟩
theorem xJ{P:Params}{h:Heap}{is:List Int}:∀{vs:List Value},WellAll P h vs (is.map .int)->aF VR vs (is.map .int):=by
 induction is with
 |nil=>intro vs x;rw[qN x];exact .nil
 |cons i is a=>intro vs x;exact(wellAll_cons_inv x).elim λv h=>h.elim λvs h=>(zy h.2.1).elim λt e=>by rw[h.1,e];exact .cons rfl (a h.2.2)
theorem B9{P:Params}{h:Heap}{b:List Value}{is:List Int}(x:WellAll P h b [.list (is.map .int)]):∃a vs,b=[.ref a]/\h.get? a=some (jz vs 0)/\aF VR vs (is.map .int):=
 (wellAll_cons_inv x).elim λv h=>h.elim λvs h=>(vl h.2.1).elim λa g=>g.elim λc g=>⟨a,c,by rw[h.1,g.1,qN h.2.2],g.2.1,xJ g.2.2⟩
theorem zJ{ext:bj}{k:Nat}{f:Addr}{d:Fd}{as:List AV}{σ:Hp}{Q:PX}(a:bD f=some d)(h:gw F bD ext (k+1) f as σ Q)(b:¬ext f as σ Q):as.length=d.np/\jf F (gw F bD ext k) d.body (as++List.replicate (d.nl-d.np) .undef) σ (cO Q):=by
 unfold gw at h
 rw[a]at h
 exact h.resolve_right b
theorem E5{σ:Hp}{Q:PX}{f:Addr}{as:List AV}(h:Dw σ Q f as):f=F.fa 85:=by cases h;rfl
theorem Ic{as:List AV}{σ:Hp}{Q:PX}:¬j9 (F.fa 89) as σ Q:=λh=>by
 have e:=E5 h
 have:F.fa 89=897/\F.fa 85=875:=by constructor<;>kernel_rfl
 rw[this.1,this.2]at e
 cases e
theorem MC:F.fa 89=897:=by kernel_rfl
theorem GJ{b a s':Shared}{c:List WData}{h':Heap}{tk:Nat}(d:a.gens=#[])(st:a.heap.StaysIn h')(e:s'={a with heap:=h',toks:=tk}):
  GoodWG PySem.Challenge.rw_xm0840_01.row.toRowW.claim (classAt b.heap) (ExcName.means b.heap) c a (.ok (.ret (.bool true))) s':=by
 subst e
 exact⟨.inl ⟨_,.bool true,[],rfl,λ_=>by kernel_rfl,.bool true,by kernel_rfl,λ_=>⟨.nil,λ_ h=>nM h⟩⟩,.of_keep st,rfl,.of_eq d⟩
theorem RQ{h:Heap}{a:Addr}{vs:List Value}{is:List Int}(i:h.get? a=some (jz vs 0))(g:aF VR vs (is.map .int)):HR T (upd (λ_=>none) a (true,.list (is.map .int))) h [] (λ_=>0) []:=by
 have d:∀b f o,upd (λ_=>none) a (true,AO.list (is.map AV.int)) b=some (f,o)->b=a/\f=true/\o=.list (is.map .int):=λb f o e=>by
  by_cases q:b=a
  ·subst q
   rw[ab]at e
   cases e;exact⟨rfl,rfl,rfl⟩
  ·unfold upd at e
   rw[if_neg q]at e
   cases e
 refine⟨.nil,λb f o e=>?_,λb f c j e=>?_,λb f c j n l m k e=>?_,λ_ h=>nM h⟩
 ·obtain⟨rfl,rfl,rfl⟩:=d _ _ _ e
  exact⟨vs,0,.inr ⟨rfl,i⟩,g⟩
 ·cases(d _ _ _ e).2.2
 ·cases(d _ _ _ e).2.2
theorem Hb:C5:=by
 intro w q u mg mb G y O o pm cd β dV kV R hd j V l hg t r as b f h i m
 obtain⟨K,s,H⟩:=y
 refine Ground.open G ?_
 intro T B D TE TW
 have k:=(pre_splitW b).1
 have d:=(pre_splitW b).2
 clear B D TE TW G hd j V b f h m R
 obtain⟨is,rfl⟩:=Ao k
 have J:=ET d
 obtain⟨a,vs,rfl,I,z⟩:=B9 i
 have p:O=897:=by
  have:=mg_of s (topRead_of T).g (((CP H).fn _ 89 (show ct.fi.lookup dH.name=some 89 by kernel_rfl)).1)
  rw[l]at this
  cases this;exact MC
 subst p
 rw[xt]
 have c:=zJ HZ (Eg (n:=0) (σ:=upd (λ_=>none) a (true,.list (is.map .int))) (K:=λv _=>v=.bool true) ab J λ_=>rfl) Ic
 refine enter_call (td (CP H) (lB H Re) s ⟨_,_,_,_,_,T⟩ T.g.lt (RQ I z) c.1 (.cons rfl .nil) (λQ e g Y gd N Z A h1 W=>rH (CP H) (vg H) (DS H) _ Q e _ g Y gd N Z A ?_ ?_) c.2 λv a' E h' tk x U st=>?_)
 ·exact Nat.le_trans (Nat.add_le_add_right h1 _) (by decide+kernel)
 ·exact Nat.le_trans (Nat.add_le_add_right (Nat.add_le_add_right W _) _) (by decide+kernel)
 ·subst U
  obtain rfl:=x.bool
  exact GJ hg st rfl
end
end Mine
theorem PySem.Challenge.cw_xm0840_01_holds : PySem.Challenge.rw_xm0840_01.Holds :=
 Mine.Rr Mine.Hb
